import PyProof.Rows.All
import Wide.All
import OpenK.AllK
import Wide.FinOn
import HandS.ForMost
import HandS.ForSpec
import HandS.Flow
import HandS.IsInst
import HandS.Style
import HandS.Deep
import HandS.Conv
import HandS.Dict
import HandS.List
import HandS.More
import HandS.RevRange
import HandS.SetFor
import HandS.SortKw
import HandS.Strs
import HandS.TupLen
import HandS.Zip
import KE.SortData
import KE.SortKeyHeap
import PyProof.SeqRoads2
import PySem.Challenge.RW_forsworn_k19_turned_by_sums_of_costs
set_option Elab.async false
set_option linter.all false
set_option maxRecDepth 100000
set_option maxHeartbeats 4000000
namespace VS
open PySem PySem.Spec PyProof.Rows L2

abbrev D := PyData
abbrev Path := List Nat
inductive S where
  | d (d : D)
  | ol (ds : List D)
  | odK (kvs : List (Key × D))
  | odT (kvs : List (List Key × D))
  | ob (c : Nat) (fs : List (Str × S))
  | scr (ns : List Int)
  | os (ss : List S)
  | ot (ss : List S)
  | b (d : D)
  | bl (ds : List D)
abbrev LS := List (Option S)
inductive R (α : Type) where
  | ok (a : α) (L : LS)
  | err (c : Nat) (L : LS)
  | stuck
def R.bind {α β : Type} (r : R α) (k : α → LS → R β) : R β :=
  match r with
  | .ok a L => k a L
  | .err c L => .err c L
  | .stuck => .stuck
theorem R.bind_ok {α β : Type} (a : α) (L : LS) (k : α → LS → R β) : (R.ok a L).bind k = k a L := rfl
mutual
inductive Dq (K : PySem.W.Frag) (F : Hp) : V → D → Prop
  | non : Dq K F .non .none
  | bl (b : Bool) : Dq K F (.bl b) (.bool b)
  | int (i : Int) : Dq K F (.int i) (.int i)
  | str (x : Str) : Dq K F (.str x) (.str x)
  | lst {a : Addr} {xs : List V} {ds : List D} : F a = some (.lst xs) → DqA K F xs ds → Dq K F (.ref a) (.list ds)
  | tup {a : Addr} {xs : List V} {ds : List D} : F a = some (.tup xs) → DqA K F xs ds → Dq K F (.ref a) (.tuple ds)
inductive DqA (K : PySem.W.Frag) (F : Hp) : List V → List D → Prop
  | nil : DqA K F [] []
  | cons {v : V} {vs : List V} {d : D} {ds : List D} : Dq K F v d → DqA K F vs ds → DqA K F (v :: vs) (d :: ds)
end
section
variable {K : PySem.W.Frag} {F F' H H' : Hp}
theorem sqt_same {a : Addr} {xs : List V} (e : Same H H') (h : H a = some (.tup xs)) : SqT K H' a xs := .of (e _ _ h)
theorem sql_same {a : Addr} {xs : List V} (e : Same H H') (h : SqL K H a xs) : SqL K H' a xs := e.seq h
mutual
theorem Dq.mono (e : Same F F') : ∀ (d : D) (v : V), Dq K F v d → Dq K F' v d
  | .none, _, h => by cases h; exact .non
  | .bool _, _, h => by cases h; exact .bl _
  | .int _, _, h => by cases h; exact .int _
  | .str _, _, h => by cases h; exact .str _
  | .list ds, _, h => by
    cases h with
    | lst a b => exact .lst (e _ _ a) (DqA.mono e ds _ b)
  | .tuple ds, _, h => by
    cases h with
    | tup a b => exact .tup (e _ _ a) (DqA.mono e ds _ b)
  | .dict _, _, h => by cases h
theorem DqA.mono (e : Same F F') : ∀ (ds : List D) (vs : List V), DqA K F vs ds → DqA K F' vs ds
  | [], _, h => by cases h; exact .nil
  | d :: ds, _, h => by
    cases h with
    | cons a b => exact .cons (Dq.mono e d _ a) (DqA.mono e ds _ b)
end
mutual
theorem Dq.dp : ∀ (d : D) (v : V), Dq K F v d → Dp K F v d
  | .none, _, h => by cases h; exact .non
  | .bool _, _, h => by cases h; exact .bl _
  | .int _, _, h => by cases h; exact .int _
  | .str _, _, h => by cases h; exact .str _
  | .list ds, _, h => by
    cases h with
    | lst a b => exact .lst (.inl (.inl a)) (DqA.dp ds _ b)
  | .tuple ds, _, h => by
    cases h with
    | tup a b => exact .tup (.of a) (DqA.dp ds _ b)
  | .dict _, _, h => by cases h
theorem DqA.dp : ∀ (ds : List D) (vs : List V), DqA K F vs ds → DpAll K F vs ds
  | [], _, h => by cases h; exact .nil
  | d :: ds, _, h => by
    cases h with
    | cons a b => exact .cons (Dq.dp d _ a) (DqA.dp ds _ b)
end
theorem Dq.up {v : V} {d : D} (e : Same F F') (h : Dq K F v d) : Dq K F' v d := Dq.mono e d v h
theorem DqA.up {v : List V} {d : List D} (e : Same F F') (h : DqA K F v d) : DqA K F' v d := DqA.mono e d v h
theorem DqA.len : ∀ {vs : List V} {ds : List D}, DqA K F vs ds → vs.length = ds.length
  | _, _, .nil => rfl
  | _, _, .cons _ t => by rw [List.length_cons, List.length_cons, t.len]
theorem DqA.append : ∀ {xs ys : List V} {ds es : List D}, DqA K F xs ds → DqA K F ys es → DqA K F (xs ++ ys) (ds ++ es)
  | _, _, _, _, .nil, s => s
  | _, _, _, _, .cons r t, s => .cons r (t.append s)
theorem DqA.one {v : V} {d : D} (h : Dq K F v d) : DqA K F [v] [d] := .cons h .nil
theorem DqA.get : ∀ {vs : List V} {ds : List D} {i : Nat} {d : D}, DqA K F vs ds → ds[i]? = some d → ∃ v, vs[i]? = some v ∧ Dq K F v d
  | _, _, _, _, .nil, e => by simp at e
  | _, _, 0, _, .cons r _, e => by simp at e; subst e; exact ⟨_, rfl, r⟩
  | _, _, i + 1, d, .cons _ t, e => by
    obtain ⟨u, h1, h2⟩ := DqA.get (i := i) (d := d) t (by simpa using e)
    exact ⟨u, by simpa using h1, h2⟩
theorem DqA.set {v : V} {d : D} (r : Dq K F v d) : ∀ {vs : List V} {ds : List D} (i : Nat), DqA K F vs ds → DqA K F (vs.set i v) (ds.set i d)
  | _, _, _, .nil => .nil
  | _, _, 0, .cons _ t => .cons r t
  | _, _, i + 1, .cons q t => .cons q (DqA.set r i t)
theorem DqA.take : ∀ {vs : List V} {ds : List D} (n : Nat), DqA K F vs ds → DqA K F (vs.take n) (ds.take n)
  | _, _, 0, _ => .nil
  | _, _, _ + 1, .nil => .nil
  | _, _, n + 1, .cons r t => .cons r (DqA.take n t)
theorem DqA.drop : ∀ {vs : List V} {ds : List D} (n : Nat), DqA K F vs ds → DqA K F (vs.drop n) (ds.drop n)
  | _, _, 0, r => r
  | _, _, _ + 1, .nil => .nil
  | _, _, n + 1, .cons _ t => DqA.drop n t
theorem DqA.erase : ∀ {vs : List V} {ds : List D} (n : Nat), DqA K F vs ds → DqA K F (vs.eraseIdx n) (ds.eraseIdx n)
  | _, _, _, .nil => .nil
  | _, _, 0, .cons _ t => t
  | _, _, n + 1, .cons r t => .cons r (DqA.erase n t)
theorem DqA.replicate {v : V} {d : D} (r : Dq K F v d) : ∀ n : Nat, DqA K F (List.replicate n v) (List.replicate n d)
  | 0 => .nil
  | n + 1 => .cons r (DqA.replicate r n)
theorem DqA.ints : ∀ ns : List Int, DqA K F (ns.map V.int) (ns.map PyData.int)
  | [] => .nil
  | n :: ns => .cons (.int n) (DqA.ints ns)
def DqK {κ : Type} (K : PySem.W.Frag) (F : Hp) : List (κ × V) → List (κ × D) → Prop := Paired fun p q => p.1 = q.1 ∧ Dq K F p.2 q.2
theorem DqK.up {κ : Type} {l : List (κ × V)} {m : List (κ × D)} (e : Same F F') (h : DqK K F l m) : DqK K F' l m := Paired.mapP h fun _ _ z => ⟨z.1, z.2.up e⟩
end

mutual
inductive RS (K : PySem.W.Frag) (ca : Nat → Addr) (F H : Hp) (ow : Addr → Option Path) : Path → S → V → Prop
  | d {p : Path} {d : D} {v : V} : Dq K F v d → RS K ca F H ow p (.d d) v
  | ol {p : Path} {l : Addr} {vs : List V} {ds : List D} : H l = some (.lst vs) → ow l = some p → DqA K F vs ds → RS K ca F H ow p (.ol ds) (.ref l)
  | odK {p : Path} {l : Addr} {vs : List (Key × V)} {ds : List (Key × D)} : H l = some (.dK vs) → ow l = some p → DqK K F vs ds → RS K ca F H ow p (.odK ds) (.ref l)
  | odT {p : Path} {l : Addr} {vs : List (List Key × V)} {ds : List (List Key × D)} : H l = some (.dT vs) → ow l = some p → DqK K F vs ds → RS K ca F H ow p (.odT ds) (.ref l)
  | ob {p : Path} {a dx : Addr} {c : Nat} {vs : List (Str × V)} {fs : List (Str × S)} : H a = some (.ins (ca c) dx vs) → ow a = some p → RF K ca F H ow p 0 fs vs → RS K ca F H ow p (.ob c fs) (.ref a)
  | scr {p : Path} {a : Addr} {ns : List Int} : SqL K F a (ns.map V.int) → RS K ca F H ow p (.scr ns) (.ref a)
  | os {p : Path} {l : Addr} {vs : List V} {ss : List S} : H l = some (.lst vs) → ow l = some p → RI K ca F H ow p 0 ss vs → RS K ca F H ow p (.os ss) (.ref l)
  | ot {p : Path} {l : Addr} {vs : List V} {ss : List S} : H l = some (.tup vs) → ow l = some p → RI K ca F H ow p 0 ss vs → RS K ca F H ow p (.ot ss) (.ref l)
inductive RI (K : PySem.W.Frag) (ca : Nat → Addr) (F H : Hp) (ow : Addr → Option Path) : Path → Nat → List S → List V → Prop
  | nil {p : Path} {i : Nat} : RI K ca F H ow p i [] []
  | cons {p : Path} {i : Nat} {s : S} {v : V} {ss : List S} {vs : List V} : RS K ca F H ow (p ++ [i]) s v → RI K ca F H ow p (i + 1) ss vs → RI K ca F H ow p i (s :: ss) (v :: vs)
inductive RF (K : PySem.W.Frag) (ca : Nat → Addr) (F H : Hp) (ow : Addr → Option Path) : Path → Nat → List (Str × S) → List (Str × V) → Prop
  | nil {p : Path} {i : Nat} : RF K ca F H ow p i [] []
  | cons {p : Path} {i : Nat} {x : Str} {s : S} {v : V} {fs : List (Str × S)} {vs : List (Str × V)} : RS K ca F H ow (p ++ [i]) s v → RF K ca F H ow p (i + 1) fs vs → RF K ca F H ow p i ((x, s) :: fs) ((x, v) :: vs)
end
section
variable {K : PySem.W.Frag} {ca : Nat → Addr} {F F' H H' : Hp} {ow ow' : Addr → Option Path}
def Keeps (H H' : Hp) (ow ow' : Addr → Option Path) (p p' : Path) : Prop := ∀ a q, ow a = some (p ++ q) → H' a = H a ∧ ow' a = some (p' ++ q)
theorem Keeps.sub {p p' : Path} (k : Keeps H H' ow ow' p p') (r : Path) : Keeps H H' ow ow' (p ++ r) (p' ++ r) := fun a q h => by
  rw [List.append_assoc] at h ⊢
  exact k a _ h
mutual
theorem RS.move (e : Same F F') : ∀ (s : S) (p p' : Path) (v : V), Keeps H H' ow ow' p p' → RS K ca F H ow p s v → RS K ca F' H' ow' p' s v
  | .d _, p, p', v, k, h => by
    cases h with
    | d a => exact .d (a.up e)
  | .ol _, p, p', v, k, h => by
    cases h with
    | ol a b c =>
      obtain ⟨x, y⟩ := k _ [] (by rw [List.append_nil]; exact b)
      rw [List.append_nil] at y
      exact .ol (x.trans a) y (c.up e)
  | .odK _, p, p', v, k, h => by
    cases h with
    | odK a b c =>
      obtain ⟨x, y⟩ := k _ [] (by rw [List.append_nil]; exact b)
      rw [List.append_nil] at y
      exact .odK (x.trans a) y (c.up e)
  | .odT _, p, p', v, k, h => by
    cases h with
    | odT a b c =>
      obtain ⟨x, y⟩ := k _ [] (by rw [List.append_nil]; exact b)
      rw [List.append_nil] at y
      exact .odT (x.trans a) y (c.up e)
  | .ob _ fs, p, p', v, k, h => by
    cases h with
    | ob a b c =>
      obtain ⟨x, y⟩ := k _ [] (by rw [List.append_nil]; exact b)
      rw [List.append_nil] at y
      exact .ob (x.trans a) y (RF.move e fs _ _ _ _ k c)
  | .scr _, p, p', v, k, h => by
    cases h with
    | scr a => exact .scr (sql_same e a)
  | .os ss, p, p', v, k, h => by
    cases h with
    | os a b c =>
      obtain ⟨x, y⟩ := k _ [] (by rw [List.append_nil]; exact b)
      rw [List.append_nil] at y
      exact .os (x.trans a) y (RI.move e ss _ _ _ _ k c)
  | .ot ss, p, p', v, k, h => by
    cases h with
    | ot a b c =>
      obtain ⟨x, y⟩ := k _ [] (by rw [List.append_nil]; exact b)
      rw [List.append_nil] at y
      exact .ot (x.trans a) y (RI.move e ss _ _ _ _ k c)
  | .b _, p, p', v, k, h => by cases h
  | .bl _, p, p', v, k, h => by cases h
theorem RI.move (e : Same F F') : ∀ (ss : List S) (p p' : Path) (i : Nat) (vs : List V), Keeps H H' ow ow' p p' → RI K ca F H ow p i ss vs → RI K ca F' H' ow' p' i ss vs
  | [], p, p', i, vs, k, h => by cases h; exact .nil
  | s :: ss, p, p', i, vs, k, h => by
    cases h with
    | cons a b => exact .cons (RS.move e s _ _ _ (k.sub [i]) a) (RI.move e ss _ _ _ _ k b)
theorem RF.move (e : Same F F') : ∀ (fs : List (Str × S)) (p p' : Path) (i : Nat) (vs : List (Str × V)), Keeps H H' ow ow' p p' → RF K ca F H ow p i fs vs → RF K ca F' H' ow' p' i fs vs
  | [], p, p', i, vs, k, h => by cases h; exact .nil
  | (x, s) :: fs, p, p', i, vs, k, h => by
    cases h with
    | cons a b => exact .cons (RS.move e s _ _ _ (k.sub [i]) a) (RF.move e fs _ _ _ _ k b)
end
theorem RS.go {s : S} {p p' : Path} {v : V} (h : RS K ca F H ow p s v) (e : Same F F') (k : Keeps H H' ow ow' p p') : RS K ca F' H' ow' p' s v := RS.move e s p p' v k h

def BF (B F : Hp) : Hp := fun a => match B a with
  | some o => some o
  | none => F a
theorem BF.up {B : Hp} (e : Same F F') : Same (BF B F) (BF B F') := fun a o h => by
  unfold BF at h ⊢
  cases z : B a with
  | some u => rw [z] at h; exact h
  | none => rw [z] at h; exact e a o h
theorem BF.inH {B : Hp} (eF : Same F H) (eB : Same B H) : Same (BF B F) H := fun a o h => by
  unfold BF at h
  cases z : B a with
  | some u => rw [z] at h; rw [← Option.some.inj h]; exact eB a u z
  | none => rw [z] at h; exact eF a o h
@[reducible] def RT (K : PySem.W.Frag) (ca : Nat → Addr) (B F H : Hp) (ow : Addr → Option Path) (p : Path) (s : S) (v : V) : Prop := match s with
  | .b d => Dq K (BF B F) v d
  | .bl ds => ∃ l vs, v = .ref l ∧ BF B F l = some (.lst vs) ∧ DqA K F vs ds
  | s => RS K ca F H ow p s v
theorem RT.go {B : Hp} {s : S} {p p' : Path} {v : V} (h : RT K ca B F H ow p s v) (e : Same F F') (k : Keeps H H' ow ow' p p') : RT K ca B F' H' ow' p' s v := by
  cases s with
  | b d => exact Dq.up (BF.up e) h
  | bl ds =>
    obtain ⟨l, vs, h1, h2, h3⟩ := h
    exact ⟨l, vs, h1, BF.up e l _ h2, h3.up e⟩
  | d d => exact RS.go h e k
  | ol d => exact RS.go h e k
  | odK d => exact RS.go h e k
  | odT d => exact RS.go h e k
  | ob c d => exact RS.go h e k
  | scr d => exact RS.go h e k
  | os d => exact RS.go h e k
  | ot d => exact RS.go h e k
theorem RT.of {B : Hp} {s : S} {p : Path} {v : V} (h : RS K ca F H ow p s v) : RT K ca B F H ow p s v := by
  cases h with
  | d a => exact .d a
  | ol a b c => exact .ol a b c
  | odK a b c => exact .odK a b c
  | odT a b c => exact .odT a b c
  | ob a b c => exact .ob a b c
  | scr a => exact .scr a
  | os a b c => exact .os a b c
  | ot a b c => exact .ot a b c
def S.own : S → Bool
  | .b _ => false
  | .bl _ => false
  | _ => true
theorem RT.rs {B : Hp} {s : S} {p : Path} {v : V} (h : RT K ca B F H ow p s v) (hs : s.own = true) : RS K ca F H ow p s v := by
  cases s with
  | b d => cases hs
  | bl d => cases hs
  | d d => exact h
  | ol d => exact h
  | odK d => exact h
  | odT d => exact h
  | ob c d => exact h
  | scr d => exact h
  | os d => exact h
  | ot d => exact h
def kT (o : HO) : Prop := ∃ k : List Key, o = .tup (k.map kV)
def NT (x : Option HO) : Prop := x ≠ none ∧ ∀ o, x = some o → ¬ kT o
theorem NT.of {o : HO} (h : ¬ kT o) : NT (some o) := ⟨fun z => (by cases z), fun u e => by cases e; exact h⟩
theorem kT_lst {vs : List V} : ¬ kT (.lst vs) := fun ⟨_, h⟩ => by cases h
theorem kT_dK {vs : List (Key × V)} : ¬ kT (.dK vs) := fun ⟨_, h⟩ => by cases h
theorem kT_dT {vs : List (List Key × V)} : ¬ kT (.dT vs) := fun ⟨_, h⟩ => by cases h
theorem kT_ins {a b : Addr} {vs : List (Str × V)} : ¬ kT (.ins a b vs) := fun ⟨_, h⟩ => by cases h
structure Rl (K : PySem.W.Frag) (ca : Nat → Addr) (B : Hp) (pn : List (Option V)) (G F : Hp) (ow : Addr → Option Path) (σ : L2.St) (H : Hp) (L : LS) : Prop where
  exF : Same F H
  exG : Same G H
  dF : ∀ a p, ow a = some p → F a = none ∧ G a = none ∧ NT (H a)
  dG : ∀ a o, F a = some o → G a = none ∨ kT o
  len : L.length = σ.length
  sl : ∀ (i : Nat) (s : S), L[i]? = some (some s) → ∃ v, σ[i]? = some (some v) ∧ RT K ca B F H ow [i + 1] s v
  pin : ∀ (i : Nat) (v : V), pn[i]? = some (some v) → σ[i]? = some (some v)
  exB : Same B H
  dB : ∀ a p, ow a = some p → B a = none
end
end VS

namespace VS
open PySem PySem.Spec PyProof.Rows L2

structure Ct where
  X : Cx
  W : WX
  ca : Nat → Addr
  pb : List Bool
  v0 : List V
  B : Hp
def pinOf : List Bool → List V → List (Option V)
  | b :: bs, v :: vs => (if b then some v else none) :: pinOf bs vs
  | _, _ => []
theorem pinOf_mk : ∀ {bs : List Bool} {vs : List V} {i : Nat} {v : V}, (pinOf bs vs)[i]? = some (some v) → bs[i]? = some true ∧ vs[i]? = some v
  | b :: bs, u :: vs, 0, v, h => by
    have h' : (if b then some u else none) = some v := Option.some.inj h
    cases b with
    | true => exact ⟨rfl, by rw [if_pos rfl] at h'; cases h'; rfl⟩
    | false => cases h'
  | b :: bs, u :: vs, i + 1, v, h => pinOf_mk (bs := bs) (vs := vs) (i := i) h
  | [], _, _, _, h => by cases h
  | _ :: _, [], _, _, h => by cases h
theorem pinOf_at : ∀ {bs : List Bool} {vs : List V} {i : Nat} {v : V}, bs[i]? = some true → vs[i]? = some v → (pinOf bs vs)[i]? = some (some v)
  | b :: bs, u :: vs, 0, v, h, h2 => by
    have e1 : b = true := Option.some.inj h
    have e2 : u = v := Option.some.inj h2
    subst e1 e2
    rfl
  | b :: bs, u :: vs, i + 1, v, h, h2 => pinOf_at (bs := bs) (vs := vs) (i := i) h h2
  | [], _, _, _, h, _ => by cases h
  | _ :: _, [], _, _, _, h => by cases h
abbrev Ct.Rl (c : Ct) (G F : Hp) (ow : Addr → Option Path) (σ : L2.St) (H : Hp) (L : LS) : Prop := VS.Rl c.X.K c.ca c.B (pinOf c.pb c.v0) G F ow σ H L

def Post (c : Ct) (G : Hp) (n : Bool) (F H : Hp) (σ : L2.St) {α β : Type} (r : R α) (B : Hp → Hp → (Addr → Option Path) → α → β → Prop) (t : (β → Hp → Prop) → Prop) : Prop :=
  match r with
  | .ok a L => ∀ Q : β → Hp → Prop, (∀ b H' F' ow', Same F F' → (n = true → Same H H') → c.Rl G F' ow' σ H' L → B F' H' ow' a b → Q b H') → t Q
  | .err e L => (∀ H' F' ow', Same F F' → c.Rl G F' ow' σ H' L → c.W (.ref (c.ca e)) none σ H') → ∀ Q : β → Hp → Prop, t Q
  | .stuck => True
section
variable {c : Ct} {G F H : Hp} {ow : Addr → Option Path} {σ : L2.St} {L : LS} {n n1 n2 : Bool} {α β γ δ : Type}
theorem and_of {a b : Bool} (h : (a && b) = true) : a = true ∧ b = true := by
  cases a <;> cases b <;> first | exact ⟨rfl, rfl⟩ | cases h
theorem Post.bind {r : R α} {k : α → LS → R γ} {B1 : Hp → Hp → (Addr → Option Path) → α → β → Prop} {B2 : Hp → Hp → (Addr → Option Path) → γ → δ → Prop} {t1 : (β → Hp → Prop) → Prop} {t2 : β → Hp → (δ → Hp → Prop) → Prop}
    (h1 : Post c G n1 F H σ r B1 t1)
    (h2 : ∀ a L1 b H1 F1 ow1, r = .ok a L1 → Same F F1 → (n1 = true → Same H H1) → c.Rl G F1 ow1 σ H1 L1 → B1 F1 H1 ow1 a b → Post c G n2 F1 H1 σ (k a L1) B2 (t2 b H1)) :
    Post c G (n1 && n2) F H σ (r.bind k) B2 (fun Q => t1 fun b H1 => t2 b H1 Q) := by
  cases r with
  | stuck => trivial
  | err e L1 => exact fun hw Q => h1 hw _
  | ok a L1 =>
    rw [R.bind_ok]
    cases hk : k a L1 with
    | stuck => trivial
    | ok z L2 =>
      intro Q hq
      refine h1 _ fun b H1 F1 ow1 e1 s1 R1 q1 => ?_
      have h := h2 a L1 b H1 F1 ow1 rfl e1 s1 R1 q1
      rw [hk] at h
      exact h Q fun b' H2 F2 ow2 e2 s2 R2 q2 => hq b' H2 F2 ow2 (e1.trans e2) (fun hn => (s1 (and_of hn).1).trans (s2 (and_of hn).2)) R2 q2
    | err e L2 =>
      intro hw Q
      refine h1 _ fun b H1 F1 ow1 e1 s1 R1 q1 => ?_
      have h := h2 a L1 b H1 F1 ow1 rfl e1 s1 R1 q1
      rw [hk] at h
      exact h (fun H2 F2 ow2 e2 R2 => hw H2 F2 ow2 (e1.trans e2) R2) Q
theorem Post.val {a : α} {b : β} {B : Hp → Hp → (Addr → Option Path) → α → β → Prop} (Rr : c.Rl G F ow σ H L) (h : B F H ow a b) : Post c G n F H σ (.ok a L) B (fun Q => Q b H) :=
  fun _ q => q b H F ow (Same.refl F) (fun _ => Same.refl H) Rr h
theorem Post.imp {r : R α} {B : Hp → Hp → (Addr → Option Path) → α → β → Prop} {t u : (β → Hp → Prop) → Prop} (h : Post c G n F H σ r B t) (k : ∀ Q, t Q → u Q) : Post c G n F H σ r B u := by
  cases r with
  | stuck => trivial
  | ok a L1 => exact fun Q q => k Q (h Q q)
  | err e L1 => exact fun hw Q => k Q (h hw Q)
theorem Post.low {r : R α} {B : Hp → Hp → (Addr → Option Path) → α → β → Prop} {t : (β → Hp → Prop) → Prop} (h : Post c G true F H σ r B t) : Post c G n F H σ r B t := by
  cases r with
  | stuck => trivial
  | ok a L1 => exact fun Q q => h Q fun b H1 F1 ow1 e1 s1 R1 q1 => q b H1 F1 ow1 e1 (fun _ => s1 rfl) R1 q1
  | err e L1 => exact h
end

def Jdg (c : Ct) (n : Bool) {α β : Type} (g : LS → R α) (B : PySem.W.Frag → Hp → Hp → (Addr → Option Path) → α → β → Prop) (t : L2.St → Hp → (β → Hp → Prop) → Prop) : Prop :=
  ∀ G F ow σ H L, c.Rl G F ow σ H L → Post c G n F H σ (g L) (B c.X.K) (t σ H)
def BD : PySem.W.Frag → Hp → Hp → (Addr → Option Path) → D → V → Prop := fun K F _ _ d v => Dq K F v d
def BA : PySem.W.Frag → Hp → Hp → (Addr → Option Path) → List D → List V → Prop := fun K F _ _ d v => DqA K F v d
def BE (ca : Nat → Addr) : PySem.W.Frag → Hp → Hp → (Addr → Option Path) → S → V → Prop := fun K F H ow s v => RS K ca F H ow [0] s v
def BB : PySem.W.Frag → Hp → Hp → (Addr → Option Path) → Bool → Bool → Prop := fun _ _ _ _ a b => b = a
def BV : PySem.W.Frag → Hp → Hp → (Addr → Option Path) → D → V → Prop := fun K F H _ d v => Dq K F v d ∨ ∃ l vs ds, v = .ref l ∧ d = .list ds ∧ SqL K H l vs ∧ DqA K F vs ds
def JD (c : Ct) (n : Bool) (e : Expr) (g : LS → R D) : Prop := ∃ t, PE c.X e t ∧ Jdg c n g BD t
def JE (c : Ct) (n : Bool) (e : Expr) (g : LS → R S) : Prop := ∃ t, PE c.X e t ∧ Jdg c n g (BE c.ca) t
def JV (c : Ct) (n : Bool) (e : Expr) (g : LS → R D) : Prop := ∃ t, PE c.X e t ∧ Jdg c n g BV t
def JT (c : Ct) (n : Bool) (e : Expr) (g : LS → R Bool) : Prop := ∃ t, PT c.X e t ∧ Jdg c n g BB t
def JW (c : Ct) (n : Bool) (e : Expr) (g : LS → R Bool) : Prop := ∃ t, PW c.X e t ∧ Jdg c n g BB t
def JA (c : Ct) (n : Bool) (es : List Expr) (g : LS → R (List D)) : Prop := ∃ t, PA c.X es t ∧ Jdg c n g BA t

section
variable {K : PySem.W.Frag} {ca : Nat → Addr} {bh : Hp} {pn : List (Option V)} {G F H : Hp} {ow : Addr → Option Path} {σ : L2.St} {L : LS}
def offAt (ow : Addr → Option Path) (l : Addr) : Addr → Option Path := fun a => if a = l then none else ow a
theorem offAt_same (ow : Addr → Option Path) (l : Addr) : offAt ow l l = none := if_pos rfl
theorem offAt_ne {ow : Addr → Option Path} {l a : Addr} (h : a ≠ l) : offAt ow l a = ow a := if_neg h
theorem upd_same_of {l : Addr} {o : HO} (h : F l = none) : Same F (upd F l o) := fun b u e => by
  rw [upd_ne (ne_of_none e h)]
  exact e
theorem set_get {α : Type} {l : List α} {i j : Nat} {a b : α} (h : (l.set i a)[j]? = some b) : (i = j ∧ a = b) ∨ (i ≠ j ∧ l[j]? = some b) := by
  by_cases e : i = j
  · subst e
    rw [List.getElem?_set] at h
    by_cases hl : i < l.length
    · simp [hl] at h
      exact .inl ⟨rfl, h⟩
    · simp [hl] at h
  · rw [List.getElem?_set_ne e] at h
    exact .inr ⟨e, h⟩
theorem keeps_off {l : Addr} {p : Path} (h : ∀ q, ow l ≠ some (p ++ q)) : Keeps H H ow (offAt ow l) p p := fun a q e => by
  have ha : a ≠ l := fun z => by
    subst z
    exact h q e
  exact ⟨rfl, by rw [offAt_ne ha]; exact e⟩
theorem Rl.frz {l : Addr} {vs : List V} {p : Path} {L' : LS} (r : Rl K ca bh pn G F ow σ H L) (hl : H l = some (.lst vs)) (ho : ow l = some p) (hlen : L'.length = L.length)
    (hs : ∀ (j : Nat) (s : S), L'[j]? = some (some s) → (L[j]? = some (some s) ∧ ∀ q, p ≠ (j + 1) :: q) ∨ ∃ v, σ[j]? = some (some v) ∧ RS K ca (upd F l (.lst vs)) H (offAt ow l) [j + 1] s v) :
    Same F (upd F l (.lst vs)) ∧ Rl K ca bh pn G (upd F l (.lst vs)) (offAt ow l) σ H L' := by
  obtain ⟨f0, g0, h0⟩ := r.dF l p ho
  have e : Same F (upd F l (.lst vs)) := upd_same_of f0
  refine ⟨e, fun a o h => ?_, r.exG, fun a q h => ?_, fun a o h => ?_, hlen.trans r.len, fun j s h => ?_, r.pin, r.exB, fun a q h => ?_⟩
  · by_cases z : a = l
    · subst z
      rw [upd_same] at h
      cases h
      exact hl
    · rw [upd_ne z] at h
      exact r.exF a o h
  · by_cases z : a = l
    · subst z
      rw [offAt_same] at h
      cases h
    · rw [offAt_ne z] at h
      obtain ⟨x, y, w⟩ := r.dF a q h
      exact ⟨by rw [upd_ne z]; exact x, y, w⟩
  · by_cases z : a = l
    · subst z
      exact .inl g0
    · rw [upd_ne z] at h
      exact r.dG a o h
  · rcases hs j s h with ⟨h1, h2⟩ | h1
    · obtain ⟨v, q1, q2⟩ := r.sl j s h1
      exact ⟨v, q1, q2.go e (keeps_off fun q z => h2 q (by rw [ho] at z; exact Option.some.inj z))⟩
    · obtain ⟨v, q1, q2⟩ := h1
      exact ⟨v, q1, RT.of q2⟩
  · by_cases z : a = l
    · subst z
      rw [offAt_same] at h
      cases h
    · rw [offAt_ne z] at h
      exact r.dB a q h
def reroot (ow : Addr → Option Path) (i j : Nat) : Addr → Option Path := fun a => match ow a with
  | some (r :: q) => if r = i then some (j :: q) else some (r :: q)
  | x => x
theorem reroot_at {i j : Nat} {a : Addr} {q : Path} (h : ow a = some (i :: q)) : reroot ow i j a = some (j :: q) := by
  unfold reroot
  rw [h]
  exact if_pos rfl
theorem reroot_ne {i j r : Nat} {a : Addr} {q : Path} (h : ow a = some (r :: q)) (hr : r ≠ i) : reroot ow i j a = some (r :: q) := by
  unfold reroot
  rw [h]
  exact if_neg hr
theorem reroot_some {i j : Nat} {a : Addr} {p : Path} (h : reroot ow i j a = some p) : ∃ q, ow a = some q := by
  unfold reroot at h
  split at h
  · exact ⟨_, by assumption⟩
  · exact ⟨p, h⟩
theorem Rl.moved {i j : Nat} {σ' : L2.St} {L' : LS} (r : Rl K ca bh pn G F ow σ H L) (hlen : L'.length = σ'.length)
    (hs : ∀ (k : Nat) (s : S), L'[k]? = some (some s) → (L[k]? = some (some s) ∧ σ'[k]? = σ[k]? ∧ k + 1 ≠ i) ∨ ∃ v, σ'[k]? = some (some v) ∧ RS K ca F H (reroot ow i j) [k + 1] s v)
    (hp : ∀ (k : Nat) (v : V), pn[k]? = some (some v) → σ'[k]? = some (some v)) : Rl K ca bh pn G F (reroot ow i j) σ' H L' := by
  refine ⟨r.exF, r.exG, fun a q h => ?_, r.dG, hlen, fun k s h => ?_, hp, r.exB, fun a q h => ?_⟩
  · obtain ⟨q', h'⟩ := reroot_some h
    exact r.dF a q' h'
  · rcases hs k s h with ⟨h1, h2, h3⟩ | h1
    · obtain ⟨v, q1, q2⟩ := r.sl k s h1
      refine ⟨v, h2.trans q1, q2.go (Same.refl F) fun a q e => ⟨rfl, ?_⟩⟩
      exact reroot_ne (q := q) e h3
    · obtain ⟨v, q1, q2⟩ := h1
      exact ⟨v, q1, RT.of q2⟩
  · obtain ⟨q', h'⟩ := reroot_some h
    exact r.dB a q' h'
theorem keeps_reroot {i j : Nat} : Keeps H H ow (reroot ow i j) [i] [j] := fun _ _ e => ⟨rfl, reroot_at e⟩
end
end VS

namespace VS
open PySem PySem.Spec PyProof.Rows L2

section
variable {c : Ct} {n n1 n2 n3 : Bool}

def gC (d : D) : LS → R D := fun L => .ok d L
theorem jd_c {e : Expr} {v : V} {d : D} (h : PE c.X e (tC v)) (hd : ∀ K F, Dq K F v d) : JD c true e (gC d) := ⟨_, h, fun G F ow σ H L Rr => Post.val Rr (hd _ _)⟩
theorem jd_int {i j pos} : JD c true (.Constant (.int i) j pos) (gC (.int i)) := jd_c pe_int fun _ _ => .int _
theorem jd_bl {b j pos} : JD c true (.Constant (.bool b) j pos) (gC (.bool b)) := jd_c pe_bl fun _ _ => .bl _
theorem jd_non {j pos} : JD c true (.Constant .none j pos) (gC .none) := jd_c pe_non fun _ _ => .non
theorem jd_str {x j pos} : JD c true (.Constant (.str x) j pos) (gC (.str x)) := jd_c pe_str fun _ _ => .str _

def gVar (i : Nat) : LS → R D := fun L => match L[i]? with
  | some (some (.d d)) => .ok d L
  | some (some (.ol ds)) => .ok (.list ds) (L.set i (some (.d (.list ds))))
  | _ => .stuck
theorem jd_var (i : Nat) {x : Str} {pos : Pos} (h : PE c.X (.Name x pos) (tVar i)) : JD c true (.Name x pos) (gVar i) := by
  refine ⟨_, h, fun G F ow σ H L Rr => ?_⟩
  unfold gVar
  cases hL : L[i]? with
  | none => trivial
  | some o =>
    cases o with
    | none => trivial
    | some s =>
      obtain ⟨v, hv, rs⟩ := Rr.sl i s hL
      cases s with
      | d d =>
        cases rs with
        | d q => exact (Post.val (b := v) Rr q).imp fun Q q => ⟨v, hv, q⟩
      | ol ds =>
        cases rs with
        | ol a b q =>
          have hlt : i < L.length := (List.getElem?_eq_some_iff.mp hL).1
          obtain ⟨e, r'⟩ := Rr.frz (L' := L.set i (some (.d (.list ds)))) a b (List.length_set ..) (fun j s' h' => by
            rcases set_get h' with ⟨rfl, hs⟩ | ⟨hj, hs⟩
            · cases Option.some.inj hs
              exact .inr ⟨_, hv, .d (.lst upd_same (q.up (upd_same_of (Rr.dF _ _ b).1)))⟩
            · exact .inl ⟨hs, fun q z => hj (by injection z with z _; omega)⟩)
          refine Post.imp (t := fun Q => Q _ H) ?_ fun Q q => ⟨_, hv, q⟩
          intro Q q'
          exact q' _ H _ _ e (fun _ => Same.refl H) r' (.lst upd_same (q.up e))
      | _ => trivial
def gMove (i : Nat) : LS → R S := fun L => match L[i]? with
  | some (some (.d d)) => .ok (.d d) L
  | some (some (.scr _)) => .stuck
  | some (some (.b _)) => .stuck
  | some (some (.bl _)) => .stuck
  | some (some s) => .ok s (L.set i none)
  | _ => .stuck
theorem je_move (i : Nat) {x : Str} {pos : Pos} (h : PE c.X (.Name x pos) (tVar i)) : JE c true (.Name x pos) (gMove i) := by
  refine ⟨_, h, fun G F ow σ H L Rr => ?_⟩
  unfold gMove
  cases hL : L[i]? with
  | none => trivial
  | some o =>
    cases o with
    | none => trivial
    | some s =>
      obtain ⟨v, hv, rs⟩ := Rr.sl i s hL
      have own : ∀ s, RS c.X.K c.ca F H ow [i + 1] s v → Post c G true F H σ (.ok s (L.set i none)) (BE c.ca c.X.K) (tVar i σ H) := fun s rs => by
        refine Post.imp (t := fun Q => Q v H) ?_ fun Q q => ⟨_, hv, q⟩
        intro Q q'
        refine q' v H F (reroot ow (i + 1) 0) (Same.refl F) (fun _ => Same.refl H) (Rr.moved ((List.length_set ..).trans Rr.len) (fun k s' h' => ?_) Rr.pin) (rs.go (Same.refl F) keeps_reroot)
        rcases set_get h' with ⟨rfl, hs⟩ | ⟨hj, hs⟩
        · cases hs
        · exact .inl ⟨hs, rfl, by omega⟩
      cases s with
      | d d => exact (Post.val (b := v) (B := BE c.ca c.X.K) Rr (by cases rs with | d q => exact .d q)).imp fun Q q => ⟨v, hv, q⟩
      | scr ns => trivial
      | b d => trivial
      | bl d => trivial
      | os ss => exact own _ rs
      | ot ss => exact own _ rs
      | ol ds => exact own _ rs
      | odK ds => exact own _ rs
      | odT ds => exact own _ rs
      | ob k fs => exact own _ rs
def gPeek (i : Nat) : LS → R D := fun L => match L[i]? with
  | some (some (.d d)) => .ok d L
  | some (some (.ol ds)) => .ok (.list ds) L
  | some (some (.scr ns)) => .ok (.list (ns.map PyData.int)) L
  | some (some (.bl ds)) => .ok (.list ds) L
  | _ => .stuck
theorem peek_bv {K : PySem.W.Frag} {ca : Nat → Addr} {B F H : Hp} {ow : Addr → Option Path} {p : Path} {s : S} {v : V} (e : Same F H) (eB : Same B H) (rs : RT K ca B F H ow p s v) :
    match s with
    | .d d => BV K F H ow d v
    | .ol ds => BV K F H ow (.list ds) v
    | .scr ns => BV K F H ow (.list (ns.map PyData.int)) v
    | .bl ds => BV K F H ow (.list ds) v
    | _ => True := by
  cases s with
  | d d => cases rs with | d q => exact .inl q
  | ol ds => cases rs with | ol a b q => exact .inr ⟨_, _, _, rfl, rfl, .of a, q⟩
  | scr ns => cases rs with | scr a => exact .inr ⟨_, _, _, rfl, rfl, sql_same e a, DqA.ints _⟩
  | bl ds =>
    obtain ⟨l, vs, h1, h2, h3⟩ := rs
    exact .inr ⟨l, vs, ds, h1, rfl, .of (BF.inH e eB l _ h2), h3⟩
  | _ => trivial
theorem jv_var (i : Nat) {x : Str} {pos : Pos} (h : PE c.X (.Name x pos) (tVar i)) : JV c true (.Name x pos) (gPeek i) := by
  refine ⟨_, h, fun G F ow σ H L Rr => ?_⟩
  unfold gPeek
  cases hL : L[i]? with
  | none => trivial
  | some o =>
    cases o with
    | none => trivial
    | some s =>
      obtain ⟨v, hv, rs⟩ := Rr.sl i s hL
      have hb := peek_bv Rr.exF Rr.exB rs
      cases s with
      | d d => exact (Post.val (b := v) Rr hb).imp fun Q q => ⟨v, hv, q⟩
      | scr ns => exact (Post.val (b := v) Rr hb).imp fun Q q => ⟨v, hv, q⟩
      | ol ds => exact (Post.val (b := v) Rr hb).imp fun Q q => ⟨v, hv, q⟩
      | bl ds => exact (Post.val (b := v) Rr hb).imp fun Q q => ⟨v, hv, q⟩
      | _ => trivial

def gD (g : LS → R D) : LS → R S := fun L => (g L).bind fun d L1 => .ok (.d d) L1
theorem je_d {e : Expr} {g : LS → R D} (h : JD c n e g) : JE c n e (gD g) := by
  obtain ⟨t, ht, hg⟩ := h
  refine ⟨t, ht, fun G F ow σ H L Rr => ?_⟩
  have := (hg G F ow σ H L Rr).bind (n2 := true) (k := fun d L1 => .ok (.d d) L1) (B2 := BE c.ca c.X.K) (t2 := fun b H1 Q => Q b H1) fun a L1 b H1 F1 ow1 _ _ _ R1 q => Post.val (a := S.d a) (B := BE c.ca c.X.K) R1 (RS.d q)
  rw [Bool.and_true] at this
  exact this
theorem jv_d {e : Expr} {g : LS → R D} (h : JD c n e g) : JV c n e g := by
  obtain ⟨t, ht, hg⟩ := h
  refine ⟨t, ht, fun G F ow σ H L Rr => ?_⟩
  have p := hg G F ow σ H L Rr
  cases hr : g L with
  | stuck => trivial
  | err e L1 => rw [hr] at p; exact p
  | ok a L1 =>
    rw [hr] at p
    exact fun Q q => p Q fun b H' F' ow' e1 s1 R1 q1 => q b H' F' ow' e1 s1 R1 (.inl q1)
def frS : S → LS → R D
  | .d d, L => .ok d L
  | .ol ds, L => .ok (.list ds) L
  | _, _ => .stuck
def gFz (g : LS → R S) : LS → R D := fun L => (g L).bind frS
theorem post_fz {G F H : Hp} {ow : Addr → Option Path} {σ : L2.St} {L : LS} {s : S} {v : V} (Rr : c.Rl G F ow σ H L) (rs : RS c.X.K c.ca F H ow [0] s v) : Post c G true F H σ (frS s L) (BD c.X.K) (fun Q => Q v H) := by
  cases s with
  | d d => exact Post.val Rr (by cases rs with | d q => exact q)
  | ol ds =>
    cases rs with
    | ol a b q =>
      obtain ⟨e, r'⟩ := Rr.frz (L' := L) a b rfl (fun j s' h' => .inl ⟨h', fun q z => by injection z with z _; omega⟩)
      intro Q q'
      exact q' _ H _ _ e (fun _ => Same.refl H) r' (.lst upd_same (q.up e))
  | _ => trivial
theorem jd_fz {e : Expr} {g : LS → R S} (h : JE c n e g) : JD c n e (gFz g) := by
  obtain ⟨t, ht, hg⟩ := h
  refine ⟨t, ht, fun G F ow σ H L Rr => ?_⟩
  have := (hg G F ow σ H L Rr).bind (n2 := true) (k := frS) (B2 := BD c.X.K) (t2 := fun b H1 Q => Q b H1) fun a L1 b H1 F1 ow1 _ _ _ R1 q => post_fz R1 q
  rw [Bool.and_true] at this
  exact this

def onAt (ow : Addr → Option Path) (l : Addr) (p : Path) : Addr → Option Path := fun a => if a = l then some p else ow a
theorem onAt_same (ow : Addr → Option Path) (l : Addr) (p : Path) : onAt ow l p l = some p := if_pos rfl
theorem onAt_ne {ow : Addr → Option Path} {l a : Addr} {p : Path} (h : a ≠ l) : onAt ow l p a = ow a := if_neg h
theorem ne_fresh {H : Hp} {a l : Addr} (h : H a ≠ none) (hl : H l = none) : a ≠ l := fun z => by
  subst z
  exact h hl
section
variable {K : PySem.W.Frag} {ca : Nat → Addr} {bh : Hp} {pn : List (Option V)} {G F H : Hp} {ow : Addr → Option Path} {σ : L2.St} {L : LS}
theorem Rl.keepsNew (r : Rl K ca bh pn G F ow σ H L) {l : Addr} {o : HO} {p q : Path} (hl : H l = none) : Keeps H (upd H l o) ow (onAt ow l p) q q := fun a w h => by
  have ha : a ≠ l := ne_fresh (r.dF a _ h).2.2.1 hl
  exact ⟨upd_ne ha, by rw [onAt_ne ha]; exact h⟩
theorem Rl.new (r : Rl K ca bh pn G F ow σ H L) {l : Addr} {o : HO} {p : Path} (hl : H l = none) (ho : ¬ kT o := by first | exact kT_lst | exact kT_dK | exact kT_dT | exact kT_ins) : Same H (upd H l o) ∧ Rl K ca bh pn G F (onAt ow l p) σ (upd H l o) L := by
  have e : Same H (upd H l o) := upd_same_of hl
  have fN : F l = none := r.exF.free hl
  have gN : G l = none := r.exG.free hl
  refine ⟨e, r.exF.trans e, r.exG.trans e, fun a q h => ?_, r.dG, r.len, fun i s h => ?_, r.pin, r.exB.trans e, fun a q h => ?_⟩
  · by_cases z : a = l
    · subst z
      exact ⟨fN, gN, by rw [upd_same]; exact .of ho⟩
    · rw [onAt_ne z] at h
      obtain ⟨x, y, w⟩ := r.dF a q h
      exact ⟨x, y, by rw [upd_ne z]; exact w⟩
  · obtain ⟨v, q1, q2⟩ := r.sl i s h
    exact ⟨v, q1, q2.go (Same.refl F) (r.keepsNew hl)⟩
  · by_cases z : a = l
    · subst z
      exact r.exB.free hl
    · rw [onAt_ne z] at h
      exact r.dB a q h
theorem Rl.newF (r : Rl K ca bh pn G F ow σ H L) {l : Addr} {o : HO} (hl : H l = none) : Same F (upd F l o) ∧ Same H (upd H l o) ∧ Rl K ca bh pn G (upd F l o) ow σ (upd H l o) L := by
  have e : Same H (upd H l o) := upd_same_of hl
  have fN : F l = none := r.exF.free hl
  have gN : G l = none := r.exG.free hl
  refine ⟨upd_same_of fN, e, fun a u h => ?_, r.exG.trans e, fun a q h => ?_, fun a u h => ?_, r.len, fun i s h => ?_, r.pin, r.exB.trans e, r.dB⟩
  · by_cases z : a = l
    · subst z
      rw [upd_same] at h ⊢
      exact h
    · rw [upd_ne z] at h ⊢
      exact r.exF a u h
  · have ha : a ≠ l := ne_fresh (r.dF a _ h).2.2.1 hl
    obtain ⟨x, y, w⟩ := r.dF a q h
    exact ⟨by rw [upd_ne ha]; exact x, y, by rw [upd_ne ha]; exact w⟩
  · by_cases z : a = l
    · subst z
      exact .inl gN
    · rw [upd_ne z] at h
      exact r.dG a u h
  · obtain ⟨v, q1, q2⟩ := r.sl i s h
    refine ⟨v, q1, q2.go (upd_same_of fN) fun a w h => ?_⟩
    exact ⟨upd_ne (ne_fresh (r.dF a _ h).2.2.1 hl), h⟩
end
theorem post_new {G F H : Hp} {ow : Addr → Option Path} {σ : L2.St} {L : LS} {vs : List V} {ds : List D} (Rr : c.Rl G F ow σ H L) (h : DqA c.X.K F vs ds) :
    Post c G true F H σ (.ok (.ol ds) L) (BE c.ca c.X.K) (fun Q => ∀ l, H l = none → Q (.ref l) (upd H l (.lst vs))) := by
  intro Q q l hl
  obtain ⟨e, r'⟩ := Rr.new (o := .lst vs) (p := [0]) hl
  exact q _ _ F _ (Same.refl F) (fun _ => e) r' (.ol upd_same (onAt_same ..) h)
theorem post_tup {G F H : Hp} {ow : Addr → Option Path} {σ : L2.St} {L : LS} {vs : List V} {ds : List D} (Rr : c.Rl G F ow σ H L) (h : DqA c.X.K F vs ds) :
    Post c G true F H σ (.ok (.tuple ds) L) (BD c.X.K) (fun Q => ∀ l, H l = none → Q (.ref l) (upd H l (.tup vs))) := by
  intro Q q l hl
  obtain ⟨e1, e, r'⟩ := Rr.newF (o := .tup vs) hl
  exact q _ _ _ ow e1 (fun _ => e) r' (.tup upd_same (h.up e1))

def gNil : LS → R (List D) := fun L => .ok [] L
def gCons (a : LS → R D) (r : LS → R (List D)) : LS → R (List D) := fun L => (a L).bind fun d L1 => (r L1).bind fun ds L2 => .ok (d :: ds) L2
theorem ja_nil : JA c true [] gNil := ⟨_, pa_nil, fun G F ow σ H L Rr => Post.val Rr .nil⟩
theorem ja_cons {e : Expr} {es : List Expr} {a : LS → R D} {r : LS → R (List D)} (h1 : JD c n1 e a) (h2 : JA c n2 es r) (hs : starEach (e :: es) c.X.env = (false, eval e c.X.env) :: starEach es c.X.env := by rfl) : JA c (n1 && n2) (e :: es) (gCons a r) := by
  obtain ⟨t1, p1, q1⟩ := h1
  obtain ⟨t2, p2, q2⟩ := h2
  refine ⟨_, pa_cons p1 p2 hs, fun G F ow σ H L Rr => ?_⟩
  refine (q1 G F ow σ H L Rr).bind fun d L1 v H1 F1 ow1 _ _ _ R1 b1 => ?_
  have := (q2 G F1 ow1 σ H1 L1 R1).bind (n2 := true) (k := fun ds L2 => .ok (d :: ds) L2) (B2 := BA c.X.K) (t2 := fun vs H2 Q => Q (v :: vs) H2) fun ds L2 vs H2 F2 ow2 _ e2 _ R2 b2 => Post.val R2 (.cons (b1.up e2) b2)
  rw [Bool.and_true] at this
  exact this
def gLst (a : LS → R (List D)) : LS → R S := fun L => (a L).bind fun ds L1 => if ds.length ≤ sizeLine then .ok (.ol ds) L1 else .stuck
def gTup (a : LS → R (List D)) : LS → R D := fun L => (a L).bind fun ds L1 => if ds.length ≤ sizeLine then .ok (.tuple ds) L1 else .stuck
theorem Post.guard {α β : Type} {G F H : Hp} {σ : L2.St} {p : Prop} [Decidable p] {r : R α} {B : Hp → Hp → (Addr → Option Path) → α → β → Prop} {t : (β → Hp → Prop) → Prop} (h : p → Post c G n F H σ r B t) : Post c G n F H σ (if p then r else .stuck) B t := by
  by_cases hp : p
  · rw [if_pos hp]
    exact h hp
  · rw [if_neg hp]
    trivial
theorem je_lst {es : List Expr} {pos : Pos} {a : LS → R (List D)} (h : JA c n es a) : JE c n (.List es pos) (gLst a) := by
  obtain ⟨t, p, q⟩ := h
  refine ⟨_, pe_lst p, fun G F ow σ H L Rr => ?_⟩
  have := (q G F ow σ H L Rr).bind (n2 := true) (k := fun ds L1 => if ds.length ≤ sizeLine then R.ok (.ol ds) L1 else .stuck) (B2 := BE c.ca c.X.K) (t2 := fun vs H1 Q => vs.length ≤ sizeLine ∧ ∀ l, H1 l = none → Q (.ref l) (upd H1 l (.lst vs)))
    fun ds L1 vs H1 F1 ow1 _ _ _ R1 b1 => Post.guard fun hz => (post_new R1 b1).imp fun Q q => ⟨by rw [DqA.len b1]; exact hz, q⟩
  rw [Bool.and_true] at this
  exact this
theorem jd_tup {es : List Expr} {k : Nat} {pos : Pos} {a : LS → R (List D)} (h : JA c n es a) : JD c n (.Tuple es k pos) (gTup a) := by
  obtain ⟨t, p, q⟩ := h
  refine ⟨_, pe_tup p, fun G F ow σ H L Rr => ?_⟩
  have := (q G F ow σ H L Rr).bind (n2 := true) (k := fun ds L1 => if ds.length ≤ sizeLine then R.ok (.tuple ds) L1 else .stuck) (B2 := BD c.X.K) (t2 := fun vs H1 Q => vs.length ≤ sizeLine ∧ ∀ l, H1 l = none → Q (.ref l) (upd H1 l (.tup vs)))
    fun ds L1 vs H1 F1 ow1 _ _ _ R1 b1 => Post.guard fun hz => (post_tup R1 b1).imp fun Q q => ⟨by rw [DqA.len b1]; exact hz, q⟩
  rw [Bool.and_true] at this
  exact this
end
end VS

namespace VS
open PySem PySem.Spec PyProof.Rows L2

section
variable {c : Ct} {n n1 n2 n3 : Bool}
theorem Post.bind1 {α β γ δ : Type} {G F H : Hp} {σ : L2.St} {r : R α} {k : α → LS → R γ} {B1 : Hp → Hp → (Addr → Option Path) → α → β → Prop} {B2 : Hp → Hp → (Addr → Option Path) → γ → δ → Prop} {t1 : (β → Hp → Prop) → Prop} {t2 : β → Hp → (δ → Hp → Prop) → Prop}
    (h1 : Post c G n F H σ r B1 t1)
    (h2 : ∀ a L1 b H1 F1 ow1, r = .ok a L1 → Same F F1 → (n = true → Same H H1) → c.Rl G F1 ow1 σ H1 L1 → B1 F1 H1 ow1 a b → Post c G true F1 H1 σ (k a L1) B2 (t2 b H1)) :
    Post c G n F H σ (r.bind k) B2 (fun Q => t1 fun b H1 => t2 b H1 Q) := by
  have h := h1.bind h2
  rw [Bool.and_true] at h
  exact h

def Leaf2 (K : PySem.W.Frag) (r : R2) (f : D → D → Option D) : Prop :=
  ∀ (F H : Hp) (x y : V) (d e z : D), Same F H → Dq K F x d → Dq K F y e → f d e = some z → ∃ v, Dq K F v z ∧ ∀ Q : VK, Q v H → r x y H Q
def Leaf2S (K : PySem.W.Frag) (r : R2) (f : D → D → Option S) : Prop :=
  ∀ (F H : Hp) (x y : V) (d e : D) (z : S), Same F H → Dq K F x d → Dq K F y e → f d e = some z →
    (∃ d v, z = .d d ∧ Dq K F v d ∧ ∀ Q : VK, Q v H → r x y H Q) ∨ ∃ ds vs, z = .ol ds ∧ DqA K F vs ds ∧ ∀ Q : VK, (∀ l, H l = none → Q (.ref l) (upd H l (.lst vs))) → r x y H Q
def ofO {α : Type} (o : Option α) (L : LS) : R α := match o with
  | some a => .ok a L
  | none => .stuck
theorem ofO_some {α : Type} (a : α) (L : LS) : ofO (some a) L = .ok a L := rfl
theorem ofO_none {α : Type} (L : LS) : (ofO none L : R α) = .stuck := rfl
def gOp {α : Type} (f : D → D → Option α) (a b : LS → R D) : LS → R α := fun L => (a L).bind fun d L1 => (b L1).bind fun e L2 => ofO (f d e) L2
theorem jdg_op {r : R2} {f : D → D → Option D} (lf : Leaf2 c.X.K r f) {ga gb : LS → R D} {ta tb : TE} (ha : Jdg c n1 ga BD ta) (hb : Jdg c n2 gb BD tb) : Jdg c (n1 && n2) (gOp f ga gb) BD (tOp r ta tb) := by
  intro G F ow σ H L Rr
  refine (ha G F ow σ H L Rr).bind fun d L1 v H1 F1 ow1 _ _ _ R1 b1 => ?_
  refine (hb G F1 ow1 σ H1 L1 R1).bind1 fun e L2 u H2 F2 ow2 _ e2 _ R2 b2 => ?_
  cases hf : f d e with
  | none => trivial
  | some z =>
    obtain ⟨w, hw, q⟩ := lf F2 H2 v u d e z R2.exF (b1.up e2) b2 hf
    exact (Post.val R2 hw).imp q
theorem jdg_opS {r : R2} {f : D → D → Option S} (lf : Leaf2S c.X.K r f) {ga gb : LS → R D} {ta tb : TE} (ha : Jdg c n1 ga BD ta) (hb : Jdg c n2 gb BD tb) : Jdg c (n1 && n2) (gOp f ga gb) (BE c.ca) (tOp r ta tb) := by
  intro G F ow σ H L Rr
  refine (ha G F ow σ H L Rr).bind fun d L1 v H1 F1 ow1 _ _ _ R1 b1 => ?_
  refine (hb G F1 ow1 σ H1 L1 R1).bind1 fun e L2 u H2 F2 ow2 _ e2 _ R2 b2 => ?_
  cases hf : f d e with
  | none => trivial
  | some z =>
    rcases lf F2 H2 v u d e z R2.exF (b1.up e2) b2 hf with ⟨d', w, rfl, hw, q⟩ | ⟨ds, vs, rfl, hw, q⟩
    · exact (Post.val (a := S.d d') (B := BE c.ca c.X.K) R2 (RS.d hw)).imp q
    · exact (post_new R2 hw).imp q
theorem Leaf2S.or {K : PySem.W.Frag} {r r' : R2} {f f' : D → D → Option S} (h : Leaf2S K r f) (h' : Leaf2S K r' f') : Leaf2S K (fun x y H Q => r x y H Q ∨ r' x y H Q) (fun d e => (f d e).orElse fun _ => f' d e) := by
  intro F H x y d e z s hx hy hf
  have hf : (f d e).orElse (fun _ => f' d e) = some z := hf
  cases h1 : f d e with
  | some w =>
    rw [h1] at hf
    rcases h F H x y d e w s hx hy h1 with ⟨a, b, p, q, k⟩ | ⟨a, b, p, q, k⟩
    · cases hf; exact .inl ⟨a, b, p, q, fun Q z => .inl (k Q z)⟩
    · cases hf; exact .inr ⟨a, b, p, q, fun Q z => .inl (k Q z)⟩
  | none =>
    rw [h1] at hf
    have h2 : f' d e = some z := hf
    rcases h' F H x y d e z s hx hy h2 with ⟨a, b, p, q, k⟩ | ⟨a, b, p, q, k⟩
    · exact .inl ⟨a, b, p, q, fun Q z => .inr (k Q z)⟩
    · exact .inr ⟨a, b, p, q, fun Q z => .inr (k Q z)⟩
def dInt2 (C : Int → Int → Bool) (g : Int → Int → D) : D → D → Option D
  | .int i, .int j => if C i j then some (g i j) else none
  | _, _ => none
theorem leaf_int {K : PySem.W.Frag} {r : R2} {C : Int → Int → Bool} {g : Int → Int → D} {gv : Int → Int → V} (hr : ∀ (i j : Int) (H : Hp) (Q : VK), C i j = true → Q (gv i j) H → r (.int i) (.int j) H Q) (hg : ∀ i j F, Dq K F (gv i j) (g i j)) : Leaf2 K r (dInt2 C g) := by
  intro F H x y d e z _ hx hy hf
  cases hx with
  | int i =>
    cases hy with
    | int j =>
      by_cases hC : C i j = true
      · have hf' : some (g i j) = some z := by
          have : dInt2 C g (.int i) (.int j) = some (g i j) := if_pos hC
          rw [this] at hf
          exact hf
        cases hf'
        exact ⟨_, hg i j F, fun Q q => hr i j H Q hC q⟩
      · have : dInt2 C g (.int i) (.int j) = none := if_neg hC
        rw [this] at hf
        cases hf
    | _ => cases hf
  | _ => cases hf
abbrev yes2 : Int → Int → Bool := fun _ _ => true
def mulOk (i j : Int) : Bool := decide ((-(2 ^ 64) < i ∧ i < 2 ^ 64) ∨ (-(2 ^ 64) < j ∧ j < 2 ^ 64))
def divOk (_ j : Int) : Bool := decide (0 < j ∧ j < 1073741824)
def modOk (_ j : Int) : Bool := decide (0 < j)
def powOk (i j : Int) : Bool := decide (0 ≤ j ∧ j ≤ 1000000 ∧ i.natAbs < 2 ^ 64)
theorem mulOk_to {i j : Int} (h : mulOk i j = true) : CMul i j := by
  have h' := of_decide_eq_true h
  exact h'
theorem divOk_to {i j : Int} (h : divOk i j = true) : CDiv i j := by
  have h' := of_decide_eq_true h
  exact h'
theorem powOk_to {i j : Int} (h : powOk i j = true) : CPow i j := by
  have h' := of_decide_eq_true h
  exact h'
def dSub : D → D → Option D := dInt2 yes2 fun i j => .int (i - j)
def dMod : D → D → Option D := dInt2 modOk fun i j => .int (i % j)
def dDiv : D → D → Option D := dInt2 divOk fun i j => .int (i / j)
def dPow : D → D → Option D := dInt2 powOk fun i j => .int (i ^ j.toNat)
def dLift (f : D → D → Option D) : D → D → Option S := fun d e => (f d e).map S.d
theorem Leaf2.lift {K : PySem.W.Frag} {r : R2} {f : D → D → Option D} (h : Leaf2 K r f) : Leaf2S K r (dLift f) := by
  intro F H x y d e z s hx hy hf
  obtain ⟨w, hw, e1⟩ := Option.map_eq_some_iff.mp hf
  obtain ⟨v, hv, q⟩ := h F H x y d e w s hx hy hw
  exact .inl ⟨w, v, e1.symm, hv, q⟩
def dAddI : D → D → Option D := dInt2 yes2 fun i j => .int (i + j)
def dAddT : D → D → Option D
  | .str x, .str y => if x.length + y.length ≤ sizeLine then some (.str (x ++ y)) else none
  | _, _ => none
def dAddL : D → D → Option S
  | .list xs, .list ys => if xs.length + ys.length ≤ sizeLine then some (.ol (xs ++ ys)) else none
  | _, _ => none
def dAdd : D → D → Option S := fun d e => (dLift dAddI d e).orElse fun _ => (dLift dAddT d e).orElse fun _ => dAddL d e
theorem dAdd_int (i j : Int) : dAdd (.int i) (.int j) = some (.d (.int (i + j))) := rfl
theorem dAdd_str (x y : Str) : dAdd (.str x) (.str y) = if x.length + y.length ≤ sizeLine then some (.d (.str (x ++ y))) else none := by
  show ((dAddT (.str x) (.str y)).map S.d).orElse _ = _
  unfold dAddT
  by_cases h : x.length + y.length ≤ sizeLine
  · simp [h]
  · simp [h, dAddL]
theorem dAdd_list (x y : List D) : dAdd (.list x) (.list y) = if x.length + y.length ≤ sizeLine then some (.ol (x ++ y)) else none := rfl
def dMulI : D → D → Option D := dInt2 mulOk fun i j => .int (i * j)
def repOk (n : Nat) (k : Int) : Bool := decide (-(2 ^ 63) ≤ k ∧ k < 2 ^ 63 ∧ n * k.toNat ≤ sizeLine)
def dMulL : D → D → Option S
  | .list xs, .int k => if repOk xs.length k then some (.ol (List.replicate k.toNat xs).flatten) else none
  | _, _ => none
def dMul : D → D → Option S := fun d e => (dLift dMulI d e).orElse fun _ => dMulL d e
theorem leaf_addI {K : PySem.W.Frag} : Leaf2 K (rI0 fun i j => .int (i + j)) dAddI := leaf_int (gv := fun i j => .int (i + j)) (fun i j H Q _ q => ⟨i, j, rfl, rfl, q⟩) fun _ _ _ => .int _
theorem leaf_addT {K : PySem.W.Frag} : Leaf2 K (fun x y H Q => ∃ i j, x = .str i ∧ y = .str j ∧ i.length + j.length ≤ sizeLine ∧ Q (.str (i ++ j)) H) dAddT := by
  intro F H x y d e z _ hx hy hf
  cases hx with
  | str a =>
    cases hy with
    | str b =>
      by_cases h : a.length + b.length ≤ sizeLine
      · have hz : some (PyData.str (a ++ b)) = some z := (if_pos h).symm.trans hf
        cases hz
        exact ⟨_, .str _, fun Q q => ⟨a, b, rfl, rfl, h, q⟩⟩
      · have hz : none = some z := (if_neg h).symm.trans hf
        cases hz
    | _ => cases hf
  | _ => cases hf
theorem leaf_addL {K : PySem.W.Frag} : Leaf2S K rCat dAddL := by
  intro F H x y d e z s hx hy hf
  cases hx with
  | lst a1 a2 =>
    cases hy with
    | lst b1 b2 =>
      rename_i l xs ds l' ys es
      by_cases h : ds.length + es.length ≤ sizeLine
      · have hz : some (S.ol (ds ++ es)) = some z := (if_pos h).symm.trans hf
        cases hz
        exact .inr ⟨_, xs ++ ys, rfl, a2.append b2, fun Q q => ⟨l, l', xs, ys, rfl, rfl, s _ _ a1, s _ _ b1, by rw [a2.len, b2.len]; exact h, q⟩⟩
      · have hz : none = some z := (if_neg h).symm.trans hf
        cases hz
    | _ => cases hf
  | _ => cases hf
theorem DqA.flat {K : PySem.W.Frag} {F : Hp} {vs : List V} {ds : List D} (h : DqA K F vs ds) : ∀ k : Nat, DqA K F (List.replicate k vs).flatten (List.replicate k ds).flatten
  | 0 => .nil
  | k + 1 => by
    rw [List.replicate_succ, List.replicate_succ, List.flatten_cons, List.flatten_cons]
    exact h.append (h.flat k)
theorem leaf_mulL {K : PySem.W.Frag} : Leaf2S K rRep dMulL := by
  intro F H x y d e z s hx hy hf
  cases hx with
  | lst a1 a2 =>
    cases hy with
    | int k =>
      rename_i l xs ds
      by_cases h : repOk ds.length k = true
      · have hz : some (S.ol (List.replicate k.toNat ds).flatten) = some z := (if_pos h).symm.trans hf
        cases hz
        obtain ⟨h1, h2, h3⟩ := of_decide_eq_true h
        exact .inr ⟨_, _, rfl, a2.flat _, fun Q q => ⟨l, k, xs, rfl, rfl, s _ _ a1, h1, h2, by rw [a2.len]; exact h3, q⟩⟩
      · have hz : none = some z := (if_neg h).symm.trans hf
        cases hz
    | _ => cases hf
  | _ => cases hf
variable {a b : Expr} {ga gb : LS → R D} {pos : Pos}
theorem je_add (ha : JD c n1 a ga) (hb : JD c n2 b gb) : JE c (n1 && n2) (.BinOp a .Add b pos) (gOp dAdd ga gb) := by
  obtain ⟨ta, p1, q1⟩ := ha
  obtain ⟨tb, p2, q2⟩ := hb
  exact ⟨_, pe_op (op_add.or (op_add_str.or op_cat)) p1 p2, jdg_opS (leaf_addI.lift.or (leaf_addT.lift.or leaf_addL)) q1 q2⟩
theorem je_mul (ha : JD c n1 a ga) (hb : JD c n2 b gb) : JE c (n1 && n2) (.BinOp a .Mult b pos) (gOp dMul ga gb) := by
  obtain ⟨ta, p1, q1⟩ := ha
  obtain ⟨tb, p2, q2⟩ := hb
  exact ⟨_, pe_op (op_mul.or op_rep) p1 p2, jdg_opS ((leaf_int (gv := fun i j => .int (i * j)) (fun i j H Q hc q => ⟨i, j, rfl, rfl, mulOk_to hc, q⟩) fun _ _ _ => .int _ : Leaf2 c.X.K (rI CMul fun i j => .int (i * j)) dMulI).lift.or leaf_mulL) q1 q2⟩
theorem jd_bin {op : Operator} {r : R2} {f : D → D → Option D} (ho : OpR c.X (binaryOp op) r) (lf : Leaf2 c.X.K r f) (ha : JD c n1 a ga) (hb : JD c n2 b gb) : JD c (n1 && n2) (.BinOp a op b pos) (gOp f ga gb) := by
  obtain ⟨ta, p1, q1⟩ := ha
  obtain ⟨tb, p2, q2⟩ := hb
  exact ⟨_, pe_op ho p1 p2, jdg_op lf q1 q2⟩
theorem jd_sub (ha : JD c n1 a ga) (hb : JD c n2 b gb) : JD c (n1 && n2) (.BinOp a .Sub b pos) (gOp dSub ga gb) :=
  jd_bin op_sub (leaf_int (gv := fun i j => .int (i - j)) (fun i j H Q _ q => ⟨i, j, rfl, rfl, q⟩) fun _ _ _ => .int _) ha hb
theorem jd_mod (ha : JD c n1 a ga) (hb : JD c n2 b gb) : JD c (n1 && n2) (.BinOp a .Mod b pos) (gOp dMod ga gb) :=
  jd_bin op_mod (leaf_int (gv := fun i j => .int (i % j)) (fun i j H Q hc q => ⟨i, j, rfl, rfl, of_decide_eq_true hc, q⟩) fun _ _ _ => .int _) ha hb
theorem jd_div (ha : JD c n1 a ga) (hb : JD c n2 b gb) : JD c (n1 && n2) (.BinOp a .FloorDiv b pos) (gOp dDiv ga gb) :=
  jd_bin op_fdiv (leaf_int (gv := fun i j => .int (i / j)) (fun i j H Q hc q => ⟨i, j, rfl, rfl, divOk_to hc, q⟩) fun _ _ _ => .int _) ha hb
theorem jd_pow (ha : JD c n1 a ga) (hb : JD c n2 b gb) : JD c (n1 && n2) (.BinOp a .Pow b pos) (gOp dPow ga gb) :=
  jd_bin op_pow (leaf_int (gv := fun i j => .int (i ^ j.toNat)) (fun i j H Q hc q => ⟨i, j, rfl, rfl, powOk_to hc, q⟩) fun _ _ _ => .int _) ha hb
def dNeg : D → Option D
  | .int i => some (.int (-i))
  | _ => none
def gUn {α : Type} (f : D → Option α) (a : LS → R D) : LS → R α := fun L => (a L).bind fun d L1 => ofO (f d) L1
theorem jd_neg (ha : JD c n a ga) : JD c n (.UnaryOp .USub a pos) (gUn dNeg ga) := by
  obtain ⟨ta, p1, q1⟩ := ha
  refine ⟨_, pe_un un_neg p1, fun G F ow σ H L Rr => (q1 G F ow σ H L Rr).bind1 fun d L1 v H1 F1 ow1 _ _ _ R1 b1 => ?_⟩
  cases b1 with
  | int i => exact (Post.val (a := PyData.int (-i)) (B := BD c.X.K) R1 (Dq.int _)).imp fun Q q => ⟨i, rfl, q⟩
  | _ => trivial

def dCmp (f : Int → Int → Bool) (g : Str → Str → Bool) : D → D → Option D
  | .int i, .int j => some (.bool (f i j))
  | .str x, .str y => some (.bool (g x y))
  | _, _ => none
def dLt : D → D → Option D := dCmp (fun i j => decide (i < j)) fun x y => decide (x.cps.toList < y.cps.toList)
def dLe : D → D → Option D := dCmp (fun i j => decide (i ≤ j)) fun x y => !decide (y.cps.toList < x.cps.toList)
def dGt : D → D → Option D := dCmp (fun i j => decide (j < i)) fun x y => decide (y.cps.toList < x.cps.toList)
def dGe : D → D → Option D := dCmp (fun i j => decide (j ≤ i)) fun x y => !decide (x.cps.toList < y.cps.toList)
theorem leaf_cmp {K : PySem.W.Frag} {f : Int → Int → Bool} {g : Str → Str → Bool} : Leaf2 K (fun x y H Q => rI0 (fun i j => .bl (f i j)) x y H Q ∨ ∃ i j, x = .str i ∧ y = .str j ∧ Q (.bl (g i j)) H) (dCmp f g) := by
  intro F H x y d e z _ hx hy hf
  cases hx with
  | int i =>
    cases hy with
    | int j =>
      cases hf
      exact ⟨_, .bl _, fun Q q => .inl ⟨i, j, rfl, rfl, q⟩⟩
    | _ => cases hf
  | str i =>
    cases hy with
    | str j =>
      cases hf
      exact ⟨_, .bl _, fun Q q => .inr ⟨i, j, rfl, rfl, q⟩⟩
    | _ => cases hf
  | _ => cases hf
def scalD : D → D → Bool
  | .none, .none => true
  | .none, .int _ => true
  | .int _, .none => true
  | .none, .bool _ => true
  | .bool _, .none => true
  | .none, .str _ => true
  | .str _, .none => true
  | .int _, .int _ => true
  | .bool _, .bool _ => true
  | .str _, .str _ => true
  | .int _, .str _ => true
  | .str _, .int _ => true
  | .bool _, .str _ => true
  | .str _, .bool _ => true
  | _, _ => false
def eqOk (d e : D) : Prop := scalD d e = true ∨ (SeqAt.shaped d = true ∧ SeqAt.shaped e = true)
instance (d e : D) : Decidable (eqOk d e) := inferInstanceAs (Decidable (_ ∨ _))
def dEq : D → D → Option D := fun d e => if eqOk d e then some (.bool (d.eqv e)) else none
def dNe : D → D → Option D := fun d e => if eqOk d e then some (.bool (!d.eqv e)) else none
theorem scal_of {K : PySem.W.Frag} {F : Hp} {x y : V} {d e : D} (hx : Dq K F x d) (hy : Dq K F y e) (h : scalD d e = true) : scal x y = true ∧ d.eqv e = decide (x = y) := by
  cases hx <;> cases hy <;> first
    | (exfalso; exact Bool.noConfusion h)
    | (refine ⟨rfl, ?_⟩; simp only [PyData.eqv]; first | (symm; simp; done) | (rw [Bool.beq_eq_decide_eq]; apply decide_eq_decide.mpr; constructor; (intro z; rw [z]); (intro z; injection z)))
def rIsB2 : R2 := fun x y H Q => rIsB x y H Q ∨ (x = .non ∧ (∃ b : Bool, y = .bl b) ∧ Q (.bl false) H)
def rNotB2 : R2 := fun x y H Q => rNotB x y H Q ∨ (x = .non ∧ (∃ b : Bool, y = .bl b) ∧ Q (.bl true) H)
theorem op_isBl2 {X : Cx} : OpR X (compareOp .Is) rIsB2 := by
  intro pins s σ H x y v u Q I rx ry h
  rcases h with h | ⟨rfl, ⟨b, rfl⟩, q⟩
  · exact op_isBl pins s σ H x y v u Q I rx ry h
  · cases rx
    cases (show u = Value.bool b from ry)
    exact wpAny_is_other rfl (fun z => nomatch z) ⟨.bl false, H, I, rfl, q⟩
theorem op_notBl2 {X : Cx} : OpR X (compareOp .IsNot) rNotB2 := by
  intro pins s σ H x y v u Q I rx ry h
  rcases h with h | ⟨rfl, ⟨b, rfl⟩, q⟩
  · exact op_notBl pins s σ H x y v u Q I rx ry h
  · cases rx
    cases (show u = Value.bool b from ry)
    exact wpAny_isNot_other rfl (fun z => nomatch z) ⟨.bl true, H, I, rfl, q⟩
def dIs : D → D → Option D
  | .bool a, .bool b => some (.bool (decide (a = b)))
  | .none, .bool _ => some (.bool false)
  | .none, .none => some (.bool true)
  | _, .none => some (.bool false)
  | _, _ => none
def dIsN : D → D → Option D
  | .bool a, .bool b => some (.bool (!decide (a = b)))
  | .none, .bool _ => some (.bool true)
  | .none, .none => some (.bool false)
  | _, .none => some (.bool true)
  | _, _ => none
theorem leaf_is {K : PySem.W.Frag} : Leaf2 K (fun x y H Q => (y = .non ∧ Q (.bl (decide (x = .non))) H) ∨ rIsB2 x y H Q) dIs := by
  intro F H x y d e z s hx hy hf
  cases hy with
  | non => cases hx <;> (cases hf; exact ⟨_, .bl _, fun Q q => .inl ⟨rfl, q⟩⟩)
  | bl b =>
    cases hx with
    | bl a =>
      cases hf
      exact ⟨_, .bl _, fun Q q => .inr (.inl ⟨a, b, rfl, rfl, q⟩)⟩
    | non =>
      cases hf
      exact ⟨_, .bl _, fun Q q => .inr (.inr ⟨rfl, ⟨b, rfl⟩, q⟩)⟩
    | _ => cases hf
  | _ => cases hx <;> cases hf
theorem leaf_isN {K : PySem.W.Frag} : Leaf2 K (fun x y H Q => (y = .non ∧ Q (.bl (!decide (x = .non))) H) ∨ rNotB2 x y H Q) dIsN := by
  intro F H x y d e z s hx hy hf
  cases hy with
  | non => cases hx <;> (cases hf; exact ⟨_, .bl _, fun Q q => .inl ⟨rfl, q⟩⟩)
  | bl b =>
    cases hx with
    | bl a =>
      cases hf
      exact ⟨_, .bl _, fun Q q => .inr (.inl ⟨a, b, rfl, rfl, q⟩)⟩
    | non =>
      cases hf
      exact ⟨_, .bl _, fun Q q => .inr (.inr ⟨rfl, ⟨b, rfl⟩, q⟩)⟩
    | _ => cases hf
  | _ => cases hx <;> cases hf
def flatD : D → Bool
  | .none => true
  | .bool _ => true
  | .int _ => true
  | .str _ => true
  | _ => false
def inOk (d : D) (ds : List D) : Prop := (flatD d = true ∧ ds.all flatD = true) ∨ (SeqAt.shaped d = true ∧ SeqAt.shaped (.list ds) = true)
instance (d : D) (ds : List D) : Decidable (inOk d ds) := inferInstanceAs (Decidable (_ ∨ _))
def dInB (d e : D) : Option Bool := match e with
  | .list ds => if inOk d ds then some (ds.any fun z => z.eqv d) else none
  | .tuple ds => if flatD d = true ∧ ds.all flatD = true then some (ds.any fun z => z.eqv d) else none
  | .str y => (match d with
    | .str x => if x.length = 1 then some (decide (x.cps.getD 0 0 ∈ y.cps.toList)) else none
    | _ => none)
  | _ => none
def dIn : D → D → Option D := fun d e => (dInB d e).map .bool
def dNotIn : D → D → Option D := fun d e => (dInB d e).map fun b => .bool (!b)
theorem flat_of {K : PySem.W.Frag} {F : Hp} {v : V} {d : D} (h : Dq K F v d) (hd : flatD d = true) : flatV v = true := by
  cases h <;> first | rfl | cases hd
theorem flats_of {K : PySem.W.Frag} {F : Hp} : ∀ {vs : List V} {ds : List D}, DqA K F vs ds → ds.all flatD = true → vs.all flatV = true
  | _, _, .nil, _ => rfl
  | _, _, .cons a b, h => by
    rw [List.all_cons, Bool.and_eq_true] at h ⊢
    exact ⟨flat_of a h.1, flats_of b h.2⟩
theorem eqV_eqv {K : PySem.W.Frag} {F : Hp} {v u : V} {d e : D} (h : Dq K F v d) (h' : Dq K F u e) (hd : flatD d = true) (he : flatD e = true) : eqV v u = d.eqv e := by
  cases h <;> cases h' <;> first
    | rfl
    | (exfalso; exact Bool.noConfusion hd)
    | (exfalso; exact Bool.noConfusion he)
    | simp only [eqV, PyData.eqv]
theorem inV_any {K : PySem.W.Frag} {F : Hp} {v : V} {d : D} (h : Dq K F v d) (hd : flatD d = true) : ∀ {vs : List V} {ds : List D}, DqA K F vs ds → ds.all flatD = true → inV v vs = ds.any fun z => z.eqv d
  | _, _, .nil, _ => rfl
  | _, _, .cons a b, hh => by
    rw [List.all_cons, Bool.and_eq_true] at hh
    have := inV_any h hd b hh.2
    unfold inV at this ⊢
    rw [List.any_cons, List.any_cons, this, eqV_eqv a h hh.1 hd]
theorem one_sign {x : Str} (h : x.length = 1) : x = ⟨#[x.cps.getD 0 0]⟩ := by
  obtain ⟨cps⟩ := x
  have h' : cps.size = 1 := h
  congr 1
  apply Array.ext
  · simp [h']
  · intro i h1 h2
    have : i = 0 := by
      simp at h2
      omega
    subst this
    simp [Array.getD, h']
theorem in_core {K : PySem.W.Frag} {F H : Hp} {x y : V} {d e : D} {z : Bool} (s : Same F H) (hx : Dq K F x d) (hy : Dq K F y e) (hf : dInB d e = some z) (neg : Bool) (Q : VK) (q : Q (.bl (if neg then !z else z)) H) :
    (∃ (c : Nat) (w : Str), x = .str ⟨#[c]⟩ ∧ y = .str w ∧ Q (.bl (if neg then !decide (c ∈ w.cps.toList) else decide (c ∈ w.cps.toList))) H) ∨
      (∃ d ds, Dp K H x d ∧ Dp K H y (.list ds) ∧ SeqAt.shaped d = true ∧ SeqAt.shaped (.list ds) = true ∧ Q (.bl (if neg then !ds.any (fun z => PyData.eqv z d) else ds.any fun z => PyData.eqv z d)) H) ∨ rIn K neg x y H Q := by
  cases hy with
  | lst a1 a2 =>
    rename_i l vs ds
    have hf : (if inOk d ds then some (ds.any fun z => z.eqv d) else none) = some z := hf
    by_cases h : inOk d ds
    · rw [if_pos h] at hf
      cases hf
      rcases h with h | h
      · rw [← inV_any hx h.1 a2 h.2] at q
        exact .inr (.inr ⟨l, vs, rfl, .inl (.of (s _ _ a1)), flat_of hx h.1, flats_of a2 h.2, q⟩)
      · exact .inr (.inl ⟨d, ds, (hx.up s).dp, ((Dq.lst a1 a2).up s).dp, h.1, h.2, q⟩)
    · rw [if_neg h] at hf
      cases hf
  | tup a1 a2 =>
    rename_i l vs ds
    have hf : (if flatD d = true ∧ ds.all flatD = true then some (ds.any fun z => z.eqv d) else none) = some z := hf
    by_cases h : flatD d = true ∧ ds.all flatD = true
    · rw [if_pos h] at hf
      cases hf
      rw [← inV_any hx h.1 a2 h.2] at q
      exact .inr (.inr ⟨l, vs, rfl, .inr (sqt_same s a1), flat_of hx h.1, flats_of a2 h.2, q⟩)
    · rw [if_neg h] at hf
      cases hf
  | str w =>
    cases hx with
    | str x =>
      have hf' : (if x.length = 1 then some (decide (x.cps.getD 0 0 ∈ w.cps.toList)) else none) = some z := hf
      by_cases h : x.length = 1
      · rw [if_pos h] at hf'
        cases hf'
        exact .inl ⟨_, w, by rw [← one_sign h], rfl, q⟩
      · rw [if_neg h] at hf'
        cases hf'
    | _ => cases hf
  | _ => cases hx <;> cases hf
def rInAny (K : PySem.W.Frag) : R2 := fun x y H Q => (∃ (c : Nat) (z : Str), x = .str ⟨#[c]⟩ ∧ y = .str z ∧ Q (.bl (decide (c ∈ z.cps.toList))) H) ∨ rInD K x y H Q ∨ rIn K false x y H Q
def rNotInAny (K : PySem.W.Frag) : R2 := fun x y H Q => (∃ (c : Nat) (z : Str), x = .str ⟨#[c]⟩ ∧ y = .str z ∧ Q (.bl (!decide (c ∈ z.cps.toList))) H) ∨ rNotInD K x y H Q ∨ rIn K true x y H Q
variable {k : Nat}
theorem room65 {A : Around} (hr : Room k A) : A.units + 65 < cLine := by have := hr.un; omega
def asB : D → LS → R Bool
  | .bool b, L => .ok b L
  | _, _ => .stuck
def gB (g : LS → R D) : LS → R Bool := fun L => (g L).bind asB
theorem jdg_B {g : LS → R D} {t : TE} (h : Jdg c n g BD t) : Jdg c n (gB g) BB (fun σ H Q => t σ H fun x H' => ∃ k, x = .bl k ∧ Q k H') := by
  intro G F ow σ H L Rr
  refine (h G F ow σ H L Rr).bind1 (t2 := fun x H' Q => ∃ k, x = .bl k ∧ Q k H') fun d L1 v H1 F1 ow1 _ _ _ R1 b1 => ?_
  cases b1 with
  | bl b => exact (Post.val (a := b) (b := b) (B := BB c.X.K) R1 rfl).imp fun Q q => ⟨b, rfl, q⟩
  | _ => trivial
theorem jt_val {e : Expr} {g : LS → R D} (h : JD c n e g) (he : ∀ whole, isTrue e c.X.env whole = (do let v ← whole; standAt e.pos; holding [v] (truthy v)) := by intro _; rfl) : JT c n e (gB g) := by
  obtain ⟨t, p, q⟩ := h
  exact ⟨_, pt_val p he, jdg_B q⟩
variable {g1 g2 : LS → R Bool} {rest : List Expr}
def gAnd (a b : LS → R Bool) : LS → R Bool := fun L => (a L).bind fun x L1 => if x = true then b L1 else .ok false L1
def gOr (a b : LS → R Bool) : LS → R Bool := fun L => (a L).bind fun x L1 => if x = true then .ok true L1 else b L1
def gNot (a : LS → R Bool) : LS → R Bool := fun L => (a L).bind fun x L1 => .ok (!x) L1
theorem jw_and1 (ha : JT c n a g1) : JW c n (.BoolOp .And [a] pos) g1 := by
  obtain ⟨t, p, q⟩ := ha
  exact ⟨_, pw_and1 p, q⟩
theorem jw_or1 (ha : JT c n a g1) : JW c n (.BoolOp .Or [a] pos) g1 := by
  obtain ⟨t, p, q⟩ := ha
  exact ⟨_, pw_or1 p, q⟩
theorem jw_and (ha : JT c n1 a g1) (hb : JW c n2 (.BoolOp .And (b :: rest) pos) g2) : JW c (n1 && n2) (.BoolOp .And (a :: b :: rest) pos) (gAnd g1 g2) := by
  obtain ⟨t, p, q⟩ := ha
  obtain ⟨t', p', q'⟩ := hb
  refine ⟨_, pw_and p p', fun G F ow σ H L Rr => (q G F ow σ H L Rr).bind (t2 := fun x H1 Q => if x = true then t' σ H1 Q else Q false H1) fun x L1 v H1 F1 ow1 _ _ _ R1 b1 => ?_⟩
  cases b1
  cases x with
  | true => exact q' G F1 ow1 σ H1 L1 R1
  | false => exact Post.val (b := false) (B := BB c.X.K) R1 rfl
theorem jw_or (ha : JT c n1 a g1) (hb : JW c n2 (.BoolOp .Or (b :: rest) pos) g2) : JW c (n1 && n2) (.BoolOp .Or (a :: b :: rest) pos) (gOr g1 g2) := by
  obtain ⟨t, p, q⟩ := ha
  obtain ⟨t', p', q'⟩ := hb
  refine ⟨_, pw_or p p', fun G F ow σ H L Rr => (q G F ow σ H L Rr).bind (t2 := fun x H1 Q => if x = true then Q true H1 else t' σ H1 Q) fun x L1 v H1 F1 ow1 _ _ _ R1 b1 => ?_⟩
  cases b1
  cases x with
  | false => exact q' G F1 ow1 σ H1 L1 R1
  | true => exact Post.val (b := true) (B := BB c.X.K) R1 rfl
theorem jt_w {e : Expr} (h : JW c n e g1) : JT c n e g1 := by
  obtain ⟨t, p, q⟩ := h
  exact ⟨_, p.pt, q⟩
theorem jt_not (h : JT c n a g1) : JT c n (.UnaryOp .Not a pos) (gNot g1) := by
  obtain ⟨t, p, q⟩ := h
  refine ⟨_, pt_not p, fun G F ow σ H L Rr => (q G F ow σ H L Rr).bind1 (t2 := fun x H1 Q => Q (!x) H1) fun x L1 v H1 F1 ow1 _ _ _ R1 b1 => ?_⟩
  cases b1
  exact Post.val (b := !x) (B := BB c.X.K) R1 rfl
def gAndV (a b : LS → R D) : LS → R D := fun L => (a L).bind fun d L1 => match d with
  | .bool x => if x = true then b L1 else .ok (.bool false) L1
  | _ => .stuck
def gOrV (a b : LS → R D) : LS → R D := fun L => (a L).bind fun d L1 => match d with
  | .bool x => if x = true then .ok (.bool true) L1 else b L1
  | _ => .stuck
def dNot : D → Option D
  | .bool b => some (.bool (!b))
  | _ => none
def gIfE {α : Type} (t : LS → R Bool) (a b : LS → R α) : LS → R α := fun L => (t L).bind fun x L1 => if x = true then a L1 else b L1
end
end VS

namespace VS
open PySem PySem.Spec PyProof.Rows L2

section
variable {c : Ct} {n n1 n2 n3 : Bool} {a b : Expr} {ga gb : LS → R D} {pos : Pos}

def dIx (d e : D) : Option D := match e with
  | .int i => (match d with
    | .list xs => atI xs i
    | .tuple xs => atI xs i
    | .str s => if s.length ≤ sizeLine then (atI s.cps.toList i).map fun k => .str ⟨#[k]⟩ else none
    | _ => none)
  | _ => none
theorem DqA.at {K : PySem.W.Frag} {F : Hp} {vs : List V} {ds : List D} {i : Int} {z : D} (h : DqA K F vs ds) (e : atI ds i = some z) : ∃ v, atI vs i = some v ∧ Dq K F v z := by
  unfold atI at e ⊢
  rw [h.len]
  cases hj : ixN ds.length i with
  | none => rw [hj] at e; cases e
  | some j =>
    rw [hj] at e
    exact h.get e
theorem ix_core {K : PySem.W.Frag} {F H : Hp} {ow : Addr → Option Path} {x y : V} {d e z : D} (s : Same F H) (hx : BV K F H ow d x) (hy : Dq K F y e) (hf : dIx d e = some z) : ∃ v, Dq K F v z ∧ ∀ Q : VK, Q v H → rIx K x y H Q := by
  cases hy with
  | int i =>
    have seq : ∀ {l : Addr} {vs : List V} {ds : List D}, x = .ref l → d = .list ds → SqL K H l vs → DqA K F vs ds → ∃ v, Dq K F v z ∧ ∀ Q : VK, Q v H → rIx K x (.int i) H Q := fun {l vs ds} hl hd h1 h2 => by
      subst hl hd
      obtain ⟨v, h3, h4⟩ := h2.at (show atI ds i = some z from hf)
      exact ⟨v, h4, fun Q q => .inl ⟨l, vs, i, v, rfl, rfl, h1, h3, q⟩⟩
    rcases hx with hx | ⟨l, vs, ds, rfl, rfl, h1, h2⟩
    · cases hx with
      | lst h1 h2 => exact seq rfl rfl (.of (s _ _ h1)) h2
      | tup h1 h2 =>
        rename_i l vs ds
        obtain ⟨v, h3, h4⟩ := h2.at (show atI ds i = some z from hf)
        exact ⟨v, h4, fun Q q => .inr (.inl ⟨l, vs, i, v, rfl, rfl, sqt_same s h1, h3, q⟩)⟩
      | str w =>
        have hf : (if w.length ≤ sizeLine then (atI w.cps.toList i).map fun k => PyData.str ⟨#[k]⟩ else none) = some z := hf
        by_cases hw : w.length ≤ sizeLine
        · rw [if_pos hw] at hf
          obtain ⟨k, hk, rfl⟩ := Option.map_eq_some_iff.mp hf
          exact ⟨_, .str _, fun Q q => .inr (.inr ⟨w, i, k, rfl, rfl, hw, hk, q⟩)⟩
        · rw [if_neg hw] at hf
          cases hf
      | _ => cases hf
    · exact seq rfl rfl h1 h2
  | _ => cases hf
theorem leaf_ix {K : PySem.W.Frag} : Leaf2 K (rIx K) dIx := fun F H x y d e z s hx hy hf => ix_core (ow := fun _ => none) s (.inl hx) hy hf
theorem jd_ix (ha : JD c n1 a ga) (hb : JD c n2 b gb) (hs : PlainIx b := by exact fun _ _ => rfl) : JD c (n1 && n2) (.Subscript a b pos) (gOp dIx ga gb) := by
  obtain ⟨ta, p1, q1⟩ := ha
  obtain ⟨tb, p2, q2⟩ := hb
  exact ⟨_, pe_ix ix_seq p1 p2 hs, jdg_op leaf_ix q1 q2⟩
theorem BV.up {K : PySem.W.Frag} {F F' H H' : Hp} {ow ow' : Addr → Option Path} {d : D} {v : V} (h : BV K F H ow d v) (e : Same F F') (e2 : Same H H') : BV K F' H' ow' d v := by
  rcases h with h | ⟨l, vs, ds, h1, h2, h3, h4⟩
  · exact .inl (h.up e)
  · exact .inr ⟨l, vs, ds, h1, h2, sql_same e2 h3, h4.up e⟩
def gIxP (i : Nat) (gb : LS → R D) : LS → R D := fun L => match L[i]? with
  | some (some _) => (gb L).bind fun e L1 => (gPeek i L1).bind fun d L2 => ofO (dIx d e) L2
  | _ => .stuck
theorem peek_at {G F H : Hp} {ow : Addr → Option Path} {σ : L2.St} {L L' : LS} {i : Nat} {d : D} {v : V} (Rr : c.Rl G F ow σ H L) (hv : σ[i]? = some (some v)) (h : gPeek i L = .ok d L') : L' = L ∧ BV c.X.K F H ow d v := by
  unfold gPeek at h
  cases hL : L[i]? with
  | none => rw [hL] at h; cases h
  | some o =>
    rw [hL] at h
    cases o with
    | none => cases h
    | some s =>
      obtain ⟨u, hu, rs⟩ := Rr.sl i s hL
      rw [hv] at hu
      cases hu
      have hb := peek_bv Rr.exF Rr.exB rs
      cases s <;> cases h <;> exact ⟨rfl, hb⟩
theorem jd_ixP (i : Nat) {x : Str} {p : Pos} (ha : PE c.X (.Name x p) (tVar i)) (hb : JD c n b gb) (hs : PlainIx b := by exact fun _ _ => rfl) : JD c n (.Subscript (.Name x p) b pos) (gIxP i gb) := by
  obtain ⟨tb, p2, q2⟩ := hb
  refine ⟨_, pe_ix ix_seq ha p2 hs, fun G F ow σ H L Rr => ?_⟩
  unfold gIxP
  cases hL : L[i]? with
  | none => trivial
  | some o =>
    cases o with
    | none => trivial
    | some s =>
      obtain ⟨v, hv, rs⟩ := Rr.sl i s hL
      refine ((q2 G F ow σ H L Rr).bind1 (t2 := fun y H2 Q => rIx c.X.K v y H2 Q) fun e L1 u H1 F1 ow1 _ _ _ R1 b1 => ?_).imp fun Q q => ⟨v, hv, q⟩
      cases hp : gPeek i L1 with
      | stuck => trivial
      | err k L2 =>
        exfalso
        unfold gPeek at hp
        split at hp <;> cases hp
      | ok d L2 =>
        obtain ⟨rfl, hb⟩ := peek_at R1 hv hp
        rw [R.bind_ok]
        cases hf : dIx d e with
        | none => trivial
        | some z =>
          obtain ⟨w, hw, q⟩ := ix_core R1.exF hb b1 hf
          exact (Post.val R1 hw).imp q

def cutD (xs : List D) (lo hi : Option Int) : List D := (xs.drop (HT.sIx xs.length 0 lo)).take (HT.sIx xs.length xs.length hi - HT.sIx xs.length 0 lo)
theorem DqA.cut {K : PySem.W.Frag} {F : Hp} {vs : List V} {ds : List D} (h : DqA K F vs ds) (lo hi : Option Int) : DqA K F (cutV vs lo hi) (cutD ds lo hi) := by
  unfold cutV cutD
  rw [h.len]
  exact (h.drop _).take _
def dSl (d : D) (lo hi : Option Int) : Option S := match d with
  | .list xs => some (.ol (cutD xs lo hi))
  | .str s => if s.length ≤ sizeLine then some (.d (.str (cutS s lo hi))) else none
  | .tuple xs => if HT.sIx xs.length 0 lo = 0 ∧ HT.sIx xs.length xs.length hi = xs.length then none else some (.d (.tuple (cutD xs lo hi)))
  | _ => none
def BO : PySem.W.Frag → Hp → Hp → (Addr → Option Path) → Option Int → Option Int → Prop := fun _ _ _ _ x y => y = x
def JO (c : Ct) (n : Bool) (e : Option Expr) (g : LS → R (Option Int)) : Prop := ∃ t, PO c.X e t ∧ Jdg c n g BO t
def gNo : LS → R (Option Int) := fun L => .ok none L
def asI : D → LS → R (Option Int)
  | .int i, L => .ok (some i) L
  | _, _ => .stuck
def gSo (g : LS → R D) : LS → R (Option Int) := fun L => (g L).bind asI
theorem jo_no : JO c true none gNo := ⟨_, po_none, fun G F ow σ H L Rr => Post.val (B := BO c.X.K) Rr rfl⟩
theorem jo_so (h : JD c n a ga) : JO c n (some a) (gSo ga) := by
  obtain ⟨t, p, q⟩ := h
  refine ⟨_, po_some p, fun G F ow σ H L Rr => (q G F ow σ H L Rr).bind1 (t2 := fun (x : V) H1 (Q : Option Int → Hp → Prop) => ∃ i, x = V.int i ∧ Q (some i) H1) fun d L1 v H1 F1 ow1 _ _ _ R1 b1 => ?_⟩
  cases b1 with
  | int i => exact (Post.val (a := some i) (b := some i) (B := BO c.X.K) R1 rfl).imp fun Q q => ⟨i, rfl, q⟩
  | _ => trivial
def rSlAny (K : PySem.W.Frag) : V → Option Int → Option Int → Hp → VK → Prop := fun x lo hi H Q => rSlL K x lo hi H Q ∨ rSlS x lo hi H Q ∨ rSlT K x lo hi H Q
theorem sl_core {G F H : Hp} {ow : Addr → Option Path} {σ : L2.St} {L : LS} {d : D} {v : V} {lo hi : Option Int} (Rr : c.Rl G F ow σ H L) (hb : BV c.X.K F H ow d v) : Post c G true F H σ (ofO (dSl d lo hi) L) (BE c.ca c.X.K) (rSlAny c.X.K v lo hi H) := by
  have seq : ∀ {l : Addr} {vs : List V} {ds : List D}, v = .ref l → d = .list ds → SqL c.X.K H l vs → DqA c.X.K F vs ds → Post c G true F H σ (ofO (dSl d lo hi) L) (BE c.ca c.X.K) (rSlAny c.X.K v lo hi H) := fun {l vs ds} e1 e2 h1 h2 => by
    subst e1 e2
    exact (post_new Rr (h2.cut lo hi)).imp fun Q q => .inl ⟨l, vs, rfl, h1, q⟩
  rcases hb with hb | ⟨l, vs, ds, rfl, rfl, h1, h2⟩
  · cases hb with
    | lst h1 h2 => exact seq rfl rfl (.of (Rr.exF _ _ h1)) h2
    | str w =>
      show Post c G true F H σ (ofO (if w.length ≤ sizeLine then some (S.d (.str (cutS w lo hi))) else none) L) _ _
      by_cases hw : w.length ≤ sizeLine
      · rw [if_pos hw]
        exact (Post.val (a := S.d (.str (cutS w lo hi))) (B := BE c.ca c.X.K) Rr (RS.d (.str _))).imp fun Q q => .inr (.inl ⟨w, rfl, hw, q⟩)
      · rw [if_neg hw]
        trivial
    | tup h1 h2 =>
      rename_i l vs ds
      show Post c G true F H σ (ofO (if HT.sIx ds.length 0 lo = 0 ∧ HT.sIx ds.length ds.length hi = ds.length then none else some (S.d (.tuple (cutD ds lo hi)))) L) _ _
      by_cases hw : HT.sIx ds.length 0 lo = 0 ∧ HT.sIx ds.length ds.length hi = ds.length
      · rw [if_pos hw]
        trivial
      · rw [if_neg hw]
        intro Q q
        refine .inr (.inr ⟨l, vs, rfl, sqt_same Rr.exF h1, by rw [h2.len]; exact hw, fun p hp => ?_⟩)
        obtain ⟨e1, e, r'⟩ := Rr.newF (o := .tup (cutV vs lo hi)) hp
        exact q _ _ _ ow e1 (fun _ => e) r' (.d (.tup upd_same ((h2.cut lo hi).up e1)))
    | _ => trivial
  · exact seq rfl rfl h1 h2
def gSl (ga : LS → R D) (lo hi : LS → R (Option Int)) : LS → R S := fun L => (ga L).bind fun d L1 => (lo L1).bind fun l L2 => (hi L2).bind fun u L3 => ofO (dSl d l u) L3
variable {lo hi : Option Expr} {gl gh : LS → R (Option Int)} {p2 : Pos}
theorem je_sl (ha : JD c n1 a ga) (hl : JO c n2 lo gl) (hh : JO c n3 hi gh) : JE c (n1 && (n2 && n3)) (.Subscript a (.Slice lo hi none p2) pos) (gSl ga gl gh) := by
  obtain ⟨ta, pa, qa⟩ := ha
  obtain ⟨tl, pl, ql⟩ := hl
  obtain ⟨th, ph, qh⟩ := hh
  refine ⟨_, pe_slice (sl_list.or (sl_str.or sl_tup)) pa pl ph, fun G F ow σ H L Rr => ?_⟩
  refine (qa G F ow σ H L Rr).bind (t2 := fun v H1 Q => tl σ H1 fun l H2 => th σ H2 fun u H3 => rSlAny c.X.K v l u H3 Q) fun d L1 v H1 F1 ow1 _ _ _ R1 b1 => ?_
  refine (ql G F1 ow1 σ H1 L1 R1).bind (t2 := fun l H2 Q => th σ H2 fun u H3 => rSlAny c.X.K v l u H3 Q) fun l L2 l' H2 F2 ow2 _ e2 _ R2 b2 => ?_
  refine (qh G F2 ow2 σ H2 L2 R2).bind1 (t2 := fun u H3 Q => rSlAny c.X.K v l' u H3 Q) fun u L3 u' H3 F3 ow3 _ e3 _ R3 b3 => ?_
  cases b2
  cases b3
  exact sl_core R3 (.inl ((b1.up e2).up e3))
theorem je_slV (ha : JV c n1 a ga) (hl : JO c true lo gl) (hh : JO c true hi gh) : JE c n1 (.Subscript a (.Slice lo hi none p2) pos) (gSl ga gl gh) := by
  obtain ⟨ta, pa, qa⟩ := ha
  obtain ⟨tl, pl, ql⟩ := hl
  obtain ⟨th, ph, qh⟩ := hh
  refine ⟨_, pe_slice (sl_list.or (sl_str.or sl_tup)) pa pl ph, fun G F ow σ H L Rr => ?_⟩
  refine (qa G F ow σ H L Rr).bind1 (t2 := fun v H1 Q => tl σ H1 fun l H2 => th σ H2 fun u H3 => rSlAny c.X.K v l u H3 Q) fun d L1 v H1 F1 ow1 _ _ _ R1 b1 => ?_
  refine (ql G F1 ow1 σ H1 L1 R1).bind1 (t2 := fun l H2 Q => th σ H2 fun u H3 => rSlAny c.X.K v l u H3 Q) fun l L2 l' H2 F2 ow2 _ e2 s2 R2 b2 => ?_
  refine (qh G F2 ow2 σ H2 L2 R2).bind1 (t2 := fun u H3 Q => rSlAny c.X.K v l' u H3 Q) fun u L3 u' H3 F3 ow3 _ e3 s3 R3 b3 => ?_
  cases b2
  cases b3
  exact sl_core R3 (BV.up (BV.up (ow' := ow2) b1 e2 (s2 rfl)) e3 (s3 rfl))

def dLen : D → Option D
  | .list xs => some (.int xs.length)
  | .tuple xs => some (.int xs.length)
  | .str s => if s.length ≤ sizeLine then some (.int s.length) else none
  | _ => none
theorem jdg_call1 {α : Type} {ga : LS → R D} {B : PySem.W.Frag → Hp → Hp → (Addr → Option Path) → α → V → Prop} {r : List V → Hp → VK → Prop} {f : D → Option α} {ta : TE} (ha : Jdg c n ga BV ta)
    (lf : ∀ {G F H : Hp} {ow : Addr → Option Path} {σ : L2.St} {L : LS} {d : D} {v : V}, c.Rl G F ow σ H L → BV c.X.K F H ow d v → Post c G true F H σ (ofO (f d) L) (B c.X.K) (r [v] H)) : Jdg c n (gUn f ga) B (tCB r (tCons ta tNil)) :=
  fun G F ow σ H L Rr => (ha G F ow σ H L Rr).bind1 (t2 := fun v H1 Q => r [v] H1 Q) fun d L1 v H1 F1 ow1 _ _ _ R1 b1 => lf R1 b1
theorem jd_call1 {id : String} {x : Str} {p : Pos} {r : List V → Hp → VK → Prop} {f : D → Option D} (hc : CallR c.X (.builtin id) r) (hg : Gl c.X x) (hm : c.X.mg x = none) (hv : bootBuiltins x = some (.builtin id)) (ha : JV c n a ga)
    (lf : ∀ {G F H : Hp} {ow : Addr → Option Path} {σ : L2.St} {L : LS} {d : D} {v : V}, c.Rl G F ow σ H L → BV c.X.K F H ow d v → Post c G true F H σ (ofO (f d) L) (BD c.X.K) (r [v] H))
    (hn : x ≠ "__name__" := by decide) (hdb : (x == ("__debug__" : Str)) = false := by decide) (hs : starEach [a] c.X.env = (false, eval a c.X.env) :: starEach [] c.X.env := by rfl) (hpl : (backTo pos (starEach [] c.X.env)).any (·.1) = false := by rfl) :
    JD c n (.Call (.Name x p) [a] [] pos) (gUn f ga) := by
  obtain ⟨ta, pa, qa⟩ := ha
  exact ⟨_, pe_callB hc hg hm hv (pa_cons pa pa_nil hs) hn hdb hs hpl, jdg_call1 qa lf⟩
theorem je_callTy1 {T : String} {x : Str} {p : Pos} {r : List V → Hp → VK → Prop} {f : D → Option S} (hc : CallR c.X (.type T) r) (hg : Gl c.X x) (hm : c.X.mg x = none) (hv : bootBuiltins x = some (.type T)) (ha : JV c n a ga)
    (lf : ∀ {G F H : Hp} {ow : Addr → Option Path} {σ : L2.St} {L : LS} {d : D} {v : V}, c.Rl G F ow σ H L → BV c.X.K F H ow d v → Post c G true F H σ (ofO (f d) L) (BE c.ca c.X.K) (r [v] H))
    (hn : x ≠ "__name__" := by decide) (hdb : (x == ("__debug__" : Str)) = false := by decide) (hs : starEach [a] c.X.env = (false, eval a c.X.env) :: starEach [] c.X.env := by rfl) (hpl : (backTo pos (starEach [] c.X.env)).any (·.1) = false := by rfl) :
    JE c n (.Call (.Name x p) [a] [] pos) (gUn f ga) := by
  obtain ⟨ta, pa, qa⟩ := ha
  exact ⟨_, pe_callTy hc hg hm hv (pa_cons pa pa_nil hs) hn hdb hs hpl, jdg_call1 qa lf⟩
theorem len_core {G F H : Hp} {ow : Addr → Option Path} {σ : L2.St} {L : LS} {d : D} {v : V} (Rr : c.Rl G F ow σ H L) (hb : BV c.X.K F H ow d v) :
    Post c G true F H σ (ofO (dLen d) L) (BD c.X.K) (fun Q => ∃ (x : V) (m : Nat), [v] = [x] ∧ LenV c.X.K x H m ∧ Q (.int m) H) := by
  have fin : ∀ {m : Nat}, LenV c.X.K v H m → Post c G true F H σ (.ok (.int m) L) (BD c.X.K) (fun Q => ∃ (x : V) (m : Nat), [v] = [x] ∧ LenV c.X.K x H m ∧ Q (.int m) H) := fun {m} h =>
    (Post.val (a := PyData.int m) (b := V.int m) (B := BD c.X.K) Rr (.int _)).imp fun Q q => ⟨v, m, rfl, h, q⟩
  rcases hb with hb | ⟨l, vs, ds, rfl, rfl, h1, h2⟩
  · cases hb with
    | lst h1 h2 =>
      have := fin (.inl ⟨_, .of (Rr.exF _ _ h1), rfl⟩)
      rw [h2.len] at this
      exact this
    | tup h1 h2 =>
      have := fin (.inr ⟨_, sqt_same Rr.exF h1, rfl⟩)
      rw [h2.len] at this
      exact this
    | str w =>
      show Post c G true F H σ (ofO (if w.length ≤ sizeLine then some (PyData.int w.length) else none) L) _ _
      by_cases hw : w.length ≤ sizeLine
      · rw [if_pos hw]
        exact fin (m := w.length) ⟨hw, rfl⟩
      · rw [if_neg hw]
        trivial
    | _ => trivial
  · have := fin (.inl ⟨_, h1, rfl⟩)
    rw [h2.len] at this
    exact this
theorem jd_len {p : Pos} (hg : Gl c.X "len") (hm : c.X.mg "len" = none) (ha : JV c n a ga) (hs : starEach [a] c.X.env = (false, eval a c.X.env) :: starEach [] c.X.env := by rfl) : JD c n (.Call (.Name "len" p) [a] [] pos) (gUn dLen ga) :=
  jd_call1 call_len hg hm PySem.boot_len ha (fun Rr hb => len_core Rr hb) (by decide) (by decide) hs rfl
def dList : D → Option S
  | .list xs => some (.ol xs)
  | .tuple xs => some (.ol xs)
  | _ => none
theorem list_core {G F H : Hp} {ow : Addr → Option Path} {σ : L2.St} {L : LS} {d : D} {v : V} (Rr : c.Rl G F ow σ H L) (hb : BV c.X.K F H ow d v) :
    Post c G true F H σ (ofO (dList d) L) (BE c.ca c.X.K) (fun Q => ∃ p ys, [v] = [V.ref p] ∧ (SqL c.X.K H p ys ∨ SqT c.X.K H p ys) ∧ ∀ l, H l = none → Q (.ref l) (upd H l (.lst ys))) := by
  rcases hb with hb | ⟨l, vs, ds, rfl, rfl, h1, h2⟩
  · cases hb with
    | lst h1 h2 => exact (post_new Rr h2).imp fun Q q => ⟨_, _, rfl, .inl (.of (Rr.exF _ _ h1)), q⟩
    | tup h1 h2 => exact (post_new Rr h2).imp fun Q q => ⟨_, _, rfl, .inr (sqt_same Rr.exF h1), q⟩
    | _ => trivial
  · exact (post_new Rr h2).imp fun Q q => ⟨_, _, rfl, .inl h1, q⟩
theorem je_list {p : Pos} (hg : Gl c.X "list") (hm : c.X.mg "list" = none) (ha : JV c n a ga) (hs : starEach [a] c.X.env = (false, eval a c.X.env) :: starEach [] c.X.env := by rfl) : JE c n (.Call (.Name "list" p) [a] [] pos) (gUn dList ga) :=
  je_callTy1 call_list_of hg hm (by decide +kernel) ha (fun Rr hb => list_core Rr hb) (by decide) (by decide) hs rfl
def dTy : D → String
  | .none => "NoneType"
  | .bool _ => "bool"
  | .int _ => "int"
  | .str _ => "str"
  | .list _ => "list"
  | .tuple _ => "tuple"
  | .dict _ => "dict"
def isTy (T : String) (d : D) : Option D := (kitB (dTy d) T).map .bool
def gIsi (T : String) (ga : LS → R D) : LS → R D := gUn (isTy T) ga
theorem ty_of {K : PySem.W.Frag} {F H : Hp} {ow : Addr → Option Path} {d : D} {v : V} (s : Same F H) (hb : BV K F H ow d v) : TyX K H v (.type (dTy d)) := by
  have lst : ∀ {l : Addr} {vs : List V}, SqL K H l vs → TyX K H (.ref l) (.type "list") := fun {l vs} h => by
    rcases h with (h | ⟨o, h⟩) | ⟨o, its, m, h, hc, _⟩
    · exact .base (.lst h)
    · exact .base (.frz h)
    · exact .kList h hc
  rcases hb with hb | ⟨l, vs, ds, rfl, rfl, h1, h2⟩
  · cases hb with
    | non => exact .base .non
    | bl b => exact .base (.bl b)
    | int b => exact .base (.int b)
    | str b => exact .base (.str b)
    | lst h1 h2 => exact lst (.of (s _ _ h1))
    | tup h1 h2 =>
      rcases sqt_same s h1 with (h | ⟨o, h⟩) | ⟨o, its, m, h, hc, _⟩
      · exact .base (.tup h)
      · exact .fTuple h
      · exact .kTuple h hc
  · exact lst h1
theorem jd_isi {T : String} {t : Str} {p p3 : Pos} (hg : Gl c.X "isinstance") (hm : c.X.mg "isinstance" = none) (hgT : Gl c.X t) (hmT : c.X.mg t = none) (hvT : bootBuiltins t = some (.type T)) (ha : JV c n a ga) (hnT : t ≠ "__name__" := by decide) (hdT : (t == ("__debug__" : Str)) = false := by decide)
    (hs : starEach [a, .Name t p3] c.X.env = (false, eval a c.X.env) :: starEach [.Name t p3] c.X.env := by rfl) (hs2 : starEach [.Name t p3] c.X.env = (false, eval (.Name t p3) c.X.env) :: starEach [] c.X.env := by rfl) (hpl : (backTo pos (starEach [.Name t p3] c.X.env)).any (·.1) = false := by rfl) :
    JD c n (.Call (.Name "isinstance" p) [a, .Name t p3] [] pos) (gIsi T ga) := by
  obtain ⟨ta, pa, qa⟩ := ha
  refine ⟨_, pe_callB call_isi hg hm (by decide +kernel) (pa_cons pa (pa_cons (pe_bltn (v := .ty T) hgT hmT hvT rfl hnT hdT) pa_nil hs2) hs) (by decide) (by decide) hs hpl, fun G F ow σ H L Rr => ?_⟩
  refine (qa G F ow σ H L Rr).bind1 (t2 := fun v H1 Q => rIsi c.X.K [v, .ty T] H1 Q) fun d L1 v H1 F1 ow1 _ _ _ R1 b1 => ?_
  unfold isTy
  cases hk : kitB (dTy d) T with
  | none => trivial
  | some b => exact (Post.val (a := PyData.bool b) (b := V.bl b) (B := BD c.X.K) R1 (.bl _)).imp fun Q q => ⟨v, .ty T, _, _, b, rfl, .ty T, ty_of R1.exF b1, kit_ty hk, q⟩
def strsOf : List D → Option (List Str)
  | [] => some []
  | .str x :: r => (strsOf r).map (x :: ·)
  | _ :: _ => none
theorem strs_of {K : PySem.W.Frag} {F : Hp} : ∀ {ds : List D} {vs : List V} {ys : List Str}, DqA K F vs ds → strsOf ds = some ys → vs = ys.map V.str
  | [], _, _, .nil, h => by
    cases h
    rfl
  | d :: ds, _, _, .cons a b, h => by
    cases a with
    | str x =>
      obtain ⟨zs, h1, rfl⟩ := Option.map_eq_some_iff.mp (show (strsOf ds).map (x :: ·) = some _ from h)
      rw [strs_of b h1]
      rfl
    | _ => cases h
def joinOk (a : Str) (ys : List Str) : Bool := decide ((ys.map (·.length)).sum + ys.length * a.length ≤ 16777216)
def dJoin (d e : D) : Option D := match d, e with
  | .str a, .list ds => (strsOf ds).bind fun ys => if joinOk a ys then some (.str (Txt.join a ys)) else none
  | _, _ => none
def gTxt (k : Str → LS → R D) : D → LS → R D
  | .str a, L => k a L
  | _, _ => .stuck
def gJoin (ga gb : LS → R D) : LS → R D := fun L => (ga L).bind (gTxt fun a L1 => (gb L1).bind fun e L2 => ofO (dJoin (.str a) e) L2)
theorem jd_join {apos : Pos} (ha : JD c n1 a ga) (hb : JV c n2 b gb) (hs : starEach [b] c.X.env = [(false, eval b c.X.env)] := by rfl) (hbase : attributeBase a "join" c.X.env (eval a c.X.env) = eval a c.X.env := by rfl) (hline : (apos.endLine == pos.line) = true := by rfl) :
    JD c (n1 && n2) (.Call (.Attribute a "join" apos) [b] [] pos) (gJoin ga gb) := by
  obtain ⟨ta, pa, qa⟩ := ha
  obtain ⟨tb, pb, qb⟩ := hb
  refine ⟨_, pe_join pa pb hs hbase hline, fun G F ow σ H L Rr => ?_⟩
  refine (qa G F ow σ H L Rr).bind (t2 := fun (v : V) H1 (Q : VK) => (∃ a, v = V.str a) ∧ tb σ H1 fun y H2 => ∃ a p, ∃ ys : List Str, v = V.str a ∧ [y] = [V.ref p] ∧ (SqL c.X.K H2 p (ys.map V.str) ∨ SqT c.X.K H2 p (ys.map V.str)) ∧ (ys.map (·.length)).sum + ys.length * a.length ≤ 16777216 ∧ Q (V.str (Txt.join a ys)) H2) fun d L1 v H1 F1 ow1 _ _ _ R1 b1 => ?_
  cases b1 with
  | str sep =>
    refine Post.imp (t := fun Q => tb σ H1 fun y H2 => ∃ a p, ∃ ys : List Str, V.str sep = V.str a ∧ [y] = [V.ref p] ∧ (SqL c.X.K H2 p (ys.map V.str) ∨ SqT c.X.K H2 p (ys.map V.str)) ∧ (ys.map (·.length)).sum + ys.length * a.length ≤ 16777216 ∧ Q (V.str (Txt.join a ys)) H2) ?_ fun Q q => ⟨⟨sep, rfl⟩, q⟩
    refine (qb G F1 ow1 σ H1 L1 R1).bind1 (t2 := fun y H2 Q => ∃ a p, ∃ ys : List Str, V.str sep = V.str a ∧ [y] = [V.ref p] ∧ (SqL c.X.K H2 p (ys.map V.str) ∨ SqT c.X.K H2 p (ys.map V.str)) ∧ (ys.map (·.length)).sum + ys.length * a.length ≤ 16777216 ∧ Q (V.str (Txt.join a ys)) H2) fun e L2 u H2 F2 ow2 _ e2 _ R2 b2 => ?_
    cases hf : dJoin (.str sep) e with
    | none => trivial
    | some z =>
      cases e with
      | list ds =>
        obtain ⟨ys, h1, h2⟩ := Option.bind_eq_some_iff.mp (show (strsOf ds).bind (fun ys => if joinOk sep ys then some (PyData.str (Txt.join sep ys)) else none) = some z from hf)
        by_cases hj : joinOk sep ys = true
        · rw [if_pos hj] at h2
          cases h2
          have hl : ∃ p, u = .ref p ∧ SqL c.X.K H2 p (ys.map V.str) := by
            rcases b2 with b2 | ⟨l, vs, ds', rfl, e1, q1, q2⟩
            · cases b2 with
              | lst q1 q2 => exact ⟨_, rfl, by rw [← strs_of q2 h1]; exact .of (R2.exF _ _ q1)⟩
            · cases e1
              exact ⟨_, rfl, by rw [← strs_of q2 h1]; exact q1⟩
          obtain ⟨p, rfl, hl⟩ := hl
          exact (Post.val (a := PyData.str (Txt.join sep ys)) (B := BD c.X.K) R2 (Dq.str _)).imp fun Q q => ⟨sep, p, ys, rfl, rfl, .inl hl, of_decide_eq_true hj, q⟩
        · rw [if_neg hj] at h2
          cases h2
      | _ => cases hf
  | _ => trivial
end
end VS

namespace VS
open PySem PySem.Spec PyProof.Rows L2

inductive O where
  | nx
  | rt (s : S)
  | bk
  | ct
def Fit (c : Ct) (G F : Hp) (r : R O) (E : Ends) : Prop := match r with
  | .ok .nx L => ∀ σ' H' F' ow', Same F F' → c.Rl G F' ow' σ' H' L → E.nx σ' H'
  | .ok .bk L => ∀ σ' H' F' ow', Same F F' → c.Rl G F' ow' σ' H' L → E.bk σ' H'
  | .ok .ct L => ∀ σ' H' F' ow', Same F F' → c.Rl G F' ow' σ' H' L → E.ct σ' H'
  | .ok (.rt s) L => ∀ v σ' H' F' ow', Same F F' → c.Rl G F' ow' σ' H' L → RS c.X.K c.ca F' H' ow' [0] s v → E.rt v H'
  | .err e L => ∀ σ' H' F' ow', Same F F' → c.Rl G F' ow' σ' H' L → c.W (.ref (c.ca e)) none σ' H'
  | .stuck => False
theorem Fit.up {c : Ct} {G F F1 : Hp} {r : R O} {E : Ends} (e : Same F F1) (h : Fit c G F r E) : Fit c G F1 r E := by
  cases r with
  | stuck => exact h
  | err k L => exact fun σ' H' F' ow' e' => h σ' H' F' ow' (e.trans e')
  | ok o L => cases o with
    | nx => exact fun σ' H' F' ow' e' => h σ' H' F' ow' (e.trans e')
    | bk => exact fun σ' H' F' ow' e' => h σ' H' F' ow' (e.trans e')
    | ct => exact fun σ' H' F' ow' e' => h σ' H' F' ow' (e.trans e')
    | rt s => exact fun v σ' H' F' ow' e' => h v σ' H' F' ow' (e.trans e')
def JdgS (c : Ct) (g : LS → R O) (t : TS) : Prop := ∀ G F ow σ H L, c.Rl G F ow σ H L → ∀ E : Ends, Fit c G F (g L) E → t E σ H
def JS (c : Ct) (s : Stmt) (g : LS → R O) : Prop := ∃ t, PS c.X s t ∧ JdgS c g t
def JB (c : Ct) (s : List Stmt) (g : LS → R O) : Prop := ∃ t, PSs c.X s t ∧ JdgS c g t
def Ct.free (c : Ct) (i : Nat) : Prop := c.pb[i]? ≠ some true

section
variable {c : Ct} {n n1 n2 n3 : Bool} {a b : Expr} {ga gb : LS → R D} {pos : Pos} {st : Stmt} {rest : List Stmt} {g g1 g2 : LS → R O}
def gNext : LS → R O := fun L => .ok .nx L
def gSeq (g1 g2 : LS → R O) : LS → R O := fun L => match g1 L with
  | .ok .nx L1 => g2 L1
  | r => r
theorem jb_nil : JB c [] gNext := ⟨_, pss_nil, fun G F ow σ H L Rr E h => h σ H F ow (Same.refl F) Rr⟩
theorem jb_cons (h1 : JS c st g1) (h2 : JB c rest g2) : JB c (st :: rest) (gSeq g1 g2) := by
  obtain ⟨t, p, q⟩ := h1
  obtain ⟨t', p', q'⟩ := h2
  refine ⟨_, pss_cons p p', fun G F ow σ H L Rr E h => ?_⟩
  refine q G F ow σ H L Rr { E with nx := t' E } ?_
  unfold gSeq at h
  cases hr : g1 L with
  | stuck => rw [hr] at h; exact h
  | err k L1 => rw [hr] at h; exact h
  | ok o L1 =>
    rw [hr] at h
    cases o with
    | nx => exact fun σ' H' F' ow' e R' => q' G F' ow' σ' H' L1 R' E (Fit.up e h)
    | bk => exact h
    | ct => exact h
    | rt s => exact h
theorem jb_one (h1 : JS c st g1) : JB c [st] g1 := by
  obtain ⟨t, p, q⟩ := h1
  exact ⟨_, pss_one p, q⟩
theorem js_continue : JS c (.Continue pos) (fun L => .ok .ct L) := ⟨_, ps_continue, fun G F ow σ H L Rr E h => h σ H F ow (Same.refl F) Rr⟩
theorem Post.use {α β : Type} {G F H : Hp} {σ : L2.St} {r : R α} {k : α → LS → R O} {B : Hp → Hp → (Addr → Option Path) → α → β → Prop} {t : (β → Hp → Prop) → Prop} {E : Ends} {Q : β → Hp → Prop}
    (h : Post c G n F H σ r B t) (f : Fit c G F (r.bind k) E)
    (hq : ∀ a L1 b H1 F1 ow1, r = .ok a L1 → Same F F1 → c.Rl G F1 ow1 σ H1 L1 → B F1 H1 ow1 a b → Fit c G F1 (k a L1) E → Q b H1) : t Q := by
  cases r with
  | stuck => exact f.elim
  | err e L1 => exact h (fun H' F' ow' e' R' => f σ H' F' ow' e' R') Q
  | ok a L1 => exact h Q fun b H1 F1 ow1 e1 _ R1 b1 => hq a L1 b H1 F1 ow1 rfl e1 R1 b1 (Fit.up e1 f)
def gDrop {α : Type} (g : LS → R α) : LS → R O := fun L => (g L).bind fun _ L1 => .ok .nx L1
theorem js_expr {g : LS → R S} (h : JE c n a g) (hs : swapsWith a none pos.line c.X.env = pure false := by rfl) : JS c (.Expr a pos) (gDrop g) := by
  obtain ⟨t, p, q⟩ := h
  refine ⟨_, ps_expr p hs, fun G F ow σ H L Rr E f => ?_⟩
  exact (q G F ow σ H L Rr).use f fun s L1 v H1 F1 ow1 _ _ R1 _ f1 => f1 σ H1 F1 ow1 (Same.refl F1) R1
def gRet (g : LS → R S) : LS → R O := fun L => (g L).bind fun s L1 => .ok (.rt s) L1
theorem js_ret {g : LS → R S} (h : JE c n a g) : JS c (.Return (some a) pos) (gRet g) := by
  obtain ⟨t, p, q⟩ := h
  refine ⟨_, ps_ret p, fun G F ow σ H L Rr E f => ?_⟩
  exact (q G F ow σ H L Rr).use f fun s L1 v H1 F1 ow1 _ _ R1 b1 f1 => f1 v σ H1 F1 ow1 (Same.refl F1) R1 b1
def gRetN : LS → R O := fun L => .ok (.rt (.d .none)) L
def gIf (t : LS → R Bool) (x y : LS → R O) : LS → R O := fun L => (t L).bind fun b L1 => if b = true then x L1 else y L1
theorem js_if {e : Expr} {xs ys : List Stmt} {t : LS → R Bool} (ht : JT c n e t) (hx : JB c xs g1) (hy : JB c ys g2) : JS c (.If e xs ys pos) (gIf t g1 g2) := by
  obtain ⟨t0, p0, q0⟩ := ht
  obtain ⟨t1, p1, q1⟩ := hx
  obtain ⟨t2, p2, q2⟩ := hy
  refine ⟨_, ps_if p0 p1 p2, fun G F ow σ H L Rr E f => ?_⟩
  refine (q0 G F ow σ H L Rr).use f fun b L1 b' H1 F1 ow1 _ _ R1 b1 f1 => ?_
  cases b1
  cases b with
  | true => exact q1 G F1 ow1 σ H1 L1 R1 E f1
  | false => exact q2 G F1 ow1 σ H1 L1 R1 E f1

section
variable {G F H : Hp} {ow : Addr → Option Path} {σ : L2.St} {L : LS}
theorem pin_set {i : Nat} {v : Option V} (Rr : c.Rl G F ow σ H L) (hp : c.free i) : ∀ (k : Nat) (u : V), (pinOf c.pb c.v0)[k]? = some (some u) → (σ.set i v)[k]? = some (some u) := fun k u h => by
  have hk : i ≠ k := fun z => by
    subst z
    exact hp (pinOf_mk h).1
  rw [List.getElem?_set_ne hk]
  exact Rr.pin k u h
theorem Rl.store {i : Nat} {s : S} {v : V} (Rr : c.Rl G F ow σ H L) (rs : RS c.X.K c.ca F H ow [0] s v) (hp : c.free i) : c.Rl G F (reroot ow 0 (i + 1)) (σ.set i (some v)) H (L.set i (some s)) := by
  refine Rr.moved (by rw [List.length_set, List.length_set]; exact Rr.len) (fun k s' h => ?_) (pin_set Rr hp)
  have hlt : k < σ.length := by
    have := (List.getElem?_eq_some_iff.mp h).1
    rw [List.length_set] at this
    rw [← Rr.len]
    exact this
  rcases set_get h with ⟨rfl, hs⟩ | ⟨hk, hs⟩
  · cases Option.some.inj hs
    exact .inr ⟨v, by rw [List.getElem?_set]; simp [hlt], rs.go (Same.refl F) keeps_reroot⟩
  · exact .inl ⟨hs, List.getElem?_set_ne hk, by omega⟩
theorem Rl.storeD {i : Nat} {d : D} {v : V} (Rr : c.Rl G F ow σ H L) (q : Dq c.X.K F v d) (hp : c.free i) : c.Rl G F ow (σ.set i (some v)) H (L.set i (some (.d d))) := by
  refine ⟨Rr.exF, Rr.exG, Rr.dF, Rr.dG, by rw [List.length_set, List.length_set]; exact Rr.len, fun k s' h => ?_, pin_set Rr hp, Rr.exB, Rr.dB⟩
  have hlt : k < σ.length := by
    have := (List.getElem?_eq_some_iff.mp h).1
    rw [List.length_set] at this
    rw [← Rr.len]
    exact this
  rcases set_get h with ⟨rfl, hs⟩ | ⟨hk, hs⟩
  · cases Option.some.inj hs
    exact ⟨v, by rw [List.getElem?_set]; simp [hlt], RT.of (.d q)⟩
  · obtain ⟨u, h1, h2⟩ := Rr.sl k s' hs
    exact ⟨u, (List.getElem?_set_ne hk).trans h1, h2⟩
theorem Rl.put {i : Nat} {l : Addr} {o : HO} {q : Path} {s : S} (Rr : c.Rl G F ow σ H L) (ho : ow l = some ((i + 1) :: q)) (new : ∃ v, σ[i]? = some (some v) ∧ RS c.X.K c.ca F (upd H l o) ow [i + 1] s v) (hk : ¬ kT o := by first | exact kT_lst | exact kT_dK | exact kT_dT | exact kT_ins) : c.Rl G F ow σ (upd H l o) (L.set i (some s)) := by
  obtain ⟨f0, g0, h0⟩ := Rr.dF l _ ho
  refine ⟨fun a u h => ?_, fun a u h => ?_, fun a p h => ?_, Rr.dG, by rw [List.length_set]; exact Rr.len, fun k s' h => ?_, Rr.pin, fun a u h => ?_, Rr.dB⟩
  · rw [upd_ne (ne_of_none h f0)]
    exact Rr.exF a u h
  · rw [upd_ne (ne_of_none h g0)]
    exact Rr.exG a u h
  · obtain ⟨x, y, z⟩ := Rr.dF a p h
    refine ⟨x, y, ?_⟩
    by_cases e : a = l
    · subst e
      rw [upd_same]
      exact .of hk
    · rw [upd_ne e]
      exact z
  · rcases set_get h with ⟨rfl, hs⟩ | ⟨hk, hs⟩
    · cases Option.some.inj hs
      obtain ⟨v, w1, w2⟩ := new
      exact ⟨v, w1, RT.of w2⟩
    · obtain ⟨u, h1, h2⟩ := Rr.sl k s' hs
      refine ⟨u, h1, h2.go (Same.refl F) fun a w e => ⟨upd_ne fun z => ?_, e⟩⟩
      subst z
      rw [ho] at e
      injection e with e
      injection e with e _
      omega
  · rw [upd_ne (ne_of_none h (Rr.dB l _ ho))]
    exact Rr.exB a u h
end
def gAsg (i : Nat) (g : LS → R S) : LS → R O := fun L => (g L).bind fun s L1 => .ok .nx (L1.set i (some s))
theorem jdgS_asg {i : Nat} {g : LS → R S} {t : TE} (hp : c.free i) (q : Jdg c n g (BE c.ca) t) : JdgS c (gAsg i g) (tAsg t (L2.gName i)) := fun G F ow σ H L Rr E f =>
  (q G F ow σ H L Rr).use f fun s L1 v H1 F1 ow1 _ _ R1 b1 f1 => f1 _ H1 F1 _ (Same.refl F1) (Rl.store R1 b1 hp)
theorem js_set (i : Nat) {x : Str} {g : LS → R S} {pos' : Pos} (hN : c.X.N.Nodup) (hi : c.X.N[i]? = some x) (hx : Loc c.X.env.scope x) (hp : c.free i) (h : JE c n a g) (hs : swapsWith a (some (.Name x pos')) pos.line c.X.env = pure false := by rfl)
    (hf : c.X.fn x = true ∨ c.X.env.scope.names.lookup x = some .local := by first | exact .inl rfl | exact .inr rfl | assumption) : JS c (.Assign [.Name x pos'] a pos) (gAsg i g) := by
  obtain ⟨t, p, q⟩ := h
  exact ⟨_, ps_set hN hi hx p hs hf, jdgS_asg hp q⟩

def OutOf (ws : List Nat) (σ σ' : L2.St) : Prop := σ'.length = σ.length ∧ ∀ k, k ∉ ws → σ'[k]? = σ[k]?
def JG (c : Ct) (tg : Expr) (ws : List Nat) (f : D → LS → Option LS) : Prop := ∃ t, PG c.X tg t ∧ ∀ G F ow σ H L d v L', c.Rl G F ow σ H L → Dq c.X.K F v d → f d L = some L' → ∀ Q : L2.St → Hp → Prop, (∀ σ', OutOf ws σ σ' → c.Rl G F ow σ' H L' → Q σ' H) → t v σ H Q
def JGs (c : Ct) (tgs : List Expr) (ws : List Nat) (f : List D → LS → Option LS) : Prop := ∃ t, PGs c.X tgs t ∧ ∀ G F ow σ H L ds vs L', c.Rl G F ow σ H L → DqA c.X.K F vs ds → f ds L = some L' → ∀ Q : L2.St → Hp → Prop, (∀ σ', OutOf ws σ σ' → c.Rl G F ow σ' H L' → Q σ' H) → t vs σ H Q
def fName (i : Nat) : D → LS → Option LS := fun d L => some (L.set i (some (.d d)))
theorem jg_name (i : Nat) {x : Str} (hp : c.free i) (h : PG c.X (.Name x pos) (L2.gName i)) : JG c (.Name x pos) [i] (fName i) :=
  ⟨_, h, fun G F ow σ H L d v L' Rr q e Q k => by
    cases e
    refine k _ ⟨List.length_set .., fun k hk => List.getElem?_set_ne fun z => hk ?_⟩ (Rl.storeD Rr q hp)
    rw [z]
    exact List.mem_singleton.mpr rfl⟩
def fNil : List D → LS → Option LS
  | [], L => some L
  | _ :: _, _ => none
def fCons (f : D → LS → Option LS) (r : List D → LS → Option LS) : List D → LS → Option LS
  | d :: ds, L => (f d L).bind (r ds)
  | [], _ => none
theorem jgs_nil : JGs c [] [] fNil := ⟨_, pgs_nil, fun G F ow σ H L ds vs L' Rr q e Q k => by
  cases q with
  | nil =>
    cases e
    exact ⟨rfl, k σ ⟨rfl, fun _ _ => rfl⟩ Rr⟩
  | cons _ _ => cases e⟩
theorem jgs_cons {e : Expr} {es : List Expr} {ws vs : List Nat} {f : D → LS → Option LS} {r : List D → LS → Option LS} (h1 : JG c e ws f) (h2 : JGs c es vs r) (hs : (assignEach (e :: es) c.X.env).map (·.2) = assign e c.X.env :: (assignEach es c.X.env).map (·.2) := by rfl) : JGs c (e :: es) (ws ++ vs) (fCons f r) := by
  obtain ⟨t, p, q⟩ := h1
  obtain ⟨t', p', q'⟩ := h2
  refine ⟨_, pgs_cons p p' hs, fun G F ow σ H L ds vs L' Rr hd e Q k => ?_⟩
  cases hd with
  | nil => cases e
  | cons h1 h2 =>
    obtain ⟨L1, e1, e2⟩ := Option.bind_eq_some_iff.mp e
    refine ⟨_, _, rfl, q G F ow σ H L _ _ L1 Rr h1 e1 _ fun σ' o1 R' => q' G F ow σ' H L1 _ _ L' R' h2 e2 Q fun σ2 o2 R2 => k σ2 ⟨o2.1.trans o1.1, fun k hk => ?_⟩ R2⟩
    rw [List.mem_append, not_or] at hk
    exact (o2.2 k hk.2).trans (o1.2 k hk.1)
def fTup (m : Nat) (f : List D → LS → Option LS) : D → LS → Option LS
  | .tuple ds, L => if ds.length = m then f ds L else none
  | _, _ => none
theorem jg_tup {es : List Expr} {k m : Nat} {ws : List Nat} {f : List D → LS → Option LS} (hc : c.X.calm = true) (h : JGs c es ws f) (hm : (assignEach es c.X.env).length = m := by rfl) (hst : (assignEach es c.X.env).findIdx? (·.1) = none := by rfl) : JG c (.Tuple es k pos) ws (fTup m f) := by
  obtain ⟨t, p, q⟩ := h
  refine ⟨_, pg_tup hc p hm hst, fun G F ow σ H L d v L' Rr hd e Q k => ?_⟩
  cases hd with
  | tup h1 h2 =>
    rename_i l vs ds
    have e : (if ds.length = m then f ds L else none) = some L' := e
    by_cases hl : ds.length = m
    · rw [if_pos hl] at e
      exact ⟨l, vs, rfl, sqt_same Rr.exF h1, h2.len.trans hl, q G F ow σ H L ds vs L' Rr h2 e Q k⟩
    · rw [if_neg hl] at e
      cases e
  | _ => cases e
def gAsgT (f : D → LS → Option LS) (g : LS → R D) : LS → R O := fun L => (g L).bind fun d L1 => match f d L1 with
  | some L2 => .ok .nx L2
  | none => .stuck
theorem js_asg {tg : Expr} {ws : List Nat} {f : D → LS → Option LS} (ht : JG c tg ws f) (h : JD c n a ga) (hs : swapsWithSole [tg] a pos.line c.X.env = pure false := by rfl) (hw : swappedStores [tg] a c.X.env = pure none := by rfl)
    (h1 : (assignEach [tg] c.X.env).map (·.2) = [assign tg c.X.env] := by rfl) : JS c (.Assign [tg] a pos) (gAsgT f ga) := by
  obtain ⟨t, p, q⟩ := h
  obtain ⟨t', p', q'⟩ := ht
  refine ⟨_, ps_asg p p' hs hw h1, fun G F ow σ H L Rr E ft => ?_⟩
  refine (q G F ow σ H L Rr).use ft fun d L1 v H1 F1 ow1 _ _ R1 b1 f1 => ?_
  cases hf : f d L1 with
  | none => rw [hf] at f1; exact f1.elim
  | some L2 =>
    rw [hf] at f1
    exact q' G F1 ow1 σ H1 L1 d v L2 R1 b1 hf _ fun σ' _ R' => f1 σ' H1 F1 ow1 (Same.refl F1) R'

def gOwnL (i : Nat) (k : List D → LS → R S) : LS → R S := fun L => match L[i]? with
  | some (some (.ol ds)) => k ds L
  | _ => .stuck
theorem ownL_at {G F H : Hp} {ow : Addr → Option Path} {σ : L2.St} {L : LS} {i : Nat} {ds : List D} (Rr : c.Rl G F ow σ H L) (h : L[i]? = some (some (.ol ds))) :
    ∃ l vs, σ[i]? = some (some (.ref l)) ∧ H l = some (.lst vs) ∧ ow l = some [i + 1] ∧ DqA c.X.K F vs ds := by
  obtain ⟨v, hv, rs⟩ := Rr.sl i _ h
  cases rs with
  | ol a b q => exact ⟨_, _, hv, a, b, q⟩
theorem Rl.putL {G F H : Hp} {ow : Addr → Option Path} {σ : L2.St} {L : LS} {i : Nat} {l : Addr} {vs : List V} {ds : List D} (Rr : c.Rl G F ow σ H L) (hv : σ[i]? = some (some (.ref l))) (ho : ow l = some [i + 1]) (q : DqA c.X.K F vs ds) :
    c.Rl G F ow σ (upd H l (.lst vs)) (L.set i (some (.ol ds))) := Rl.put Rr ho ⟨_, hv, .ol upd_same ho q⟩
def gApp (i : Nat) (g : LS → R D) : LS → R S := gOwnL i fun _ L => (g L).bind fun d L1 => gOwnL i (fun ds L2 => if ds.length < sizeLine then .ok (.d .none) (L2.set i (some (.ol (ds ++ [d])))) else .stuck) L1
theorem je_append (i : Nat) {x : Str} {p apos : Pos} (h : PE c.X (.Name x p) (tVar i)) (ha : JD c n a ga)
    (hbase : attributeBase (.Name x p) "append" c.X.env (eval (.Name x p) c.X.env) = eval (.Name x p) c.X.env := by rfl)
    (hfew : ((backTo pos (starEach [a] c.X.env)).all (fun x => !x.1) && (backToKw pos (keywordEach [] c.X.env)).all (fun x => x.1.isSome) && decide ([a].length + ([] : List Keyword).length + (if ([] : List Keyword).isEmpty then 0 else 1) < 30)) = true := by rfl)
    (hline : (apos.endLine == pos.line) = true := by rfl) (hs : starEach [a] c.X.env = (false, eval a c.X.env) :: starEach [] c.X.env := by rfl) (hplain : (backTo pos (starEach [] c.X.env)).any (·.1) = false := by rfl) :
    JE c false (.Call (.Attribute (.Name x p) "append" apos) [a] [] pos) (gApp i ga) := by
  obtain ⟨ta, pa, qa⟩ := ha
  refine ⟨_, pe_bm PySem.F.plainAttrs_list PySem.F.slot_list_append PySem.F.type_list_append mt_append h (pa_cons pa pa_nil hs) hbase hfew hline hs hplain, fun G F ow σ H L Rr => ?_⟩
  unfold gApp gOwnL
  cases hL : L[i]? with
  | none => trivial
  | some o =>
    cases o with
    | none => trivial
    | some s =>
      cases s with
      | ol ds0 =>
        obtain ⟨l, vs0, hv, h0, _, _⟩ := ownL_at Rr hL
        have key := (qa G F ow σ H L Rr).bind (n2 := false) (k := fun d L1 => gOwnL i (fun ds L2 => if ds.length < sizeLine then R.ok (S.d .none) (L2.set i (some (.ol (ds ++ [d])))) else .stuck) L1) (B2 := BE c.ca c.X.K) (t2 := fun y H1 Q => rAppend (.ref l) [y] H1 Q)
          fun d L1 v H1 F1 ow1 _ _ _ R1 b1 => by
            unfold gOwnL
            cases hL1 : L1[i]? with
            | none => trivial
            | some o =>
              cases o with
              | none => trivial
              | some s =>
                cases s with
                | ol ds =>
                  obtain ⟨l', vs, hv', h1, h2, h3⟩ := ownL_at R1 hL1
                  rw [hv] at hv'
                  cases hv'
                  refine Post.guard fun hz => ?_
                  intro Q q
                  exact ⟨l, vs, v, rfl, rfl, h1, by rw [h3.len]; exact hz, q _ _ F1 ow1 (Same.refl F1) (fun z => nomatch z) (Rl.putL R1 hv h2 (h3.append (.one b1))) (.d .non)⟩
                | _ => trivial
        rw [Bool.and_false] at key
        exact key.imp fun Q q => ⟨_, hv, .inl ⟨rfl, _, .of h0⟩, q⟩
      | _ => trivial
def setAt (i : Nat) (d : D) : D → LS → R O
  | .int k, L => (match L[i]? with
    | some (some (.ol ds)) => (match ixN ds.length k with
      | some j => .ok .nx (L.set i (some (.ol (ds.set j d))))
      | none => .stuck)
    | _ => .stuck)
  | _, _ => .stuck
def gSetIx (i : Nat) (gk g : LS → R D) : LS → R O := fun L => (g L).bind fun d L1 => match L1[i]? with
  | some (some _) => (gk L1).bind (setAt i d)
  | _ => .stuck
theorem js_setIx (i : Nat) {x : Str} {k : Expr} {gk : LS → R D} {p p3 : Pos} (h : PE c.X (.Name x p) (tVar i)) (hk : JD c n1 k gk) (ha : JD c n2 a ga)
    (hb : ∀ v, assign (.Subscript (.Name x p) k p3) c.X.env v = (do
      let ov ← holding [v] (eval (.Name x p) c.X.env)
      let iv ← holding [v, ov] (eval k c.X.env)
      standAt p3
      holding [v, ov, iv] (setItem ov iv v)
      release [v, ov, iv] []) := by intro _; rfl)
    (hs : swapsWithSole [.Subscript (.Name x p) k p3] a pos.line c.X.env = pure false := by rfl) (hw : swappedStores [.Subscript (.Name x p) k p3] a c.X.env = pure none := by rfl) (h1 : (assignEach [.Subscript (.Name x p) k p3] c.X.env).map (·.2) = [assign (.Subscript (.Name x p) k p3) c.X.env] := by rfl) :
    JS c (.Assign [.Subscript (.Name x p) k p3] a pos) (gSetIx i gk ga) := by
  obtain ⟨ta, pa, qa⟩ := ha
  obtain ⟨tk, pk, qk⟩ := hk
  refine ⟨_, ps_asg pa (pg_sub h pk set_list hb) hs hw h1, fun G F ow σ H L Rr E ft => ?_⟩
  refine (qa G F ow σ H L Rr).use ft fun d L1 v H1 F1 ow1 _ _ R1 b1 f1 => ?_
  cases hL : L1[i]? with
  | none => rw [hL] at f1; exact f1.elim
  | some o =>
    rw [hL] at f1
    cases o with
    | none => exact f1.elim
    | some s =>
      obtain ⟨u, hu, _⟩ := R1.sl i s hL
      refine ⟨u, hu, ?_⟩
      refine (qk G F1 ow1 σ H1 L1 R1).use f1 fun e L2 w H2 F2 ow2 _ e2 R2 b2 f2 => ?_
      cases b2 with
      | int m =>
        have f2 : Fit c G F2 (match L2[i]? with
          | some (some (.ol ds)) => (match ixN ds.length m with
            | some j => R.ok .nx (L2.set i (some (.ol (ds.set j d))))
            | none => .stuck)
          | _ => .stuck) E := f2
        cases hL2 : L2[i]? with
        | none => rw [hL2] at f2; exact f2.elim
        | some o =>
          rw [hL2] at f2
          cases o with
          | none => exact f2.elim
          | some s =>
            cases s with
            | ol ds =>
              obtain ⟨l, vs, hv', h1', h2, h3⟩ := ownL_at R2 hL2
              rw [hu] at hv'
              cases hv'
              dsimp only at f2
              cases hj : ixN ds.length m with
              | none => rw [hj] at f2; exact f2.elim
              | some j =>
                rw [hj] at f2
                exact ⟨l, vs, m, j, rfl, rfl, h1', by rw [h3.len]; exact hj, f2 _ _ F2 ow2 (Same.refl F2) (Rl.putL R2 hu h2 (h3.set (b1.up e2) j))⟩
            | _ => exact f2.elim
      | _ => exact f2.elim

def ItOk (K : PySem.W.Frag) (F : Hp) (ds : List D) (J : It) : Prop := ∀ (i : Nat) (H : Hp), Same F H → (ds.length ≤ i → J.stop i H) ∧ ∀ d, ds[i]? = some d → J.go i H ∧ ∀ x H', J.yld i H x H' →
  (H' = H ∧ Dq K F x d) ∨ ∃ p vs es, d = .tuple es ∧ x = .ref p ∧ H p = none ∧ H' = upd H p (.tup vs) ∧ DqA K F vs es
theorem ItOk.up {K : PySem.W.Frag} {F F' : Hp} {ds : List D} {J : It} (e : Same F F') (h : ItOk K F ds J) : ItOk K F' ds J := fun i H s => by
  obtain ⟨h1, h2⟩ := h i H (e.trans s)
  refine ⟨h1, fun d hd => ?_⟩
  obtain ⟨h3, h4⟩ := h2 d hd
  refine ⟨h3, fun x H' y => ?_⟩
  rcases h4 x H' y with ⟨a, b⟩ | ⟨p, vs, es, a, b, c, d, q⟩
  · exact .inl ⟨a, b.up e⟩
  · exact .inr ⟨p, vs, es, a, b, c, d, q.up e⟩
def BI : PySem.W.Frag → Hp → Hp → (Addr → Option Path) → List D → It → Prop := fun K F _ _ ds J => ItOk K F ds J
def JI (c : Ct) (n : Bool) (tg iter : Expr) (g : LS → R (List D)) : Prop := ∃ wi, PI c.X tg iter wi ∧ Jdg c n g BI wi
def asL : D → LS → R (List D)
  | .list ds, L => .ok ds L
  | _, _ => .stuck
def asT : D → LS → R (List D)
  | .tuple ds, L => .ok ds L
  | _, _ => .stuck
variable {tg : Expr}
def intsD (lo : Int) (m : Nat) : List D := (List.range m).map fun i => PyData.int (lo + (i : Nat))
theorem intsD_len (lo : Int) (m : Nat) : (intsD lo m).length = m := by
  unfold intsD
  rw [List.length_map, List.length_range]
theorem itr_ok {K : PySem.W.Frag} {F : Hp} {lo : Int} {m : Nat} : ItOk K F (intsD lo m) (Itr lo m) := fun i H s => by
  rw [intsD_len]
  refine ⟨fun h => h, fun d hd => ?_⟩
  have hi : i < m := by
    have := (List.getElem?_eq_some_iff.mp hd).1
    rw [intsD_len] at this
    exact this
  unfold intsD at hd
  rw [List.getElem?_map, List.getElem?_range hi] at hd
  cases hd
  exact ⟨hi, fun x H' ⟨e1, e2⟩ => .inl ⟨e1, by rw [e2]; exact .int _⟩⟩
def rng1 : List D → LS → R (List D)
  | [.int j], L => if -(2 ^ 62) ≤ j ∧ j < 2 ^ 62 then .ok (intsD 0 j.toNat) L else .stuck
  | _, _ => .stuck
def rng2 : List D → LS → R (List D)
  | [.int i, .int j], L => if -(2 ^ 62) ≤ i ∧ i < 2 ^ 62 ∧ -(2 ^ 62) ≤ j ∧ j < 2 ^ 62 then .ok (intsD i (j - i).toNat) L else .stuck
  | _, _ => .stuck
theorem ji_range1 {gs : LS → R (List D)} {p : Pos} (hg : Gl c.X "range") (hm : c.X.mg "range" = none) (h : JA c n [a] gs) (hs : starEach [a] c.X.env = [(false, eval a c.X.env)] := by rfl) : JI c n tg (.Call (.Name "range" p) [a] [] pos) (fun L => (gs L).bind rng1) := by
  obtain ⟨t, pa, q⟩ := h
  refine ⟨_, pi_range1 hg hm pa hs, fun G F ow σ H L Rr => (q G F ow σ H L Rr).bind1 (t2 := fun vs H1 Q => ∃ j : Int, vs = [V.int j] ∧ -(2 ^ 62) ≤ j ∧ j < 2 ^ 62 ∧ Q (Itr 0 j.toNat) H1) fun ds L1 vs H1 F1 ow1 _ _ _ R1 b1 => ?_⟩
  cases b1 with
  | nil => trivial
  | cons x y =>
    cases y with
    | cons _ _ => cases x <;> trivial
    | nil =>
      cases x with
      | int j => exact Post.guard fun hj => (Post.val (a := intsD 0 j.toNat) (b := Itr 0 j.toNat) (B := BI c.X.K) R1 itr_ok).imp fun Q q => ⟨j, rfl, hj.1, hj.2, q⟩
      | _ => trivial
theorem ji_range2 {gs : LS → R (List D)} {p : Pos} (hg : Gl c.X "range") (hm : c.X.mg "range" = none) (h : JA c n [a, b] gs) (hs : starEach [a, b] c.X.env = [(false, eval a c.X.env), (false, eval b c.X.env)] := by rfl) (hs2 : starEach [b] c.X.env = [(false, eval b c.X.env)] := by rfl) : JI c n tg (.Call (.Name "range" p) [a, b] [] pos) (fun L => (gs L).bind rng2) := by
  obtain ⟨t, pa, q⟩ := h
  refine ⟨_, pi_range2 hg hm pa hs hs2, fun G F ow σ H L Rr => (q G F ow σ H L Rr).bind1 (t2 := fun vs H1 Q => ∃ i j : Int, vs = [V.int i, V.int j] ∧ (-(2 ^ 62) ≤ i ∧ i < 2 ^ 62 ∧ -(2 ^ 62) ≤ j ∧ j < 2 ^ 62) ∧ Q (Itr i (j - i).toNat) H1) fun ds L1 vs H1 F1 ow1 _ _ _ R1 b1 => ?_⟩
  cases b1 with
  | nil => trivial
  | cons x y =>
    cases y with
    | nil => cases x <;> trivial
    | cons y z =>
      cases z with
      | cons _ _ => cases x <;> cases y <;> trivial
      | nil =>
        cases x with
        | int i =>
          cases y with
          | int j => exact Post.guard fun hj => (Post.val (a := intsD i (j - i).toNat) (b := Itr i (j - i).toNat) (B := BI c.X.K) R1 itr_ok).imp fun Q q => ⟨i, j, rfl, hj, q⟩
          | _ => trivial
        | _ => cases y <;> trivial
def forGo (f : D → LS → Option LS) (g : LS → R O) : List D → LS → R O
  | [], L => .ok .nx L
  | d :: ds, L => match f d L with
    | none => .stuck
    | some L1 => match g L1 with
      | .ok .nx L2 => forGo f g ds L2
      | .ok .ct L2 => forGo f g ds L2
      | .ok .bk L2 => .ok .nx L2
      | r => r
def gFor (gi : LS → R (List D)) (f : D → LS → Option LS) (g : LS → R O) : LS → R O := fun L => (gi L).bind fun ds L1 => forGo f g ds L1
theorem js_for {ws : List Nat} {iter : Expr} {body : List Stmt} {gi : LS → R (List D)} {f : D → LS → Option LS} (hp : PassesOwn (model c.X.prog c.X.w) c.X.A c.X.env c.X.xe) (hc : c.X.calm = true) (hi : JI c n tg iter gi) (hg : JG c tg ws f) (hb : JB c body g)
    (hs : ∀ x, foldedSetIterable iter c.X.env x = pure x := by intro _; rfl) : JS c (.For tg iter body [] pos) (gFor gi f g) := by
  obtain ⟨wi, p1, q1⟩ := hi
  obtain ⟨tt, p2, q2⟩ := hg
  obtain ⟨tb, p3, q3⟩ := hb
  refine ⟨_, ps_for hp hc p1 p2 p3 hs, fun G F ow σ H L Rr E ft => ?_⟩
  refine (q1 G F ow σ H L Rr).use ft fun ds L1 J H1 F1 ow1 _ _ R1 b1 f1 => ?_
  refine ⟨fun i m σ H => m = ds.length - i ∧ i ≤ ds.length ∧ ∃ F' ow' L', Same F1 F' ∧ c.Rl G F' ow' σ H L' ∧ Fit c G F' (forGo f g (ds.drop i) L') E, ⟨ds.length, rfl, Nat.zero_le _, F1, ow1, L1, Same.refl F1, R1, f1⟩, fun i m σ2 H2 hW => ?_⟩
  obtain ⟨rfl, hi, F2, ow2, L2, e2, R2, f2⟩ := hW
  obtain ⟨k1, k2⟩ := (ItOk.up e2 b1) i H2 R2.exF
  by_cases hlt : i < ds.length
  · have hd : ds[i]? = some ds[i] := List.getElem?_eq_getElem hlt
    obtain ⟨k3, k4⟩ := k2 _ hd
    rw [List.drop_eq_getElem_cons hlt] at f2
    refine .inr ⟨k3, fun σ' H' => ∃ F' ow' L', Same F1 F' ∧ c.Rl G F' ow' σ' H' L' ∧ Fit c G F' (forGo f g (ds.drop (i + 1)) L') E, fun σ' H' ⟨F', ow', L', w1, w2, w3⟩ => ⟨ds.length - (i + 1), by omega, rfl, hlt, F', ow', L', w1, w2, w3⟩, fun x H' y => ?_⟩
    have step : ∀ {F3 : Hp} {H3 : Hp}, Same F2 F3 → c.Rl G F3 ow2 σ2 H3 L2 → Dq c.X.K F3 x ds[i] → tt x σ2 H3 fun σ4 H4 => tb { nx := fun σ' H' => ∃ F' ow' L', Same F1 F' ∧ c.Rl G F' ow' σ' H' L' ∧ Fit c G F' (forGo f g (ds.drop (i + 1)) L') E, rt := E.rt, bk := E.nx, ct := fun σ' H' => ∃ F' ow' L', Same F1 F' ∧ c.Rl G F' ow' σ' H' L' ∧ Fit c G F' (forGo f g (ds.drop (i + 1)) L') E } σ4 H4 := fun {F3 H3} e3 R3 hx => by
      have f3 : Fit c G F3 (forGo f g (ds[i] :: ds.drop (i + 1)) L2) E := Fit.up e3 f2
      unfold forGo at f3
      cases hf : f ds[i] L2 with
      | none => rw [hf] at f3; exact f3.elim
      | some L3 =>
        rw [hf] at f3
        refine q2 G F3 ow2 σ2 H3 L2 _ x L3 R3 hx hf _ fun σ4 _ R4 => ?_
        refine q3 G F3 ow2 σ4 H3 L3 R4 _ ?_
        dsimp only at f3
        cases hr : g L3 with
        | stuck => rw [hr] at f3; exact f3.elim
        | err k L4 => rw [hr] at f3; exact f3
        | ok o L4 =>
          rw [hr] at f3
          cases o with
          | nx => exact fun σ' H' F' ow' e' R' => ⟨F', ow', L4, (e2.trans e3).trans e', R', Fit.up e' f3⟩
          | ct => exact fun σ' H' F' ow' e' R' => ⟨F', ow', L4, (e2.trans e3).trans e', R', Fit.up e' f3⟩
          | bk => exact f3
          | rt s => exact f3
    rcases k4 x H' y with ⟨rfl, hx⟩ | ⟨p, vs, es, he, rfl, hp', rfl, hq⟩
    · exact step (Same.refl F2) R2 hx
    · obtain ⟨w1, w2, w3⟩ := R2.newF (o := .tup vs) hp'
      rw [he] at step
      exact step w1 w3 (.tup upd_same (hq.up w1))
  · have hl : ds.length ≤ i := Nat.le_of_not_lt hlt
    rw [List.drop_eq_nil_of_le hl] at f2
    exact .inl ⟨k1 hl, f2 σ2 H2 F2 ow2 (Same.refl F2) R2⟩
end
end VS

namespace VS
open PySem PySem.Spec PyProof.Rows L2

def maskL : List Bool → LS → LS
  | b :: bs, o :: L => (if b then o else none) :: maskL bs L
  | _ :: bs, [] => none :: maskL bs []
  | [], _ => []
def endOf (md : List Bool) : R O → R S
  | .ok .nx L => .ok (.d .none) (maskL md L)
  | .ok (.rt s) L => .ok s (maskL md L)
  | .ok _ _ => .stuck
  | .err e L => .err e (maskL md L)
  | .stuck => .stuck
def runDef (md : List Bool) (N : Nat) (g : LS → R O) : LS → R S := fun ss => endOf md (g (ss ++ List.replicate (N - ss.length) none))
def VSp (K : PySem.W.Frag) (ca : Nat → Addr) (md : List Bool) (m : LS → R S) : Sp := fun vs H Q E => ∃ B G F ow ss, ss.length = md.length ∧ Rl K ca B [] G F ow (vs.map some) H ss ∧ match m ss with
  | .ok s L => ∀ v H' F' ow', Same F F' → Rl K ca B [] G F' ow' (vs.map some) H' L → RS K ca F' H' ow' [0] s v → Q v H'
  | .err e L => ∀ H' F' ow', Same F F' → Rl K ca B [] G F' ow' (vs.map some) H' L → E (.ref (ca e)) none H'
  | .stuck => False
theorem VSp.len {K : PySem.W.Frag} {ca : Nat → Addr} {md : List Bool} {m : LS → R S} {vs : List V} {H : Hp} {Q : VK} {E : XK} (h : VSp K ca md m vs H Q E) : vs.length = md.length := by
  obtain ⟨B, G, F, ow, ss, h1, h2, _⟩ := h
  have := h2.len
  rw [List.length_map] at this
  omega
theorem maskL_get : ∀ {md : List Bool} {L : LS} {i : Nat} {s : S}, (maskL md L)[i]? = some (some s) → md[i]? = some true ∧ L[i]? = some (some s)
  | b :: bs, o :: L, 0, s, h => by
    have h' : (if b then o else none) = some s := Option.some.inj h
    cases b with
    | true => exact ⟨rfl, congrArg some h'⟩
    | false => cases h'
  | b :: bs, o :: L, i + 1, s, h => maskL_get (md := bs) (L := L) (i := i) h
  | b :: bs, [], 0, s, h => by cases h
  | b :: bs, [], i + 1, s, h => by
    have := (maskL_get (md := bs) (L := []) (i := i) (s := s) h).2
    cases this
  | [], _, _, _, h => by cases h
theorem maskL_len : ∀ (md : List Bool) (L : LS), (maskL md L).length = md.length
  | [], L => by cases L <;> rfl
  | b :: bs, [] => by
    show (maskL bs []).length + 1 = _
    rw [maskL_len bs []] <;> rfl
  | b :: bs, o :: L => by
    show (maskL bs L).length + 1 = _
    rw [maskL_len bs L] <;> rfl
section
variable {P : Program} {w : World} {K : PySem.W.Frag} {mg : Str → Option Value} {base : Heap} {ca : Nat → Addr}
abbrev ctOf (P : Program) (w : World) (K : PySem.W.Frag) (mg : Str → Option Value) (base : Heap) (ca : Nat → Addr) (N : List Str) (qual : Str) (sc : Scope) (f : Addr) (cdv : Value) (A : Around) (outer : List Env) (s : Shared) (H : Hp) (E : XK) (md : List Bool) (vs : List V) (B : Hp := fun _ => none) : Ct :=
  ⟨cxOf (L2.CX P w) P w K mg base N qual sc f cdv A outer s H E, fun cls d _ H => E cls d H, ca, md, vs, B⟩
theorem vf_of {x qual : Str} {st : Stmt} {f : Addr} {fd : FuncData} {N ps : List Str} {k : Nat} {md : List Bool} {g : LS → R O} (F : Fun K x qual st f fd) (S : FnScope N ps (defScope st)) (hmd : md.length = ps.length) (hN : ps.length ≤ N.length)
    (hb : ∀ (cdv : Value) (A : Around) (outer : List Env) (s : Shared) (H : Hp) (E : XK) (vs : List V), Room k (A.deeper (envOfC qual (defScope st) s.heap.objs.size f cdv)) → ∀ B : Hp, JB (ctOf P w K mg base ca N qual (defScope st) f cdv A outer s H E md vs B) (defBody st) g) :
    FnOk P w K mg base (L2.CX P w) (k + 1) f fd ps (VSp K ca md (runDef md N.length g)) := by
  refine F.okX S (fun vs H Q E h => h.len.trans hmd) (fun cdv A outer s H vs Q E hr h => ?_)
  have hlen : vs.length = md.length := h.len
  obtain ⟨B, G, F0, ow, ss, h1, h2, h3⟩ := h
  obtain ⟨t, ht, hq⟩ := hb cdv A outer s H E vs hr B
  refine ⟨t, ht, ?_⟩
  have hlv : ss.length = vs.length := by
    have := h2.len
    rw [List.length_map] at this
    exact this
  have pinv : ∀ (i : Nat) (v : V), (pinOf md vs)[i]? = some (some v) → (vs.map some)[i]? = some (some v) := fun i v h => by
    rw [List.getElem?_map, (pinOf_mk h).2]
    rfl
  have R0 : Rl K ca B (pinOf md vs) G F0 ow (L2.start N vs) H (ss ++ List.replicate (N.length - ss.length) none) := by
    refine ⟨h2.exF, h2.exG, h2.dF, h2.dG, ?_, fun i s0 hi => ?_, fun i v hi => ?_, h2.exB, h2.dB⟩
    · unfold L2.start
      rw [List.length_append, List.length_append, List.length_replicate, List.length_replicate, List.length_map, hlv]
    · have hlt : i < ss.length := by
        by_cases z : i < ss.length
        · exact z
        · rw [List.getElem?_append_right (Nat.le_of_not_lt z), List.getElem?_replicate] at hi
          split at hi <;> cases hi
      rw [List.getElem?_append_left hlt] at hi
      obtain ⟨v, q1, q2⟩ := h2.sl i s0 hi
      refine ⟨v, ?_, q2⟩
      unfold L2.start
      rw [List.getElem?_append_left (by rw [List.length_map]; omega)]
      exact q1
    · have q := pinv i v hi
      unfold L2.start
      rw [List.getElem?_append_left (List.getElem?_eq_some_iff.mp q).1]
      exact q
  have back : ∀ {σ' : L2.St} {H' F' : Hp} {ow' : Addr → Option Path} {L : LS}, Rl K ca B (pinOf md vs) G F' ow' σ' H' L → Rl K ca B [] G F' ow' (vs.map some) H' (maskL md L) := fun {σ' H' F' ow' L} r => by
    refine ⟨r.exF, r.exG, r.dF, r.dG, ?_, fun i s0 hi => ?_, (fun i v hi => nomatch hi), r.exB, r.dB⟩
    · rw [maskL_len, List.length_map, hlen]
    · obtain ⟨m1, m2⟩ := maskL_get hi
      obtain ⟨v, q1, q2⟩ := r.sl i s0 m2
      have hlt : i < vs.length := by
        have := (List.getElem?_eq_some_iff.mp m1).1
        omega
      have hpin := r.pin i vs[i] (pinOf_at m1 (List.getElem?_eq_getElem hlt))
      rw [hpin] at q1
      cases q1
      exact ⟨_, by rw [List.getElem?_map, List.getElem?_eq_getElem hlt]; rfl, q2⟩
  refine hq G F0 ow (L2.start N vs) H _ R0 _ ?_
  unfold runDef at h3
  cases hr : g (ss ++ List.replicate (N.length - ss.length) none) with
  | stuck => rw [hr] at h3; exact h3
  | err e L =>
    rw [hr] at h3
    exact fun σ' H' F' ow' e' R' => h3 H' F' ow' e' (back R')
  | ok o L =>
    rw [hr] at h3
    cases o with
    | nx => exact fun σ' H' F' ow' e' R' => h3 .non H' F' ow' e' (back R') (.d .non)
    | rt s0 => exact fun v σ' H' F' ow' e' R' rs => h3 v H' F' ow' e' (back R') rs
    | bk => exact h3.elim
    | ct => exact h3.elim
end
end VS

namespace VS
open PySem PySem.Spec PyProof.Rows L2

inductive Ar where
  | d (g : LS → R D)
  | r (i : Nat)
inductive Av where
  | d (d : D)
  | r (i : Nat)
def evArgs : List Ar → LS → R (List Av)
  | [], L => .ok [] L
  | .d g :: as, L => (g L).bind fun d L1 => (evArgs as L1).bind fun xs L2 => .ok (.d d :: xs) L2
  | .r i :: as, L => match L[i]? with
    | some (some _) => (evArgs as L).bind fun xs L2 => .ok (.r i :: xs) L2
    | _ => .stuck
def AvOk (K : PySem.W.Frag) (σ : L2.St) (F : Hp) : List Av → List V → Prop := Paired fun x v => match x with
  | .d d => Dq K F v d
  | .r i => σ[i]? = some (some v)
theorem AvOk.up {K : PySem.W.Frag} {σ : L2.St} {F F' : Hp} {xs : List Av} {vs : List V} (e : Same F F') (h : AvOk K σ F xs vs) : AvOk K σ F' xs vs := Paired.mapP h fun x v z => by
  cases x with
  | d d => exact Dq.up e z
  | r i => exact z
def allD : List Ar → Bool
  | [] => true
  | .d _ :: as => allD as
  | .r _ :: _ => false
def refs : List Av → List Nat
  | [] => []
  | .d _ :: xs => refs xs
  | .r i :: xs => i :: refs xs
def JAr (c : Ct) (n : Bool) (es : List Expr) (as : List Ar) : Prop := ∃ t, PA c.X es t ∧ ∀ G F ow σ H L, c.Rl G F ow σ H L → Post c G n F H σ (evArgs as L) (fun F' _ _ xs vs => AvOk c.X.K σ F' xs vs ∧ (allD as = true → refs xs = [])) (t σ H)
section
variable {c : Ct} {n n1 n2 n3 : Bool} {a b : Expr} {ga gb : LS → R D} {pos : Pos} {es : List Expr} {as : List Ar}
theorem jar_nil : JAr c true [] [] := ⟨_, pa_nil, fun G F ow σ H L Rr => Post.val Rr ⟨.nil, fun _ => rfl⟩⟩
theorem jar_d (h1 : JD c n1 a ga) (h2 : JAr c n2 es as) (hs : starEach (a :: es) c.X.env = (false, eval a c.X.env) :: starEach es c.X.env := by rfl) : JAr c (n1 && n2) (a :: es) (.d ga :: as) := by
  obtain ⟨t1, p1, q1⟩ := h1
  obtain ⟨t2, p2, q2⟩ := h2
  refine ⟨_, pa_cons p1 p2 hs, fun G F ow σ H L Rr => ?_⟩
  refine (q1 G F ow σ H L Rr).bind fun d L1 v H1 F1 ow1 _ _ _ R1 b1 => ?_
  exact (q2 G F1 ow1 σ H1 L1 R1).bind1 (t2 := fun vs H2 Q => Q (v :: vs) H2) fun xs L2 vs H2 F2 ow2 _ e2 _ R2 b2 => Post.val R2 ⟨.cons (Dq.up e2 b1) b2.1, fun h => b2.2 h⟩
theorem jar_r (i : Nat) {x : Str} {p : Pos} (h1 : PE c.X (.Name x p) (tVar i)) (h2 : JAr c n es as) (hs : starEach (.Name x p :: es) c.X.env = (false, eval (.Name x p) c.X.env) :: starEach es c.X.env := by rfl) : JAr c n (.Name x p :: es) (.r i :: as) := by
  obtain ⟨t2, p2, q2⟩ := h2
  refine ⟨_, pa_cons h1 p2 hs, fun G F ow σ H L Rr => ?_⟩
  unfold evArgs
  cases hL : L[i]? with
  | none => trivial
  | some o =>
    cases o with
    | none => trivial
    | some s =>
      obtain ⟨v, hv, _⟩ := Rr.sl i s hL
      exact ((q2 G F ow σ H L Rr).bind1 (t2 := fun vs H2 Q => Q (v :: vs) H2) fun xs L2 vs H2 F2 ow2 _ e2 _ R2 b2 => Post.val (B := fun F' _ _ xs vs => AvOk c.X.K σ F' xs vs ∧ (allD (.r i :: as) = true → refs xs = [])) R2 ⟨.cons hv b2.1, fun h => nomatch h⟩).imp fun Q q => ⟨v, hv, q⟩

def slotOf (L : LS) : Av → Option S
  | .d d => some (.d d)
  | .r i => (L[i]?).join
def putBack : List Av → LS → LS → LS
  | .r i :: xs, o :: ss, L => putBack xs ss (L.set i o)
  | .d _ :: xs, _ :: ss, L => putBack xs ss L
  | _, _, L => L
def callAt (m : LS → R S) (xs : List Av) (L : LS) : R S := match m (xs.map (slotOf L)) with
  | .ok s ss => .ok s (putBack xs ss L)
  | .err e ss => .err e (putBack xs ss L)
  | .stuck => .stuck
def gCall (m : LS → R S) (as : List Ar) : LS → R S := fun L => (evArgs as L).bind fun xs L1 => if (refs xs).Nodup then callAt m xs L1 else .stuck
def posR : List Av → Nat → Option Nat
  | [], _ => none
  | .r k :: xs, i => if k = i then some 0 else (posR xs i).map (· + 1)
  | .d _ :: xs, i => (posR xs i).map (· + 1)
theorem posR_at : ∀ {xs : List Av} {i j : Nat}, posR xs i = some j → xs[j]? = some (Av.r i)
  | .r k :: xs, i, j, h => by
    have h : (if k = i then some 0 else (posR xs i).map (· + 1)) = some j := h
    by_cases hk : k = i
    · rw [if_pos hk] at h
      cases h
      rw [hk]
      rfl
    · rw [if_neg hk] at h
      obtain ⟨l, h1, rfl⟩ := Option.map_eq_some_iff.mp h
      exact posR_at (xs := xs) h1
  | .d _ :: xs, i, j, h => by
    obtain ⟨l, h1, rfl⟩ := Option.map_eq_some_iff.mp (show (posR xs i).map (· + 1) = some j from h)
    exact posR_at (xs := xs) h1
  | [], _, _, h => by cases h
theorem mem_refs : ∀ {xs : List Av} {i j : Nat}, xs[j]? = some (.r i) → i ∈ refs xs
  | .r k :: xs, i, 0, h => by
    cases h
    exact List.mem_cons_self
  | .r k :: xs, i, j + 1, h => List.mem_cons_of_mem _ (mem_refs (xs := xs) h)
  | .d _ :: xs, i, 0, h => by cases h
  | .d _ :: xs, i, j + 1, h => mem_refs (xs := xs) (j := j) h
  | [], _, _, h => by cases h
theorem posR_of : ∀ {xs : List Av} {i j : Nat}, (refs xs).Nodup → xs[j]? = some (.r i) → posR xs i = some j
  | .r k :: xs, i, 0, _, h => by
    cases h
    exact if_pos rfl
  | .r k :: xs, i, j + 1, nd, h => by
    have h' : xs[j]? = some (.r i) := h
    have hk : k ≠ i := fun z => by
      subst z
      exact (List.nodup_cons.mp nd).1 (mem_refs h')
    show (if k = i then some 0 else (posR xs i).map (· + 1)) = _
    rw [if_neg hk, posR_of (List.nodup_cons.mp nd).2 h']
    rfl
  | .d _ :: xs, i, 0, _, h => by cases h
  | .d _ :: xs, i, j + 1, nd, h => by
    show (posR xs i).map (· + 1) = _
    rw [posR_of (xs := xs) nd (show xs[j]? = some (.r i) from h)]
    rfl
  | [], _, _, _, h => by cases h
theorem putBack_len : ∀ (xs : List Av) (ss L : LS), (putBack xs ss L).length = L.length
  | .r i :: xs, o :: ss, L => by
    show (putBack xs ss (L.set i o)).length = _
    rw [putBack_len xs ss, List.length_set]
  | .d _ :: xs, o :: ss, L => putBack_len xs ss L
  | [], _, L => rfl
  | .r _ :: _, [], L => rfl
  | .d _ :: _, [], L => rfl
theorem putBack_get : ∀ {xs : List Av} {ss L : LS} {k : Nat} {s : S}, (putBack xs ss L)[k]? = some (some s) → (∃ j : Nat, xs[j]? = some (Av.r k) ∧ ss[j]? = some (some s)) ∨ (L[k]? = some (some s) ∧ (ss.length = xs.length → k ∉ refs xs))
  | .r i :: xs, o :: ss, L, k, s, h => by
    have h : (putBack xs ss (L.set i o))[k]? = some (some s) := h
    rcases putBack_get h with ⟨j, h1, h2⟩ | ⟨h1, h2⟩
    · exact .inl ⟨j + 1, h1, h2⟩
    · rcases set_get h1 with ⟨rfl, h3⟩ | ⟨hk, h3⟩
      · exact .inl ⟨0, rfl, congrArg some h3⟩
      · refine .inr ⟨h3, fun hl hm => ?_⟩
        rcases List.mem_cons.mp hm with z | z
        · exact hk z.symm
        · exact h2 (by simpa using hl) z
  | .d _ :: xs, o :: ss, L, k, s, h => by
    have h : (putBack xs ss L)[k]? = some (some s) := h
    rcases putBack_get h with ⟨j, h1, h2⟩ | ⟨h1, h2⟩
    · exact .inl ⟨j + 1, h1, h2⟩
    · exact .inr ⟨h1, fun hl hm => h2 (by simpa using hl) hm⟩
  | [], ss, L, k, s, h => .inr ⟨h, fun _ hm => by cases hm⟩
  | .r _ :: _, [], L, k, s, h => .inr ⟨h, fun hl => by simp at hl⟩
  | .d _ :: _, [], L, k, s, h => .inr ⟨h, fun hl => by simp at hl⟩
section
variable {G F H : Hp} {ow : Addr → Option Path} {σ : L2.St} {L : LS} {xs : List Av} {vs : List V}
def owIn (ow : Addr → Option Path) (xs : List Av) : Addr → Option Path := fun a => match ow a with
  | some ((r + 1) :: q) => (posR xs r).map fun j => (j + 1) :: q
  | _ => none
def gIn (G F H : Hp) (oc : Addr → Option Path) : Hp := fun a => if (oc a).isSome then none else if (F a).isSome then none else H a
def owOut (ow oc oc' : Addr → Option Path) (xs : List Av) : Addr → Option Path := fun a => match oc' a with
  | some (0 :: q) => some (0 :: q)
  | some ((j + 1) :: q) => (match xs[j]? with
    | some (.r i) => some ((i + 1) :: q)
    | _ => none)
  | some [] => none
  | none => if (oc a).isSome then none else ow a
theorem owIn_some {a : Addr} {p : Path} (h : owIn ow xs a = some p) : ∃ r q j, ow a = some ((r + 1) :: q) ∧ posR xs r = some j ∧ p = (j + 1) :: q := by
  unfold owIn at h
  split at h
  · rename_i r q e
    obtain ⟨j, h1, h2⟩ := Option.map_eq_some_iff.mp h
    exact ⟨r, q, j, e, h1, h2.symm⟩
  · cases h
theorem owIn_at {a : Addr} {r j : Nat} {q : Path} (h : ow a = some ((r + 1) :: q)) (hp : posR xs r = some j) : owIn ow xs a = some ((j + 1) :: q) := by
  unfold owIn
  rw [h]
  show (posR xs r).map _ = _
  rw [hp]
  rfl
theorem owIn_no {a : Addr} {r : Nat} {q : Path} (h : ow a = some ((r + 1) :: q)) (hp : posR xs r = none) : owIn ow xs a = none := by
  unfold owIn
  rw [h]
  show (posR xs r).map _ = _
  rw [hp]
  rfl
theorem gIn_some {a : Addr} {o : HO} {oc : Addr → Option Path} (h : gIn G F H oc a = some o) : oc a = none ∧ F a = none ∧ H a = some o := by
  unfold gIn at h
  split at h
  · cases h
  · split at h
    · cases h
    · rename_i h1 h2
      refine ⟨?_, ?_, h⟩
      · cases e : oc a with
        | none => rfl
        | some p => rw [e] at h1; exact absurd rfl h1
      · cases e : F a with
        | none => rfl
        | some p => rw [e] at h2; exact absurd rfl h2
theorem gIn_at {a : Addr} {oc : Addr → Option Path} (h1 : oc a = none) (h2 : F a = none) : gIn G F H oc a = H a := by
  unfold gIn
  rw [h1, h2]
  rfl
theorem AvOk.get {K : PySem.W.Frag} : ∀ {xs : List Av} {vs : List V} {j : Nat} {x : Av}, AvOk K σ F xs vs → xs[j]? = some x → ∃ v, vs[j]? = some v ∧ match x with
    | .d d => Dq K F v d
    | .r i => σ[i]? = some (some v)
  | _, _, _, _, .nil, h => by cases h
  | _, _, 0, x, .cons r _, h => by
    cases h
    exact ⟨_, rfl, r⟩
  | _ :: xs, _ :: vs, j + 1, x, .cons _ t, h => AvOk.get (xs := xs) (vs := vs) (j := j) (x := x) t h
theorem Rl.callIn (Rr : c.Rl G F ow σ H L) (av : AvOk c.X.K σ F xs vs) (nd : (refs xs).Nodup) : Rl c.X.K c.ca c.B [] (gIn G F H (owIn ow xs)) F (owIn ow xs) (vs.map some) H (xs.map (slotOf L)) := by
  refine ⟨Rr.exF, fun a o h => (gIn_some h).2.2, fun a p h => ?_, fun a o h => .inl ?_, ?_, fun j s h => ?_, (fun i v h => nomatch h), Rr.exB, fun a p h => ?_⟩
  · obtain ⟨r, q, j, h1, h2, h3⟩ := owIn_some h
    obtain ⟨x, y, z⟩ := Rr.dF a _ h1
    refine ⟨x, ?_, z⟩
    unfold gIn
    rw [h]
    rfl
  · unfold gIn
    split
    · rfl
    · rw [h] <;> rfl
  · rw [List.length_map, List.length_map]
    exact Paired.length av
  · rw [List.getElem?_map] at h
    obtain ⟨x, hx, hs⟩ := Option.map_eq_some_iff.mp h
    obtain ⟨v, hv, q⟩ := AvOk.get (j := j) (x := x) av hx
    refine ⟨v, by rw [List.getElem?_map, hv]; rfl, ?_⟩
    cases x with
    | d d =>
      cases hs
      exact RT.of (.d q)
    | r i =>
      have hs' : (L[i]?).join = some s := hs
      have hL : L[i]? = some (some s) := by
        cases e : L[i]? with
        | none => rw [e] at hs'; cases hs'
        | some o => rw [e] at hs'; exact congrArg some hs'
      obtain ⟨u, hu, rs⟩ := Rr.sl i s hL
      have q' : σ[i]? = some (some v) := q
      rw [hu] at q'
      cases q'
      exact rs.go (Same.refl F) fun a w e => ⟨rfl, owIn_at e (posR_of nd hx)⟩
  · obtain ⟨r, q, j, h1, h2, h3⟩ := owIn_some h
    exact Rr.dB a _ h1
theorem Rl.callOut {F' H' : Hp} {oc' : Addr → Option Path} {ss : LS} (Rr : c.Rl G F ow σ H L) (av : AvOk c.X.K σ F xs vs) (nd : (refs xs).Nodup) (e : Same F F')
    (r' : Rl c.X.K c.ca c.B [] (gIn G F H (owIn ow xs)) F' oc' (vs.map some) H' ss) : c.Rl G F' (owOut ow (owIn ow xs) oc' xs) σ H' (putBack xs ss L) ∧ (refs xs = [] → Same H H') ∧
      ∀ {s : S} {v : V}, RS c.X.K c.ca F' H' oc' [0] s v → RS c.X.K c.ca F' H' (owOut ow (owIn ow xs) oc' xs) [0] s v := by
  have hlen : ss.length = xs.length := by
    have := r'.len
    rw [List.length_map] at this
    rw [this]
    exact (Paired.length av).symm
  have free : ∀ {a : Addr} {p : Path}, oc' a = some p → gIn G F H (owIn ow xs) a = none := fun {a p} h => (r'.dF a p h).2.1
  have gN : ∀ {a : Addr} {o : HO}, G a = some o → owIn ow xs a = none := fun {a o} h => by
    cases z : owIn ow xs a with
    | none => rfl
    | some p =>
      obtain ⟨r, q, j, w1, _, _⟩ := owIn_some z
      have := (Rr.dF a _ w1).2.1
      rw [h] at this
      cases this
  have gG : ∀ {a : Addr} {o : HO}, G a = some o → F a = none → gIn G F H (owIn ow xs) a = some o := fun {a o} h h1 => by
    rw [gIn_at (gN h) h1]
    exact Rr.exG a o h
  have gP : ∀ {a : Addr} {o : HO}, G a = some o → H' a = some o := fun {a o} h => by
    cases z : F a with
    | none => exact r'.exG a o (gG h z)
    | some u =>
      have h1 := Rr.exF a u z
      rw [Rr.exG a o h] at h1
      rw [h1]
      exact r'.exF a u (e a u z)
  have out_none : ∀ {a : Addr} {p : Path}, owOut ow (owIn ow xs) oc' xs a = some p → (∃ q, oc' a = some q) ∨ (oc' a = none ∧ owIn ow xs a = none ∧ ow a = some p) := fun {a p} h => by
    cases z : oc' a with
    | some q => exact .inl ⟨q, rfl⟩
    | none =>
      unfold owOut at h
      rw [z] at h
      have h : (if (owIn ow xs a).isSome = true then none else ow a) = some p := h
      split at h
      · cases h
      · rename_i h1
        refine .inr ⟨rfl, ?_, h⟩
        cases y : owIn ow xs a with
        | none => rfl
        | some w => rw [y] at h1; exact absurd rfl h1
  -- what was not handed in stays
  have stay : ∀ {a : Addr} {p : Path}, ow a = some p → owIn ow xs a = none → H' a = H a ∧ owOut ow (owIn ow xs) oc' xs a = some p ∧ oc' a = none ∧ F' a = none := fun {a p} h hn => by
    obtain ⟨x, y, z⟩ := Rr.dF a p h
    have hg : gIn G F H (owIn ow xs) a = H a := gIn_at hn x
    cases hH : H a with
    | none => exact absurd hH z.1
    | some o =>
      rw [hH] at hg
      have h1 : oc' a = none := by
        cases w : oc' a with
        | none => rfl
        | some q =>
          have := free w
          rw [hg] at this
          cases this
      refine ⟨r'.exG a o hg, ?_, h1, ?_⟩
      · unfold owOut
        rw [h1, hn]
        exact h
      · cases w : F' a with
        | none => rfl
        | some u =>
          have hu : H' a = some u := r'.exF a u w
          rw [r'.exG a o hg] at hu
          cases hu
          rcases r'.dG a o w with this | this
          · rw [hg] at this
            cases this
          · exact absurd this (z.2 o hH)
  refine ⟨⟨r'.exF, fun a o h => gP h, fun a p h => ?_, fun a o h => ?_, by rw [putBack_len]; exact Rr.len, fun k s h => ?_, Rr.pin, r'.exB, fun a p h => ?_⟩, fun hr a o h => ?_, fun {s v} h => ?_⟩
  · rcases out_none h with ⟨q, h1⟩ | ⟨h1, h2, h3⟩
    · obtain ⟨x, y, z⟩ := r'.dF a q h1
      refine ⟨x, ?_, z⟩
      cases w : G a with
      | none => rfl
      | some o =>
        cases zf : F a with
        | none =>
          have := gG w zf
          rw [y] at this
          cases this
        | some u =>
          have := e a u zf
          rw [x] at this
          cases this
    · obtain ⟨x, y, z⟩ := Rr.dF a p h3
      obtain ⟨w1, w2, w3, w4⟩ := stay h3 h2
      exact ⟨w4, y, by rw [w1]; exact z⟩
  · rcases r'.dG a o h with this | this
    · cases w : G a with
      | none => exact .inl rfl
      | some u =>
        cases zf : F a with
        | none =>
          have q := gG w zf
          rw [this] at q
          cases q
        | some t =>
          have q := e a t zf
          rw [h] at q
          cases q
          rcases Rr.dG a o zf with z | z
          · rw [w] at z
            cases z
          · exact .inr z
    · exact .inr this
  · rcases putBack_get h with ⟨j, h1, h2⟩ | ⟨h1, h2⟩
    · obtain ⟨v, hv, rs⟩ := r'.sl j s h2
      obtain ⟨u, hu, q⟩ := AvOk.get (j := j) (x := .r k) av h1
      rw [List.getElem?_map, hu] at hv
      cases hv
      refine ⟨v, q, rs.go (Same.refl F') fun a w e => ⟨rfl, ?_⟩⟩
      unfold owOut
      rw [e]
      show (match xs[j]? with
        | some (.r i) => some ((i + 1) :: w)
        | _ => none) = _
      rw [h1]
      rfl
    · obtain ⟨v, hv, rs⟩ := Rr.sl k s h1
      have hk := h2 hlen
      have hp : posR xs k = none := by
        cases z : posR xs k with
        | none => rfl
        | some j => exact absurd (mem_refs (posR_at z)) hk
      refine ⟨v, hv, rs.go e fun a w z => ?_⟩
      obtain ⟨w1, w2, _, _⟩ := stay z (owIn_no z hp)
      exact ⟨w1, w2⟩
  · rcases out_none h with ⟨q, h1⟩ | ⟨h1, h2, h3⟩
    · exact r'.dB a q h1
    · exact Rr.dB a p h3
  · cases w : F a with
    | some u =>
      have := Rr.exF a u w
      rw [h] at this
      cases this
      exact r'.exF a o (e a o w)
    | none =>
      have hn : owIn ow xs a = none := by
        cases z : owIn ow xs a with
        | none => rfl
        | some p =>
          obtain ⟨r, q, j, _, w2, _⟩ := owIn_some z
          have := mem_refs (posR_at w2)
          rw [hr] at this
          cases this
      refine r'.exG a o ?_
      rw [gIn_at hn w]
      exact h
  · refine h.go (Same.refl F') fun a w z => ⟨rfl, ?_⟩
    unfold owOut
    rw [z]
    rfl
end
theorem je_call {k : Nat} {f : Addr} {fd : FuncData} {ps : List Str} {md : List Bool} {m : LS → R S} {x : Str} {p : Pos} {e : Expr} (F : FnOk c.X.prog c.X.w c.X.K c.X.mg c.X.base (L2.CX c.X.prog c.X.w) k f fd ps (VSp c.X.K c.ca md m)) (hr : Room k c.X.A) (tk : Takes c.X c.W)
    (hg : Gl c.X x) (hm : c.X.mg x = some (.ref f)) (hk : PySem.W.keepIn c.X.K (.ref f) = true) (hb : Binds c.X.K fd ps []) (ha : JAr c n (e :: es) as) (hl : as.length = md.length := by rfl)
    (hdb : (x == ("__debug__" : Str)) = false := by decide) (he : starEach (e :: es) c.X.env = (false, eval e c.X.env) :: starEach es c.X.env := by rfl) (hpl : (backTo pos (starEach es c.X.env)).any (·.1) = false := by rfl) :
    JE c (n && allD as) (.Call (.Name x p) (e :: es) [] pos) (gCall m as) := by
  obtain ⟨t, pa, qa⟩ := ha
  refine ⟨_, pe_callS F hr hg hm hk hb (fun σ => passAt tk σ) pa hdb he hpl, fun G F0 ow σ H L Rr => ?_⟩
  refine (qa G F0 ow σ H L Rr).bind (t2 := fun vs H1 Q => VSp c.X.K c.ca md m vs H1 Q (WE c.W σ)) fun xs L1 vs H1 F1 ow1 hev e1 _ R1 b1 => ?_
  obtain ⟨av, hn⟩ := b1
  refine Post.guard fun nd => ?_
  have hxl : xs.length = md.length := by
    rw [← hl]
    clear hl hn av R1 Rr
    have ev : ∀ (as : List Ar) (L L1 : LS) (xs : List Av), evArgs as L = .ok xs L1 → xs.length = as.length := by
      intro as
      induction as with
      | nil =>
        intro L L1 xs h
        cases h
        rfl
      | cons a as ih =>
        intro L L1 xs h
        cases a with
        | d g =>
          have h : ((g L).bind fun d L1 => (evArgs as L1).bind fun xs L2 => .ok (.d d :: xs) L2) = .ok xs L1 := h
          cases hg : g L with
          | stuck => rw [hg] at h; cases h
          | err k L2 => rw [hg] at h; cases h
          | ok d L2 =>
            rw [hg, R.bind_ok] at h
            cases hg2 : evArgs as L2 with
            | stuck => rw [hg2] at h; cases h
            | err k L3 => rw [hg2] at h; cases h
            | ok ys L3 =>
              have := ih L2 L3 ys hg2
              rw [hg2, R.bind_ok] at h
              cases h
              simp [this]
        | r i =>
          unfold evArgs at h
          split at h
          · cases hg2 : evArgs as L with
            | stuck => rw [hg2] at h; cases h
            | err k L3 => rw [hg2] at h; cases h
            | ok ys L3 =>
              have := ih L L3 ys hg2
              rw [hg2, R.bind_ok] at h
              cases h
              simp [this]
          · cases h
    exact ev as L L1 xs hev
  have rin := R1.callIn av nd
  unfold callAt
  cases hm' : m (xs.map (slotOf L1)) with
  | stuck => trivial
  | ok s ss =>
    intro Q q
    refine ⟨c.B, _, F1, _, xs.map (slotOf L1), by rw [List.length_map]; exact hxl, rin, ?_⟩
    rw [hm']
    intro v H' F' ow' e' r' rs
    obtain ⟨w1, w2, w3⟩ := R1.callOut av nd e' r'
    exact q v H' F' _ e' (fun h => w2 (hn h)) w1 (w3 rs)
  | err er ss =>
    intro hw Q
    refine ⟨c.B, _, F1, _, xs.map (slotOf L1), by rw [List.length_map]; exact hxl, rin, ?_⟩
    rw [hm']
    intro H' F' ow' e' r'
    obtain ⟨w1, w2, w3⟩ := R1.callOut av nd e' r'
    exact hw H' F' _ e' w1
end
end VS

namespace VS
open PySem PySem.Spec PyProof.Rows L2

def wipeL (L : LS) : List Nat → LS
  | [] => L
  | v :: vs => (wipeL L vs).set v none
theorem wipeL_len (L : LS) : ∀ vs : List Nat, (wipeL L vs).length = L.length
  | [] => rfl
  | v :: vs => by
    show ((wipeL L vs).set v none).length = _
    rw [List.length_set, wipeL_len L vs]
theorem wipeL_some {L : LS} {i : Nat} {x : S} : ∀ {vs : List Nat}, (wipeL L vs)[i]? = some (some x) → L[i]? = some (some x) ∧ i ∉ vs
  | [], h => ⟨h, by simp⟩
  | v :: vs, h => by
    rcases set_get (show ((wipeL L vs).set v none)[i]? = some (some x) from h) with ⟨_, h1⟩ | ⟨h1, h2⟩
    · cases h1
    · obtain ⟨h3, h4⟩ := wipeL_some h2
      exact ⟨h3, by simp only [List.mem_cons, not_or]; exact ⟨fun e => h1 e.symm, h4⟩⟩
theorem wipe_out' {σ : L2.St} {i : Nat} : ∀ {vs : List Nat}, i ∉ vs → (wipe σ vs)[i]? = σ[i]?
  | [], _ => rfl
  | v :: vs, h => by
    simp only [List.mem_cons, not_or] at h
    show ((wipe σ vs).set v none)[i]? = _
    rw [List.getElem?_set_ne (fun e => h.1 e.symm), wipe_out' h.2]
theorem wipe_in {σ : L2.St} {i : Nat} : ∀ {vs : List Nat}, i ∈ vs → i < σ.length → (wipe σ vs)[i]? = some none
  | v :: vs, h, hl => by
    show ((wipe σ vs).set v none)[i]? = _
    by_cases e : v = i
    · subst e
      rw [List.getElem?_set_self (by rw [wipe_length]; exact hl)]
    · rw [List.getElem?_set_ne e]
      rcases List.mem_cons.mp h with z | z
      · exact absurd z.symm e
      · exact wipe_in z hl
theorem wipe_same {σ σ' : L2.St} {vs ws : List Nat} (o : OutOf ws (wipe σ vs) σ') (hw : ∀ k ∈ ws, k ∈ vs) : wipe σ' vs = wipe σ vs := by
  have hl : σ'.length = σ.length := by rw [o.1, wipe_length]
  apply List.ext_getElem?
  intro k
  by_cases hk : k ∈ vs
  · by_cases hlt : k < σ.length
    · rw [wipe_in hk (by omega), wipe_in hk hlt]
    · rw [List.getElem?_eq_none (by rw [wipe_length]; omega), List.getElem?_eq_none (by rw [wipe_length]; omega)]
  · rw [wipe_out' hk, o.2 k fun z => hk (hw k z)]
def lcGo (vs : List Nat) (f : D → LS → Option LS) (gt : LS → R Bool) (ge : LS → R D) : List D → List D → LS → R S
  | [], acc, L => .ok (.ol acc) L
  | d :: ds, acc, L => match f d L with
    | none => .stuck
    | some L1 => match gt L1 with
      | .ok b L2 => if b = true then (match ge L2 with
          | .ok y L3 => if acc.length < sizeLine then lcGo vs f gt ge ds (acc ++ [y]) (wipeL L3 vs) else .stuck
          | _ => .stuck) else lcGo vs f gt ge ds acc (wipeL L2 vs)
      | _ => .stuck
theorem lcGo_err {vs : List Nat} {f : D → LS → Option LS} {gt : LS → R Bool} {ge : LS → R D} {k : Nat} {L' : LS} : ∀ (ds acc : List D) (L : LS), lcGo vs f gt ge ds acc L ≠ .err k L'
  | [], acc, L, h => by cases h
  | d :: ds, acc, L, h => by
    unfold lcGo at h
    split at h
    · cases h
    · split at h
      · split at h
        · split at h
          · split at h
            · exact lcGo_err ds _ _ h
            · cases h
          · cases h
        · exact lcGo_err ds _ _ h
      · cases h
def gLc (vs : List Nat) (gi : LS → R (List D)) (f : D → LS → Option LS) (gt : LS → R Bool) (ge : LS → R D) : LS → R S := fun L => (gi L).bind fun ds L1 => lcGo vs f gt ge ds [] (wipeL L1 vs)
structure Bk where
  s : Shared
  H : Hp
  C : Addr
  cl : List (Str × Addr)
  fp : List Addr
abbrev Ct.low (c : Ct) : Ct := { c with W := fun _ _ _ _ => False }
abbrev Ct.blk (c : Ct) (scope : Scope) (b : Bk) : Ct := { c with X := c.X.blk b.s b.H scope (compEnvC scope b.cl b.C c.X.env) b.fp, W := fun _ _ _ _ => False }
def JTs (c : Ct) (n : Bool) (ifs : List Expr) (g : LS → R Bool) : Prop := ∃ t, PTs c.X ifs t ∧ Jdg c n g BB t
section
variable {c : Ct} {n n1 n2 n3 : Bool} {scope : Scope}
def gYes : LS → R Bool := fun L => .ok true L
theorem jts_nil : JTs c true [] gYes := ⟨_, pts_nil, fun G F ow σ H L Rr => Post.val (b := true) (B := BB c.X.K) Rr rfl⟩
theorem jts_one {e : Expr} {g : LS → R Bool} (h : JT c n e g) : JTs c n [e] g := by
  obtain ⟨t, p, q⟩ := h
  exact ⟨_, pts_one p, q⟩
theorem jdg_all {α β : Type} {g : LS → R α} {B : PySem.W.Frag → Hp → Hp → (Addr → Option Path) → α → β → Prop} (T : Bk → L2.St → Hp → (β → Hp → Prop) → Prop) (h : ∀ b, Jdg c.low n g B (T b)) : Jdg c.low n g B (fun σ H Q => ∀ b, T b σ H Q) := by
  intro G F ow σ H L Rr
  have k := fun b => h b G F ow σ H L Rr
  cases hr : g L with
  | stuck => trivial
  | ok a L1 =>
    intro Q q b
    have := k b
    rw [hr] at this
    exact this Q q
  | err e L1 =>
    intro hw Q b
    have := k b
    rw [hr] at this
    exact this hw Q
theorem unif_D {e : Expr} {g : LS → R D} (h : ∀ b, JD (c.blk scope b) n e g) : ∃ t, (∀ b, PE (c.blk scope b).X e t) ∧ Jdg c.low n g BD t := by
  refine ⟨fun σ H Q => ∀ b, Classical.choose (h b) σ H Q, fun b => ⟨fun pins s σ H Q I hw => (Classical.choose_spec (h b)).1.run pins s σ H Q I (hw b)⟩, ?_⟩
  exact jdg_all _ fun b => (Classical.choose_spec (h b)).2
theorem unif_T {e : List Expr} {g : LS → R Bool} (h : ∀ b, JTs (c.blk scope b) n e g) : ∃ t, (∀ b, PTs (c.blk scope b).X e t) ∧ Jdg c.low n g BB t := by
  refine ⟨fun σ H Q => ∀ b, Classical.choose (h b) σ H Q, fun b => ⟨fun pins s σ H Q I hw => (Classical.choose_spec (h b)).1.run pins s σ H Q I (hw b)⟩, ?_⟩
  exact jdg_all _ fun b => (Classical.choose_spec (h b)).2
theorem unif_G {tg : Expr} {ws : List Nat} {f : D → LS → Option LS} (h : ∀ b, JG (c.blk scope b) tg ws f) : ∃ t, (∀ b, PG (c.blk scope b).X tg t) ∧
    ∀ G F ow σ H L d v L', c.Rl G F ow σ H L → Dq c.X.K F v d → f d L = some L' → ∀ Q : L2.St → Hp → Prop, (∀ σ', OutOf ws σ σ' → c.Rl G F ow σ' H L' → Q σ' H) → t v σ H Q := by
  refine ⟨fun v σ H Q => ∀ b, Classical.choose (h b) v σ H Q, fun b => ⟨fun pins s σ H v u Q I r hw => (Classical.choose_spec (h b)).1.run pins s σ H v u Q I r (hw b)⟩, ?_⟩
  exact fun G F ow σ H L d v L' Rr q e Q k b => (Classical.choose_spec (h b)).2 G F ow σ H L d v L' Rr q e Q k
section
variable {K : PySem.W.Frag} {ca : Nat → Addr} {bh : Hp} {pn : List (Option V)} {G F H : Hp} {ow : Addr → Option Path} {σ : L2.St} {L : LS} {vs : List Nat} {l : Addr} {o o' : HO}
theorem Rl.wipe (r : Rl K ca bh pn G F ow σ H L) (hp : ∀ (k : Nat) (v : V), pn[k]? = some (some v) → k ∉ vs) : Rl K ca bh pn G F ow (L2.wipe σ vs) H (wipeL L vs) :=
  ⟨r.exF, r.exG, r.dF, r.dG, by rw [wipeL_len, wipe_length]; exact r.len, fun i s h => by
    obtain ⟨h1, h2⟩ := wipeL_some h
    obtain ⟨v, q1, q2⟩ := r.sl i s h1
    exact ⟨v, (wipe_out' h2).trans q1, q2⟩, fun i v h => (wipe_out' (hp i v h)).trans (r.pin i v h), r.exB, r.dB⟩
theorem Rl.aside (r : Rl K ca bh pn G F ow σ H L) (hl : H l = none) : Rl K ca bh pn (upd G l o) F ow σ (upd H l o) L := by
  have e : Same H (upd H l o) := upd_same_of hl
  have fN : F l = none := r.exF.free hl
  refine ⟨r.exF.trans e, fun a u h => ?_, fun a q h => ?_, fun a u h => ?_, r.len, fun i s h => ?_, r.pin, r.exB.trans e, r.dB⟩
  · by_cases z : a = l
    · subst z
      rw [upd_same] at h ⊢
      exact h
    · rw [upd_ne z] at h ⊢
      exact r.exG a u h
  · obtain ⟨x, y, w⟩ := r.dF a q h
    have ha : a ≠ l := ne_fresh w.1 hl
    exact ⟨x, by rw [upd_ne ha]; exact y, by rw [upd_ne ha]; exact w⟩
  · rw [upd_ne (ne_of_none h fN)]
    exact r.dG a u h
  · obtain ⟨v, q1, q2⟩ := r.sl i s h
    exact ⟨v, q1, q2.go (Same.refl F) fun a w h => ⟨upd_ne (ne_fresh (r.dF a _ h).2.2.1 hl), h⟩⟩
theorem upd_at {a : Addr} {u : HO} (h : upd G l o a = none) : a ≠ l := fun z => by
  subst z
  rw [upd_same] at h
  cases h
theorem Rl.asideSet (r : Rl K ca bh pn (upd G l o) F ow σ H L) (hb : bh l = none) (ho : ¬ kT o := by exact kT_lst) : Rl K ca bh pn (upd G l o') F ow σ (upd H l o') L := by
  have fN : F l = none := by
    cases z : F l with
    | none => rfl
    | some u =>
      rcases r.dG l u z with this | this
      · rw [upd_same] at this
        cases this
      · have h1 := r.exF l u z
        rw [r.exG l o upd_same] at h1
        cases h1
        exact absurd this ho
  refine ⟨fun a u h => ?_, fun a u h => ?_, fun a q h => ?_, fun a u h => ?_, r.len, fun i s h => ?_, r.pin, fun a u h => ?_, r.dB⟩
  · rw [upd_ne (ne_of_none h fN)]
    exact r.exF a u h
  · by_cases z : a = l
    · subst z
      rw [upd_same] at h ⊢
      exact h
    · rw [upd_ne z] at h ⊢
      exact r.exG a u (by rw [upd_ne z]; exact h)
  · obtain ⟨x, y, w⟩ := r.dF a q h
    have ha : a ≠ l := upd_at (u := o) y
    rw [upd_ne ha] at y ⊢
    exact ⟨x, y, by rw [upd_ne ha]; exact w⟩
  · have ha : a ≠ l := ne_of_none h fN
    have := r.dG a u h
    rw [upd_ne ha] at this ⊢
    exact this
  · obtain ⟨v, q1, q2⟩ := r.sl i s h
    refine ⟨v, q1, q2.go (Same.refl F) fun a w h => ⟨upd_ne ?_, h⟩⟩
    exact upd_at (u := o) (r.dF a _ h).2.1
  · rw [upd_ne (ne_of_none h hb)]
    exact r.exB a u h
theorem Rl.asideOut {σ' : L2.St} (r : Rl K ca bh pn (upd G l o) F ow σ H L) (hG : G l = none) (hb : bh l = none) (hlen : σ'.length = σ.length) (hs : ∀ (k : Nat) (s : S), L[k]? = some (some s) → σ'[k]? = σ[k]?)
    (hp : ∀ (k : Nat) (v : V), pn[k]? = some (some v) → σ'[k]? = some (some v)) (ho : ¬ kT o := by exact kT_lst) : Rl K ca bh pn G F (onAt ow l [0]) σ' H L := by
  have hl : H l = some o := r.exG l o upd_same
  have fN : F l = none := by
    cases z : F l with
    | none => rfl
    | some u =>
      rcases r.dG l u z with this | this
      · rw [upd_same] at this
        cases this
      · have h1 := r.exF l u z
        rw [r.exG l o upd_same] at h1
        cases h1
        exact absurd this ho
  refine ⟨r.exF, fun a u h => ?_, fun a q h => ?_, fun a u h => ?_, r.len.trans hlen.symm, fun i s h => ?_, hp, r.exB, fun a q h => ?_⟩
  · have ha : a ≠ l := ne_of_none h hG
    exact r.exG a u (by rw [upd_ne ha]; exact h)
  · by_cases z : a = l
    · subst z
      exact ⟨fN, hG, by rw [hl]; exact .of ho⟩
    · rw [onAt_ne z] at h
      obtain ⟨x, y, w⟩ := r.dF a q h
      rw [upd_ne z] at y
      exact ⟨x, y, w⟩
  · have ha : a ≠ l := ne_of_none h fN
    have := r.dG a u h
    rw [upd_ne ha] at this
    exact this
  · obtain ⟨v, q1, q2⟩ := r.sl i s h
    refine ⟨v, (hs i s h).trans q1, q2.go (Same.refl F) fun a w h => ⟨rfl, ?_⟩⟩
    have ha : a ≠ l := upd_at (u := o) (r.dF a _ h).2.1
    rw [onAt_ne ha]
    exact h
  · by_cases z : a = l
    · subst z
      exact hb
    · rw [onAt_ne z] at h
      exact r.dB a q h
end
theorem jdg_lc {gi : LS → R (List D)} {f : D → LS → Option LS} {gt : LS → R Bool} {ge : LS → R D} {wi : TI} {g : TG} {tt : TT} {te : TE} {vs ws : List Nat} (hi : Jdg c n1 gi BI wi)
    (hg : ∀ G F ow σ H L d v L', c.Rl G F ow σ H L → Dq c.X.K F v d → f d L = some L' → ∀ Q : L2.St → Hp → Prop, (∀ σ', OutOf ws σ σ' → c.Rl G F ow σ' H L' → Q σ' H) → g v σ H Q) (hws : ∀ k ∈ ws, k ∈ vs) (hp : ∀ k ∈ vs, c.free k)
    (ht : Jdg c.low n2 gt BB tt) (he : Jdg c.low n3 ge BD te) : Jdg c (n1 && (n2 && n3)) (gLc vs gi f gt ge) (BE c.ca) (tLc wi g tt te vs) := by
  have hpn : ∀ (k : Nat) (v : V), (pinOf c.pb c.v0)[k]? = some (some v) → k ∉ vs := fun k v h hk => hp k hk (pinOf_mk h).1
  intro G F0 ow σ H0 L0 Rr
  refine (hi G F0 ow σ H0 L0 Rr).bind (t2 := fun J H1 (Q : VK) => ∀ D, H1 D = none → ∃ W : Nat → Nat → Hp → Prop, (∃ m, W 0 m (upd H1 D (.lst []))) ∧ ∀ i m H, W i m H →
    (J.stop i H ∧ Q (V.ref D) H) ∨ (J.go i H ∧ ∃ Nx : Hp → Prop, (∀ H', Nx H' → ∃ m', m' < m ∧ W (i + 1) m' H') ∧ ∀ x H', J.yld i H x H' → g x (L2.wipe σ vs) H' fun σ2 H2 => L2.wipe σ2 vs = L2.wipe σ vs ∧ tt σ2 H2 fun b H3 =>
      if b = true then te σ2 H3 fun y H4 => ∃ acc, H4 D = some (.lst acc) ∧ acc.length < sizeLine ∧ Nx (upd H4 D (.lst (acc ++ [y]))) else Nx H3)) fun ds L1 J H1 F1 ow1 _ e1 s1 R1 b1 => ?_
  cases hr : lcGo vs f gt ge ds [] (wipeL L1 vs) with
  | stuck => trivial
  | err k L2 => exact absurd hr (lcGo_err ds [] _)
  | ok s Lf =>
    intro Q q D hD
    have gD : G D = none := R1.exG.free hD
    have hB : c.B D = none := R1.exB.free hD
    refine ⟨fun i m H => m = ds.length - i ∧ i ≤ ds.length ∧ ∃ F' ow' L' acc da, Same F1 F' ∧ ((n2 && n3) = true → Same H1 H) ∧ c.Rl (upd G D (.lst acc)) F' ow' (L2.wipe σ vs) H L' ∧ DqA c.X.K F' acc da ∧ lcGo vs f gt ge (ds.drop i) da L' = .ok s Lf ∧ ∀ (k : Nat) (s' : S), L'[k]? = some (some s') → k ∉ vs,
      ⟨ds.length, rfl, Nat.zero_le _, F1, ow1, wipeL L1 vs, [], [], Same.refl F1, fun _ => upd_same_of hD, (R1.wipe hpn).aside hD, .nil, hr, fun k s' h => (wipeL_some h).2⟩, ?_⟩
    rintro i m H ⟨rfl, hi', F2, ow2, LB, acc, da, e2, s2, R2, hacc, hgo, hno⟩
    obtain ⟨k1, k2⟩ := (ItOk.up e2 b1) i H R2.exF
    by_cases hlt : i < ds.length
    · obtain ⟨k3, k4⟩ := k2 _ (List.getElem?_eq_getElem hlt)
      rw [List.drop_eq_getElem_cons hlt] at hgo
      refine .inr ⟨k3, fun H' => ∃ F' ow' L' acc da, Same F1 F' ∧ ((n2 && n3) = true → Same H1 H') ∧ c.Rl (upd G D (.lst acc)) F' ow' (L2.wipe σ vs) H' L' ∧ DqA c.X.K F' acc da ∧ lcGo vs f gt ge (ds.drop (i + 1)) da L' = .ok s Lf ∧ ∀ (k : Nat) (s' : S), L'[k]? = some (some s') → k ∉ vs,
        fun H' w => ⟨ds.length - (i + 1), by omega, rfl, hlt, w⟩, fun x H' y => ?_⟩
      have step : ∀ {F3 H3 : Hp}, Same F2 F3 → Same H H3 → c.Rl (upd G D (.lst acc)) F3 ow2 (L2.wipe σ vs) H3 LB → Dq c.X.K F3 x ds[i] → g x (L2.wipe σ vs) H3 fun σ2 H2 => L2.wipe σ2 vs = L2.wipe σ vs ∧ tt σ2 H2 fun b H3 =>
          if b = true then te σ2 H3 fun y H4 => ∃ acc, H4 D = some (.lst acc) ∧ acc.length < sizeLine ∧ ∃ F' ow' L' acc' da, Same F1 F' ∧ ((n2 && n3) = true → Same H1 (upd H4 D (.lst (acc ++ [y])))) ∧ c.Rl (upd G D (.lst acc')) F' ow' (L2.wipe σ vs) (upd H4 D (.lst (acc ++ [y]))) L' ∧ DqA c.X.K F' acc' da ∧ lcGo vs f gt ge (ds.drop (i + 1)) da L' = .ok s Lf ∧ ∀ (k : Nat) (s' : S), L'[k]? = some (some s') → k ∉ vs
          else ∃ F' ow' L' acc da, Same F1 F' ∧ ((n2 && n3) = true → Same H1 H3) ∧ c.Rl (upd G D (.lst acc)) F' ow' (L2.wipe σ vs) H3 L' ∧ DqA c.X.K F' acc da ∧ lcGo vs f gt ge (ds.drop (i + 1)) da L' = .ok s Lf ∧ ∀ (k : Nat) (s' : S), L'[k]? = some (some s') → k ∉ vs := fun {F3 H3} e3 s3 R3 hx => by
        unfold lcGo at hgo
        cases hf : f ds[i] LB with
        | none => rw [hf] at hgo; cases hgo
        | some L3 =>
          rw [hf] at hgo
          refine hg _ F3 ow2 _ H3 LB _ x L3 R3 hx hf _ fun σ2 o2 R4 => ⟨wipe_same o2 hws, ?_⟩
          have wp := wipe_same o2 hws
          have hgo : (match gt L3 with
            | .ok b L2 => if b = true then (match ge L2 with
                | .ok y L3 => if da.length < sizeLine then lcGo vs f gt ge (ds.drop (i + 1)) (da ++ [y]) (wipeL L3 vs) else .stuck
                | _ => .stuck) else lcGo vs f gt ge (ds.drop (i + 1)) da (wipeL L2 vs)
            | _ => .stuck) = R.ok s Lf := hgo
          have pt := ht _ F3 ow2 σ2 H3 L3 R4
          cases hgt : gt L3 with
          | stuck => rw [hgt] at hgo; cases hgo
          | err k L5 => rw [hgt] at hgo; cases hgo
          | ok b L5 =>
            rw [hgt] at hgo pt
            refine pt _ fun b' H5 F5 ow5 e5 s5 R5 q5 => ?_
            have q5 : b' = b := q5
            subst q5
            cases b' with
            | false =>
              refine ⟨F5, ow5, wipeL L5 vs, acc, da, (e2.trans e3).trans e5, fun h => ((s2 h).trans s3).trans (s5 (and_of h).1), ?_, (hacc.up e3).up e5, hgo, fun k s' h => (wipeL_some h).2⟩
              have := R5.wipe (vs := vs) hpn
              rw [wp] at this
              exact this
            | true =>
              have hgo : (match ge L5 with
                | .ok y L3 => if da.length < sizeLine then lcGo vs f gt ge (ds.drop (i + 1)) (da ++ [y]) (wipeL L3 vs) else .stuck
                | _ => .stuck) = R.ok s Lf := hgo
              have pe := he _ F5 ow5 σ2 H5 L5 R5
              cases hge : ge L5 with
              | stuck => rw [hge] at hgo; cases hgo
              | err k L6 => rw [hge] at hgo; cases hgo
              | ok y L6 =>
                rw [hge] at hgo pe
                refine pe _ fun v H6 F6 ow6 e6 s6 R6 q6 => ?_
                have hgo : (if da.length < sizeLine then lcGo vs f gt ge (ds.drop (i + 1)) (da ++ [y]) (wipeL L6 vs) else .stuck) = R.ok s Lf := hgo
                by_cases hz : da.length < sizeLine
                · rw [if_pos hz] at hgo
                  have hH : H6 D = some (.lst acc) := R6.exG D _ upd_same
                  have hacc6 := (((hacc.up e3).up e5).up e6)
                  refine ⟨acc, hH, by rw [hacc.len]; exact hz, F6, ow6, wipeL L6 vs, acc ++ [v], da ++ [y], ((e2.trans e3).trans e5).trans e6, fun h => ?_, ?_, hacc6.append (.one q6), hgo, fun k s' h => (wipeL_some h).2⟩
                  · have := (((s2 h).trans s3).trans (s5 (and_of h).1)).trans (s6 (and_of h).2)
                    intro a u ha
                    rw [upd_ne (ne_of_none ha hD)]
                    exact this a u ha
                  · have := (R6.wipe (vs := vs) hpn).asideSet (o' := .lst (acc ++ [v])) hB
                    rw [wp] at this
                    exact this
                · rw [if_neg hz] at hgo
                  cases hgo
      rcases k4 x H' y with ⟨rfl, hx⟩ | ⟨p, ts, es, he', rfl, hp', rfl, hq⟩
      · exact step (Same.refl F2) (Same.refl _) R2 hx
      · obtain ⟨w1, w2, w3⟩ := R2.newF (o := .tup ts) hp'
        rw [he'] at step
        exact step w1 w2 w3 (.tup upd_same (hq.up w1))
    · have hl : ds.length ≤ i := Nat.le_of_not_lt hlt
      rw [List.drop_eq_nil_of_le hl] at hgo
      cases hgo
      refine .inl ⟨k1 hl, q _ H F2 _ e2 s2 (R2.asideOut (σ' := σ) gD hB (wipe_length σ vs).symm (fun k s' h => (wipe_out' (hno k s' h)).symm) fun k v h => ?_) (.ol (R2.exG D _ upd_same) (onAt_same ..) hacc)⟩
      rw [← wipe_out' (σ := σ) (hpn k v h)]
      exact R2.pin k v h
variable {elt tg iter : Expr} {ifs : List Expr} {own : List (Str × Nat)} {pos spos : Pos} {gi : LS → R (List D)} {f : D → LS → Option LS} {gt : LS → R Bool} {ge : LS → R D} {ws : List Nat}
theorem je_lc (hc : c.X.calm = true) (hN : c.X.N.Nodup) (hi : JI c n1 tg iter gi) (ok : BlkOk c.X.N c.X.env.scope scope own) (hg : ∀ b, JG (c.blk scope b) tg ws f) (hws : ∀ k ∈ ws, k ∈ own.map (·.2)) (hp : ∀ k ∈ own.map (·.2), c.free k)
    (ht : ∀ b, JTs (c.blk scope b) n2 ifs gt) (he : ∀ b, JD (c.blk scope b) n3 elt ge) (hs : ∀ x, foldedSetIterable iter c.X.env x = pure x := by intro _; rfl) : JE c (n1 && (n2 && n3)) (.ListComp elt [⟨tg, iter, ifs, 0⟩] scope pos) (gLc (own.map (·.2)) gi f gt ge) := by
  obtain ⟨wi, p1, q1⟩ := hi
  obtain ⟨tg', p2, q2⟩ := unif_G hg
  obtain ⟨tt, p3, q3⟩ := unif_T ht
  obtain ⟨te, p4, q4⟩ := unif_D he
  exact ⟨_, pe_lc hc hN p1 ok (fun s H C cl fp => p2 ⟨s, H, C, cl, fp⟩) (fun s H C cl fp => p3 ⟨s, H, C, cl, fp⟩) (fun s H C cl fp => p4 ⟨s, H, C, cl, fp⟩) hs, jdg_lc q1 q2 hws hp q3 q4⟩
theorem js_setLc {i : Nat} {y : Str} {py : Pos} (hc : c.X.calm = true) (hN : c.X.N.Nodup) (hy : c.X.N[i]? = some y) (hyl : c.X.env.scope.names.lookup y = some .local) (hfr : c.free i)
    (hsw : swapsWith (.ListComp elt [⟨tg, iter, ifs, 0⟩] scope pos) (some (.Name y py)) spos.line c.X.env = pure true) (hi : JI c n1 tg iter gi) (ok : BlkOk c.X.N c.X.env.scope scope own) (hg : ∀ b, JG (c.blk scope b) tg ws f) (hws : ∀ k ∈ ws, k ∈ own.map (·.2)) (hp : ∀ k ∈ own.map (·.2), c.free k)
    (ht : ∀ b, JTs (c.blk scope b) n2 ifs gt) (he : ∀ b, JD (c.blk scope b) n3 elt ge) (hs : ∀ x, foldedSetIterable iter c.X.env x = pure x := by intro _; rfl) : JS c (.Assign [.Name y py] (.ListComp elt [⟨tg, iter, ifs, 0⟩] scope pos) spos) (gAsg i (gLc (own.map (·.2)) gi f gt ge)) := by
  obtain ⟨wi, p1, q1⟩ := hi
  obtain ⟨tg', p2, q2⟩ := unif_G hg
  obtain ⟨tt, p3, q3⟩ := unif_T ht
  obtain ⟨te, p4, q4⟩ := unif_D he
  exact ⟨_, ps_setLc hc hN hy hyl hsw p1 ok (fun s H C cl fp => p2 ⟨s, H, C, cl, fp⟩) (fun s H C cl fp => p3 ⟨s, H, C, cl, fp⟩) (fun s H C cl fp => p4 ⟨s, H, C, cl, fp⟩) hs, jdgS_asg hfr (jdg_lc q1 q2 hws hp q3 q4)⟩
end

section
variable {c : Ct} {pos : Pos}
theorem js_never {st : Stmt} : JS c st (fun _ => .stuck) := ⟨_, ps_never, fun G F ow σ H L Rr E f => f.elim⟩
end
end VS

namespace VS
open PySem PySem.Spec PyProof.Rows L2

theorem BV.dp {K : PySem.W.Frag} {F H : Hp} {ow : Addr → Option Path} {d : D} {v : V} (s : Same F H) (h : BV K F H ow d v) : Dp K H v d := by
  rcases h with h | ⟨l, vs, ds, rfl, rfl, h1, h2⟩
  · exact (h.up s).dp
  · exact .lst h1 (DqA.dp ds vs (h2.up s))
def Leaf2V (K : PySem.W.Frag) (r : R2) (f : D → D → Option D) : Prop :=
  ∀ (F H : Hp) (ow : Addr → Option Path) (x y : V) (d e z : D), Same F H → BV K F H ow d x → BV K F H ow e y → f d e = some z → ∃ v, Dq K F v z ∧ ∀ Q : VK, Q v H → r x y H Q
theorem Leaf2.view {K : PySem.W.Frag} {r : R2} {f : D → D → Option D} (h : Leaf2 K r f) (h1 : ∀ ds e, f (.list ds) e = none) (h2 : ∀ d es, f d (.list es) = none) : Leaf2V K r f := by
  intro F H ow x y d e z s hx hy hf
  rcases hx with hx | ⟨l, vs, ds, rfl, rfl, _, _⟩
  · rcases hy with hy | ⟨l, vs, ds, rfl, rfl, _, _⟩
    · exact h F H x y d e z s hx hy hf
    · rw [h2] at hf
      cases hf
  · rw [h1] at hf
    cases hf
theorem scal_flat {d e : D} (h : scalD d e = true) : (∀ ds, d ≠ .list ds) ∧ ∀ ds, e ≠ .list ds := by
  refine ⟨fun ds z => ?_, fun ds z => ?_⟩
  · subst z
    cases e <;> cases h
  · subst z
    cases d <;> cases h
theorem leafV_eq {K : PySem.W.Frag} : Leaf2V K (fun x y H Q => rEq x y H Q ∨ rEqD K x y H Q) dEq := by
  intro F H ow x y d e z s hx hy hf
  unfold dEq at hf
  by_cases h : eqOk d e
  · rw [if_pos h] at hf
    cases hf
    rcases h with h | h
    · obtain ⟨n1, n2⟩ := scal_flat h
      rcases hx with hx | ⟨l, vs, ds, _, e1, _⟩
      · rcases hy with hy | ⟨l, vs, ds, _, e1, _⟩
        · obtain ⟨h1, h2⟩ := scal_of hx hy h
          rw [h2]
          exact ⟨_, .bl _, fun Q q => .inl ⟨h1, q⟩⟩
        · exact absurd e1 (n2 ds)
      · exact absurd e1 (n1 ds)
    · exact ⟨_, .bl _, fun Q q => .inr ⟨d, e, hx.dp s, hy.dp s, h.1, h.2, q⟩⟩
  · rw [if_neg h] at hf
    cases hf
theorem leafV_ne {K : PySem.W.Frag} : Leaf2V K (fun x y H Q => rNe x y H Q ∨ rNeD K x y H Q) dNe := by
  intro F H ow x y d e z s hx hy hf
  unfold dNe at hf
  by_cases h : eqOk d e
  · rw [if_pos h] at hf
    cases hf
    rcases h with h | h
    · obtain ⟨n1, n2⟩ := scal_flat h
      rcases hx with hx | ⟨l, vs, ds, _, e1, _⟩
      · rcases hy with hy | ⟨l, vs, ds, _, e1, _⟩
        · obtain ⟨h1, h2⟩ := scal_of hx hy h
          rw [h2]
          exact ⟨_, .bl _, fun Q q => .inl ⟨h1, q⟩⟩
        · exact absurd e1 (n2 ds)
      · exact absurd e1 (n1 ds)
    · exact ⟨_, .bl _, fun Q q => .inr ⟨d, e, hx.dp s, hy.dp s, h.1, h.2, q⟩⟩
  · rw [if_neg h] at hf
    cases hf
theorem in_coreV {K : PySem.W.Frag} {F H : Hp} {ow : Addr → Option Path} {x y : V} {d e : D} {z : Bool} (s : Same F H) (hx : BV K F H ow d x) (hy : BV K F H ow e y) (hf : dInB d e = some z) (neg : Bool) (Q : VK) (q : Q (.bl (if neg then !z else z)) H) :
    (∃ (c : Nat) (w : Str), x = .str ⟨#[c]⟩ ∧ y = .str w ∧ Q (.bl (if neg then !decide (c ∈ w.cps.toList) else decide (c ∈ w.cps.toList))) H) ∨
      (∃ d ds, Dp K H x d ∧ Dp K H y (.list ds) ∧ SeqAt.shaped d = true ∧ SeqAt.shaped (.list ds) = true ∧ Q (.bl (if neg then !ds.any (fun z => PyData.eqv z d) else ds.any fun z => PyData.eqv z d)) H) ∨ rIn K neg x y H Q := by
  cases e with
  | list ds =>
    have hf : (if inOk d ds then some (ds.any fun z => z.eqv d) else none) = some z := hf
    by_cases h : inOk d ds
    · rw [if_pos h] at hf
      cases hf
      rcases h with h | h
      · rcases hx with hx | ⟨l, vs, ds', _, rfl, _⟩
        · have hs : ∃ l vs, y = .ref l ∧ SqL K H l vs ∧ DqA K F vs ds := by
            rcases hy with hy | ⟨l, vs, ds', rfl, e1, h3, h4⟩
            · cases hy with
              | lst a1 a2 => exact ⟨_, _, rfl, .of (s _ _ a1), a2⟩
            · cases e1
              exact ⟨l, vs, rfl, h3, h4⟩
          obtain ⟨l, vs, rfl, h3, h4⟩ := hs
          rw [← inV_any hx h.1 h4 h.2] at q
          exact .inr (.inr ⟨l, vs, rfl, .inl h3, flat_of hx h.1, flats_of h4 h.2, q⟩)
        · cases h.1
      · exact .inr (.inl ⟨d, ds, hx.dp s, hy.dp s, h.1, h.2, q⟩)
    · rw [if_neg h] at hf
      cases hf
  | tuple ds =>
    rcases hy with hy | ⟨l, vs, ds, rfl, e, _, _⟩
    · rcases hx with hx | ⟨l, vs, ds, rfl, rfl, _, _⟩
      · exact in_core s hx hy hf neg Q q
      · cases hf
    · cases e
  | str w =>
    rcases hy with hy | ⟨l, vs, ds, rfl, e, _, _⟩
    · rcases hx with hx | ⟨l, vs, ds, rfl, rfl, _, _⟩
      · exact in_core s hx hy hf neg Q q
      · cases hf
    · cases e
  | _ => cases hf
theorem leafV_in {K : PySem.W.Frag} : Leaf2V K (rInAny K) dIn := by
  intro F H ow x y d e z s hx hy hf
  obtain ⟨b, hb, rfl⟩ := Option.map_eq_some_iff.mp hf
  exact ⟨_, .bl b, fun Q q => in_coreV s hx hy hb false Q q⟩
theorem leafV_notIn {K : PySem.W.Frag} : Leaf2V K (rNotInAny K) dNotIn := by
  intro F H ow x y d e z s hx hy hf
  obtain ⟨b, hb, rfl⟩ := Option.map_eq_some_iff.mp hf
  exact ⟨_, .bl (!b), fun Q q => in_coreV s hx hy hb true Q q⟩
theorem leafV_is {K : PySem.W.Frag} : Leaf2V K (fun x y H Q => (y = .non ∧ Q (.bl (decide (x = .non))) H) ∨ rIsB2 x y H Q) dIs := by
  intro F H ow x y d e z s hx hy hf
  rcases hx with hx | ⟨l, vs, ds, rfl, rfl, _, _⟩
  · rcases hy with hy | ⟨l, vs, ds, rfl, rfl, _, _⟩
    · exact leaf_is F H x y d e z s hx hy hf
    · cases d <;> cases hf
  · rcases hy with hy | ⟨l, vs, ds, rfl, rfl, _, _⟩
    · cases hy <;> cases hf
      exact ⟨_, .bl _, fun Q q => .inl ⟨rfl, q⟩⟩
    · cases hf
theorem leafV_isN {K : PySem.W.Frag} : Leaf2V K (fun x y H Q => (y = .non ∧ Q (.bl (!decide (x = .non))) H) ∨ rNotB2 x y H Q) dIsN := by
  intro F H ow x y d e z s hx hy hf
  rcases hx with hx | ⟨l, vs, ds, rfl, rfl, _, _⟩
  · rcases hy with hy | ⟨l, vs, ds, rfl, rfl, _, _⟩
    · exact leaf_isN F H x y d e z s hx hy hf
    · cases d <;> cases hf
  · rcases hy with hy | ⟨l, vs, ds, rfl, rfl, _, _⟩
    · cases hy <;> cases hf
      exact ⟨_, .bl _, fun Q q => .inl ⟨rfl, q⟩⟩
    · cases hf
section
variable {c : Ct} {n n1 n2 n3 : Bool} {a b : Expr} {ga gb : LS → R D} {pos : Pos} {k : Nat}
def CmpV (c : Ct) (op : CmpOp) (f : D → D → Option D) : Prop := ∃ r : R2, OpR c.X (compareOp op) r ∧ Leaf2V c.X.K r f
theorem dCmp_l {f : Int → Int → Bool} {g : Str → Str → Bool} (ds : List D) (e : D) : dCmp f g (.list ds) e = none := by cases e <;> rfl
theorem dCmp_r {f : Int → Int → Bool} {g : Str → Str → Bool} (d : D) (es : List D) : dCmp f g d (.list es) = none := by cases d <;> rfl
theorem cv_lt : CmpV c .Lt dLt := ⟨_, op_lt.or op_lt_str, leaf_cmp.view dCmp_l dCmp_r⟩
theorem cv_le : CmpV c .LtE dLe := ⟨_, op_le.or op_le_str, leaf_cmp.view dCmp_l dCmp_r⟩
theorem cv_gt : CmpV c .Gt dGt := ⟨_, op_gt.or op_gt_str, leaf_cmp.view dCmp_l dCmp_r⟩
theorem cv_ge : CmpV c .GtE dGe := ⟨_, op_ge.or op_ge_str, leaf_cmp.view dCmp_l dCmp_r⟩
theorem cv_eq (hr : Room k c.X.A) : CmpV c .Eq dEq := ⟨_, op_eq.or (op_eqD hr.units), leafV_eq⟩
theorem cv_ne (hr : Room k c.X.A) : CmpV c .NotEq dNe := ⟨_, op_ne.or (op_neD hr.units), leafV_ne⟩
theorem cv_is : CmpV c .Is dIs := ⟨_, op_isN.or op_isBl2, leafV_is⟩
theorem cv_isN : CmpV c .IsNot dIsN := ⟨_, op_notN.or op_notBl2, leafV_isN⟩
theorem cv_in (hr : Room k c.X.A) : CmpV c .In dIn := ⟨_, op_in_sign.or ((op_inD (room65 hr)).or op_in_seq), leafV_in⟩
theorem cv_notIn (hr : Room k c.X.A) : CmpV c .NotIn dNotIn := ⟨_, op_notIn_sign.or ((op_notInD (room65 hr)).or op_notIn_seq), leafV_notIn⟩
theorem jdg_cmpN {r : R2} {f : D → D → Option D} (lf : Leaf2V c.X.K r f) {ta tb : TE} (ha : Jdg c n1 ga BV ta) (hb : Jdg c true gb BV tb) : Jdg c n1 (gOp f ga gb) BD (tOp r ta tb) := by
  intro G F ow σ H L Rr
  refine (ha G F ow σ H L Rr).bind1 (t2 := fun v H1 Q => tb σ H1 fun y H2 => r v y H2 Q) fun d L1 v H1 F1 ow1 _ _ _ R1 b1 => ?_
  refine (hb G F1 ow1 σ H1 L1 R1).bind1 (t2 := fun y H2 Q => r v y H2 Q) fun e L2 u H2 F2 ow2 _ e2 s2 R2 b2 => ?_
  cases hf : f d e with
  | none => trivial
  | some z =>
    obtain ⟨w, hw, q⟩ := lf F2 H2 ow2 v u d e z R2.exF (BV.up (ow' := ow2) b1 e2 (s2 rfl)) b2 hf
    exact (Post.val R2 hw).imp q
variable {op : CmpOp} {f : D → D → Option D}
theorem jd_cmpN (h : CmpV c op f) (ha : JV c n1 a ga) (hb : JV c true b gb) (hm : behindInMarks op b = false) : JD c n1 (.Compare a [op] [b] pos) (gOp f ga gb) := by
  obtain ⟨ta, p1, q1⟩ := ha
  obtain ⟨tb, p2, q2⟩ := hb
  obtain ⟨r, h1, h2⟩ := h
  exact ⟨_, pe_cmpR h1 p1 p2 hm, jdg_cmpN h2 q1 q2⟩
theorem jt_cmpN (h : CmpV c op f) (ha : JV c n1 a ga) (hb : JV c true b gb) (hm : behindInMarks op b = false) : JT c n1 (.Compare a [op] [b] pos) (gB (gOp f ga gb)) := by
  obtain ⟨ta, p1, q1⟩ := ha
  obtain ⟨tb, p2, q2⟩ := hb
  obtain ⟨r, h1, h2⟩ := h
  exact ⟨_, pt_cmpR h1 p1 p2 hm, jdg_B (jdg_cmpN h2 q1 q2)⟩
theorem PI_or {X : Cx} {tg e : Expr} {w1 w2 : TI} (h1 : PI X tg e w1) (h2 : PI X tg e w2) : PI X tg e (fun σ H R => w1 σ H R ∨ w2 σ H R) := ⟨fun pins s σ H R I h => by
  rcases h with h | h
  · exact h1.run pins s σ H R I h
  · exact h2.run pins s σ H R I h⟩
def signs (x : Str) : List D := x.cps.toList.map fun k => PyData.str ⟨#[k]⟩
def asItems : D → LS → R (List D)
  | .list ds, L => .ok ds L
  | .tuple ds, L => .ok ds L
  | .str x, L => .ok (signs x) L
  | _, _ => .stuck
variable {tg : Expr}
theorem its_ok {K : PySem.W.Frag} {F : Hp} {x : Str} : ItOk K F (signs x) (Its x) := fun i H s => by
  unfold signs
  rw [List.length_map, Array.length_toList]
  refine ⟨fun h => h, fun d hd => ?_⟩
  have hi : i < x.cps.size := by
    have := (List.getElem?_eq_some_iff.mp hd).1
    rw [List.length_map, Array.length_toList] at this
    exact this
  refine ⟨hi, fun v H' ⟨e1, k, hk, e2⟩ => .inl ⟨e1, ?_⟩⟩
  subst e2
  rw [List.getElem?_map, Array.getElem?_toList, hk] at hd
  cases hd
  exact .str _
theorem jdg_itl {t : TE} (q : Jdg c n ga BD t) : Jdg c n (fun L => (ga L).bind asL) BI (iList c.X.K t) := fun G F ow σ H L Rr =>
  (q G F ow σ H L Rr).bind1 (t2 := fun v H1 Q => ∃ a, v = V.ref a ∧ (∃ xs, SqL c.X.K H1 a xs) ∧ Q (Itl c.X.K a) H1) fun d L1 v H1 F1 ow1 _ _ _ R1 b1 => by
    cases b1 with
    | @lst l vs ds h1 h2 =>
      refine (Post.val (a := ds) (b := Itl c.X.K l) (B := BI c.X.K) R1 fun i H s => ⟨fun hi => ⟨vs, .of (s _ _ h1), by rw [h2.len]; exact hi⟩, fun d hd => ?_⟩).imp fun Q q => ⟨l, rfl, ⟨vs, .of (R1.exF _ _ h1)⟩, q⟩
      obtain ⟨v, h3, h4⟩ := h2.get hd
      exact ⟨⟨vs, v, .of (s _ _ h1), h3⟩, fun x H' ⟨e1, e2⟩ => .inl ⟨e1, by
        have := e2 vs (.of (s _ _ h1))
        rw [h3] at this
        cases this
        exact h4⟩⟩
    | _ => trivial
theorem jdg_itt {t : TE} (q : Jdg c n ga BD t) : Jdg c n (fun L => (ga L).bind asT) BI (iTup c.X.K t) := fun G F ow σ H L Rr =>
  (q G F ow σ H L Rr).bind1 (t2 := fun v H1 Q => ∃ a, v = V.ref a ∧ (∃ xs, SqT c.X.K H1 a xs) ∧ Q (Itt c.X.K a) H1) fun d L1 v H1 F1 ow1 _ _ _ R1 b1 => by
    cases b1 with
    | @tup l vs ds h1 h2 =>
      refine (Post.val (a := ds) (b := Itt c.X.K l) (B := BI c.X.K) R1 fun i H s => ⟨fun hi => ⟨vs, sqt_same s h1, by rw [h2.len]; exact hi⟩, fun d hd => ?_⟩).imp fun Q q => ⟨l, rfl, ⟨vs, sqt_same R1.exF h1⟩, q⟩
      obtain ⟨v, h3, h4⟩ := h2.get hd
      exact ⟨⟨vs, v, sqt_same s h1, h3⟩, fun x H' ⟨e1, e2⟩ => .inl ⟨e1, by
        have := e2 vs (sqt_same s h1)
        rw [h3] at this
        cases this
        exact h4⟩⟩
    | _ => trivial
def asX : D → LS → R (List D)
  | .str x, L => .ok (signs x) L
  | _, _ => .stuck
theorem jdg_its {t : TE} (q : Jdg c n ga BD t) : Jdg c n (fun L => (ga L).bind asX) BI (iStr t) := fun G F ow σ H L Rr =>
  (q G F ow σ H L Rr).bind1 (t2 := fun v H1 Q => ∃ x, v = V.str x ∧ Q (Its x) H1) fun d L1 v H1 F1 ow1 _ _ _ R1 b1 => by
    cases b1 with
    | str x => exact (Post.val (a := signs x) (b := Its x) (B := BI c.X.K) R1 its_ok).imp fun Q q => ⟨x, rfl, q⟩
    | _ => trivial
theorem ji_any (h : JD c n a ga) : JI c n tg a (fun L => (ga L).bind asItems) := by
  obtain ⟨t, p, q⟩ := h
  refine ⟨fun σ H R => iList c.X.K t σ H R ∨ iTup c.X.K t σ H R ∨ iStr t σ H R, PI_or (pi_list p) (PI_or (pi_tup p) (pi_str p)), fun G F ow σ H L Rr => ?_⟩
  have h1 := jdg_itl q G F ow σ H L Rr
  have h2 := jdg_itt q G F ow σ H L Rr
  have h3 := jdg_its q G F ow σ H L Rr
  show Post c G n F H σ ((ga L).bind asItems) _ _
  dsimp only at h1 h2 h3
  cases hr : ga L with
  | stuck => trivial
  | err e L1 =>
    rw [hr] at h1
    exact Post.imp h1 fun Q z => .inl z
  | ok d L1 =>
    rw [hr] at h1 h2 h3
    cases d with
    | list ds => exact Post.imp h1 fun Q z => .inl z
    | tuple ds => exact Post.imp h2 fun Q z => .inr (.inl z)
    | str x => exact Post.imp h3 fun Q z => .inr (.inr z)
    | _ => trivial
end
end VS

namespace VS
open PySem PySem.Spec PyProof.Rows L2

structure Dx (P : Program) (w : World) (K : PySem.W.Frag) (mg : Str → Option Value) (base : Heap) (ca : Nat → Addr) (x : Str) (k : Nat) (ps : List Str) (md : List Bool) (m : LS → R S) : Prop where
  ex : ∃ f fd, FnOk P w K mg base (L2.CX P w) k f fd ps (VSp K ca md m) ∧ mg x = some (.ref f) ∧ PySem.W.keepIn K (.ref f) = true ∧ Binds K fd ps []
theorem dx_of {P : Program} {w : World} {K : PySem.W.Frag} {mg : Str → Option Value} {base : Heap} {ca : Nat → Addr} {x : Str} {k : Nat} {ps : List Str} {md : List Bool} {m : LS → R S} {f : Addr} {fd : FuncData}
    (h : FnOk P w K mg base (L2.CX P w) k f fd ps (VSp K ca md m)) (hg : mg x = some (.ref f)) (hk : PySem.W.keepIn K (.ref f) = true) (hb : Binds K fd ps []) : Dx P w K mg base ca x k ps md m := ⟨f, fd, h, hg, hk, hb⟩
section
variable {c : Ct} {n : Bool} {pos : Pos} {es : List Expr} {as : List Ar}
theorem je_dx {x : Str} {k j : Nat} {ps : List Str} {md : List Bool} {m : LS → R S} {p : Pos} {e : Expr} (D : Dx c.X.prog c.X.w c.X.K c.X.mg c.X.base c.ca x k ps md m) (hr : Room j c.X.A) (hk : k ≤ j) (tk : Takes c.X c.W) (hg : Gl c.X x) (ha : JAr c n (e :: es) as) (hl : as.length = md.length := by rfl)
    (hdb : (x == ("__debug__" : Str)) = false := by decide) (he : starEach (e :: es) c.X.env = (false, eval e c.X.env) :: starEach es c.X.env := by rfl) (hpl : (backTo pos (starEach es c.X.env)).any (·.1) = false := by rfl) :
    JE c (n && allD as) (.Call (.Name x p) (e :: es) [] pos) (gCall m as) := by
  obtain ⟨f, fd, h1, h2, h3, h4⟩ := D.ex
  exact je_call h1 (hr.mono hk) tk hg h2 h3 h4 ha hl hdb he hpl
end
theorem law_sp {K : PySem.W.Frag} {ca : Nat → Addr} {m : LS → R S} {H : Hp} {a : Addr} {ns : List Int} (hS : SqL K H a (ns.map V.int)) {L : LS} (h : m [some (.scr ns)] = .ok (.d (.bool true)) L) :
    VSp K ca [true] m [.ref a] H (fun v _ => v = .bl true) (fun _ _ _ => False) := by
  refine ⟨fun _ => none, fun _ => none, H, fun _ => none, [some (.scr ns)], rfl, ⟨Same.refl H, (fun _ _ h => nomatch h), (fun _ _ h => nomatch h), (fun _ _ _ => .inl rfl), rfl, fun i s hi => ?_, (fun i v hi => nomatch hi), (fun _ _ h => nomatch h), (fun _ _ h => nomatch h)⟩, ?_⟩
  · cases i with
    | zero =>
      cases hi
      exact ⟨.ref a, rfl, RT.of (.scr hS)⟩
    | succ i => cases hi
  · rw [h]
    intro v H' F' ow' _ _ rs
    cases rs with
    | d q => cases q; rfl
theorem cx_false {P : Program} {w : World} (H : Hp) (s : Shared) (e : Value) (s' : Shared) : L2.CX P w [] H s (fun _ _ _ => False) e s' → False := fun h => by
  obtain ⟨_, _, _, _, _, _, _, _, _, _, _, _, z⟩ := h
  exact z
end VS

namespace VS
open PySem PySem.Spec PyProof.Rows L2
section
variable {α : Type} {L L1 L2 : LS} {i : Nat}
def seqK (r : R O) (g : LS → R O) : R O := match r with
  | .ok .nx L1 => g L1
  | r => r
theorem ev_seq (g1 g2 : LS → R O) (L : LS) : gSeq g1 g2 L = seqK (g1 L) g2 := rfl
theorem seqK_nx (L : LS) (g : LS → R O) : seqK (.ok .nx L) g = g L := rfl
theorem seqK_rt (s : S) (L : LS) (g : LS → R O) : seqK (.ok (.rt s) L) g = .ok (.rt s) L := rfl
theorem seqK_bk (L : LS) (g : LS → R O) : seqK (.ok .bk L) g = .ok .bk L := rfl
theorem seqK_ct (L : LS) (g : LS → R O) : seqK (.ok .ct L) g = .ok .ct L := rfl
theorem seqK_err (e : Nat) (L : LS) (g : LS → R O) : seqK (.err e L) g = .err e L := rfl
theorem ev_next (L : LS) : gNext L = .ok .nx L := rfl
def ifK (r : R Bool) (x y : LS → R O) : R O := r.bind fun b L1 => if b = true then x L1 else y L1
theorem ev_if (t : LS → R Bool) (x y : LS → R O) (L : LS) : gIf t x y L = ifK (t L) x y := rfl
theorem ifK_ok (b : Bool) (L : LS) (x y : LS → R O) : ifK (.ok b L) x y = if b = true then x L else y L := rfl
theorem ifK_err (e : Nat) (L : LS) (x y : LS → R O) : ifK (.err e L) x y = .err e L := rfl
def asgK (i : Nat) (r : R S) : R O := r.bind fun s L1 => .ok .nx (L1.set i (some s))
theorem ev_asg (i : Nat) (g : LS → R S) (L : LS) : gAsg i g L = asgK i (g L) := rfl
theorem asgK_ok (i : Nat) (s : S) (L : LS) : asgK i (.ok s L) = .ok .nx (L.set i (some s)) := rfl
theorem asgK_err (i e : Nat) (L : LS) : asgK i (.err e L) = .err e L := rfl
def retK (r : R S) : R O := r.bind fun s L1 => .ok (.rt s) L1
theorem ev_ret (g : LS → R S) (L : LS) : gRet g L = retK (g L) := rfl
theorem retK_ok (s : S) (L : LS) : retK (.ok s L) = .ok (.rt s) L := rfl
theorem retK_err (e : Nat) (L : LS) : retK (.err e L) = .err e L := rfl
theorem ev_retN (L : LS) : gRetN L = .ok (.rt (.d .none)) L := rfl
def dropK (r : R α) : R O := r.bind fun _ L1 => .ok .nx L1
theorem ev_drop (g : LS → R α) (L : LS) : gDrop g L = dropK (g L) := rfl
theorem dropK_ok (a : α) (L : LS) : dropK (.ok a L) = .ok .nx L := rfl
theorem dropK_err (e : Nat) (L : LS) : dropK (.err e L : R α) = .err e L := rfl
theorem ev_c (d : D) (L : LS) : gC d L = .ok d L := rfl
def dK (r : R D) : R S := r.bind fun d L1 => .ok (.d d) L1
theorem ev_d (g : LS → R D) (L : LS) : gD g L = dK (g L) := rfl
theorem dK_ok (d : D) (L : LS) : dK (.ok d L) = .ok (.d d) L := rfl
theorem dK_err (e : Nat) (L : LS) : dK (.err e L) = .err e L := rfl
def fzK (r : R S) : R D := r.bind frS
theorem ev_fz (g : LS → R S) (L : LS) : gFz g L = fzK (g L) := rfl
theorem fzK_d (d : D) (L : LS) : fzK (.ok (.d d) L) = .ok d L := rfl
theorem fzK_l (ds : List D) (L : LS) : fzK (.ok (.ol ds) L) = .ok (.list ds) L := rfl
theorem fzK_err (e : Nat) (L : LS) : fzK (.err e L) = .err e L := rfl
def opK1 (f : D → D → Option α) (b : LS → R D) (r : R D) : R α := r.bind fun d L1 => (b L1).bind fun e L2 => ofO (f d e) L2
def opK2 (f : D → D → Option α) (d : D) (r : R D) : R α := r.bind fun e L2 => ofO (f d e) L2
theorem ev_op (f : D → D → Option α) (a b : LS → R D) (L : LS) : gOp f a b L = opK1 f b (a L) := rfl
theorem opK1_ok (f : D → D → Option α) (b : LS → R D) (d : D) (L : LS) : opK1 f b (.ok d L) = opK2 f d (b L) := rfl
theorem opK1_err (f : D → D → Option α) (b : LS → R D) (e : Nat) (L : LS) : opK1 f b (.err e L) = .err e L := rfl
theorem opK2_ok (f : D → D → Option α) (d e : D) (L : LS) : opK2 f d (.ok e L) = ofO (f d e) L := rfl
theorem opK2_err (f : D → D → Option α) (d : D) (e : Nat) (L : LS) : opK2 f d (.err e L) = .err e L := rfl
def unK (f : D → Option α) (r : R D) : R α := r.bind fun d L1 => ofO (f d) L1
theorem ev_un (f : D → Option α) (a : LS → R D) (L : LS) : gUn f a L = unK f (a L) := rfl
theorem unK_ok (f : D → Option α) (d : D) (L : LS) : unK f (.ok d L) = ofO (f d) L := rfl
theorem unK_err (f : D → Option α) (e : Nat) (L : LS) : unK f (.err e L) = .err e L := rfl
theorem ev_isi (T : String) (a : LS → R D) (L : LS) : gIsi T a L = unK (isTy T) (a L) := rfl
def bK (r : R D) : R Bool := r.bind asB
theorem ev_b (g : LS → R D) (L : LS) : gB g L = bK (g L) := rfl
theorem bK_ok (b : Bool) (L : LS) : bK (.ok (.bool b) L) = .ok b L := rfl
theorem bK_err (e : Nat) (L : LS) : bK (.err e L) = .err e L := rfl
def andK (r : R Bool) (b : LS → R Bool) : R Bool := r.bind fun x L1 => if x = true then b L1 else .ok false L1
def orK (r : R Bool) (b : LS → R Bool) : R Bool := r.bind fun x L1 => if x = true then .ok true L1 else b L1
def notK (r : R Bool) : R Bool := r.bind fun x L1 => .ok (!x) L1
theorem ev_and (a b : LS → R Bool) (L : LS) : gAnd a b L = andK (a L) b := rfl
theorem andK_ok (x : Bool) (b : LS → R Bool) (L : LS) : andK (.ok x L) b = if x = true then b L else .ok false L := rfl
theorem andK_err (e : Nat) (b : LS → R Bool) (L : LS) : andK (.err e L) b = .err e L := rfl
theorem ev_or (a b : LS → R Bool) (L : LS) : gOr a b L = orK (a L) b := rfl
theorem orK_ok (x : Bool) (b : LS → R Bool) (L : LS) : orK (.ok x L) b = if x = true then .ok true L else b L := rfl
theorem orK_err (e : Nat) (b : LS → R Bool) (L : LS) : orK (.err e L) b = .err e L := rfl
theorem ev_not (a : LS → R Bool) (L : LS) : gNot a L = notK (a L) := rfl
theorem notK_ok (x : Bool) (L : LS) : notK (.ok x L) = .ok (!x) L := rfl
def andVK (r : R D) (b : LS → R D) : R D := r.bind fun d L1 => match d with
  | .bool x => if x = true then b L1 else .ok (.bool false) L1
  | _ => .stuck
def orVK (r : R D) (b : LS → R D) : R D := r.bind fun d L1 => match d with
  | .bool x => if x = true then .ok (.bool true) L1 else b L1
  | _ => .stuck
theorem ev_andV (a b : LS → R D) (L : LS) : gAndV a b L = andVK (a L) b := rfl
theorem andVK_ok (x : Bool) (b : LS → R D) (L : LS) : andVK (.ok (.bool x) L) b = if x = true then b L else .ok (.bool false) L := rfl
theorem ev_orV (a b : LS → R D) (L : LS) : gOrV a b L = orVK (a L) b := rfl
theorem orVK_ok (x : Bool) (b : LS → R D) (L : LS) : orVK (.ok (.bool x) L) b = if x = true then .ok (.bool true) L else b L := rfl
def ifEK (r : R Bool) (a b : LS → R α) : R α := r.bind fun x L1 => if x = true then a L1 else b L1
theorem ev_ifE (t : LS → R Bool) (a b : LS → R α) (L : LS) : gIfE t a b L = ifEK (t L) a b := rfl
theorem ifEK_ok (x : Bool) (a b : LS → R α) (L : LS) : ifEK (.ok x L) a b = if x = true then a L else b L := rfl
def consK1 (r : LS → R (List D)) (x : R D) : R (List D) := x.bind fun d L1 => (r L1).bind fun ds L2 => .ok (d :: ds) L2
def consK2 (d : D) (r : R (List D)) : R (List D) := r.bind fun ds L2 => .ok (d :: ds) L2
theorem ev_nil (L : LS) : gNil L = .ok [] L := rfl
theorem ev_cons (a : LS → R D) (r : LS → R (List D)) (L : LS) : gCons a r L = consK1 r (a L) := rfl
theorem consK1_ok (r : LS → R (List D)) (d : D) (L : LS) : consK1 r (.ok d L) = consK2 d (r L) := rfl
theorem consK1_err (r : LS → R (List D)) (e : Nat) (L : LS) : consK1 r (.err e L) = .err e L := rfl
theorem consK2_ok (d : D) (ds : List D) (L : LS) : consK2 d (.ok ds L) = .ok (d :: ds) L := rfl
theorem consK2_err (d : D) (e : Nat) (L : LS) : consK2 d (.err e L) = .err e L := rfl
def lstK (r : R (List D)) : R S := r.bind fun ds L1 => if ds.length ≤ sizeLine then .ok (.ol ds) L1 else .stuck
def tupK (r : R (List D)) : R D := r.bind fun ds L1 => if ds.length ≤ sizeLine then .ok (.tuple ds) L1 else .stuck
theorem ev_lst (a : LS → R (List D)) (L : LS) : gLst a L = lstK (a L) := rfl
theorem lstK_ok (ds : List D) (L : LS) : lstK (.ok ds L) = if ds.length ≤ sizeLine then .ok (.ol ds) L else .stuck := rfl
theorem ev_tup (a : LS → R (List D)) (L : LS) : gTup a L = tupK (a L) := rfl
theorem tupK_ok (ds : List D) (L : LS) : tupK (.ok ds L) = if ds.length ≤ sizeLine then .ok (.tuple ds) L else .stuck := rfl
theorem small_len {n : Nat} (h : n ≤ 1000000) : n ≤ sizeLine := by rw [PySem.sizeLine_eq]; omega
def varK (i : Nat) (o : Option (Option S)) (L : LS) : R D := match o with
  | some (some (.d d)) => .ok d L
  | some (some (.ol ds)) => .ok (.list ds) (L.set i (some (.d (.list ds))))
  | _ => .stuck
theorem ev_var (i : Nat) (L : LS) : gVar i L = varK i L[i]? L := rfl
theorem varK_d (i : Nat) (d : D) (L : LS) : varK i (some (some (.d d))) L = .ok d L := rfl
theorem varK_l (i : Nat) (ds : List D) (L : LS) : varK i (some (some (.ol ds))) L = .ok (.list ds) (L.set i (some (.d (.list ds)))) := rfl
def peekK (o : Option (Option S)) (L : LS) : R D := match o with
  | some (some (.d d)) => .ok d L
  | some (some (.ol ds)) => .ok (.list ds) L
  | some (some (.scr ns)) => .ok (.list (ns.map PyData.int)) L
  | some (some (.bl ds)) => .ok (.list ds) L
  | _ => .stuck
theorem ev_peek (i : Nat) (L : LS) : gPeek i L = peekK L[i]? L := rfl
theorem peekK_d (d : D) (L : LS) : peekK (some (some (.d d))) L = .ok d L := rfl
theorem peekK_l (ds : List D) (L : LS) : peekK (some (some (.ol ds))) L = .ok (.list ds) L := rfl
theorem peekK_s (ns : List Int) (L : LS) : peekK (some (some (.scr ns))) L = .ok (.list (ns.map PyData.int)) L := rfl
def moveK (i : Nat) (o : Option (Option S)) (L : LS) : R S := match o with
  | some (some (.d d)) => .ok (.d d) L
  | some (some (.scr _)) => .stuck
  | some (some (.b _)) => .stuck
  | some (some (.bl _)) => .stuck
  | some (some s) => .ok s (L.set i none)
  | _ => .stuck
theorem ev_move (i : Nat) (L : LS) : gMove i L = moveK i L[i]? L := rfl
theorem moveK_d (i : Nat) (d : D) (L : LS) : moveK i (some (some (.d d))) L = .ok (.d d) L := rfl
theorem moveK_l (i : Nat) (ds : List D) (L : LS) : moveK i (some (some (.ol ds))) L = .ok (.ol ds) (L.set i none) := rfl
def ixK (i : Nat) (o : Option (Option S)) (b : LS → R D) (L : LS) : R D := match o with
  | some (some _) => (b L).bind fun e L1 => (gPeek i L1).bind fun d L2 => ofO (dIx d e) L2
  | _ => .stuck
def ixK1 (i : Nat) (r : R D) : R D := r.bind fun e L1 => (gPeek i L1).bind fun d L2 => ofO (dIx d e) L2
def ixK2 (e : D) (r : R D) : R D := r.bind fun d L2 => ofO (dIx d e) L2
theorem ev_ixP (i : Nat) (b : LS → R D) (L : LS) : gIxP i b L = ixK i L[i]? b L := rfl
theorem ixK_ok (i : Nat) (s : S) (b : LS → R D) (L : LS) : ixK i (some (some s)) b L = ixK1 i (b L) := rfl
theorem ixK1_ok (i : Nat) (e : D) (L : LS) : ixK1 i (.ok e L) = ixK2 e (gPeek i L) := rfl
theorem ixK1_err (i e : Nat) (L : LS) : ixK1 i (.err e L) = .err e L := rfl
theorem ixK2_ok (e d : D) (L : LS) : ixK2 e (.ok d L) = ofO (dIx d e) L := rfl
theorem atI_nat' (xs : List D) (k : Nat) : atI xs (k : Int) = xs[k]? := by
  unfold atI ixN
  rw [if_pos (Int.natCast_nonneg k)]
  by_cases h : k < xs.length
  · rw [if_pos (by omega)]
    rfl
  · rw [if_neg (by omega), List.getElem?_eq_none (by omega)]
    rfl
theorem dIx_nat (xs : List D) (k : Nat) : dIx (.list xs) (.int (k : Int)) = xs[k]? := atI_nat' xs k
theorem dIx_natT (xs : List D) (k : Nat) : dIx (.tuple xs) (.int (k : Int)) = xs[k]? := atI_nat' xs k
theorem dIx_l0 (xs : List D) : dIx (.list xs) (.int 0) = xs[0]? := dIx_nat xs 0
theorem dIx_l1 (xs : List D) : dIx (.list xs) (.int 1) = xs[1]? := dIx_nat xs 1
theorem dIx_l2 (xs : List D) : dIx (.list xs) (.int 2) = xs[2]? := dIx_nat xs 2
theorem dIx_l3 (xs : List D) : dIx (.list xs) (.int 3) = xs[3]? := dIx_nat xs 3
theorem dIx_l4 (xs : List D) : dIx (.list xs) (.int 4) = xs[4]? := dIx_nat xs 4
theorem dIx_t0 (xs : List D) : dIx (.tuple xs) (.int 0) = xs[0]? := dIx_natT xs 0
theorem dIx_t1 (xs : List D) : dIx (.tuple xs) (.int 1) = xs[1]? := dIx_natT xs 1
theorem dIx_t2 (xs : List D) : dIx (.tuple xs) (.int 2) = xs[2]? := dIx_natT xs 2
theorem dIx_t3 (xs : List D) : dIx (.tuple xs) (.int 3) = xs[3]? := dIx_natT xs 3
def setK0 (i : Nat) (gk : LS → R D) (r : R D) : R O := r.bind fun d L1 => match L1[i]? with
  | some (some _) => (gk L1).bind (setAt i d)
  | _ => .stuck
def setK1 (i : Nat) (gk : LS → R D) (d : D) (o : Option (Option S)) (L : LS) : R O := match o with
  | some (some _) => (gk L).bind (setAt i d)
  | _ => .stuck
def setK2 (i : Nat) (d : D) (r : R D) : R O := r.bind (setAt i d)
def setK3 (i : Nat) (d : D) (k : Int) (o : Option (Option S)) (L : LS) : R O := match o with
  | some (some (.ol ds)) => (match ixN ds.length k with
    | some j => .ok .nx (L.set i (some (.ol (ds.set j d))))
    | none => .stuck)
  | _ => .stuck
theorem ev_setIx (i : Nat) (gk g : LS → R D) (L : LS) : gSetIx i gk g L = setK0 i gk (g L) := rfl
theorem setK0_ok (i : Nat) (gk : LS → R D) (d : D) (L : LS) : setK0 i gk (.ok d L) = setK1 i gk d L[i]? L := rfl
theorem setK0_err (i : Nat) (gk : LS → R D) (e : Nat) (L : LS) : setK0 i gk (.err e L) = .err e L := rfl
theorem setK1_ok (i : Nat) (gk : LS → R D) (d : D) (s : S) (L : LS) : setK1 i gk d (some (some s)) L = setK2 i d (gk L) := rfl
theorem setK2_ok (i : Nat) (d : D) (k : Int) (L : LS) : setK2 i d (.ok (.int k) L) = setK3 i d k L[i]? L := rfl
theorem setK3_nat (i : Nat) (d : D) (k : Nat) (ds : List D) (L : LS) : setK3 i d (k : Int) (some (some (.ol ds))) L = if k < ds.length then .ok .nx (L.set i (some (.ol (ds.set k d)))) else .stuck := by
  unfold setK3 ixN
  dsimp only
  rw [if_pos (Int.natCast_nonneg k)]
  by_cases h : k < ds.length
  · rw [if_pos (by omega), if_pos h]
    rfl
  · rw [if_neg (by omega), if_neg h]
theorem setK3_0 (i : Nat) (d : D) (ds : List D) (L : LS) : setK3 i d 0 (some (some (.ol ds))) L = if 0 < ds.length then .ok .nx (L.set i (some (.ol (ds.set 0 d)))) else .stuck := setK3_nat i d 0 ds L
theorem setK3_1 (i : Nat) (d : D) (ds : List D) (L : LS) : setK3 i d 1 (some (some (.ol ds))) L = if 1 < ds.length then .ok .nx (L.set i (some (.ol (ds.set 1 d)))) else .stuck := setK3_nat i d 1 ds L
theorem setK3_2 (i : Nat) (d : D) (ds : List D) (L : LS) : setK3 i d 2 (some (some (.ol ds))) L = if 2 < ds.length then .ok .nx (L.set i (some (.ol (ds.set 2 d)))) else .stuck := setK3_nat i d 2 ds L
theorem setK3_3 (i : Nat) (d : D) (ds : List D) (L : LS) : setK3 i d 3 (some (some (.ol ds))) L = if 3 < ds.length then .ok .nx (L.set i (some (.ol (ds.set 3 d)))) else .stuck := setK3_nat i d 3 ds L
theorem setK3_4 (i : Nat) (d : D) (ds : List D) (L : LS) : setK3 i d 4 (some (some (.ol ds))) L = if 4 < ds.length then .ok .nx (L.set i (some (.ol (ds.set 4 d)))) else .stuck := setK3_nat i d 4 ds L
def slK1 (lo hi : LS → R (Option Int)) (r : R D) : R S := r.bind fun d L1 => (lo L1).bind fun l L2 => (hi L2).bind fun u L3 => ofO (dSl d l u) L3
def slK2 (d : D) (hi : LS → R (Option Int)) (r : R (Option Int)) : R S := r.bind fun l L2 => (hi L2).bind fun u L3 => ofO (dSl d l u) L3
def slK3 (d : D) (l : Option Int) (r : R (Option Int)) : R S := r.bind fun u L3 => ofO (dSl d l u) L3
theorem ev_sl (a : LS → R D) (lo hi : LS → R (Option Int)) (L : LS) : gSl a lo hi L = slK1 lo hi (a L) := rfl
theorem slK1_ok (lo hi : LS → R (Option Int)) (d : D) (L : LS) : slK1 lo hi (.ok d L) = slK2 d hi (lo L) := rfl
theorem slK2_ok (d : D) (hi : LS → R (Option Int)) (l : Option Int) (L : LS) : slK2 d hi (.ok l L) = slK3 d l (hi L) := rfl
theorem slK3_ok (d : D) (l u : Option Int) (L : LS) : slK3 d l (.ok u L) = ofO (dSl d l u) L := rfl
theorem ev_no (L : LS) : gNo L = .ok none L := rfl
def soK (r : R D) : R (Option Int) := r.bind asI
theorem ev_so (g : LS → R D) (L : LS) : gSo g L = soK (g L) := rfl
theorem soK_ok (i : Int) (L : LS) : soK (.ok (.int i) L) = .ok (some i) L := rfl
theorem soK_err (e : Nat) (L : LS) : soK (.err e L) = .err e L := rfl
def joinK1 (gb : LS → R D) (r : R D) : R D := r.bind (gTxt fun a L1 => (gb L1).bind fun e L2 => ofO (dJoin (.str a) e) L2)
def joinK2 (a : Str) (r : R D) : R D := r.bind fun e L2 => ofO (dJoin (.str a) e) L2
theorem ev_join (ga gb : LS → R D) (L : LS) : gJoin ga gb L = joinK1 gb (ga L) := rfl
theorem joinK1_ok (gb : LS → R D) (a : Str) (L : LS) : joinK1 gb (.ok (.str a) L) = joinK2 a (gb L) := rfl
theorem joinK2_ok (a : Str) (e : D) (L : LS) : joinK2 a (.ok e L) = ofO (dJoin (.str a) e) L := rfl
def appK1 (i : Nat) (g : LS → R D) (o : Option (Option S)) (L : LS) : R S := match o with
  | some (some (.ol _)) => (g L).bind fun d L1 => gOwnL i (fun ds L2 => if ds.length < sizeLine then .ok (.d .none) (L2.set i (some (.ol (ds ++ [d])))) else .stuck) L1
  | _ => .stuck
def appK2 (i : Nat) (r : R D) : R S := r.bind fun d L1 => gOwnL i (fun ds L2 => if ds.length < sizeLine then .ok (.d .none) (L2.set i (some (.ol (ds ++ [d])))) else .stuck) L1
def appK3 (i : Nat) (d : D) (o : Option (Option S)) (L : LS) : R S := match o with
  | some (some (.ol ds)) => if ds.length < sizeLine then .ok (.d .none) (L.set i (some (.ol (ds ++ [d])))) else .stuck
  | _ => .stuck
theorem ev_app (i : Nat) (g : LS → R D) (L : LS) : gApp i g L = appK1 i g L[i]? L := rfl
theorem appK1_ok (i : Nat) (g : LS → R D) (ds : List D) (L : LS) : appK1 i g (some (some (.ol ds))) L = appK2 i (g L) := rfl
theorem appK2_ok (i : Nat) (d : D) (L : LS) : appK2 i (.ok d L) = appK3 i d L[i]? L := rfl
theorem appK2_err (i e : Nat) (L : LS) : appK2 i (.err e L) = .err e L := rfl
theorem appK3_ok (i : Nat) (d : D) (ds : List D) (L : LS) : appK3 i d (some (some (.ol ds))) L = if ds.length < sizeLine then .ok (.d .none) (L.set i (some (.ol (ds ++ [d])))) else .stuck := rfl
def eaK1 (as : List Ar) (r : R D) : R (List Av) := r.bind fun d L1 => (evArgs as L1).bind fun xs L2 => .ok (.d d :: xs) L2
def eaK2 (x : Av) (r : R (List Av)) : R (List Av) := r.bind fun xs L2 => .ok (x :: xs) L2
def eaK3 (i : Nat) (o : Option (Option S)) (as : List Ar) (L : LS) : R (List Av) := match o with
  | some (some _) => (evArgs as L).bind fun xs L2 => .ok (.r i :: xs) L2
  | _ => .stuck
theorem ev_a0 (L : LS) : evArgs [] L = .ok [] L := rfl
theorem ev_aD (g : LS → R D) (as : List Ar) (L : LS) : evArgs (.d g :: as) L = eaK1 as (g L) := rfl
theorem ev_aR (i : Nat) (as : List Ar) (L : LS) : evArgs (.r i :: as) L = eaK3 i L[i]? as L := rfl
theorem eaK1_ok (as : List Ar) (d : D) (L : LS) : eaK1 as (.ok d L) = eaK2 (.d d) (evArgs as L) := rfl
theorem eaK1_err (as : List Ar) (e : Nat) (L : LS) : eaK1 as (.err e L) = .err e L := rfl
theorem eaK3_ok (i : Nat) (s : S) (as : List Ar) (L : LS) : eaK3 i (some (some s)) as L = eaK2 (.r i) (evArgs as L) := rfl
theorem eaK2_ok (x : Av) (xs : List Av) (L : LS) : eaK2 x (.ok xs L) = .ok (x :: xs) L := rfl
theorem eaK2_err (x : Av) (e : Nat) (L : LS) : eaK2 x (.err e L) = .err e L := rfl
def callK (m : LS → R S) (r : R (List Av)) : R S := r.bind fun xs L1 => if (refs xs).Nodup then callAt m xs L1 else .stuck
def backK (xs : List Av) (L : LS) (r : R S) : R S := match r with
  | .ok s ss => .ok s (putBack xs ss L)
  | .err e ss => .err e (putBack xs ss L)
  | .stuck => .stuck
theorem ev_call (m : LS → R S) (as : List Ar) (L : LS) : gCall m as L = callK m (evArgs as L) := rfl
theorem callK_d1 (m : LS → R S) (d : D) (L : LS) : callK m (.ok [.d d] L) = backK [.d d] L (m [some (.d d)]) := rfl
theorem callK_gen (m : LS → R S) (xs : List Av) (L : LS) (h : (refs xs).Nodup) : callK m (.ok xs L) = backK xs L (m (xs.map (slotOf L))) := if_pos h
theorem callK_d2 (m : LS → R S) (d0 d1 : D) (L : LS) : callK m (.ok [.d d0, .d d1] L) = backK [.d d0, .d d1] L (m [some (.d d0), some (.d d1)]) := rfl
theorem callK_d3 (m : LS → R S) (d0 d1 d2 : D) (L : LS) : callK m (.ok [.d d0, .d d1, .d d2] L) = backK [.d d0, .d d1, .d d2] L (m [some (.d d0), some (.d d1), some (.d d2)]) := rfl
theorem callK_d4 (m : LS → R S) (d0 d1 d2 d3 : D) (L : LS) : callK m (.ok [.d d0, .d d1, .d d2, .d d3] L) = backK [.d d0, .d d1, .d d2, .d d3] L (m [some (.d d0), some (.d d1), some (.d d2), some (.d d3)]) := rfl
theorem callK_d5 (m : LS → R S) (d0 d1 d2 d3 d4 : D) (L : LS) : callK m (.ok [.d d0, .d d1, .d d2, .d d3, .d d4] L) = backK [.d d0, .d d1, .d d2, .d d3, .d d4] L (m [some (.d d0), some (.d d1), some (.d d2), some (.d d3), some (.d d4)]) := rfl
theorem callK_d6 (m : LS → R S) (d0 d1 d2 d3 d4 d5 : D) (L : LS) : callK m (.ok [.d d0, .d d1, .d d2, .d d3, .d d4, .d d5] L) = backK [.d d0, .d d1, .d d2, .d d3, .d d4, .d d5] L (m [some (.d d0), some (.d d1), some (.d d2), some (.d d3), some (.d d4), some (.d d5)]) := rfl
theorem callK_d7 (m : LS → R S) (d0 d1 d2 d3 d4 d5 d6 : D) (L : LS) : callK m (.ok [.d d0, .d d1, .d d2, .d d3, .d d4, .d d5, .d d6] L) = backK [.d d0, .d d1, .d d2, .d d3, .d d4, .d d5, .d d6] L (m [some (.d d0), some (.d d1), some (.d d2), some (.d d3), some (.d d4), some (.d d5), some (.d d6)]) := rfl
theorem callK_d8 (m : LS → R S) (d0 d1 d2 d3 d4 d5 d6 d7 : D) (L : LS) : callK m (.ok [.d d0, .d d1, .d d2, .d d3, .d d4, .d d5, .d d6, .d d7] L) = backK [.d d0, .d d1, .d d2, .d d3, .d d4, .d d5, .d d6, .d d7] L (m [some (.d d0), some (.d d1), some (.d d2), some (.d d3), some (.d d4), some (.d d5), some (.d d6), some (.d d7)]) := rfl
theorem callK_r0 (m : LS → R S) (i : Nat)  (L : LS) : callK m (.ok [.r i] L) = backK [.r i] L (m [(L[i]?).join]) := callK_gen m _ L (List.nodup_cons.mpr ⟨List.not_mem_nil, List.nodup_nil⟩)
theorem callK_r1 (m : LS → R S) (i : Nat) (d0 : D) (L : LS) : callK m (.ok [.r i, .d d0] L) = backK [.r i, .d d0] L (m [(L[i]?).join, some (.d d0)]) := callK_gen m _ L (List.nodup_cons.mpr ⟨List.not_mem_nil, List.nodup_nil⟩)
theorem callK_r2 (m : LS → R S) (i : Nat) (d0 d1 : D) (L : LS) : callK m (.ok [.r i, .d d0, .d d1] L) = backK [.r i, .d d0, .d d1] L (m [(L[i]?).join, some (.d d0), some (.d d1)]) := callK_gen m _ L (List.nodup_cons.mpr ⟨List.not_mem_nil, List.nodup_nil⟩)
theorem callK_r3 (m : LS → R S) (i : Nat) (d0 d1 d2 : D) (L : LS) : callK m (.ok [.r i, .d d0, .d d1, .d d2] L) = backK [.r i, .d d0, .d d1, .d d2] L (m [(L[i]?).join, some (.d d0), some (.d d1), some (.d d2)]) := callK_gen m _ L (List.nodup_cons.mpr ⟨List.not_mem_nil, List.nodup_nil⟩)
theorem callK_r4 (m : LS → R S) (i : Nat) (d0 d1 d2 d3 : D) (L : LS) : callK m (.ok [.r i, .d d0, .d d1, .d d2, .d d3] L) = backK [.r i, .d d0, .d d1, .d d2, .d d3] L (m [(L[i]?).join, some (.d d0), some (.d d1), some (.d d2), some (.d d3)]) := callK_gen m _ L (List.nodup_cons.mpr ⟨List.not_mem_nil, List.nodup_nil⟩)
theorem callK_r5 (m : LS → R S) (i : Nat) (d0 d1 d2 d3 d4 : D) (L : LS) : callK m (.ok [.r i, .d d0, .d d1, .d d2, .d d3, .d d4] L) = backK [.r i, .d d0, .d d1, .d d2, .d d3, .d d4] L (m [(L[i]?).join, some (.d d0), some (.d d1), some (.d d2), some (.d d3), some (.d d4)]) := callK_gen m _ L (List.nodup_cons.mpr ⟨List.not_mem_nil, List.nodup_nil⟩)
theorem callK_r6 (m : LS → R S) (i : Nat) (d0 d1 d2 d3 d4 d5 : D) (L : LS) : callK m (.ok [.r i, .d d0, .d d1, .d d2, .d d3, .d d4, .d d5] L) = backK [.r i, .d d0, .d d1, .d d2, .d d3, .d d4, .d d5] L (m [(L[i]?).join, some (.d d0), some (.d d1), some (.d d2), some (.d d3), some (.d d4), some (.d d5)]) := callK_gen m _ L (List.nodup_cons.mpr ⟨List.not_mem_nil, List.nodup_nil⟩)
theorem callK_r7 (m : LS → R S) (i : Nat) (d0 d1 d2 d3 d4 d5 d6 : D) (L : LS) : callK m (.ok [.r i, .d d0, .d d1, .d d2, .d d3, .d d4, .d d5, .d d6] L) = backK [.r i, .d d0, .d d1, .d d2, .d d3, .d d4, .d d5, .d d6] L (m [(L[i]?).join, some (.d d0), some (.d d1), some (.d d2), some (.d d3), some (.d d4), some (.d d5), some (.d d6)]) := callK_gen m _ L (List.nodup_cons.mpr ⟨List.not_mem_nil, List.nodup_nil⟩)
theorem callK_err (m : LS → R S) (e : Nat) (L : LS) : callK m (.err e L) = .err e L := rfl
theorem backK_ok (xs : List Av) (L : LS) (s : S) (ss : LS) : backK xs L (.ok s ss) = .ok s (putBack xs ss L) := rfl
theorem backK_err (xs : List Av) (L : LS) (e : Nat) (ss : LS) : backK xs L (.err e ss) = .err e (putBack xs ss L) := rfl
theorem slotOf_d (L : LS) (d : D) : slotOf L (.d d) = some (.d d) := rfl
theorem slotOf_r (L : LS) (i : Nat) : slotOf L (.r i) = (L[i]?).join := rfl
theorem putBack_d (xs : List Av) (d : D) (o : Option S) (ss L : LS) : putBack (.d d :: xs) (o :: ss) L = putBack xs ss L := rfl
theorem putBack_r (xs : List Av) (i : Nat) (o : Option S) (ss L : LS) : putBack (.r i :: xs) (o :: ss) L = putBack xs ss (L.set i o) := rfl
theorem putBack_nil (ss L : LS) : putBack [] ss L = L := rfl
theorem refs_nil : refs [] = [] := rfl
theorem refs_d (d : D) (xs : List Av) : refs (.d d :: xs) = refs xs := rfl
theorem refs_r (i : Nat) (xs : List Av) : refs (.r i :: xs) = i :: refs xs := rfl
theorem ev_run (md : List Bool) (N : Nat) (g : LS → R O) (ss : LS) : runDef md N g ss = endOf md (g (ss ++ List.replicate (N - ss.length) none)) := rfl
theorem endOf_nx (md : List Bool) (L : LS) : endOf md (.ok .nx L) = .ok (.d .none) (maskL md L) := rfl
theorem endOf_rt (md : List Bool) (s : S) (L : LS) : endOf md (.ok (.rt s) L) = .ok s (maskL md L) := rfl
theorem endOf_err (md : List Bool) (e : Nat) (L : LS) : endOf md (.err e L) = .err e (maskL md L) := rfl
theorem maskL_t (bs : List Bool) (o : Option S) (L : LS) : maskL (true :: bs) (o :: L) = o :: maskL bs L := rfl
theorem maskL_f (bs : List Bool) (o : Option S) (L : LS) : maskL (false :: bs) (o :: L) = none :: maskL bs L := rfl
theorem maskL_nil (L : LS) : maskL [] L = [] := by cases L <;> rfl
def forK (f : D → LS → Option LS) (g : LS → R O) (r : R (List D)) : R O := r.bind fun ds L1 => forGo f g ds L1
theorem ev_for (gi : LS → R (List D)) (f : D → LS → Option LS) (g : LS → R O) (L : LS) : gFor gi f g L = forK f g (gi L) := rfl
theorem forK_ok (f : D → LS → Option LS) (g : LS → R O) (ds : List D) (L : LS) : forK f g (.ok ds L) = forGo f g ds L := rfl
def turnK (f : D → LS → Option LS) (g : LS → R O) (ds : List D) (r : R O) : R O := match r with
  | .ok .nx L2 => forGo f g ds L2
  | .ok .ct L2 => forGo f g ds L2
  | .ok .bk L2 => .ok .nx L2
  | r => r
theorem forGo_nil (f : D → LS → Option LS) (g : LS → R O) (L : LS) : forGo f g [] L = .ok .nx L := rfl
theorem forGo_cons (f : D → LS → Option LS) (g : LS → R O) (d : D) (ds : List D) {L L1 : LS} (h : f d L = some L1) : forGo f g (d :: ds) L = turnK f g ds (g L1) := by
  show (match f d L with
    | none => R.stuck
    | some L1 => turnK f g ds (g L1)) = _
  rw [h]
theorem turnK_nx (f : D → LS → Option LS) (g : LS → R O) (ds : List D) (L : LS) : turnK f g ds (.ok .nx L) = forGo f g ds L := rfl
theorem turnK_ct (f : D → LS → Option LS) (g : LS → R O) (ds : List D) (L : LS) : turnK f g ds (.ok .ct L) = forGo f g ds L := rfl
theorem turnK_bk (f : D → LS → Option LS) (g : LS → R O) (ds : List D) (L : LS) : turnK f g ds (.ok .bk L) = .ok .nx L := rfl
theorem turnK_rt (f : D → LS → Option LS) (g : LS → R O) (ds : List D) (s : S) (L : LS) : turnK f g ds (.ok (.rt s) L) = .ok (.rt s) L := rfl
theorem turnK_err (f : D → LS → Option LS) (g : LS → R O) (ds : List D) (e : Nat) (L : LS) : turnK f g ds (.err e L) = .err e L := rfl
theorem bind_ok {β : Type} (a : α) (L : LS) (k : α → LS → R β) : (R.ok a L).bind k = k a L := rfl
theorem asItems_l (ds : List D) (L : LS) : asItems (.list ds) L = .ok ds L := rfl
theorem asItems_t (ds : List D) (L : LS) : asItems (.tuple ds) L = .ok ds L := rfl
theorem asItems_s (x : Str) (L : LS) : asItems (.str x) L = .ok (signs x) L := rfl
theorem ev_name (i : Nat) (d : D) (L : LS) : fName i d L = some (L.set i (some (.d d))) := rfl
theorem ev_fnil (L : LS) : fNil [] L = some L := rfl
theorem ev_fcons (f : D → LS → Option LS) (r : List D → LS → Option LS) (d : D) (ds : List D) (L : LS) : fCons f r (d :: ds) L = (f d L).bind (r ds) := rfl
theorem ev_ftup (m : Nat) (f : List D → LS → Option LS) (ds : List D) (L : LS) : fTup m f (.tuple ds) L = if ds.length = m then f ds L else none := rfl
theorem some_bind {β : Type} (a : α) (k : α → Option β) : (some a).bind k = k a := rfl
def asgTK (f : D → LS → Option LS) (r : R D) : R O := r.bind fun d L1 => match f d L1 with
  | some L2 => .ok .nx L2
  | none => .stuck
def asgTK2 (o : Option LS) : R O := match o with
  | some L2 => .ok .nx L2
  | none => .stuck
theorem ev_asgT (f : D → LS → Option LS) (g : LS → R D) (L : LS) : gAsgT f g L = asgTK f (g L) := rfl
theorem asgTK_ok (f : D → LS → Option LS) (d : D) (L : LS) : asgTK f (.ok d L) = asgTK2 (f d L) := rfl
theorem asgTK2_ok (L : LS) : asgTK2 (some L) = .ok .nx L := rfl
def lcK (vs : List Nat) (f : D → LS → Option LS) (gt : LS → R Bool) (ge : LS → R D) (r : R (List D)) : R S := r.bind fun ds L1 => lcGo vs f gt ge ds [] (wipeL L1 vs)
theorem ev_lc (vs : List Nat) (gi : LS → R (List D)) (f : D → LS → Option LS) (gt : LS → R Bool) (ge : LS → R D) (L : LS) : gLc vs gi f gt ge L = lcK vs f gt ge (gi L) := rfl
theorem lcK_ok (vs : List Nat) (f : D → LS → Option LS) (gt : LS → R Bool) (ge : LS → R D) (ds : List D) (L : LS) : lcK vs f gt ge (.ok ds L) = lcGo vs f gt ge ds [] (wipeL L vs) := rfl
theorem wipeL_nil (L : LS) : wipeL L [] = L := rfl
theorem wipeL_cons (L : LS) (v : Nat) (vs : List Nat) : wipeL L (v :: vs) = (wipeL L vs).set v none := rfl
theorem ev_yes (L : LS) : gYes L = .ok true L := rfl
theorem lcGo_nil (vs : List Nat) (f : D → LS → Option LS) (gt : LS → R Bool) (ge : LS → R D) (acc : List D) (L : LS) : lcGo vs f gt ge [] acc L = .ok (.ol acc) L := rfl
theorem lcGo_yes (vs : List Nat) (f : D → LS → Option LS) (gt : LS → R Bool) (ge : LS → R D) (d : D) (ds acc : List D) {L L1 L2 L3 : LS} {y : D} (h1 : f d L = some L1) (h2 : gt L1 = .ok true L2) (h3 : ge L2 = .ok y L3) (h4 : acc.length < sizeLine) :
    lcGo vs f gt ge (d :: ds) acc L = lcGo vs f gt ge ds (acc ++ [y]) (wipeL L3 vs) := by
  rw [lcGo]
  simp only [h1, h2, h3, if_pos, h4]
theorem dLt_i (i j : Int) : dLt (.int i) (.int j) = some (.bool (decide (i < j))) := rfl
theorem dLe_i (i j : Int) : dLe (.int i) (.int j) = some (.bool (decide (i ≤ j))) := rfl
theorem dGt_i (i j : Int) : dGt (.int i) (.int j) = some (.bool (decide (j < i))) := rfl
theorem dGe_i (i j : Int) : dGe (.int i) (.int j) = some (.bool (decide (j ≤ i))) := rfl
theorem eqv_int (i j : Int) : PyData.eqv (.int i) (.int j) = decide (i = j) := by
  simp only [PyData.eqv]
  exact Bool.beq_eq_decide_eq i j
theorem eqv_str (i j : Str) : PyData.eqv (.str i) (.str j) = decide (i = j) := by
  simp only [PyData.eqv]
  exact Bool.beq_eq_decide_eq i j
theorem eqv_bool (i j : Bool) : PyData.eqv (.bool i) (.bool j) = decide (i = j) := by
  simp only [PyData.eqv]
  exact Bool.beq_eq_decide_eq i j
theorem dEq_i (i j : Int) : dEq (.int i) (.int j) = some (.bool (decide (i = j))) := by
  unfold dEq
  rw [if_pos (.inl rfl), eqv_int]
theorem dEq_s (i j : Str) : dEq (.str i) (.str j) = some (.bool (decide (i = j))) := by
  unfold dEq
  rw [if_pos (.inl rfl), eqv_str]
theorem dEq_b (i j : Bool) : dEq (.bool i) (.bool j) = some (.bool (decide (i = j))) := by
  unfold dEq
  rw [if_pos (.inl rfl), eqv_bool]
theorem dNe_i (i j : Int) : dNe (.int i) (.int j) = some (.bool (!decide (i = j))) := by
  unfold dNe
  rw [if_pos (.inl rfl), eqv_int]
theorem dNe_s (i j : Str) : dNe (.str i) (.str j) = some (.bool (!decide (i = j))) := by
  unfold dNe
  rw [if_pos (.inl rfl), eqv_str]
theorem dIs_b (i j : Bool) : dIs (.bool i) (.bool j) = some (.bool (decide (i = j))) := rfl
theorem dSub_i (i j : Int) : dSub (.int i) (.int j) = some (.int (i - j)) := rfl
theorem dMod_ok {i j : Int} (h : 0 < j) : dMod (.int i) (.int j) = some (.int (i % j)) := if_pos (decide_eq_true h)
theorem dDiv_ok {i j : Int} (h : 0 < j) (h2 : j < 1073741824) : dDiv (.int i) (.int j) = some (.int (i / j)) := if_pos (decide_eq_true ⟨h, h2⟩)
theorem dMul_ok {i j : Int} (h : -(2 ^ 64) < i) (h2 : i < 2 ^ 64) : dMul (.int i) (.int j) = some (.d (.int (i * j))) := by
  have e : dMulI (.int i) (.int j) = some (.int (i * j)) := if_pos (decide_eq_true (.inl ⟨h, h2⟩))
  show (((dMulI (.int i) (.int j)).map S.d).orElse _) = _
  rw [e]
  rfl
theorem dPow_ok {i j : Int} (h : 0 ≤ j ∧ j ≤ 1000000 ∧ i.natAbs < 2 ^ 64) : dPow (.int i) (.int j) = some (.int (i ^ j.toNat)) := if_pos (decide_eq_true h)
theorem dLen_l (xs : List D) : dLen (.list xs) = some (.int xs.length) := rfl
theorem dLen_t (xs : List D) : dLen (.tuple xs) = some (.int xs.length) := rfl
theorem dLen_s {x : Str} (h : x.length ≤ sizeLine) : dLen (.str x) = some (.int x.length) := if_pos h
theorem dList_l (xs : List D) : dList (.list xs) = some (.ol xs) := rfl
theorem dList_t (xs : List D) : dList (.tuple xs) = some (.ol xs) := rfl
theorem dSl_l (xs : List D) (lo hi : Option Int) : dSl (.list xs) lo hi = some (.ol (cutD xs lo hi)) := rfl
theorem dSl_s {x : Str} (lo hi : Option Int) (h : x.length ≤ sizeLine) : dSl (.str x) lo hi = some (.d (.str (cutS x lo hi))) := if_pos h
theorem dNot_b (b : Bool) : dNot (.bool b) = some (.bool (!b)) := rfl
end
end VS

namespace VS
open PySem PySem.Spec PyProof.Rows L2
def intsOf : List D → Option (List Int)
  | [] => some []
  | .int i :: ds => (intsOf ds).map (i :: ·)
  | _ :: _ => none
theorem ints_of {K : PySem.W.Frag} {F : Hp} : ∀ {ds : List D} {vs : List V} {ns : List Int}, DqA K F vs ds → intsOf ds = some ns → vs = ns.map V.int
  | [], _, _, .nil, h => by cases h; rfl
  | .int i :: ds, _, ns, .cons (.int _) r, h => by
    have h : (intsOf ds).map (i :: ·) = some ns := h
    cases e : intsOf ds with
    | none => rw [e] at h; cases h
    | some ms =>
      rw [e] at h
      cases h
      rw [ints_of r e]
      rfl
theorem intsOf_map : ∀ ns : List Int, intsOf (ns.map PyData.int) = some ns
  | [] => rfl
  | i :: ns => by
    show (intsOf (ns.map PyData.int)).map (i :: ·) = _
    rw [intsOf_map ns]
    rfl
section
variable {c : Ct} {n n1 n2 : Bool} {a b e : Expr} {es : List Expr} {ga gb : LS → R D} {gs : LS → R (List D)} {pos p : Pos}
theorem bv_list {G F H : Hp} {ow : Addr → Option Path} {σ : L2.St} {L : LS} {ds : List D} {v : V} (Rr : c.Rl G F ow σ H L) (hb : BV c.X.K F H ow (.list ds) v) : ∃ l vs, v = .ref l ∧ SqL c.X.K H l vs ∧ DqA c.X.K F vs ds := by
  rcases hb with hb | ⟨l, vs, ds', rfl, e, h1, h2⟩
  · cases hb with
    | lst h1 h2 => exact ⟨_, _, rfl, .of (Rr.exF _ _ h1), h2⟩
  · cases e
    exact ⟨l, vs, rfl, h1, h2⟩
theorem je_call1 {id : String} {x : Str} {r : List V → Hp → VK → Prop} {f : D → Option S} (hc : CallR c.X (.builtin id) r) (hg : Gl c.X x) (hm : c.X.mg x = none) (hv : bootBuiltins x = some (.builtin id)) (ha : JV c n a ga)
    (lf : ∀ {G F H : Hp} {ow : Addr → Option Path} {σ : L2.St} {L : LS} {d : D} {v : V}, c.Rl G F ow σ H L → BV c.X.K F H ow d v → Post c G true F H σ (ofO (f d) L) (BE c.ca c.X.K) (r [v] H))
    (hn : x ≠ "__name__" := by decide) (hdb : (x == ("__debug__" : Str)) = false := by decide) (hs : starEach [a] c.X.env = (false, eval a c.X.env) :: starEach [] c.X.env := by rfl) (hpl : (backTo pos (starEach [] c.X.env)).any (·.1) = false := by rfl) :
    JE c n (.Call (.Name x p) [a] [] pos) (gUn f ga) := by
  obtain ⟨ta, pa, qa⟩ := ha
  exact ⟨_, pe_callB hc hg hm hv (pa_cons pa pa_nil hs) hn hdb hs hpl, jdg_call1 qa lf⟩
def dSum : D → Option D
  | .list ds => (intsOf ds).map fun ns => .int ns.sum
  | _ => none
theorem jd_sum (hc : c.X.calm = true) (hg : Gl c.X "sum") (hm : c.X.mg "sum" = none) (ha : JV c n a ga) (hs : starEach [a] c.X.env = (false, eval a c.X.env) :: starEach [] c.X.env := by rfl) : JD c n (.Call (.Name "sum" p) [a] [] pos) (gUn dSum ga) :=
  jd_call1 (cr_sum hc) hg hm (by decide +kernel) ha (fun {G F H ow σ L d v} Rr hb => by
    cases d with
    | list ds =>
      obtain ⟨l, vs, rfl, h1, h2⟩ := bv_list Rr hb
      show Post c G true F H σ (ofO ((intsOf ds).map fun ns => PyData.int ns.sum) L) _ _
      cases e : intsOf ds with
      | none => trivial
      | some ns =>
        rw [ints_of h2 e] at h1
        exact (Post.val (a := PyData.int ns.sum) (b := V.int ns.sum) (B := BD c.X.K) Rr (.int _)).imp fun Q q => ⟨l, ns, rfl, h1, q⟩
    | _ => trivial) (by decide) (by decide) hs rfl
def srt (ns : List Int) : List Int := ns.mergeSort
def gA {α : Type} (f : List D → Option α) (gs : LS → R (List D)) : LS → R α := fun L => (gs L).bind fun ds L1 => ofO (f ds) L1
theorem jd_callA {id : String} {x : Str} {r : List V → Hp → VK → Prop} {f : List D → Option D} (hc : CallR c.X (.builtin id) r) (hg : Gl c.X x) (hm : c.X.mg x = none) (hv : bootBuiltins x = some (.builtin id)) (ha : JA c n (e :: es) gs)
    (lf : ∀ (F H : Hp) (vs : List V) (ds : List D) (z : D), Same F H → DqA c.X.K F vs ds → f ds = some z → ∃ v, Dq c.X.K F v z ∧ ∀ Q : VK, Q v H → r vs H Q)
    (hn : x ≠ "__name__" := by decide) (hdb : (x == ("__debug__" : Str)) = false := by decide) (hs : starEach (e :: es) c.X.env = (false, eval e c.X.env) :: starEach es c.X.env := by rfl) (hpl : (backTo pos (starEach es c.X.env)).any (·.1) = false := by rfl) :
    JD c n (.Call (.Name x p) (e :: es) [] pos) (gA f gs) := by
  obtain ⟨ta, pa, qa⟩ := ha
  refine ⟨_, pe_callB hc hg hm hv pa hn hdb hs hpl, fun G F ow σ H L Rr => (qa G F ow σ H L Rr).bind1 (t2 := fun vs H1 Q => r vs H1 Q) fun ds L1 vs H1 F1 ow1 _ _ _ R1 b1 => ?_⟩
  cases hf : f ds with
  | none => trivial
  | some z =>
    obtain ⟨v, hv, q⟩ := lf F1 H1 vs ds z R1.exF b1 hf
    exact (Post.val R1 hv).imp q
def dMin : List D → Option D
  | [.int i, .int j] => some (.int (if j < i then j else i))
  | _ => none
def dMax : List D → Option D
  | [.int i, .int j] => some (.int (if j > i then j else i))
  | _ => none
theorem jd_min (hc : c.X.calm = true) (hg : Gl c.X "min") (hm : c.X.mg "min" = none) (ha : JA c n [a, b] gs) (hs : starEach [a, b] c.X.env = (false, eval a c.X.env) :: starEach [b] c.X.env := by rfl) (hpl : (backTo pos (starEach [b] c.X.env)).any (·.1) = false := by rfl) :
    JD c n (.Call (.Name "min" p) [a, b] [] pos) (gA dMin gs) :=
  jd_callA (call_min2 hc) hg hm (by decide +kernel) ha (fun F H vs ds z s h hf => by
    match ds, vs, h, hf with
    | [.int i, .int j], _, .cons (.int _) (.cons (.int _) .nil), hf =>
      cases hf
      exact ⟨_, .int _, fun Q q => ⟨i, j, rfl, q⟩⟩) (by decide) (by decide) hs hpl
theorem jd_max (hc : c.X.calm = true) (hg : Gl c.X "max") (hm : c.X.mg "max" = none) (ha : JA c n [a, b] gs) (hs : starEach [a, b] c.X.env = (false, eval a c.X.env) :: starEach [b] c.X.env := by rfl) (hpl : (backTo pos (starEach [b] c.X.env)).any (·.1) = false := by rfl) :
    JD c n (.Call (.Name "max" p) [a, b] [] pos) (gA dMax gs) :=
  jd_callA (call_max2 hc) hg hm (by decide +kernel) ha (fun F H vs ds z s h hf => by
    match ds, vs, h, hf with
    | [.int i, .int j], _, .cons (.int _) (.cons (.int _) .nil), hf =>
      cases hf
      exact ⟨_, .int _, fun Q q => ⟨i, j, rfl, q⟩⟩) (by decide) (by decide) hs hpl
def gOwnD (i : Nat) (k : List D → LS → R D) : LS → R D := fun L => match L[i]? with
  | some (some (.ol ds)) => k ds L
  | _ => .stuck
def popK (i : Nat) (k : Int) (L : LS) : R D := match L[i]? with
  | some (some (.ol ds)) => if -(2 ^ 63) ≤ k ∧ k < 2 ^ 63 then (match seqIndex? k ds.length with
    | some j => (match ds[j]? with
      | some d => .ok d (L.set i (some (.ol (ds.eraseIdx j))))
      | none => .stuck)
    | none => .stuck) else .stuck
  | _ => .stuck
def popAt (i : Nat) : D → LS → R D
  | .int k, L => popK i k L
  | _, _ => .stuck
def gPopAt (i : Nat) (g : LS → R D) : LS → R D := gOwnD i fun _ L => (g L).bind (popAt i)
theorem jd_popAt (i : Nat) {x : Str} {apos : Pos} (h : PE c.X (.Name x p) (tVar i)) (ha : JD c n a ga)
    (hbase : attributeBase (.Name x p) "pop" c.X.env (eval (.Name x p) c.X.env) = eval (.Name x p) c.X.env := by rfl)
    (hfew : ((backTo pos (starEach [a] c.X.env)).all (fun x => !x.1) && (backToKw pos (keywordEach [] c.X.env)).all (fun x => x.1.isSome) && decide ([a].length + ([] : List Keyword).length + (if ([] : List Keyword).isEmpty then 0 else 1) < 30)) = true := by rfl)
    (hline : (apos.endLine == pos.line) = true := by rfl) (hs : starEach [a] c.X.env = (false, eval a c.X.env) :: starEach [] c.X.env := by rfl) (hplain : (backTo pos (starEach [] c.X.env)).any (·.1) = false := by rfl) :
    JD c false (.Call (.Attribute (.Name x p) "pop" apos) [a] [] pos) (gPopAt i ga) := by
  obtain ⟨ta, pa, qa⟩ := ha
  refine ⟨_, pe_bm PySem.F.plainAttrs_list PySem.F.slot_list_pop PySem.F.type_list_pop mt_popAt h (pa_cons pa pa_nil hs) hbase hfew hline hs hplain, fun G F ow σ H L Rr => ?_⟩
  unfold gPopAt gOwnD
  cases hL : L[i]? with
  | none => trivial
  | some o =>
    cases o with
    | none => trivial
    | some s =>
      cases s with
      | ol ds0 =>
        obtain ⟨l, vs0, hv, h0, _, _⟩ := ownL_at Rr hL
        have key := (qa G F ow σ H L Rr).bind (n2 := false) (k := popAt i) (B2 := BD c.X.K) (t2 := fun y H1 Q => rPopAt (.ref l) [y] H1 Q)
          fun d L1 v H1 F1 ow1 _ _ _ R1 b1 => by
            cases b1 with
            | int k =>
              show Post c G false F1 H1 σ (popK i k L1) (BD c.X.K) _
              unfold popK
              cases hL1 : L1[i]? with
              | none => trivial
              | some o =>
                cases o with
                | none => trivial
                | some s =>
                  cases s with
                  | ol ds =>
                    obtain ⟨l', vs, hv', h1, h2, h3⟩ := ownL_at R1 hL1
                    rw [hv] at hv'
                    cases hv'
                    refine Post.guard fun hk => ?_
                    cases hj : seqIndex? k ds.length with
                    | none => trivial
                    | some j =>
                      dsimp only
                      cases hd : ds[j]? with
                      | none => trivial
                      | some d =>
                        obtain ⟨y, hy, hq⟩ := h3.get hd
                        intro Q q
                        exact ⟨l, vs, k, j, y, rfl, rfl, h1, hk.1, hk.2, by rw [h3.len]; exact hj, hy, q _ _ F1 ow1 (Same.refl F1) (fun z => nomatch z) (Rl.putL R1 hv h2 (h3.erase j)) hq⟩
                  | _ => trivial
            | _ => trivial
        rw [Bool.and_false] at key
        exact key.imp fun Q q => ⟨_, hv, .inl ⟨rfl, _, .of h0⟩, q⟩
      | _ => trivial
def zipD : List D → List D → List D := fun xs ys => (xs.zip ys).map fun z => .tuple [z.1, z.2]
def asZip : List D → LS → R (List D)
  | [.list xs, .list ys], L => .ok (zipD xs ys) L
  | [.tuple xs, .tuple ys], L => .ok (zipD xs ys) L
  | _, _ => .stuck
end
end VS

namespace VS
open PySem PySem.Spec PyProof.Rows L2
structure KeyAt1 (P : Program) (w : World) (K : PySem.W.Frag) (mg : Str → Option Value) (x : Str) : Prop where
  ex : ∃ f, mg x = some (.ref f) ∧ ∀ (A : Around) (s : Shared) (t : Addr) (items : Array Value) (y : Value), A.depth < recursionLimit → K.In s.heap → s.heap.NoLimit → IsTup s.heap t items → items[1]? = some y →
    wpAny (model P w) A (call (.ref f) [.ref t]) (fun v s2 => v = y ∧ ∃ h' tk, s2 = { s with heap := h', toks := tk } ∧ ∀ b o, s.heap.get? b = some o → h'.get? b = some o) (fun _ _ => False) s
section
variable {c : Ct} {n n1 n2 : Bool} {a b e : Expr} {es : List Expr} {ga gb : LS → R D} {gs : LS → R (List D)} {pos p p2 : Pos}
end
end VS

namespace VS
open PySem PySem.Spec PyProof.Rows L2
section
variable {b : Bool} {i : Int} {s : Str} {xs : List D}
theorem ty_n_bool : isTy "bool" .none = some (.bool false) := by
  show (kitB "NoneType" "bool").map PyData.bool = _
  rw [show kitB "NoneType" "bool" = some false from by decide +kernel]
  rfl
theorem ty_n_int : isTy "int" .none = some (.bool false) := by
  show (kitB "NoneType" "int").map PyData.bool = _
  rw [show kitB "NoneType" "int" = some false from by decide +kernel]
  rfl
theorem ty_n_str : isTy "str" .none = some (.bool false) := by
  show (kitB "NoneType" "str").map PyData.bool = _
  rw [show kitB "NoneType" "str" = some false from by decide +kernel]
  rfl
theorem ty_n_list : isTy "list" .none = some (.bool false) := by
  show (kitB "NoneType" "list").map PyData.bool = _
  rw [show kitB "NoneType" "list" = some false from by decide +kernel]
  rfl
theorem ty_n_tuple : isTy "tuple" .none = some (.bool false) := by
  show (kitB "NoneType" "tuple").map PyData.bool = _
  rw [show kitB "NoneType" "tuple" = some false from by decide +kernel]
  rfl
theorem ty_b_bool : isTy "bool" (.bool b) = some (.bool true) := by
  show (kitB "bool" "bool").map PyData.bool = _
  rw [show kitB "bool" "bool" = some true from by decide +kernel]
  rfl
theorem ty_b_int : isTy "int" (.bool b) = some (.bool true) := by
  show (kitB "bool" "int").map PyData.bool = _
  rw [show kitB "bool" "int" = some true from by decide +kernel]
  rfl
theorem ty_b_str : isTy "str" (.bool b) = some (.bool false) := by
  show (kitB "bool" "str").map PyData.bool = _
  rw [show kitB "bool" "str" = some false from by decide +kernel]
  rfl
theorem ty_b_list : isTy "list" (.bool b) = some (.bool false) := by
  show (kitB "bool" "list").map PyData.bool = _
  rw [show kitB "bool" "list" = some false from by decide +kernel]
  rfl
theorem ty_b_tuple : isTy "tuple" (.bool b) = some (.bool false) := by
  show (kitB "bool" "tuple").map PyData.bool = _
  rw [show kitB "bool" "tuple" = some false from by decide +kernel]
  rfl
theorem ty_i_bool : isTy "bool" (.int i) = some (.bool false) := by
  show (kitB "int" "bool").map PyData.bool = _
  rw [show kitB "int" "bool" = some false from by decide +kernel]
  rfl
theorem ty_i_int : isTy "int" (.int i) = some (.bool true) := by
  show (kitB "int" "int").map PyData.bool = _
  rw [show kitB "int" "int" = some true from by decide +kernel]
  rfl
theorem ty_i_str : isTy "str" (.int i) = some (.bool false) := by
  show (kitB "int" "str").map PyData.bool = _
  rw [show kitB "int" "str" = some false from by decide +kernel]
  rfl
theorem ty_i_list : isTy "list" (.int i) = some (.bool false) := by
  show (kitB "int" "list").map PyData.bool = _
  rw [show kitB "int" "list" = some false from by decide +kernel]
  rfl
theorem ty_i_tuple : isTy "tuple" (.int i) = some (.bool false) := by
  show (kitB "int" "tuple").map PyData.bool = _
  rw [show kitB "int" "tuple" = some false from by decide +kernel]
  rfl
theorem ty_s_bool : isTy "bool" (.str s) = some (.bool false) := by
  show (kitB "str" "bool").map PyData.bool = _
  rw [show kitB "str" "bool" = some false from by decide +kernel]
  rfl
theorem ty_s_int : isTy "int" (.str s) = some (.bool false) := by
  show (kitB "str" "int").map PyData.bool = _
  rw [show kitB "str" "int" = some false from by decide +kernel]
  rfl
theorem ty_s_str : isTy "str" (.str s) = some (.bool true) := by
  show (kitB "str" "str").map PyData.bool = _
  rw [show kitB "str" "str" = some true from by decide +kernel]
  rfl
theorem ty_s_list : isTy "list" (.str s) = some (.bool false) := by
  show (kitB "str" "list").map PyData.bool = _
  rw [show kitB "str" "list" = some false from by decide +kernel]
  rfl
theorem ty_s_tuple : isTy "tuple" (.str s) = some (.bool false) := by
  show (kitB "str" "tuple").map PyData.bool = _
  rw [show kitB "str" "tuple" = some false from by decide +kernel]
  rfl
theorem ty_l_bool : isTy "bool" (.list xs) = some (.bool false) := by
  show (kitB "list" "bool").map PyData.bool = _
  rw [show kitB "list" "bool" = some false from by decide +kernel]
  rfl
theorem ty_l_int : isTy "int" (.list xs) = some (.bool false) := by
  show (kitB "list" "int").map PyData.bool = _
  rw [show kitB "list" "int" = some false from by decide +kernel]
  rfl
theorem ty_l_str : isTy "str" (.list xs) = some (.bool false) := by
  show (kitB "list" "str").map PyData.bool = _
  rw [show kitB "list" "str" = some false from by decide +kernel]
  rfl
theorem ty_l_list : isTy "list" (.list xs) = some (.bool true) := by
  show (kitB "list" "list").map PyData.bool = _
  rw [show kitB "list" "list" = some true from by decide +kernel]
  rfl
theorem ty_l_tuple : isTy "tuple" (.list xs) = some (.bool false) := by
  show (kitB "list" "tuple").map PyData.bool = _
  rw [show kitB "list" "tuple" = some false from by decide +kernel]
  rfl
theorem ty_t_bool : isTy "bool" (.tuple xs) = some (.bool false) := by
  show (kitB "tuple" "bool").map PyData.bool = _
  rw [show kitB "tuple" "bool" = some false from by decide +kernel]
  rfl
theorem ty_t_int : isTy "int" (.tuple xs) = some (.bool false) := by
  show (kitB "tuple" "int").map PyData.bool = _
  rw [show kitB "tuple" "int" = some false from by decide +kernel]
  rfl
theorem ty_t_str : isTy "str" (.tuple xs) = some (.bool false) := by
  show (kitB "tuple" "str").map PyData.bool = _
  rw [show kitB "tuple" "str" = some false from by decide +kernel]
  rfl
theorem ty_t_list : isTy "list" (.tuple xs) = some (.bool false) := by
  show (kitB "tuple" "list").map PyData.bool = _
  rw [show kitB "tuple" "list" = some false from by decide +kernel]
  rfl
theorem ty_t_tuple : isTy "tuple" (.tuple xs) = some (.bool true) := by
  show (kitB "tuple" "tuple").map PyData.bool = _
  rw [show kitB "tuple" "tuple" = some true from by decide +kernel]
  rfl
end
theorem dIs_nn : dIs .none .none = some (.bool true) := rfl
theorem dIs_in (i : Int) : dIs (.int i) .none = some (.bool false) := rfl
theorem dIs_bn (i : Bool) : dIs (.bool i) .none = some (.bool false) := rfl
theorem dIs_sn (i : Str) : dIs (.str i) .none = some (.bool false) := rfl
theorem dIs_ln (i : List D) : dIs (.list i) .none = some (.bool false) := rfl
theorem dIs_tn (i : List D) : dIs (.tuple i) .none = some (.bool false) := rfl
theorem dNe_b (i j : Bool) : dNe (.bool i) (.bool j) = some (.bool (!decide (i = j))) := by
  unfold dNe
  rw [if_pos (.inl rfl), eqv_bool]
def aK {α : Type} (f : List D → Option α) (r : R (List D)) : R α := r.bind fun ds L1 => ofO (f ds) L1
theorem ev_A {α : Type} (f : List D → Option α) (gs : LS → R (List D)) (L : LS) : gA f gs L = aK f (gs L) := rfl
theorem aK_ok {α : Type} (f : List D → Option α) (ds : List D) (L : LS) : aK f (.ok ds L) = ofO (f ds) L := rfl
theorem aK_err {α : Type} (f : List D → Option α) (e : Nat) (L : LS) : aK f (.err e L) = .err e L := rfl
theorem dMin_ok (i j : Int) : dMin [.int i, .int j] = some (.int (min i j)) := by
  show some (PyData.int (if j < i then j else i)) = _
  congr 2
  by_cases h : j < i
  · rw [if_pos h]; omega
  · rw [if_neg h]; omega
theorem dMax_ok (i j : Int) : dMax [.int i, .int j] = some (.int (max i j)) := by
  show some (PyData.int (if j > i then j else i)) = _
  congr 2
  by_cases h : j > i
  · rw [if_pos h]; omega
  · rw [if_neg h]; omega
theorem asZip_l (xs ys : List D) (L : LS) : asZip [.list xs, .list ys] L = .ok (zipD xs ys) L := rfl
theorem asZip_t (xs ys : List D) (L : LS) : asZip [.tuple xs, .tuple ys] L = .ok (zipD xs ys) L := rfl
def popK1 (i : Nat) (o : Option (Option S)) (g : LS → R D) (L : LS) : R D := match o with
  | some (some (.ol _)) => (g L).bind (popAt i)
  | _ => .stuck
theorem ev_pop (i : Nat) (g : LS → R D) (L : LS) : gPopAt i g L = popK1 i L[i]? g L := by
  unfold gPopAt gOwnD popK1
  cases L[i]? with
  | none => rfl
  | some o => cases o with
    | none => rfl
    | some s => cases s <;> rfl
def popK2 (i : Nat) (r : R D) : R D := r.bind (popAt i)
theorem popK1_ok (i : Nat) (ds : List D) (g : LS → R D) (L : LS) : popK1 i (some (some (.ol ds))) g L = popK2 i (g L) := rfl
end VS

namespace VS
open PySem PySem.Spec PyProof.Rows L2
def dCountS (k : Str) (ys : List Str) : Nat := ys.countP fun y => y.cps.toList == k.cps.toList
def dCount : D → D → Option D
  | .list ds, .str k => (strsOf ds).map fun ys => .int (dCountS k ys : Nat)
  | _, _ => none
def cntL (gb : LS → R D) : D → LS → R D
  | .list ds, L1 => (gb L1).bind fun e L2 => ofO (dCount (.list ds) e) L2
  | _, _ => .stuck
def gCount (ga gb : LS → R D) : LS → R D := fun L => (ga L).bind (cntL gb)
def cntK1 (gb : LS → R D) (r : R D) : R D := r.bind (cntL gb)
def cntK2 (ds : List D) (r : R D) : R D := r.bind fun e L2 => ofO (dCount (.list ds) e) L2
theorem ev_cnt (ga gb : LS → R D) (L : LS) : gCount ga gb L = cntK1 gb (ga L) := rfl
theorem cntK1_ok (gb : LS → R D) (ds : List D) (L : LS) : cntK1 gb (.ok (.list ds) L) = cntK2 ds (gb L) := rfl
theorem cntK2_ok (ds : List D) (e : D) (L : LS) : cntK2 ds (.ok e L) = ofO (dCount (.list ds) e) L := rfl
section
variable {c : Ct} {n n1 n2 : Bool} {a b e : Expr} {es : List Expr} {ga gb : LS → R D} {gs : LS → R (List D)} {pos p p2 apos : Pos}
end
end VS

namespace VS
open PySem PySem.Spec PyProof.Rows L2
def keyD : D → Option Key
  | .int i => some (.inl i)
  | .str x => some (.inr x)
  | _ => none
def keysL : List D → Option (List Key)
  | [] => some []
  | d :: ds => (keyD d).bind fun k => (keysL ds).map (k :: ·)
def keysD : D → Option (List Key)
  | .tuple ds => keysL ds
  | _ => none
theorem keyD_of {K : PySem.W.Frag} {F : Hp} {v : V} {d : D} {k : Key} (h : Dq K F v d) (e : keyD d = some k) : v = kV k := by
  cases h <;> cases e <;> rfl
theorem keysL_of {K : PySem.W.Frag} {F : Hp} : ∀ {ds : List D} {vs : List V} {ks : List Key}, DqA K F vs ds → keysL ds = some ks → vs = ks.map kV
  | [], _, _, .nil, h => by cases h; rfl
  | d :: ds, _, ks, .cons a b, h => by
    have h : (keyD d).bind (fun k => (keysL ds).map (k :: ·)) = some ks := h
    cases e1 : keyD d with
    | none => rw [e1] at h; cases h
    | some k =>
      rw [e1] at h
      have h : (keysL ds).map (k :: ·) = some ks := h
      cases e2 : keysL ds with
      | none => rw [e2] at h; cases h
      | some ms =>
        rw [e2] at h
        cases h
        rw [keyD_of a e1, keysL_of b e2]
        rfl
def OptOk (K : PySem.W.Frag) (F : Hp) (o : Option V) (r : Option D) : Prop := match r with
  | some z => ∃ v, o = some v ∧ Dq K F v z
  | none => o = none
section
variable {κ : Type} [DecidableEq κ]
def valK (kvs : List (κ × D)) (k : κ) : Option D := (kvs.find? fun kv => decide (kv.1 = k)).map (·.2)
def putD (kvs : List (κ × D)) (k : κ) (d : D) : List (κ × D) := if (kvs.any fun kv => decide (kv.1 = k)) = true then kvs.map (fun kv => if kv.1 = k then (kv.1, d) else kv) else kvs ++ [(k, d)]
theorem DqK.val {K : PySem.W.Frag} {F : Hp} : ∀ {vs : List (κ × V)} {ds : List (κ × D)} (k : κ), DqK K F vs ds → OptOk K F (valV vs k) (valK ds k)
  | [], [], k, .nil => rfl
  | p :: vs, q :: ds, k, .cons h r => by
    have ih := DqK.val k r
    unfold valK valV at *
    by_cases hk : q.1 = k
    · rw [List.find?_cons_of_pos (l := vs) (by simp [h.1, hk]), List.find?_cons_of_pos (l := ds) (by simp [hk])]
      exact ⟨_, rfl, h.2⟩
    · rw [List.find?_cons_of_neg (l := vs) (by simp [h.1, hk]), List.find?_cons_of_neg (l := ds) (by simp [hk])]
      exact ih
theorem DqK.any {K : PySem.W.Frag} {F : Hp} (k : κ) : ∀ {vs : List (κ × V)} {ds : List (κ × D)}, DqK K F vs ds → (vs.any fun kv => decide (kv.1 = k)) = (ds.any fun kv => decide (kv.1 = k))
  | [], [], .nil => rfl
  | p :: vs, q :: ds, .cons h r => by
    rw [List.any_cons, List.any_cons, DqK.any k r, h.1]
theorem DqK.mapk {K : PySem.W.Frag} {F : Hp} (k : κ) {v : V} {d : D} (hv : Dq K F v d) : ∀ {vs : List (κ × V)} {ds : List (κ × D)}, DqK K F vs ds → DqK K F (vs.map fun kv => if kv.1 = k then (kv.1, v) else kv) (ds.map fun kv => if kv.1 = k then (kv.1, d) else kv)
  | [], [], .nil => .nil
  | p :: vs, q :: ds, .cons h r => by
    refine .cons ?_ (DqK.mapk k hv r)
    show (if p.1 = k then (p.1, v) else p).1 = (if q.1 = k then (q.1, d) else q).1 ∧ Dq K F (if p.1 = k then (p.1, v) else p).2 (if q.1 = k then (q.1, d) else q).2
    by_cases hk : q.1 = k
    · rw [if_pos hk, if_pos (h.1.trans hk)]
      exact ⟨h.1, hv⟩
    · rw [if_neg hk, if_neg (fun z => hk (h.1.symm.trans z))]
      exact h
theorem DqK.snoc {K : PySem.W.Frag} {F : Hp} {k : κ} {v : V} {d : D} (hv : Dq K F v d) : ∀ {vs : List (κ × V)} {ds : List (κ × D)}, DqK K F vs ds → DqK K F (vs ++ [(k, v)]) (ds ++ [(k, d)])
  | [], [], .nil => .cons ⟨rfl, hv⟩ .nil
  | p :: vs, q :: ds, .cons h r => .cons h (DqK.snoc hv r)
theorem DqK.put {K : PySem.W.Frag} {F : Hp} {vs : List (κ × V)} {ds : List (κ × D)} (k : κ) {v : V} {d : D} (h : DqK K F vs ds) (hv : Dq K F v d) : DqK K F (putK vs k v) (putD ds k d) := by
  unfold putK putD
  rw [DqK.any k h]
  split
  · exact DqK.mapk k hv h
  · exact DqK.snoc hv h
theorem DqK.len {K : PySem.W.Frag} {F : Hp} : ∀ {vs : List (κ × V)} {ds : List (κ × D)}, DqK K F vs ds → vs.length = ds.length
  | [], [], .nil => rfl
  | p :: vs, q :: ds, .cons h r => congrArg (· + 1) (DqK.len r)
end
def dictAt (s : Option (Option S)) (d : D) : Option (Option D) := match s with
  | some (some (.odT kvs)) => (keysD d).map (valK kvs)
  | some (some (.odK kvs)) => (keyD d).map (valK kvs)
  | _ => none
def dictPut (s : Option (Option S)) (d e : D) : Option S := match s with
  | some (some (.odT kvs)) => if kvs.length < sizeLine then (keysD d).map fun k => .odT (putD kvs k e) else none
  | some (some (.odK kvs)) => if kvs.length < sizeLine then (keyD d).map fun k => .odK (putD kvs k e) else none
  | _ => none
section
variable {c : Ct} {n n1 n2 : Bool} {a b e : Expr} {ga gb : LS → R D} {pos p : Pos}
theorem dict_get {G F H : Hp} {ow : Addr → Option Path} {σ : L2.St} {L : LS} {i : Nat} {d : D} {y : V} {r : Option D} (Rr : c.Rl G F ow σ H L) (hd : Dq c.X.K F y d) (h : dictAt L[i]? d = some r) :
    ∃ l o, σ[i]? = some (some (.ref l)) ∧ DGet H l y o ∧ OptOk c.X.K F o r := by
  unfold dictAt at h
  split at h
  · rename_i kvs hL
    obtain ⟨v, hv, rs⟩ := Rr.sl i _ hL
    obtain ⟨ks, hk, rfl⟩ := Option.map_eq_some_iff.mp h
    cases rs with
    | odT h1 h2 h3 =>
      rename_i l vs
      unfold keysD at hk
      split at hk
      · rename_i ds
        cases hd with
        | tup t1 t2 =>
          rename_i b xs
          have ex := keysL_of t2 hk
          subst ex
          exact ⟨l, valV vs ks, hv, DGet.t h1 (Rr.exF _ _ t1), DqK.val ks h3⟩
      · cases hk
  · rename_i kvs hL
    obtain ⟨v, hv, rs⟩ := Rr.sl i _ hL
    obtain ⟨k, hk, rfl⟩ := Option.map_eq_some_iff.mp h
    cases rs with
    | odK h1 h2 h3 =>
      rename_i l vs
      have ey := keyD_of hd hk
      subst ey
      exact ⟨l, valV vs k, hv, DGet.k h1, DqK.val k h3⟩
  · cases h
theorem dict_put {G F H : Hp} {ow : Addr → Option Path} {σ : L2.St} {L : LS} {i : Nat} {d e : D} {y v : V} {s : S} (Rr : c.Rl G F ow σ H L) (hd : Dq c.X.K F y d) (he : Dq c.X.K F v e) (h : dictPut L[i]? d e = some s) :
    ∃ l H', σ[i]? = some (some (.ref l)) ∧ DPut H l y v H' ∧ c.Rl G F ow σ H' (L.set i (some s)) := by
  unfold dictPut at h
  split at h
  · rename_i kvs hL
    obtain ⟨u, hv, rs⟩ := Rr.sl i _ hL
    split at h
    · rename_i hlen
      obtain ⟨ks, hk, rfl⟩ := Option.map_eq_some_iff.mp h
      cases rs with
      | odT h1 h2 h3 =>
        rename_i l vs
        unfold keysD at hk
        split at hk
        · rename_i ds
          cases hd with
          | tup t1 t2 =>
            rename_i b xs
            have ex := keysL_of t2 hk
            subst ex
            exact ⟨l, _, hv, DPut.t h1 (Rr.exF _ _ t1) (by rw [DqK.len h3]; exact hlen), Rl.put Rr h2 ⟨_, hv, .odT upd_same h2 (DqK.put ks h3 he)⟩⟩
        · cases hk
    · cases h
  · rename_i kvs hL
    obtain ⟨u, hv, rs⟩ := Rr.sl i _ hL
    split at h
    · rename_i hlen
      obtain ⟨k, hk, rfl⟩ := Option.map_eq_some_iff.mp h
      cases rs with
      | odK h1 h2 h3 =>
        rename_i l vs
        have ey := keyD_of hd hk
        subst ey
        exact ⟨l, _, hv, DPut.k h1 (by rw [DqK.len h3]; exact hlen), Rl.put Rr h2 ⟨_, hv, .odK upd_same h2 (DqK.put k h3 he)⟩⟩
    · cases h
  · cases h
def dinK (ng : Bool) (i : Nat) (d : D) (L : LS) : R D := match dictAt L[i]? d with
  | some r => .ok (.bool (if ng then !r.isSome else r.isSome)) L
  | none => .stuck
def gDIn (ng : Bool) (i : Nat) (g : LS → R D) : LS → R D := fun L => (g L).bind (dinK ng i)
theorem optOk_some {K : PySem.W.Frag} {F : Hp} {o : Option V} {r : Option D} (h : OptOk K F o r) : o.isSome = r.isSome := by
  cases r with
  | none =>
    have h : o = none := h
    rw [h]
    rfl
  | some z =>
    obtain ⟨v, rfl, _⟩ := h
    rfl
theorem jd_din {k : Nat} (i : Nat) {x : Str} (hr : Room k c.X.A) (h : PE c.X (.Name x p) (tVar i)) (ha : JD c n a ga) (hm : behindInMarks .In (.Name x p) = false := by rfl) : JD c n (.Compare a [.In] [.Name x p] pos) (gDIn false i ga) := by
  obtain ⟨ta, pa, qa⟩ := ha
  refine ⟨_, pe_cmp (pc_din (by have := hr.un; omega) pa h) hm, fun G F ow σ H L Rr => ?_⟩
  refine (qa G F ow σ H L Rr).bind1 (k := dinK false i) (B2 := BD c.X.K) (t2 := fun y H1 Q => tVar i σ H1 fun x H2 => ∃ a o, x = .ref a ∧ DGet H2 a y o ∧ Q (V.bl o.isSome) H2) fun d L1 y H1 F1 ow1 _ _ _ R1 b1 => ?_
  unfold dinK
  cases hr : dictAt L1[i]? d with
  | none => trivial
  | some r =>
    obtain ⟨l, o, h1, h2, h3⟩ := dict_get R1 b1 hr
    have ho := optOk_some h3
    exact (Post.val (a := PyData.bool r.isSome) (b := V.bl o.isSome) (B := BD c.X.K) R1 (by rw [ho]; exact Dq.bl _)).imp fun Q q => ⟨_, h1, l, o, rfl, h2, q⟩
theorem jd_dnin {k : Nat} (i : Nat) {x : Str} (hr : Room k c.X.A) (h : PE c.X (.Name x p) (tVar i)) (ha : JD c n a ga) (hm : behindInMarks .NotIn (.Name x p) = false := by rfl) : JD c n (.Compare a [.NotIn] [.Name x p] pos) (gDIn true i ga) := by
  obtain ⟨ta, pa, qa⟩ := ha
  refine ⟨_, pe_cmp (pc_dnotin (by have := hr.un; omega) pa h) hm, fun G F ow σ H L Rr => ?_⟩
  refine (qa G F ow σ H L Rr).bind1 (k := dinK true i) (B2 := BD c.X.K) (t2 := fun y H1 Q => tVar i σ H1 fun x H2 => ∃ a o, x = .ref a ∧ DGet H2 a y o ∧ Q (V.bl (!o.isSome)) H2) fun d L1 y H1 F1 ow1 _ _ _ R1 b1 => ?_
  unfold dinK
  cases hr : dictAt L1[i]? d with
  | none => trivial
  | some r =>
    obtain ⟨l, o, h1, h2, h3⟩ := dict_get R1 b1 hr
    have ho := optOk_some h3
    exact (Post.val (a := PyData.bool (!r.isSome)) (b := V.bl (!o.isSome)) (B := BD c.X.K) R1 (by rw [ho]; exact Dq.bl _)).imp fun Q q => ⟨_, h1, l, o, rfl, h2, q⟩
def gDGet (i : Nat) (g : LS → R D) : LS → R D := fun L => match L[i]? with
  | some (some _) => (g L).bind fun d L1 => (match dictAt L1[i]? d with
    | some (some z) => .ok z L1
    | _ => .stuck)
  | _ => .stuck
theorem jd_dget {k : Nat} (i : Nat) {x : Str} (hr : Room k c.X.A) (h : PE c.X (.Name x p) (tVar i)) (ha : JD c n a ga) (hs : NoSl a := by exact fun _ _ => rfl) : JD c n (.Subscript (.Name x p) a pos) (gDGet i ga) := by
  obtain ⟨ta, pa, qa⟩ := ha
  refine ⟨_, pe_dget (by have := hr.un; omega) h pa hs, fun G F ow σ H L Rr => ?_⟩
  unfold gDGet
  cases hL : L[i]? with
  | none => trivial
  | some o =>
    cases o with
    | none => trivial
    | some s =>
      obtain ⟨u, hu, _⟩ := Rr.sl i s hL
      have key := (qa G F ow σ H L Rr).bind1 (k := fun d L1 => (match dictAt L1[i]? d with
        | some (some z) => R.ok z L1
        | _ => .stuck)) (B2 := BD c.X.K) (t2 := fun y H1 Q => ∃ a v, u = .ref a ∧ DGet H1 a y (some v) ∧ Q v H1) fun d L1 y H1 F1 ow1 _ _ _ R1 b1 => by
          cases hr : dictAt L1[i]? d with
          | none => trivial
          | some r =>
            cases r with
            | none => trivial
            | some z =>
              obtain ⟨l, o, h1, h2, v, rfl, h3⟩ := dict_get R1 b1 hr
              rw [hu] at h1
              cases h1
              exact (Post.val R1 h3).imp fun Q q => ⟨l, v, rfl, h2, q⟩
      exact key.imp fun Q q => ⟨u, hu, q⟩
def gDPut (i : Nat) (gk g : LS → R D) : LS → R O := fun L => (g L).bind fun e L1 => match L1[i]? with
  | some (some _) => (gk L1).bind fun d L2 => (match dictPut L2[i]? d e with
    | some s => .ok .nx (L2.set i (some s))
    | none => .stuck)
  | _ => .stuck
theorem js_dput {k : Nat} (i : Nat) {x : Str} {p3 : Pos} (hr : Room k c.X.A) (h : PE c.X (.Name x p) (tVar i)) (hk : JD c n1 b gb) (ha : JD c n2 a ga)
    (hs : swapsWith a (some (.Subscript (.Name x p) b p3)) pos.line c.X.env = pure false := by rfl) : JS c (.Assign [.Subscript (.Name x p) b p3] a pos) (gDPut i gb ga) := by
  obtain ⟨ta, pa, qa⟩ := ha
  obtain ⟨tb, pb, qb⟩ := hk
  refine ⟨_, ps_dput (by have := hr.un; omega) h pb pa hs, fun G F ow σ H L Rr E ft => ?_⟩
  refine (qa G F ow σ H L Rr).use ft fun e L1 v H1 F1 ow1 _ _ R1 b1 f1 => ?_
  cases hL : L1[i]? with
  | none => rw [hL] at f1; exact f1.elim
  | some o =>
    rw [hL] at f1
    cases o with
    | none => exact f1.elim
    | some s =>
      obtain ⟨u, hu, _⟩ := R1.sl i s hL
      refine ⟨u, hu, ?_⟩
      refine (qb G F1 ow1 σ H1 L1 R1).use f1 fun d L2 y H2 F2 ow2 _ e2 R2 b2 f2 => ?_
      cases hd : dictPut L2[i]? d e with
      | none => rw [hd] at f2; exact f2.elim
      | some s2 =>
        rw [hd] at f2
        obtain ⟨l, H3, h1, h2, R3⟩ := dict_put R2 b2 (b1.up e2) hd
        rw [hu] at h1
        cases h1
        exact ⟨l, H3, rfl, h2, f2 σ H3 F2 ow2 (Same.refl F2) R3⟩
def gNewT : LS → R S := fun L => .ok (.odT []) L
theorem je_newT : JE c true (.Dict [] [] pos) gNewT := ⟨_, pe_dnewT, fun G F ow σ H L Rr Q q p hp => by
  obtain ⟨e, r⟩ := Rl.new (p := [0]) Rr (o := .dT []) hp
  exact q _ _ F (onAt ow p [0]) (Same.refl F) (fun _ => e) r (.odT upd_same (onAt_same _ _ _) .nil)⟩
end
end VS

namespace VS
open PySem PySem.Spec PyProof.Rows L2
theorem putBack_snoc : ∀ (xs : List Av) (ss L : LS) (o : Option S), ss.length = xs.length + 1 → (∀ i ∈ refs xs, i < L.length) → ∃ x, putBack (xs ++ [.r L.length]) ss (L ++ [o]) = putBack xs ss L ++ [x]
  | [], [x], L, o, _, _ => ⟨x, by
    show (L ++ [o]).set L.length x = L ++ [x]
    rw [List.set_append_right _ _ (Nat.le_refl _), Nat.sub_self]
    rfl⟩
  | .d d :: xs, x :: ss, L, o, h, hr => putBack_snoc xs ss L o (Nat.succ.inj h) hr
  | .r i :: xs, x :: ss, L, o, h, hr => by
    have hi : i < L.length := hr i List.mem_cons_self
    obtain ⟨y, e⟩ := putBack_snoc xs ss (L.set i x) o (Nat.succ.inj h) fun j hj => by rw [List.length_set]; exact hr j (List.mem_cons_of_mem _ hj)
    rw [List.length_set] at e
    refine ⟨y, ?_⟩
    show putBack (xs ++ [.r L.length]) ss ((L ++ [o]).set i x) = putBack xs ss (L.set i x) ++ [y]
    rw [List.set_append_left _ _ hi]
    exact e
def evArgsT (as : List Ar) (ge : LS → R S) (L : LS) : R (List Av × S) := (evArgs as L).bind fun xs L1 => (ge L1).bind fun s L2 => .ok (xs, s) L2
def callAtT (m : LS → R S) (p : List Av × S) (L : LS) : R S := match m (p.1.map (slotOf L) ++ [some p.2]) with
  | .ok s ss => .ok s (putBack p.1 ss L)
  | .err e ss => .err e (putBack p.1 ss L)
  | .stuck => .stuck
def callT (m : LS → R S) (k : Nat) (p : List Av × S) (L : LS) : R S := if (refs p.1).Nodup ∧ p.1.length + 1 = k then callAtT m p L else .stuck
def gCallT (m : LS → R S) (k : Nat) (as : List Ar) (ge : LS → R S) : LS → R S := fun L => (evArgsT as ge L).bind (callT m k)
def BTt (c : Ct) (σ : L2.St) : Hp → Hp → (Addr → Option Path) → List Av × S → List V → Prop := fun F' H' ow' p vs => ∃ us v, vs = us ++ [v] ∧ AvOk c.X.K σ F' p.1 us ∧ RS c.X.K c.ca F' H' ow' [0] p.2 v
def JArT (c : Ct) (es : List Expr) (as : List Ar) (ge : LS → R S) : Prop := ∃ t, PA c.X es t ∧ ∀ G F ow σ H L, c.Rl G F ow σ H L → Post c G false F H σ (evArgsT as ge L) (BTt c σ) (t σ H)
section
variable {c : Ct} {n n1 n2 n3 : Bool} {a b : Expr} {ga gb : LS → R D} {ge : LS → R S} {pos : Pos} {es : List Expr} {as : List Ar}
theorem jart_one (h : JE c n a ge) (hs : starEach [a] c.X.env = (false, eval a c.X.env) :: starEach [] c.X.env := by rfl) : JArT c [a] [] ge := by
  obtain ⟨t, p, q⟩ := h
  refine ⟨_, pa_cons p pa_nil hs, fun G F ow σ H L Rr => ?_⟩
  show Post c G false F H σ ((ge L).bind fun s L2 => R.ok (([] : List Av), s) L2) _ _
  have := (q G F ow σ H L Rr).bind (n2 := false) (k := fun s L2 => R.ok (([] : List Av), s) L2) (B2 := BTt c σ) (t2 := fun v H1 Q => Q [v] H1)
    fun s L1 v H1 F1 ow1 _ _ _ R1 b1 => (Post.val (a := (([] : List Av), s)) (b := [v]) (B := BTt c σ) R1 ⟨[], v, rfl, .nil, b1⟩).low
  rw [Bool.and_false] at this
  exact this
theorem jart_d (h1 : JD c n1 a ga) (h2 : JArT c es as ge) (hs : starEach (a :: es) c.X.env = (false, eval a c.X.env) :: starEach es c.X.env := by rfl) : JArT c (a :: es) (.d ga :: as) ge := by
  obtain ⟨t1, p1, q1⟩ := h1
  obtain ⟨t2, p2, q2⟩ := h2
  refine ⟨_, pa_cons p1 p2 hs, fun G F ow σ H L Rr => ?_⟩
  have e : evArgsT (.d ga :: as) ge L = (ga L).bind fun d L1 => (evArgsT as ge L1).bind fun p L2 => .ok (.d d :: p.1, p.2) L2 := by
    have e0 : evArgs (.d ga :: as) L = (ga L).bind fun d L1 => (evArgs as L1).bind fun xs L2 => .ok (.d d :: xs) L2 := rfl
    unfold evArgsT
    rw [e0]
    cases ga L with
    | stuck => rfl
    | err k L1 => rfl
    | ok d L1 =>
      show ((evArgs as L1).bind fun xs L2 => R.ok (Av.d d :: xs) L2).bind (fun xs L2 => (ge L2).bind fun s L3 => R.ok (xs, s) L3) = ((evArgs as L1).bind fun xs L2 => (ge L2).bind fun s L3 => R.ok (xs, s) L3).bind fun p L2 => R.ok (Av.d d :: p.1, p.2) L2
      cases evArgs as L1 with
      | stuck => rfl
      | err k L2 => rfl
      | ok xs L2 =>
        show (ge L2).bind (fun s L3 => R.ok (Av.d d :: xs, s) L3) = ((ge L2).bind fun s L3 => R.ok (xs, s) L3).bind fun p L2 => R.ok (Av.d d :: p.1, p.2) L2
        cases ge L2 <;> rfl
  rw [e]
  have key := (q1 G F ow σ H L Rr).bind (n2 := false) (k := fun d L1 => (evArgsT as ge L1).bind fun p L2 => R.ok (Av.d d :: p.1, p.2) L2) (B2 := BTt c σ) (t2 := fun u H1 Q => t2 σ H1 fun vs H2 => Q (u :: vs) H2)
    fun d L1 u H1 F1 ow1 _ _ _ R1 b1 => by
      have := (q2 G F1 ow1 σ H1 L1 R1).bind (n2 := false) (k := fun p L2 => R.ok (Av.d d :: p.1, p.2) L2) (B2 := BTt c σ) (t2 := fun vs H2 Q => Q (u :: vs) H2)
        fun p L2 vs H2 F2 ow2 _ e2 _ R2 b2 => by
          obtain ⟨us, v, rfl, h1, h2⟩ := b2
          exact (Post.val (a := (Av.d d :: p.1, p.2)) (b := u :: (us ++ [v])) (B := BTt c σ) R2 ⟨u :: us, v, rfl, (Paired.cons (show Dq c.X.K F2 u d from Dq.up e2 b1) h1 : AvOk c.X.K σ F2 (Av.d d :: p.1) (u :: us)), h2⟩).low
      exact this
  rw [Bool.and_false] at key
  exact key
theorem Rl.snoc {G F H : Hp} {ow : Addr → Option Path} {σ : L2.St} {L : LS} {s : S} {v : V} (Rr : c.Rl G F ow σ H L) (rs : RS c.X.K c.ca F H ow [0] s v) : c.Rl G F (reroot ow 0 (L.length + 1)) (σ ++ [some v]) H (L ++ [some s]) := by
  have hl := Rr.len
  refine Rl.moved Rr (by rw [List.length_append, List.length_append, hl]; rfl) (fun k s' h => ?_) fun k u h => ?_
  · by_cases hk : k < L.length
    · rw [List.getElem?_append_left hk] at h
      refine .inl ⟨h, ?_, Nat.succ_ne_zero k⟩
      rw [List.getElem?_append_left (by omega)]
    · have hk2 : k = L.length := by
        have := (List.getElem?_eq_some_iff.mp h).1
        rw [List.length_append] at this
        simp at this
        omega
      subst hk2
      rw [List.getElem?_append_right (Nat.le_refl _), Nat.sub_self] at h
      cases h
      refine .inr ⟨v, ?_, rs.go (Same.refl F) keeps_reroot⟩
      rw [hl, List.getElem?_append_right (Nat.le_refl _), Nat.sub_self]
      rfl
  · have := Rr.pin k u h
    have hk := (List.getElem?_eq_some_iff.mp this).1
    rw [List.getElem?_append_left hk]
    exact this
theorem Rl.unsnoc {G G' F F' H H' : Hp} {ow ow' : Addr → Option Path} {σ : L2.St} {L L' : LS} {x y : Option S} {v : Option V} (Rr : c.Rl G F ow σ H L) (hL : L'.length = σ.length) (R' : c.Rl G' F' ow' (σ ++ [v]) H' (L' ++ [y])) : c.Rl G' F' ow' σ H' L' := by
  refine ⟨R'.exF, R'.exG, R'.dF, R'.dG, hL, fun k s h => ?_, Rr.pin, R'.exB, R'.dB⟩
  have hk := (List.getElem?_eq_some_iff.mp h).1
  obtain ⟨u, h1, h2⟩ := R'.sl k s (by rw [List.getElem?_append_left hk]; exact h)
  rw [List.getElem?_append_left (by omega)] at h1
  exact ⟨u, h1, h2⟩
theorem AvOk.snoc {K : PySem.W.Frag} {σ : L2.St} {F : Hp} {v : V} {k : Nat} (hk : k = σ.length) : ∀ {xs : List Av} {us : List V}, AvOk K σ F xs us → AvOk K (σ ++ [some v]) F (xs ++ [.r k]) (us ++ [v])
  | [], [], .nil => .cons (by
    show (σ ++ [some v])[k]? = some (some v)
    rw [hk, List.getElem?_append_right (Nat.le_refl _), Nat.sub_self]
    rfl) .nil
  | .d d :: xs, u :: us, .cons h r => .cons h (AvOk.snoc hk r)
  | .r i :: xs, u :: us, .cons h r => .cons (by
    have h : σ[i]? = some (some u) := h
    show (σ ++ [some v])[i]? = some (some u)
    rw [List.getElem?_append_left (List.getElem?_eq_some_iff.mp h).1]
    exact h) (AvOk.snoc hk r)
theorem AvOk.refs_lt {K : PySem.W.Frag} {σ : L2.St} {F : Hp} : ∀ {xs : List Av} {us : List V}, AvOk K σ F xs us → ∀ i ∈ refs xs, i < σ.length
  | [], [], .nil, i, h => by cases h
  | .d d :: xs, u :: us, .cons _ r, i, h => AvOk.refs_lt (xs := xs) r i h
  | .r j :: xs, u :: us, .cons h r, i, hi => by
    rcases List.mem_cons.mp hi with rfl | hi
    · exact (List.getElem?_eq_some_iff.mp (show σ[i]? = some (some u) from h)).1
    · exact AvOk.refs_lt r i hi
theorem refs_snoc : ∀ (xs : List Av) (k : Nat), refs (xs ++ [.r k]) = refs xs ++ [k]
  | [], _ => rfl
  | .d _ :: xs, k => refs_snoc xs k
  | .r i :: xs, k => congrArg (i :: ·) (refs_snoc xs k)
theorem slots_snoc {L : LS} {s : S} : ∀ {xs : List Av}, (∀ i ∈ refs xs, i < L.length) → (xs ++ [Av.r L.length]).map (slotOf (L ++ [some s])) = xs.map (slotOf L) ++ [some s]
  | [], _ => by
    show [((L ++ [some s])[L.length]?).join] = [some s]
    rw [List.getElem?_append_right (Nat.le_refl _), Nat.sub_self]
    rfl
  | .d d :: xs, h => congrArg (some (S.d d) :: ·) (slots_snoc (xs := xs) h)
  | .r i :: xs, h => by
    have hi : i < L.length := h i List.mem_cons_self
    have ih := slots_snoc (xs := xs) (L := L) (s := s) fun j hj => h j (List.mem_cons_of_mem _ hj)
    show ((L ++ [some s])[i]?).join :: (xs ++ [Av.r L.length]).map (slotOf (L ++ [some s])) = (L[i]?).join :: (xs.map (slotOf L) ++ [some s])
    rw [ih, List.getElem?_append_left hi]
theorem je_callT {k : Nat} {f : Addr} {fd : FuncData} {ps : List Str} {md : List Bool} {m : LS → R S} {x : Str} {p : Pos} {e : Expr} (F : FnOk c.X.prog c.X.w c.X.K c.X.mg c.X.base (L2.CX c.X.prog c.X.w) k f fd ps (VSp c.X.K c.ca md m)) (hr : Room k c.X.A) (tk : Takes c.X c.W)
    (hg : Gl c.X x) (hm : c.X.mg x = some (.ref f)) (hk : PySem.W.keepIn c.X.K (.ref f) = true) (hb : Binds c.X.K fd ps []) (ha : JArT c (e :: es) as ge)
    (hdb : (x == ("__debug__" : Str)) = false := by decide) (he : starEach (e :: es) c.X.env = (false, eval e c.X.env) :: starEach es c.X.env := by rfl) (hpl : (backTo pos (starEach es c.X.env)).any (·.1) = false := by rfl) :
    JE c false (.Call (.Name x p) (e :: es) [] pos) (gCallT m md.length as ge) := by
  obtain ⟨t, pa, qa⟩ := ha
  refine ⟨_, pe_callS F hr hg hm hk hb (fun σ => passAt tk σ) pa hdb he hpl, fun G F0 ow σ H L Rr => ?_⟩
  refine (qa G F0 ow σ H L Rr).bind (n2 := false) (k := callT m md.length) (t2 := fun vs H1 Q => VSp c.X.K c.ca md m vs H1 Q (WE c.W σ)) fun pr L1 vs H1 F1 ow1 hev e1 _ R1 b1 => ?_
  obtain ⟨us, v, rfl, av, rs⟩ := b1
  unfold callT
  refine Post.guard fun nd => ?_
  obtain ⟨nd, hlen⟩ := nd
  have hl := R1.len
  have hlt := AvOk.refs_lt av
  have R2 := Rl.snoc R1 rs
  have av2 : AvOk c.X.K (σ ++ [some v]) F1 (pr.1 ++ [.r L1.length]) (us ++ [v]) := AvOk.snoc hl av
  have nd2 : (refs (pr.1 ++ [.r L1.length])).Nodup := by
    rw [refs_snoc, List.nodup_append]
    refine ⟨nd, by simp, fun a ha b hb => ?_⟩
    rw [List.mem_singleton] at hb
    have := hlt a ha
    omega
  have rin := R2.callIn av2 nd2
  have hsl : (pr.1 ++ [Av.r L1.length]).map (slotOf (L1 ++ [some pr.2])) = pr.1.map (slotOf L1) ++ [some pr.2] := slots_snoc fun i hi => by rw [hl]; exact hlt i hi
  rw [hsl] at rin
  have hmd : (pr.1.map (slotOf L1) ++ [some pr.2]).length = md.length := by rw [List.length_append, List.length_map]; exact hlen
  unfold callAtT
  cases hm' : m (pr.1.map (slotOf L1) ++ [some pr.2]) with
  | stuck => trivial
  | ok s ss =>
    intro Q q
    refine ⟨c.B, _, F1, _, _, hmd, rin, ?_⟩
    rw [hm']
    intro w H' F' ow' e' r' rs'
    obtain ⟨w1, w2, w3⟩ := R2.callOut av2 nd2 e' r'
    have hss : ss.length = pr.1.length + 1 := by
      have := r'.len
      rw [this, List.length_map, List.length_append, ← Paired.length av]
      rfl
    obtain ⟨y, hy⟩ := putBack_snoc pr.1 ss L1 (some pr.2) hss fun i hi => by rw [hl]; exact hlt i hi
    rw [hy] at w1
    exact q w H' F' _ e' (fun h => nomatch h) (Rl.unsnoc (x := none) R1 (by rw [putBack_len]; exact hl) w1) (w3 rs')
  | err er ss =>
    intro hw Q
    refine ⟨c.B, _, F1, _, _, hmd, rin, ?_⟩
    rw [hm']
    intro H' F' ow' e' r'
    obtain ⟨w1, w2, w3⟩ := R2.callOut av2 nd2 e' r'
    have hss : ss.length = pr.1.length + 1 := by
      have := r'.len
      rw [this, List.length_map, List.length_append, ← Paired.length av]
      rfl
    obtain ⟨y, hy⟩ := putBack_snoc pr.1 ss L1 (some pr.2) hss fun i hi => by rw [hl]; exact hlt i hi
    rw [hy] at w1
    exact hw H' F' _ e' (Rl.unsnoc (x := none) R1 (by rw [putBack_len]; exact hl) w1)
theorem je_dxT {x : Str} {k j : Nat} {ps : List Str} {md : List Bool} {m : LS → R S} {p : Pos} {e : Expr} (D : Dx c.X.prog c.X.w c.X.K c.X.mg c.X.base c.ca x k ps md m) (hr : Room j c.X.A) (hk : k ≤ j) (tk : Takes c.X c.W) (hg : Gl c.X x) (ha : JArT c (e :: es) as ge)
    (hdb : (x == ("__debug__" : Str)) = false := by decide) (he : starEach (e :: es) c.X.env = (false, eval e c.X.env) :: starEach es c.X.env := by rfl) (hpl : (backTo pos (starEach es c.X.env)).any (·.1) = false := by rfl) :
    JE c false (.Call (.Name x p) (e :: es) [] pos) (gCallT m md.length as ge) := by
  obtain ⟨f, fd, h1, h2, h3, h4⟩ := D.ex
  exact je_callT h1 (hr.mono hk) tk hg h2 h3 h4 ha hdb he hpl
def intsR (m : Nat) : List D := (intsD 0 m).reverse
def rvr1 : D → LS → R (List D)
  | .int j, L => if -(2 ^ 62) ≤ j ∧ j < 2 ^ 62 then .ok (intsR j.toNat) L else .stuck
  | _, _ => .stuck
theorem intsR_len (m : Nat) : (intsR m).length = m := by
  unfold intsR
  rw [List.length_reverse, intsD_len]
theorem itc_ok {K : PySem.W.Frag} {F : Hp} {m : Nat} : ItOk K F (intsR m) (Itc (0 + ((m : Nat) : Int) - 1) (-1) m) := fun i H s => by
  rw [intsR_len]
  refine ⟨fun h => h, fun d hd => ?_⟩
  have hi : i < m := by
    have := (List.getElem?_eq_some_iff.mp hd).1
    rw [intsR_len] at this
    exact this
  unfold intsR at hd
  rw [List.getElem?_reverse (by rw [intsD_len]; exact hi), intsD_len] at hd
  unfold intsD at hd
  rw [List.getElem?_map, List.getElem?_range (by omega)] at hd
  cases hd
  refine ⟨hi, fun x H' ⟨e1, e2⟩ => .inl ⟨e1, ?_⟩⟩
  rw [e2]
  have : (0 + ((m : Nat) : Int) - 1 + (i : Nat) * (-1)) = 0 + ((m - 1 - i : Nat) : Int) := by omega
  rw [this]
  exact .int _
theorem ji_revrange {tg : Expr} {p p2 pos2 : Pos} (hg : Gl c.X "reversed") (hm : c.X.mg "reversed" = none) (hg2 : Gl c.X "range") (hm2 : c.X.mg "range" = none) (h : JD c n a ga)
    (hs : starEach [.Call (.Name "range" p2) [a] [] pos2] c.X.env = (false, eval (.Call (.Name "range" p2) [a] [] pos2) c.X.env) :: starEach [] c.X.env := by rfl) (hs2 : starEach [a] c.X.env = (false, eval a c.X.env) :: starEach [] c.X.env := by rfl) :
    JI c n tg (.Call (.Name "reversed" p) [.Call (.Name "range" p2) [a] [] pos2] [] pos) (fun L => (ga L).bind rvr1) := by
  obtain ⟨t, pa, q⟩ := h
  refine ⟨_, pi_revR hg hm (prg_1 hg2 hm2 pa hs2) hs, fun G F ow σ H L Rr => (q G F ow σ H L Rr).bind1 (t2 := fun v H1 Q => ∃ j : Int, v = V.int j ∧ -(2 ^ 62) ≤ (0 : Int) ∧ (0 : Int) < 2 ^ 62 ∧ -(2 ^ 62) ≤ j ∧ j < 2 ^ 62 ∧ Q (Itc (0 + (((j - 0).toNat : Nat) : Int) - 1) (-1) (j - 0).toNat) H1) fun d L1 v H1 F1 ow1 _ _ _ R1 b1 => ?_⟩
  cases b1 with
  | int j => exact Post.guard fun hj => (Post.val (a := intsR j.toNat) (b := Itc (0 + (((j - 0).toNat : Nat) : Int) - 1) (-1) (j - 0).toNat) (B := BI c.X.K) R1 (by rw [Int.sub_zero]; exact itc_ok)).imp fun Q q => ⟨j, rfl, by decide, by decide, hj.1, hj.2, q⟩
  | _ => trivial
end
end VS

namespace VS
open PySem PySem.Spec PyProof.Rows L2
section
variable {c : Ct} {n : Bool} {a : Expr} {ga : LS → R D} {pos p : Pos}
theorem jt_dnin {k : Nat} (i : Nat) {x : Str} (hr : Room k c.X.A) (h : PE c.X (.Name x p) (tVar i)) (ha : JD c n a ga) (hm : behindInMarks .NotIn (.Name x p) = false := by rfl) : JT c n (.Compare a [.NotIn] [.Name x p] pos) (gB (gDIn true i ga)) := by
  obtain ⟨ta, pa, qa⟩ := ha
  refine ⟨_, pt_cmp (pc_dnotin (by have := hr.un; omega) pa h) hm, jdg_B fun G F ow σ H L Rr => ?_⟩
  refine (qa G F ow σ H L Rr).bind1 (k := dinK true i) (B2 := BD c.X.K) (t2 := fun y H1 Q => tVar i σ H1 fun x H2 => ∃ a o, x = .ref a ∧ DGet H2 a y o ∧ Q (V.bl (!o.isSome)) H2) fun d L1 y H1 F1 ow1 _ _ _ R1 b1 => ?_
  unfold dinK
  cases hr : dictAt L1[i]? d with
  | none => trivial
  | some r =>
    obtain ⟨l, o, h1, h2, h3⟩ := dict_get R1 b1 hr
    have ho := optOk_some h3
    exact (Post.val (a := PyData.bool (!r.isSome)) (b := V.bl (!o.isSome)) (B := BD c.X.K) R1 (by rw [ho]; exact Dq.bl _)).imp fun Q q => ⟨_, h1, l, o, rfl, h2, q⟩
end
end VS

namespace VS
open PySem PySem.Spec PyProof.Rows L2
section
variable {c : Ct} {n n1 n2 n3 : Bool} {a b : Expr} {ga gb : LS → R D} {ge : LS → R S} {pos : Pos} {es : List Expr} {as : List Ar}
theorem jart_r (i : Nat) {x : Str} {p : Pos} (h1 : PE c.X (.Name x p) (tVar i)) (h2 : JArT c es as ge) (hs : starEach (.Name x p :: es) c.X.env = (false, eval (.Name x p) c.X.env) :: starEach es c.X.env := by rfl) : JArT c (.Name x p :: es) (.r i :: as) ge := by
  obtain ⟨t2, p2, q2⟩ := h2
  refine ⟨_, pa_cons h1 p2 hs, fun G F ow σ H L Rr => ?_⟩
  have e0 : evArgs (.r i :: as) L = match L[i]? with
    | some (some _) => (evArgs as L).bind fun xs L2 => .ok (.r i :: xs) L2
    | _ => .stuck := rfl
  unfold evArgsT
  rw [e0]
  cases hL : L[i]? with
  | none => trivial
  | some o =>
    cases o with
    | none => trivial
    | some s =>
      obtain ⟨v, hv, _⟩ := Rr.sl i s hL
      have e : (((evArgs as L).bind fun xs L2 => R.ok (Av.r i :: xs) L2).bind fun xs L1 => (ge L1).bind fun s L2 => R.ok (xs, s) L2) = (evArgsT as ge L).bind fun p L2 => .ok (.r i :: p.1, p.2) L2 := by
        unfold evArgsT
        cases evArgs as L with
        | stuck => rfl
        | err k L1 => rfl
        | ok xs L1 =>
          show (ge L1).bind (fun s L2 => R.ok (Av.r i :: xs, s) L2) = ((ge L1).bind fun s L2 => R.ok (xs, s) L2).bind fun p L2 => R.ok (Av.r i :: p.1, p.2) L2
          cases ge L1 <;> rfl
      show Post c G false F H σ ((((evArgs as L).bind fun xs L2 => R.ok (Av.r i :: xs) L2).bind fun xs L1 => (ge L1).bind fun s L2 => R.ok (xs, s) L2)) _ _
      rw [e]
      have key := (q2 G F ow σ H L Rr).bind (n2 := false) (k := fun p L2 => R.ok (Av.r i :: p.1, p.2) L2) (B2 := BTt c σ) (t2 := fun vs H2 Q => Q (v :: vs) H2)
        fun p L2 vs H2 F2 ow2 _ e2 _ R2 b2 => by
          obtain ⟨us, w, rfl, h1, h2⟩ := b2
          exact (Post.val (a := (Av.r i :: p.1, p.2)) (b := v :: (us ++ [w])) (B := BTt c σ) R2 ⟨v :: us, w, rfl, (Paired.cons (show σ[i]? = some (some v) from hv) h1 : AvOk c.X.K σ F2 (Av.r i :: p.1) (v :: us)), h2⟩).low
      exact key.imp fun Q q => ⟨v, hv, q⟩
end
end VS

namespace VS
open PySem PySem.Spec PyProof.Rows L2
def gNever : LS → R O := fun _ => .stuck
def enD : Nat → List D → List D
  | _, [] => []
  | i, d :: ds => .tuple [.int (i : Nat), d] :: enD (i + 1) ds
def asEnum : List D → LS → R (List D)
  | [.list xs], L => .ok (enD 0 xs) L
  | _, _ => .stuck
theorem enD_len : ∀ (ds : List D) (i : Nat), (enD i ds).length = ds.length
  | [], _ => rfl
  | d :: ds, i => by
    show (enD (i + 1) ds).length + 1 = ds.length + 1
    rw [enD_len ds (i + 1)]
theorem enD_get : ∀ {ds : List D} {i j : Nat} {d : D}, (enD i ds)[j]? = some d → ∃ x, ds[j]? = some x ∧ d = .tuple [.int ((i + j : Nat) : Int), x]
  | [], i, j, d, h => by cases h
  | e :: ds, i, 0, d, h => ⟨e, rfl, (Option.some.inj h).symm⟩
  | e :: ds, i, j + 1, d, h => by
    obtain ⟨x, h1, h2⟩ := enD_get (ds := ds) (i := i + 1) (j := j) h
    refine ⟨x, h1, ?_⟩
    rw [h2]
    have : i + 1 + j = i + (j + 1) := by omega
    rw [this]
section
variable {c : Ct} {n : Bool} {a : Expr} {gs : LS → R (List D)} {p pos : Pos}
theorem js_neverR {e : Option Expr} {cause : Option Expr} {pos : Pos} : JS c (.Raise e cause pos) gNever := js_never
theorem ji_enum {tpos : Pos} {elts : List Expr} {kk : Nat} (hg : Gl c.X "enumerate") (hm : c.X.mg "enumerate" = none) (h : JA c n [a] gs)
    (hs : starEach [a] c.X.env = [(false, eval a c.X.env)] := by rfl) :
    JI c n (.Tuple elts kk tpos) (.Call (.Name "enumerate" p) [a] [] pos) (fun L => (gs L).bind asEnum) := by
  obtain ⟨t, q, k⟩ := h
  refine ⟨_, pi_enum hg hm q hs, fun G F ow σ H L Rr => (k G F ow σ H L Rr).bind1 (t2 := fun vs H1 Q => ∃ a xs, vs = [V.ref a] ∧ SqL c.X.K H1 a xs ∧ Q (Ite c.X.K a) H1) fun ds L1 vs H1 F1 ow1 _ _ _ R1 b1 => ?_⟩
  show Post c G true F1 H1 σ (asEnum ds L1) _ _
  unfold asEnum
  split
  · match vs, b1 with
    | _, .cons (@Dq.lst _ _ l us xs h1 h2) .nil =>
      refine (Post.val (a := enD 0 xs) (b := Ite c.X.K l) (B := BI c.X.K) R1 fun i H s => ⟨fun hi => ⟨us, .of (s _ _ h1), ?_⟩, fun d hd => ?_⟩).imp fun Q q => ⟨l, us, rfl, .of (R1.exF _ _ h1), q⟩
      · rw [enD_len] at hi
        rw [h2.len]
        exact hi
      · obtain ⟨x, hx, rfl⟩ := enD_get hd
        obtain ⟨u, hu, ru⟩ := h2.get hx
        refine ⟨⟨us, u, .of (s _ _ h1), hu⟩, fun x' H' ⟨T, x1, e1, e2, e3, e4⟩ => .inr ⟨T, _, [.int ((0 + i : Nat) : Int), x], rfl, e1, e2, e3, ?_⟩⟩
        have f1 := e4 us (.of (s _ _ h1))
        rw [hu] at f1
        cases f1
        rw [Nat.zero_add]
        exact .cons (.int _) (.cons ru .nil)
  · trivial
end
end VS

namespace VS
open PySem PySem.Spec PyProof.Rows L2
def scal : D → Bool
  | .none => true
  | .bool _ => true
  | .int _ => true
  | .str _ => true
  | _ => false
section
variable {c : Ct} {n n1 n2 n3 : Bool} {a b : Expr} {ga gb : LS → R D} {gs : LS → R (List D)} {ge : LS → R S} {pos : Pos} {es : List Expr}
def adrs : List V → List Addr
  | [] => []
  | .ref a :: vs => a :: adrs vs
  | _ :: vs => adrs vs
open Classical in
def frzA (F H : Hp) (as : List Addr) : Hp := fun a => match F a with
  | some o => some o
  | none => if a ∈ as then H a else none
theorem frzA_same {F H : Hp} {as : List Addr} : Same F (frzA F H as) := fun a o h => by
  unfold frzA
  rw [h]
theorem frzA_in {F H : Hp} {as : List Addr} (e : Same F H) : Same (frzA F H as) H := fun a o h => by
  unfold frzA at h
  cases z : F a with
  | some u => rw [z] at h; rw [← h]; exact e a u z
  | none =>
    rw [z] at h
    have h : (if a ∈ as then H a else none) = some o := h
    split at h
    · exact h
    · cases h
theorem frzA_at {F H : Hp} {as : List Addr} {l : Addr} {o : HO} (e : Same F H) (hm : l ∈ as) (h : H l = some o) : frzA F H as l = some o := by
  unfold frzA
  cases z : F l with
  | some u =>
    have := e l u z
    rw [h] at this
    exact this.symm
  | none => exact (if_pos hm).trans h
theorem Rl.more {K : PySem.W.Frag} {ca : Nat → Addr} {bh : Hp} {pn : List (Option V)} {G F H H' : Hp} {ow : Addr → Option Path} {σ : L2.St} {L : LS} (r : Rl K ca bh pn G F ow σ H L) (s : Same H H') : Rl K ca bh pn G F ow σ H' L := by
  refine ⟨r.exF.trans s, r.exG.trans s, fun a p h => ?_, r.dG, r.len, fun i s0 h => ?_, r.pin, r.exB.trans s, r.dB⟩
  · obtain ⟨x, y, z⟩ := r.dF a p h
    refine ⟨x, y, ?_⟩
    cases q : H a with
    | none => exact absurd q z.1
    | some o => rw [s a o q, ← q]; exact z
  · obtain ⟨v, q1, q2⟩ := r.sl i s0 h
    refine ⟨v, q1, q2.go (Same.refl F) fun a w h => ⟨?_, h⟩⟩
    obtain ⟨x, y, z⟩ := r.dF a _ h
    cases q : H a with
    | none => exact absurd q z.1
    | some o => rw [s a o q]
end
end VS

namespace VS
open PySem PySem.Spec PyProof.Rows L2
open PySem.W (EachIs AllAlike Sortable dataLe)
def isTup1 : D → Bool
  | .tuple (_ :: _) => true
  | _ => false
def noTup : D → Bool
  | .none => false
  | .tuple _ => false
  | _ => true
def sortOk (ds : List D) : Bool := (ds.all fun d => ds.all fun e => PySem.W.alike d e) && ((ds.all isTup1 || ds.all noTup) && ((ds.all fun d => decide (d.depth ≤ 60)) && decide (ds.length ≤ sizeLine)))
def srtD (ds : List D) : List D := ds.mergeSort (dataLe false id)
theorem sortOk_of {ds : List D} (h : sortOk ds = true) : AllAlike ds ∧ Sortable ds ∧ (∀ d ∈ ds, d.depth ≤ 60) ∧ ds.length ≤ sizeLine := by
  unfold sortOk at h
  simp only [Bool.and_eq_true, Bool.or_eq_true, List.all_eq_true, decide_eq_true_eq] at h
  obtain ⟨h1, h2, h3, h4⟩ := h
  refine ⟨fun d hd e he => h1 d hd e he, ?_, h3, h4⟩
  rcases h2 with h2 | h2
  · refine .inl fun d hd => ?_
    have := h2 d hd
    cases d with
    | tuple xs =>
      cases xs with
      | nil => cases this
      | cons x r => exact ⟨x, r, rfl⟩
    | _ => cases this
  · refine .inr fun d hd => ?_
    have := h2 d hd
    cases d with
    | tuple xs => cases this
    | none => cases this
    | _ => exact ⟨fun z => (by cases z), fun xs z => by cases z⟩
theorem each_of {α β γ : Type} {R : α → γ → Prop} {P : α → β → Prop} : ∀ {xs : List α} {us : List γ} {ds : List β}, Paired R xs us → Paired P xs ds → EachIs (fun u d => ∃ x, R x u ∧ P x d) us ds
  | _, _, _, .nil, .nil => .nil
  | _, _, _, .cons a r, .cons b t => .cons ⟨_, a, b⟩ (each_of r t)
theorem of_each {α β γ : Type} {R : α → γ → Prop} {P : α → β → Prop} : ∀ {us : List γ} {ds : List β}, EachIs (fun u d => ∃ x, R x u ∧ P x d) us ds → ∃ xs : List α, Paired R xs us ∧ Paired P xs ds
  | _, _, .nil => ⟨[], .nil, .nil⟩
  | _, _, .cons ⟨x, a, b⟩ t => by
    obtain ⟨xs, h1, h2⟩ := of_each t
    exact ⟨x :: xs, .cons a h1, .cons b h2⟩
def rSortedG (K : PySem.W.Frag) : List V → Hp → VK → Prop := fun vs H Q => ∃ (a : Addr) (xs : List V) (ds : List D) (P : V → D → Prop), vs = [V.ref a] ∧ SqL K H a xs ∧ Paired P xs ds ∧ DpAll K H xs ds ∧ AllAlike ds ∧ Sortable ds ∧ (∀ d ∈ ds, d.depth ≤ 60) ∧
  ∀ (ys : List V) (p : Addr), Paired P ys (srtD ds) → H p = none → Q (.ref p) (upd H p (.lst ys))
theorem cr_sortedG {X : Cx} (hu : X.A.units + 65 < cLine) : CallR X (.builtin "sorted") (rSortedG X.K) := by
  intro pins s σ H vs us Q I r h
  obtain ⟨a, xs, ds, P, rfl, hs, hP, hD, hal, hk, hdp, q⟩ := h
  obtain ⟨its, rv, hl, hz⟩ := I.list hs
  rw [Vals.ref1 r]
  have hlen : its.length = ds.length := by rw [← Paired.length rv, Paired.length hP]
  have e := each_of rv hP
  obtain ⟨as, hr⟩ := Dp.readsAll I ds xs its hD rv
  have er : EachIs (fun v b => ∃ as, Reads s.heap v (id b) as) its ds := PySem.W.readsAll_each id (bs := ds) (by rw [List.map_id]; exact hr)
  have hL : ds.length ≤ sizeLine := by rw [← Paired.length hP]; exact hz
  refine PySem.W.sorted_data (vs := its) (bs := ds) (enc := id) hl.isList e er (by rw [List.map_id]; exact hal) (by rw [List.map_id]; exact hk) hL (fun b hb => ?_) fun out ho he => ?_
  · have := hdp b hb
    show X.A.units + 2 + b.depth < cLine
    omega
  · obtain ⟨ep, he'⟩ := PyProof.Rows.sortedAll_at s.heap its out.toArray
    obtain ⟨ys, h1, h2⟩ := of_each he
    have hyl : ys.length ≤ sizeLine := by
      rw [Paired.length h1, ho]
      exact hL
    exact ⟨.ref _, upd H (s.heap.objs.size + 1) (.lst ys), I.laid (t' := s.toks) (fun _ _ => PyProof.Rows.sortedAll_old) (Nat.le_succ _) ⟨hyl, out, ep, h1, he'⟩, rfl, q ys _ h2 (I.hok.fresh (Nat.le_succ _))⟩
def dSortedG : D → Option S
  | .list ds => if sortOk ds = true then some (.ol (srtD ds)) else none
  | _ => none
theorem dqa_paired {K : PySem.W.Frag} {F : Hp} : ∀ {vs : List V} {ds : List D}, DqA K F vs ds → Paired (fun v d => Dq K F v d) vs ds
  | _, _, .nil => .nil
  | _, _, .cons a t => .cons a (dqa_paired t)
theorem paired_dqa {K : PySem.W.Frag} {F : Hp} : ∀ {vs : List V} {ds : List D}, Paired (fun v d => Dq K F v d) vs ds → DqA K F vs ds
  | _, _, .nil => .nil
  | _, _, .cons a t => .cons a (paired_dqa t)
section
variable {c : Ct} {n : Bool} {a : Expr} {ga : LS → R D} {p pos : Pos} {k : Nat}
theorem je_sortedG (hr : Room k c.X.A) (hg : Gl c.X "sorted") (hm : c.X.mg "sorted" = none) (ha : JV c n a ga) (hs : starEach [a] c.X.env = (false, eval a c.X.env) :: starEach [] c.X.env := by rfl) : JE c n (.Call (.Name "sorted" p) [a] [] pos) (gUn dSortedG ga) :=
  je_call1 (cr_sortedG (room65 hr)) hg hm (by decide +kernel) ha (fun {G F H ow σ L d v} Rr hb => by
    cases d with
    | list ds =>
      obtain ⟨l, vs, rfl, h1, h2⟩ := bv_list Rr hb
      show Post c G true F H σ (ofO (if sortOk ds = true then some (S.ol (srtD ds)) else none) L) _ _
      by_cases hk : sortOk ds = true
      · rw [if_pos hk]
        obtain ⟨k1, k2, k3, k4⟩ := sortOk_of hk
        show Post c G true F H σ (R.ok (S.ol (srtD ds)) L) _ _
        intro Q q
        refine ⟨l, vs, ds, fun v d => Dq c.X.K F v d, rfl, h1, dqa_paired h2, DqA.dp ds vs (h2.up Rr.exF), k1, k2, k3, fun ys p k5 k6 => ?_⟩
        exact post_new Rr (paired_dqa k5) Q q p k6
      · rw [if_neg hk]
        trivial
    | _ => trivial) (by decide) (by decide) hs rfl
end
end VS

namespace VS
open PySem PySem.Spec PyProof.Rows L2
open PySem.W (EachIs AllAlike Sortable dataLe)
mutual
theorem reads_in {h : Heap} : ∀ {v : Value} {d : PyData} {as : List Addr}, Reads h v d as → ∀ a ∈ as, ∃ o, h.get? a = some o
  | _, _, _, .none, a, ha => by cases ha
  | _, _, _, .bool b, a, ha => by cases ha
  | _, _, _, .int i t, a, ha => by cases ha
  | _, _, _, .str x t, a, ha => by cases ha
  | _, _, _, .list h1 h2 h3 h4, a, ha => by
    rcases List.mem_cons.mp ha with rfl | ha
    · exact ⟨_, h1⟩
    · exact readsAll_in h4 a ha
  | _, _, _, .tuple h1 h2 h3 h4, a, ha => readsAll_in h4 a ha
  | _, _, _, .dict h1 h2 h3 h4 h5, a, ha => by
    rcases List.mem_append.mp ha with ha | ha
    · rcases List.mem_cons.mp ha with rfl | ha
      · exact ⟨_, h1⟩
      · exact readsAll_in h4 a ha
    · exact readsAll_in h5 a ha
theorem readsAll_in {h : Heap} : ∀ {vs : List Value} {ds : List PyData} {as : List Addr}, ReadsAll h vs ds as → ∀ a ∈ as, ∃ o, h.get? a = some o
  | _, _, _, .nil, a, ha => by cases ha
  | _, _, _, .cons h1 h2, a, ha => by
    rcases List.mem_append.mp ha with ha | ha
    · exact reads_in h1 a ha
    · exact readsAll_in h2 a ha
end
def kD : Key → D
  | .inl i => .int i
  | .inr x => .str x
theorem kV_kD {K : PySem.W.Frag} {F : Hp} : ∀ k : Key, Dq K F (kV k) (kD k)
  | .inl i => .int i
  | .inr x => .str x
theorem kVs_kD {K : PySem.W.Frag} {F : Hp} : ∀ ks : List Key, DqA K F (ks.map kV) (ks.map kD)
  | [] => .nil
  | k :: ks => .cons (kV_kD k) (kVs_kD ks)
theorem sort_tail {X : Cx} {pins : List (Addr × Obj)} {σ : L2.St} {H : Hp} {s : Shared} (I : Inv X pins σ H s) (hu : X.A.units + 65 < cLine) {us : List Value} {xs : List V} {ds : List D} {P : V → D → Prop} {Q : VK} {QQ : Value → Shared → Prop} {E : Value → Shared → Prop} (rv : Vals xs us) (hP : Paired P xs ds) (hD : DpAll X.K H xs ds)
    (hal : AllAlike ds) (hk : Sortable ds) (hdp : ∀ d ∈ ds, d.depth ≤ 60) (hL : ds.length ≤ sizeLine) (q : ∀ (ys : List V) (p : Addr), Paired P ys (srtD ds) → H p = none → Q (.ref p) (upd H p (.lst ys)))
    (fin : ∀ (u : Value) (s' : Shared), (∃ y H', Inv X pins σ H' s' ∧ RelV y u ∧ Q y H') → QQ u s') :
    wpAny (model X.prog X.w) X.A.in1 (call (.builtin "list.sort") [.ref s.heap.objs.size]) (fun _ s' => QQ (.ref s.heap.objs.size) s') E { s with heap := s.heap.push (seqObj "list" us.toArray 0) } := by
  have e := each_of rv hP
  obtain ⟨as, hr⟩ := Dp.readsAll I ds xs us hD rv
  have hlen : us.length = ds.length := by rw [← Paired.length rv, Paired.length hP]
  have hoL : (s.heap.push (seqObj "list" us.toArray 0)).get? s.heap.objs.size = some (seqObj "list" us.toArray 0) := Heap.get?_push_size _ rfl
  have er : EachIs (fun v b => ∃ as, Reads (s.heap.push (seqObj "list" us.toArray 0)) v (id b) as ∧ s.heap.objs.size ∉ as) us ds := by
    have er0 : EachIs (fun v b => ∃ as, Reads s.heap v (id b) as) us ds := PySem.W.readsAll_each id (bs := ds) (by rw [List.map_id]; exact hr)
    refine er0.mono fun v b ⟨as, r⟩ => ⟨as, Reads.keeps (fun b o q => Heap.get?_push_of_some _ q) r, fun hm => ?_⟩
    obtain ⟨o, ho⟩ := reads_in r _ hm
    exact Nat.lt_irrefl _ (Heap.lt_size ho)
  refine PySem.W.list_sort_data (s := { s with heap := s.heap.push (seqObj "list" us.toArray 0) }) (vs := us) (bs := ds) (enc := id) hoL e er (by rw [List.map_id]; exact hal) (by rw [List.map_id]; exact hk) hL (fun b hb => ?_) fun out ho he => ?_
  · have := hdp b hb
    show X.A.units + 1 + 1 + b.depth < cLine
    omega
  · obtain ⟨ys, h1, h2⟩ := of_each he
    obtain ⟨e', he'⟩ := PyProof.Rows.sortedHeap_at (vs := us) (out := out.toArray) hoL
    have hyl : ys.length ≤ sizeLine := by
      rw [Paired.length h1, ho]
      exact hL
    refine fin _ _ ⟨.ref s.heap.objs.size, upd H s.heap.objs.size (.lst ys), I.laid (t' := s.toks) (fun b u e => ?_) (Nat.le_refl _) ⟨hyl, out, e', h1, he'⟩, rfl, q ys _ h2 (I.hok.fresh (Nat.le_refl _))⟩
    have hb : b < s.heap.objs.size := Heap.lt_size e
    rw [PyProof.Rows.sortedHeap_old (Nat.ne_of_lt hb) (by rw [size_push']; exact Nat.lt_succ_of_lt hb)]
    exact Heap.get?_push_of_some _ e
def KeyAt (H : Hp) (y : V) (d : D) : Prop := ∃ (b : Addr) (k : List Key), y = .ref b ∧ H b = some (.tup (k.map kV)) ∧ d = .tuple (k.map kD)
def keysT (kvs : List (List Key × V)) : List D := kvs.map fun p => .tuple (p.1.map kD)
theorem cr_sortedDT {X : Cx} (hc : X.calm = true) (hu : X.A.units + 65 < cLine) : CallR X (.builtin "sorted") (fun xs H Q => ∃ d kvs, xs = [V.ref d] ∧ Rd H d (.dT kvs) ∧ sortOk (keysT kvs) = true ∧ ∀ (ys : List V) (p : Addr), Paired (KeyAt H) ys (srtD (keysT kvs)) → H p = none → Q (.ref p) (upd H p (.lst ys))) := by
  intro pins s σ H xs us Q I r h
  obtain ⟨d, kvs, rfl, hd, hok, q⟩ := h
  obtain ⟨k1, k2, k3, k4⟩ := sortOk_of hok
  obtain ⟨u, rfl, rx⟩ := r.one
  cases rx
  obtain ⟨z, hs, ks, pr, o, es, ep, ho, hx, hdt, he, hn⟩ := (show ObjOk X.prog X.w H s.heap d (.dT kvs) from hd.ok I.hok)
  have l1 : es.size = ks.length := size_of_entries he
  have l2 : kvs.length = ks.length := Paired.length pr
  refine Calls.call_function_entry PyProof.Rows.kind_sorted PyProof.Rows.plain_sorted PyProof.Rows.entry_sorted (PyProof.Rows.args_sorted1 _) ?_
  unfold Builtin.«sorted»
  refine wpAny_bind (m := checkCount "sorted" 1 1 _) (wpAny_pure ?_)
  refine wpAny_bind (PySem.W.kdu_collect (A := X.A.in1) (kdl_raw hs hx hdt) (I.ok.hd hc) ho (by omega) fun h' tk acc' kp it => ?_)
  have ea : acc'.toList = ks.map fun x => Value.ref x.2.1 := by
    have hl : acc'.toList.length = ks.length := by rw [Array.length_toList, it.1]; exact l1
    apply List.ext_getElem?
    intro j
    rw [List.getElem?_map]
    cases hj : acc'.toList[j]? with
    | none =>
      have h1 := List.getElem?_eq_none_iff.mp hj
      rw [List.getElem?_eq_none (by omega)]
      all_goals rfl
    | some v =>
      obtain ⟨en, hen, hv⟩ := it.2 j v (by rw [← Array.getElem?_toList]; exact hj)
      have qe := entry_at he j
      rw [hen] at qe
      cases hb : ks[j]? with
      | none =>
        rw [hb] at qe
        exact nomatch (show some en = none from qe)
      | some b =>
        rw [hb] at qe
        have e2 : en = entryOfKey (tupleKind (mixKind X.prog X.w)) b := Option.some.inj qe
        rw [hv, e2]
        all_goals rfl
  have eb : acc'.toList = (ks.map fun x => x.2.1).map Value.ref := by rw [ea, List.map_map]; all_goals rfl
  have rv : Vals ((ks.map fun x => x.2.1).map V.ref) acc'.toList := by rw [eb]; exact vals_refs _
  have I1 : Inv X pins σ H { s with heap := h', toks := tk } := I.kept kp
  have hKA : Paired (KeyAt H) ((ks.map fun x => x.2.1).map V.ref) (keysT kvs) := by
    have := isKeys_of pr
    have go : ∀ {kvs : List (List Key × V)} {bs : List Addr}, IsKeys H kvs bs → Paired (KeyAt H) (bs.map V.ref) (keysT kvs) := by
      intro kvs bs h
      unfold IsKeys at h
      induction h with
      | nil => exact .nil
      | cons a t ih => exact .cons ⟨_, _, rfl, a, rfl⟩ ih
    exact go this
  have hDA : DpAll X.K H ((ks.map fun x => x.2.1).map V.ref) (keysT kvs) := by
    have go : ∀ {ys : List V} {ds : List D}, Paired (KeyAt H) ys ds → DpAll X.K H ys ds := by
      intro ys ds h
      induction h with
      | nil => exact .nil
      | cons a t ih =>
        obtain ⟨b, k, rfl, h1, rfl⟩ := a
        exact .cons (.tup (.of h1) (DqA.dp (F := H) _ _ (kVs_kD k))) ih
    exact go hKA
  have hsz : acc'.toList.length ≤ sizeLine := by
    rw [ea, List.length_map]
    omega
  refine wpAny_bind (wpAny_newList ?_ hsz)
  refine wpAny_bind (wpAny_holding (wpAny_mono (sort_tail (s := { s with heap := h', toks := tk }) (Q := Q) (QQ := fun u s' => ∃ y H', Inv X pins σ H' s' ∧ RelV y u ∧ Q y H') I1 hu rv hKA hDA k1 k2 k3 k4 q fun u s' h => h) (fun _ s' x => ?_) fun _ _ e => e))
  refine wpAny_pure ⟨_, rfl, ?_⟩
  obtain ⟨y, H', a1, a2, a3⟩ := x
  exact ⟨y, H', a1, a2, a3⟩
end VS
namespace VS
open PySem PySem.Spec PyProof.Rows L2
open PySem.W (EachIs AllAlike Sortable dataLe)
def keysK {α : Type} (kvs : List (Key × α)) : List D := kvs.map fun p => kD p.1
theorem keysK_paired {K : PySem.W.Frag} {H : Hp} : ∀ (ks : List Key), Paired (fun v d => ∃ k : Key, v = kV k ∧ d = kD k) (ks.map kV) (ks.map kD)
  | [] => .nil
  | k :: ks => .cons ⟨k, rfl, rfl⟩ (keysK_paired (K := K) (H := H) ks)
theorem cr_sortedDK {X : Cx} (hc : X.calm = true) (hu : X.A.units + 65 < cLine) : CallR X (.builtin "sorted") (fun xs H Q => ∃ (a : Addr) (kvs : List (Key × V)), xs = [V.ref a] ∧ Rd H a (.dK kvs) ∧ sortOk (keysK kvs) = true ∧ ∀ (ys : List V) (p : Addr), Paired (fun v d => ∃ k : Key, v = kV k ∧ d = kD k) ys (srtD (keysK kvs)) → H p = none → Q (.ref p) (upd H p (.lst ys))) := by
  intro pins s σ H xs us Q I r q
  obtain ⟨a, kvs, ex, hd, hok, q⟩ := q
  subst ex
  obtain ⟨k1, k2, k3, k4⟩ := sortOk_of hok
  obtain ⟨u, eu, rx⟩ := vals1 r
  subst eu
  cases rx
  obtain ⟨z, lo, vs, rel, dd⟩ := dk_rd I.hok hd
  obtain ⟨ep, hat⟩ := dd.dictAt
  have ek : (kvs.map fun kv => kV kv.1) = vs.map fun p => kV p.1 := by
    have e := congrArg (List.map kV) rel.keys
    rw [List.map_map, List.map_map] at e
    exact e
  refine Calls.call_function_entry PyProof.Rows.kind_sorted PyProof.Rows.plain_sorted PyProof.Rows.entry_sorted (PyProof.Rows.args_sorted1 _) ?_
  unfold Builtin.«sorted»
  refine wpAny_bind (m := checkCount "sorted" 1 1 _) (wpAny_pure ?_)
  refine wpAny_bind (PySem.W.kdu_collect (A := X.A.in1) (PySem.W.kdl_dict (knd := mixKind X.prog X.w) (kvs := vs) (ep := ep) lo) (I.ok.hd hc) hat (by rw [← rel.length]; exact z) fun h' tk acc hk hacc => ?_)
  have hv : Vals (vs.map fun p => kV p.1) acc.toList := keys_at (by rw [Array.length_toList]; exact hacc.1) fun j v e => hacc.2 j v (by rw [← Array.getElem?_toList]; exact e)
  rw [← ek] at hv
  have I1 : Inv X pins σ H { s with heap := h', toks := tk } := I.kept hk
  have hP : Paired (fun v d => ∃ k : Key, v = kV k ∧ d = kD k) (kvs.map fun kv => kV kv.1) (keysK kvs) := by
    have := keysK_paired (K := X.K) (H := H) (kvs.map (·.1))
    rw [List.map_map, List.map_map] at this
    exact this
  have hDA : DpAll X.K H (kvs.map fun kv => kV kv.1) (keysK kvs) := by
    have := DqA.dp (K := X.K) (F := H) _ _ (kVs_kD (K := X.K) (F := H) (kvs.map (·.1)))
    rw [List.map_map, List.map_map] at this
    exact this
  have hl : acc.toList.length ≤ sizeLine := by
    rw [← Paired.length hv, List.length_map]
    exact z
  refine wpAny_bind (wpAny_newList ?_ hl)
  refine wpAny_bind (wpAny_holding (wpAny_mono (sort_tail (s := { s with heap := h', toks := tk }) (Q := Q) (QQ := fun u s' => ∃ y H', Inv X pins σ H' s' ∧ RelV y u ∧ Q y H') I1 hu hv hP hDA k1 k2 k3 k4 q fun u s' h => h) (fun _ s' x => ?_) fun _ _ e => e))
  refine wpAny_pure ⟨_, rfl, ?_⟩
  obtain ⟨y, H', a1, a2, a3⟩ := x
  exact ⟨y, H', a1, a2, a3⟩
def BX (ca : Nat → Addr) : PySem.W.Frag → Hp → Hp → (Addr → Option Path) → S → V → Prop := fun K F H ow s v => ∃ p, RS K ca F H ow p s v
def JX (c : Ct) (n : Bool) (e : Expr) (g : LS → R S) : Prop := ∃ t, PE c.X e t ∧ Jdg c n g (BX c.ca) t
def gLk (i : Nat) : LS → R S := fun L => match L[i]? with
  | some (some s) => if s.own = true then .ok s L else .stuck
  | _ => .stuck
section
variable {c : Ct} {n : Bool} {a : Expr} {ga : LS → R S} {p pos : Pos} {k : Nat}
theorem jx_var (i : Nat) {x : Str} {pos : Pos} (h : PE c.X (.Name x pos) (tVar i)) : JX c true (.Name x pos) (gLk i) := by
  refine ⟨_, h, fun G F ow σ H L Rr => ?_⟩
  unfold gLk
  cases hL : L[i]? with
  | none => trivial
  | some o =>
    cases o with
    | none => trivial
    | some s =>
      obtain ⟨v, hv, rs⟩ := Rr.sl i s hL
      refine Post.guard fun hs => ?_
      exact (Post.val (b := v) (B := BX c.ca c.X.K) Rr ⟨_, rs.rs hs⟩).imp fun Q q => ⟨v, hv, q⟩
def gOnS {α : Type} (f : S → Option α) (g : LS → R S) : LS → R α := fun L => (g L).bind fun s L1 => ofO (f s) L1
def sSorted : S → Option S
  | .odT kvs => if sortOk (keysT' kvs) = true then some (.ol (srtD (keysT' kvs))) else none
  | .odK kvs => if sortOk (keysK kvs) = true then some (.ol (srtD (keysK kvs))) else none
  | _ => none
where keysT' (kvs : List (List Key × D)) : List D := kvs.map fun p => .tuple (p.1.map kD)
theorem dqk_keysT {K : PySem.W.Frag} {F : Hp} : ∀ {vs : List (List Key × V)} {ds : List (List Key × D)}, DqK K F vs ds → keysT vs = sSorted.keysT' ds := by
  intro vs ds h
  unfold DqK at h
  induction h with
  | nil => rfl
  | cons a t ih =>
    unfold keysT sSorted.keysT' at *
    rw [List.map_cons, List.map_cons, ih, a.1]
theorem dqk_keysK {K : PySem.W.Frag} {F : Hp} : ∀ {vs : List (Key × V)} {ds : List (Key × D)}, DqK K F vs ds → keysK vs = keysK ds := by
  intro vs ds h
  unfold DqK at h
  induction h with
  | nil => rfl
  | cons a t ih =>
    unfold keysK at *
    rw [List.map_cons, List.map_cons, ih, a.1]
theorem Rl.frzK {G F H : Hp} {ow : Addr → Option Path} {σ : L2.St} {L : LS} {ys : List V} {ds : List D} (r : c.Rl G F ow σ H L) (h : Paired (KeyAt H) ys ds) : c.Rl G (frzA F H (adrs ys)) ow σ H L ∧ DqA c.X.K (frzA F H (adrs ys)) ys ds := by
  have key : ∀ {ys : List V} {ds : List D}, Paired (KeyAt H) ys ds → ∀ a ∈ adrs ys, ∃ k : List Key, H a = some (.tup (k.map kV)) := by
    intro ys ds h
    induction h with
    | nil => intro a ha; cases ha
    | cons x t ih =>
      obtain ⟨b, k, rfl, h1, rfl⟩ := x
      intro a ha
      rcases List.mem_cons.mp ha with rfl | ha
      · exact ⟨k, h1⟩
      · exact ih a ha
  have hk := key h
  have fr : ∀ {a : Addr} {o : HO}, frzA F H (adrs ys) a = some o → F a = some o ∨ (F a = none ∧ kT o) := fun {a o} e => by
    unfold frzA at e
    cases z : F a with
    | some u => rw [z] at e; exact .inl e
    | none =>
      rw [z] at e
      have e : (if a ∈ adrs ys then H a else none) = some o := e
      split at e
      · rename_i hm
        obtain ⟨k, hk⟩ := hk a hm
        rw [hk] at e
        cases e
        exact .inr ⟨rfl, k, rfl⟩
      · cases e
  refine ⟨⟨frzA_in r.exF, r.exG, fun a p e => ?_, fun a o e => ?_, r.len, fun i s e => ?_, r.pin, r.exB, r.dB⟩, ?_⟩
  · obtain ⟨x, y, z⟩ := r.dF a p e
    refine ⟨?_, y, z⟩
    cases w : frzA F H (adrs ys) a with
    | none => rfl
    | some o =>
      rcases fr w with q | ⟨_, q⟩
      · rw [x] at q; cases q
      · exact absurd q (z.2 o (frzA_in r.exF a o w))
  · rcases fr e with q | ⟨_, q⟩
    · exact r.dG a o q
    · exact .inr q
  · obtain ⟨v, q1, q2⟩ := r.sl i s e
    exact ⟨v, q1, q2.go frzA_same fun a w h => ⟨rfl, h⟩⟩
  · have go : ∀ {zs : List V} {es : List D}, (∀ a ∈ adrs zs, a ∈ adrs ys) → Paired (KeyAt H) zs es → DqA c.X.K (frzA F H (adrs ys)) zs es := by
      intro zs es hs h
      induction h with
      | nil => exact .nil
      | cons x t ih =>
        obtain ⟨b, k, rfl, h1, rfl⟩ := x
        exact .cons (.tup (frzA_at r.exF (hs b List.mem_cons_self) h1) (kVs_kD k)) (ih fun a ha => hs a (List.mem_cons_of_mem _ ha))
    exact go (fun a h => h) h
theorem keys_dqa {K : PySem.W.Frag} {F : Hp} : ∀ {ys : List V} {ds : List D}, Paired (fun v d => ∃ k : Key, v = kV k ∧ d = kD k) ys ds → DqA K F ys ds := by
  intro ys ds h
  induction h with
  | nil => exact .nil
  | cons x t ih =>
    obtain ⟨k, rfl, rfl⟩ := x
    exact .cons (kV_kD k) ih
theorem je_sortedX (hc : c.X.calm = true) (hr : Room k c.X.A) (hg : Gl c.X "sorted") (hm : c.X.mg "sorted" = none) (ha : JX c n a ga) (hs : starEach [a] c.X.env = (false, eval a c.X.env) :: starEach [] c.X.env := by rfl) : JE c n (.Call (.Name "sorted" p) [a] [] pos) (gOnS sSorted ga) := by
  obtain ⟨ta, pa, qa⟩ := ha
  have two : CallR c.X (.builtin "sorted") (fun xs H Q => (∃ d kvs, xs = [V.ref d] ∧ Rd H d (.dT kvs) ∧ sortOk (keysT kvs) = true ∧ ∀ (ys : List V) (p : Addr), Paired (KeyAt H) ys (srtD (keysT kvs)) → H p = none → Q (.ref p) (upd H p (.lst ys))) ∨ (∃ (a : Addr) (kvs : List (Key × V)), xs = [V.ref a] ∧ Rd H a (.dK kvs) ∧ sortOk (keysK kvs) = true ∧ ∀ (ys : List V) (p : Addr), Paired (fun v d => ∃ k : Key, v = kV k ∧ d = kD k) ys (srtD (keysK kvs)) → H p = none → Q (.ref p) (upd H p (.lst ys)))) := by
    intro pins s σ H xs us Q I r h
    rcases h with h | h
    · exact cr_sortedDT hc (room65 hr) pins s σ H xs us Q I r h
    · exact cr_sortedDK hc (room65 hr) pins s σ H xs us Q I r h
  refine ⟨_, pe_callB two hg hm (by decide +kernel) (pa_cons pa pa_nil hs) (by decide) (by decide) hs rfl, fun G F ow σ H L Rr => ?_⟩
  have key := (qa G F ow σ H L Rr).bind (n2 := true) (B2 := BE c.ca c.X.K) (k := fun s L1 => ofO (sSorted s) L1) (t2 := fun v H1 (Q : VK) => (∃ d kvs, [v] = [V.ref d] ∧ Rd H1 d (.dT kvs) ∧ sortOk (keysT kvs) = true ∧ ∀ (ys : List V) (p : Addr), Paired (KeyAt H1) ys (srtD (keysT kvs)) → H1 p = none → Q (.ref p) (upd H1 p (.lst ys))) ∨ (∃ (a : Addr) (kvs : List (Key × V)), [v] = [V.ref a] ∧ Rd H1 a (.dK kvs) ∧ sortOk (keysK kvs) = true ∧ ∀ (ys : List V) (p : Addr), Paired (fun v d => ∃ k : Key, v = kV k ∧ d = kD k) ys (srtD (keysK kvs)) → H1 p = none → Q (.ref p) (upd H1 p (.lst ys)))) fun s L1 v H1 F1 ow1 _ _ _ R1 b1 => ?_
  · rw [Bool.and_true] at key
    exact key
  · obtain ⟨pp, rs⟩ := b1
    cases rs with
    | @odT _ l vs ds w1 w2 w3 =>
      show Post c G true F1 H1 σ (ofO (if sortOk (sSorted.keysT' ds) = true then some (S.ol (srtD (sSorted.keysT' ds))) else none) L1) _ _
      by_cases hk : sortOk (sSorted.keysT' ds) = true
      · rw [if_pos hk]
        show Post c G true F1 H1 σ (R.ok (S.ol (srtD (sSorted.keysT' ds))) L1) _ _
        intro Q q
        refine .inl ⟨l, vs, rfl, .inl w1, by rw [dqk_keysT w3]; exact hk, fun ys p k5 k6 => ?_⟩
        rw [dqk_keysT w3] at k5
        obtain ⟨r2, d2⟩ := Rl.frzK R1 k5
        obtain ⟨e, r'⟩ := r2.new (o := .lst ys) (p := [0]) k6
        exact q _ _ _ _ frzA_same (fun _ => e) r' (.ol upd_same (onAt_same ..) d2)
      · rw [if_neg hk]
        trivial
    | @odK _ l vs ds w1 w2 w3 =>
      show Post c G true F1 H1 σ (ofO (if sortOk (keysK ds) = true then some (S.ol (srtD (keysK ds))) else none) L1) _ _
      by_cases hk : sortOk (keysK ds) = true
      · rw [if_pos hk]
        show Post c G true F1 H1 σ (R.ok (S.ol (srtD (keysK ds))) L1) _ _
        intro Q q
        refine .inr ⟨l, vs, rfl, .inl w1, by rw [dqk_keysK w3]; exact hk, fun ys p k5 k6 => ?_⟩
        rw [dqk_keysK w3] at k5
        exact post_new R1 (keys_dqa k5) Q q p k6
      · rw [if_neg hk]
        trivial
    | _ => trivial
end
end VS

namespace VS
open PySem PySem.Spec PyProof.Rows L2
section
variable {c : Ct} {n : Bool} {a : Expr} {ga : LS → R D} {p pos : Pos}
end
end VS

namespace VS
open PySem PySem.Spec PyProof.Rows
section
variable {prog : Program} {w : World} {A : Around} {R : Result → Shared → Prop} {I : Addr} {fp wr : List Addr} {G : Array GenState → Array GenState → Prop} {n : Nat} {P : Nat → Value → Prop} {St : Nat → Shared → Prop}
end
end VS
namespace VS
open PySem PySem.Spec PyProof.Rows
section
variable {prog : Program} {w : World} {A : Around} {E : Value → Shared → Prop} {s : Shared}
end
end VS

namespace VS
open PySem PySem.Spec PyProof.Rows L2
end VS

namespace VS
open PySem PySem.Spec PyProof.Rows L2
def tFrz (t : TE) : TE := fun σ H Q => t σ H fun x H1 => ∃ d u, x = .ref d ∧ H1 d = some u ∧ Mut (some u) ∧ ∀ od, Q x (upd H1 d (.frz od u))
theorem pe_frz {X : Cx} {e : Expr} {t : TE} (h : PE X e t) : PE X e (tFrz t) := by
  refine ⟨fun pins s σ H Q I hq => ?_⟩
  refine thn (h.run pins s σ H _ I hq) fun v s1 ⟨x, H1, I1, rx, d, u, ex, hd, mu, q⟩ => ?_
  obtain ⟨od, I2⟩ := I1.lock hd mu
  exact ⟨x, _, I2, rx, q od⟩
section
variable {K : PySem.W.Frag} {ca : Nat → Addr} {bh : Hp} {pn : List (Option V)} {G F H : Hp} {ow : Addr → Option Path} {σ : L2.St} {L : LS}
theorem Rl.frzD {l : Addr} {u : HO} {p : Path} {od : Obj} (r : Rl K ca bh pn G F ow σ H L) (hl : H l = some u) (ho : ow l = some p) (hp : ∀ (j : Nat) (q : Path), p ≠ (j + 1) :: q) :
    Same F (upd F l (.frz od u)) ∧ Rl K ca bh pn G (upd F l (.frz od u)) (offAt ow l) σ (upd H l (.frz od u)) L := by
  obtain ⟨f0, g0, h0⟩ := r.dF l p ho
  have b0 := r.dB l p ho
  have e : Same F (upd F l (.frz od u)) := upd_same_of f0
  refine ⟨e, fun a o h => ?_, fun a o h => ?_, fun a q h => ?_, fun a o h => ?_, r.len, fun j s h => ?_, r.pin, fun a o h => ?_, fun a q h => ?_⟩
  · by_cases z : a = l
    · subst z
      rw [upd_same] at h ⊢
      exact h
    · rw [upd_ne z] at h ⊢
      exact r.exF a o h
  · have z : a ≠ l := ne_of_none h g0
    rw [upd_ne z]
    exact r.exG a o h
  · by_cases z : a = l
    · subst z
      rw [offAt_same] at h
      cases h
    · rw [offAt_ne z] at h
      obtain ⟨x, y, w⟩ := r.dF a q h
      exact ⟨by rw [upd_ne z]; exact x, y, by rw [upd_ne z]; exact w⟩
  · by_cases z : a = l
    · subst z
      exact .inl g0
    · rw [upd_ne z] at h
      exact r.dG a o h
  · obtain ⟨v, q1, q2⟩ := r.sl j s h
    refine ⟨v, q1, q2.go e fun a q ha => ?_⟩
    have z : a ≠ l := fun z => by
      subst z
      rw [ho] at ha
      exact hp j q (Option.some.inj ha)
    exact ⟨by rw [upd_ne z], by rw [offAt_ne z]; exact ha⟩
  · have z : a ≠ l := ne_of_none h b0
    rw [upd_ne z]
    exact r.exB a o h
  · by_cases z : a = l
    · subst z
      rw [offAt_same] at h
      cases h
    · rw [offAt_ne z] at h
      exact r.dB a q h
end
def itemsK (kvs : List (Key × D)) : List D := kvs.map fun p => .tuple [kD p.1, p.2]
def asItemsK : S → LS → R (List D)
  | .odK kvs, L => .ok (itemsK kvs) L
  | _, _ => .stuck
section
variable {c : Ct} {n : Bool} {a : Expr} {ge ga : LS → R S} {gb : LS → R D} {p pos cpos apos tpos : Pos} {k : Nat} {elts : List Expr} {kk : Nat}
theorem items_ok {K : PySem.W.Frag} {F : Hp} {l : Addr} {od : Obj} {vs : List (Key × V)} {ds : List (Key × D)} (hF : F l = some (.frz od (.dK vs))) (h : DqK K F vs ds) : ItOk K F (itemsK ds) (Iti l od vs) := by
  intro i H s
  have hd := s l _ hF
  have hlen := DqK.len h
  refine ⟨fun hi => ⟨hd, ?_⟩, fun d hdd => ?_⟩
  · unfold itemsK at hi
    rw [List.length_map] at hi
    omega
  · unfold itemsK at hdd
    rw [List.getElem?_map] at hdd
    obtain ⟨q, hq, rfl⟩ := Option.map_eq_some_iff.mp hdd
    have hi := (List.getElem?_eq_some_iff.mp hq).1
    refine ⟨⟨hd, by omega⟩, fun x H' ⟨T, ky, v, e1, e2, e3, e4⟩ => .inr ⟨T, _, _, rfl, e2, e3, e4, ?_⟩⟩
    have hv : ∃ pv, vs[i]? = some pv ∧ (pv.1 = q.1 ∧ Dq K F pv.2 q.2) := by
      have go : ∀ {vs : List (Key × V)} {ds : List (Key × D)} {i : Nat} {q : Key × D}, DqK K F vs ds → ds[i]? = some q → ∃ pv, vs[i]? = some pv ∧ (pv.1 = q.1 ∧ Dq K F pv.2 q.2) := by
        intro vs ds
        induction vs generalizing ds with
        | nil => intro i q h hq; cases h; cases hq
        | cons a vs ih =>
          intro i q h hq
          cases h with
          | cons r t =>
            cases i with
            | zero => cases hq; exact ⟨_, rfl, r⟩
            | succ i => exact ih t hq
      exact go h hq
    obtain ⟨pv, h1, h2, h3⟩ := hv
    rw [h1] at e1
    cases e1
    have h2 : ky = q.1 := h2
    rw [h2]
    exact .cons (kV_kD _) (.cons h3 .nil)
theorem ji_items (h : JE c n a ge) (hbase : attributeBase a "items" c.X.env (eval a c.X.env) = eval a c.X.env := by rfl) (hline : (apos.endLine == cpos.line) = true := by rfl) :
    JI c false (.Tuple elts kk tpos) (.Call (.Attribute a "items" apos) [] [] cpos) (fun L => (ge L).bind asItemsK) := by
  obtain ⟨t, pa, qa⟩ := h
  refine ⟨_, pi_items (pe_frz pa) hbase hline, fun G F ow σ H L Rr => ?_⟩
  have key := (qa G F ow σ H L Rr).bind (n2 := false) (B2 := BI c.X.K) (k := asItemsK) (t2 := fun v H1 (Q : It → Hp → Prop) => ∃ d u, v = V.ref d ∧ H1 d = some u ∧ Mut (some u) ∧ ∀ od, ∃ d' o kvs, v = V.ref d' ∧ upd H1 d (.frz od u) d' = some (.frz o (.dK kvs)) ∧ Q (Iti d' o kvs) (upd H1 d (.frz od u))) fun s L1 v H1 F1 ow1 _ _ _ R1 b1 => ?_
  · rw [Bool.and_false] at key
    exact key
  · cases b1 with
    | @odK _ l vs ds w1 w2 w3 =>
      show Post c G false F1 H1 σ (R.ok (itemsK ds) L1) _ _
      intro Q q
      refine ⟨l, _, rfl, w1, trivial, fun od => ⟨l, od, vs, rfl, upd_same, ?_⟩⟩
      obtain ⟨e, r'⟩ := R1.frzD (od := od) w1 w2 (fun j q z => by cases z)
      exact q _ _ _ _ e (fun z => by cases z) r' (items_ok upd_same (w3.up e))
    | _ => trivial
def sCopy : S → Option S
  | .odK kvs => some (.odK kvs)
  | _ => none
theorem je_callX {T : String} {x : Str} {r : List V → Hp → VK → Prop} {f : S → Option S} (hc : CallR c.X (.type T) r) (hg : Gl c.X x) (hm : c.X.mg x = none) (hv : bootBuiltins x = some (.type T)) (ha : JX c n a ga)
    (lf : ∀ {G F H : Hp} {ow : Addr → Option Path} {σ : L2.St} {L : LS} {s : S} {v : V}, c.Rl G F ow σ H L → BX c.ca c.X.K F H ow s v → Post c G true F H σ (ofO (f s) L) (BE c.ca c.X.K) (r [v] H))
    (hn : x ≠ "__name__" := by decide) (hdb : (x == ("__debug__" : Str)) = false := by decide) (hs : starEach [a] c.X.env = (false, eval a c.X.env) :: starEach [] c.X.env := by rfl) (hpl : (backTo pos (starEach [] c.X.env)).any (·.1) = false := by rfl) :
    JE c n (.Call (.Name x p) [a] [] pos) (gOnS f ga) := by
  obtain ⟨ta, pa, qa⟩ := ha
  refine ⟨_, pe_callTy hc hg hm hv (pa_cons pa pa_nil hs) hn hdb hs hpl, fun G F ow σ H L Rr => ?_⟩
  have key := (qa G F ow σ H L Rr).bind (n2 := true) (B2 := BE c.ca c.X.K) (k := fun s L1 => ofO (f s) L1) (t2 := fun v H1 Q => r [v] H1 Q) fun s L1 v H1 F1 ow1 _ _ _ R1 b1 => lf R1 b1
  rw [Bool.and_true] at key
  exact key
theorem post_newK {G F H : Hp} {ow : Addr → Option Path} {σ : L2.St} {L : LS} {vs : List (Key × V)} {ds : List (Key × D)} (Rr : c.Rl G F ow σ H L) (h : DqK c.X.K F vs ds) :
    Post c G true F H σ (.ok (.odK ds) L) (BE c.ca c.X.K) (fun Q => ∀ l, H l = none → Q (.ref l) (upd H l (.dK vs))) := by
  intro Q q l hl
  obtain ⟨e, r'⟩ := Rr.new (o := .dK vs) (p := [0]) hl
  exact q _ _ F _ (Same.refl F) (fun _ => e) r' (.odK upd_same (onAt_same ..) h)
theorem je_dcopy (hg : Gl c.X "dict") (hm : c.X.mg "dict" = none) (ha : JX c n a ga) (hs : starEach [a] c.X.env = (false, eval a c.X.env) :: starEach [] c.X.env := by rfl) : JE c n (.Call (.Name "dict" p) [a] [] pos) (gOnS sCopy ga) := by
  refine je_callX call_dictD hg hm (by decide +kernel) ha (fun {G F H ow σ L s v} Rr hb => ?_) (by decide) (by decide) hs rfl
  obtain ⟨pp, rs⟩ := hb
  cases rs with
  | @odK _ l vs ds w1 w2 w3 =>
    show Post c G true F H σ (R.ok (S.odK ds) L) _ _
    exact (post_newK Rr w3).imp fun Q q => ⟨l, vs, rfl, .inl w1, q⟩
  | _ => trivial
end
end VS

namespace VS
open PySem PySem.Spec PyProof.Rows L2
section
variable {K : PySem.W.Frag} {ca : Nat → Addr} {bh : Hp} {pn : List (Option V)} {G F H : Hp} {ow : Addr → Option Path} {σ : L2.St} {L : LS} {l : Addr} {o : HO}
theorem Rl.newG (r : Rl K ca bh pn G F ow σ H L) {l : Addr} {o : HO} (hl : H l = none) : Same H (upd H l o) ∧ Rl K ca bh pn (upd G l o) F ow σ (upd H l o) L := by
  have e : Same H (upd H l o) := upd_same_of hl
  have fN : F l = none := r.exF.free hl
  have hne : ∀ a p, ow a = some p → a ≠ l := fun a p h => ne_fresh (r.dF a p h).2.2.1 hl
  refine ⟨e, r.exF.trans e, fun a u h => ?_, fun a q h => ?_, fun a u h => ?_, r.len, fun i s h => ?_, r.pin, r.exB.trans e, r.dB⟩
  · by_cases z : a = l
    · subst z
      rw [upd_same] at h ⊢
      exact h
    · rw [upd_ne z] at h ⊢
      exact r.exG a u h
  · have z := hne a q h
    obtain ⟨x, y, w⟩ := r.dF a q h
    exact ⟨x, by rw [upd_ne z]; exact y, by rw [upd_ne z]; exact w⟩
  · have z : a ≠ l := ne_of_none h fN
    rw [upd_ne z]
    exact r.dG a u h
  · obtain ⟨v, q1, q2⟩ := r.sl i s h
    exact ⟨v, q1, q2.go (Same.refl F) fun a w h => ⟨upd_ne (hne a _ h), h⟩⟩
theorem Rl.weakG (r : Rl K ca bh pn (upd G l o) F ow σ H L) (hG : G l = none) : Rl K ca bh pn G F ow σ H L := by
  have hs : ∀ a, upd G l o a = none → G a = none := fun a h => by
    by_cases z : a = l
    · subst z
      exact hG
    · rw [upd_ne z] at h
      exact h
  refine ⟨r.exF, fun a u h => ?_, fun a q h => ?_, fun a u h => ?_, r.len, r.sl, r.pin, r.exB, r.dB⟩
  · exact r.exG a u (by rw [upd_ne (ne_of_none h hG)]; exact h)
  · obtain ⟨x, y, w⟩ := r.dF a q h
    exact ⟨x, hs a y, w⟩
  · rcases r.dG a u h with q | q
    · exact .inl (hs a q)
    · exact .inr q
theorem Rl.ownG {p : Path} {u : HO} (r : Rl K ca bh pn (upd G l o) F ow σ H L) (hG : G l = none) (hB : bh l = none) (ho : ¬ kT o) (hu : ¬ kT u) : Rl K ca bh pn G F (onAt ow l p) σ (upd H l u) L := by
  have hH : H l = some o := r.exG l o upd_same
  have fN : F l = none := by
    cases z : F l with
    | none => rfl
    | some w =>
      have h1 := r.exF l w z
      rw [hH] at h1
      cases h1
      rcases r.dG l _ z with q | q
      · rw [upd_same] at q; cases q
      · exact absurd q ho
  have hne : ∀ a q, ow a = some q → a ≠ l := fun a q h z => by
    subst z
    have := (r.dF a q h).2.1
    rw [upd_same] at this
    cases this
  refine ⟨fun a w h => ?_, fun a w h => ?_, fun a q h => ?_, fun a w h => ?_, r.len, fun i s h => ?_, r.pin, fun a w h => ?_, fun a q h => ?_⟩
  · rw [upd_ne (ne_of_none h fN)]
    exact r.exF a w h
  · have z := ne_of_none h hG
    rw [upd_ne z]
    exact r.exG a w (by rw [upd_ne z]; exact h)
  · by_cases z : a = l
    · subst z
      exact ⟨fN, hG, by rw [upd_same]; exact .of hu⟩
    · rw [onAt_ne z] at h
      obtain ⟨x, y, w⟩ := r.dF a q h
      exact ⟨x, by rw [upd_ne z] at y; exact y, by rw [upd_ne z]; exact w⟩
  · have z := ne_of_none h fN
    rcases r.dG a w h with q | q
    · rw [upd_ne z] at q
      exact .inl q
    · exact .inr q
  · obtain ⟨v, q1, q2⟩ := r.sl i s h
    refine ⟨v, q1, q2.go (Same.refl F) fun a w h => ?_⟩
    have z := hne a _ h
    exact ⟨upd_ne z, by rw [onAt_ne z]; exact h⟩
  · have z := ne_of_none h hB
    rw [upd_ne z]
    exact r.exB a w h
  · by_cases z : a = l
    · subst z
      exact hB
    · rw [onAt_ne z] at h
      exact r.dB a q h
end
def dlit1 (d e : D) (L : LS) : R S := match keyD d with
  | some k => .ok (.odK [(k, e)]) L
  | none => .stuck
def gDlit (gk gv : LS → R D) : LS → R S := fun L => (gk L).bind fun d L1 => (gv L1).bind fun e L2 => dlit1 d e L2
section
variable {c : Ct} {n n2 : Bool} {a b : Expr} {ga gb : LS → R D} {pos : Pos}
theorem je_dlit (ha : JD c n a ga) (hb : JD c n2 b gb) : JE c false (.Dict [some a] [b] pos) (gDlit ga gb) := by
  obtain ⟨ta, pa, qa⟩ := ha
  obtain ⟨tb, pb, qb⟩ := hb
  refine ⟨_, pe_disp (pps_cons pa pb pps_nil) rfl rfl (by simp) (by simp), fun G F ow σ H L Rr => ?_⟩
  have main : ∀ p, H p = none → G p = none → c.B p = none → Post c G false F H σ (gDlit ga gb L) (BE c.ca c.X.K) (fun Q => tPairs [(ta, tb)] σ (upd H p (.dK [])) fun ps H2 => H2 p = some (.dK []) ∧ ∃ kvs : List (Key × V), ps = kvs.map (fun kv => (kV kv.1, kv.2)) ∧ kvs.length ≤ 15 ∧ Q (.ref p) (upd H2 p (.dK (mergeK [] kvs)))) := by
    intro p hp hG hB
    obtain ⟨_, R0⟩ := Rr.newG (o := .dK []) hp
    have h1 := qa _ F ow σ _ L R0
    unfold gDlit
    cases hr : ga L with
    | stuck => trivial
    | err e L1 =>
      rw [hr] at h1
      exact fun hw Q => h1 (fun H' F' ow' e1 R1 => hw H' F' ow' e1 (R1.weakG hG)) _
    | ok d L1 =>
      rw [hr] at h1
      show Post c G false F H σ ((gb L1).bind fun e L2 => dlit1 d e L2) _ _
      cases hr2 : gb L1 with
      | stuck => trivial
      | err e L2 =>
        intro hw Q
        refine h1 _ fun x H1 F1 ow1 e1 _ R1 b1 => ?_
        have h2 := qb _ F1 ow1 σ H1 L1 R1
        rw [hr2] at h2
        exact h2 (fun H' F' ow' e2 R2 => hw H' F' ow' (e1.trans e2) (R2.weakG hG)) _
      | ok e L2 =>
        show Post c G false F H σ (dlit1 d e L2) _ _
        unfold dlit1
        cases hk : keyD d with
        | none => trivial
        | some k =>
          intro Q q
          refine h1 _ fun x H1 F1 ow1 e1 _ R1 b1 => ?_
          have h2 := qb _ F1 ow1 σ H1 L1 R1
          rw [hr2] at h2
          refine h2 _ fun y H2 F2 ow2 e2 _ R2 b2 => ?_
          refine ⟨R2.exG p _ upd_same, [(k, y)], ?_, by simp, ?_⟩
          · rw [keyD_of b1 hk]
            rfl
          · have R3 := R2.ownG (p := [0]) (u := .dK [(k, y)]) hG hB kT_dK kT_dK
            exact q _ _ F2 _ (e1.trans e2) (fun z => by cases z) R3 (.odK upd_same (onAt_same ..) (.cons ⟨rfl, b2⟩ .nil))
  cases hr : gDlit ga gb L with
  | stuck => trivial
  | err e L1 =>
    intro hw Q p hp
    have h := main p hp (Rr.exG.free hp) (Rr.exB.free hp)
    rw [hr] at h
    exact h hw Q
  | ok s L1 =>
    intro Q q p hp
    have h := main p hp (Rr.exG.free hp) (Rr.exB.free hp)
    rw [hr] at h
    exact h Q q
end
end VS

namespace VS
open PySem PySem.Spec PyProof.Rows L2
end VS

namespace VS
open PySem PySem.Spec PyProof.Rows L2
def rCntD (K : PySem.W.Frag) : V → List V → Hp → VK → Prop := fun x xs H Q => ∃ (a : Addr) (y : V) (d : PyData) (ds : List PyData), x = V.ref a ∧ xs = [y] ∧ Dp K H (V.ref a) (.list ds) ∧ Dp K H y d ∧
  SeqAt.shaped (.list ds) = true ∧ SeqAt.shaped d = true ∧ Q (.int ((ds.countP fun z => PyData.eqv z d : Nat) : Int)) H
theorem mt_countD {X : Cx} (hu : X.A.units + 65 < cLine) : MtR X "list.count" (rCntD X.K) := by
  intro pins s σ H x xs v us Q I rx rxs h
  obtain ⟨a, y, d, ds, rfl, rfl, hl, hy, sl, sd, q⟩ := h
  cases rx
  cases rxs with
  | cons ry rt =>
    rename_i uy ut
    cases rt
    obtain ⟨bs, r1⟩ := Dp.reads I d y uy hy ry
    have hxs : PyData.canLayAll0 ds = true := SeqAt.canLay_of_shaped sl
    have hroom : X.A.units + 1 + min (PyData.depthAll ds) d.depth < cLine := room_in_shaped sd hu
    cases hl with
    | lst hs ha =>
      obtain ⟨its, rv, ⟨⟨cls, dd, data, sls⟩, n, ho, hc, hdn, hdt⟩, hlen⟩ := I.list hs
      simp only at hc hdt
      subst hc hdt
      obtain ⟨as, h4⟩ := Dp.readsAll I ds _ its ha rv
      have hmap : its.map (SeqAt.readOf s.heap) = ds := SeqAt.readsAll_map ds its as hxs h4
      have hcnt : its.toArray.toList.countP (fun u => PyData.eqv (SeqAt.readOf s.heap u) d) = ds.countP fun z => PyData.eqv z d := by
        rw [← hmap, List.countP_map]
        rfl
      refine call_meets PySem.F.slot_list_count ⟨_, ho, rfl⟩ PySem.F.entry_list_count (PySem.F.args_list_count_2 _ _)
        (SeqAt.list_countAt a its.toArray n dd sls uy (fun u => PyData.eqv (SeqAt.readOf s.heap u) d)) ⟨ho, SeqAt.items_eqAt (vs := its.toArray) (show ReadsAll s.heap its.toArray.toList ds as from h4) r1 hxs (SeqAt.canLay_of_shaped sd) hroom, ?_⟩
      rw [hcnt]
      exact ⟨.int _, H, I.tok _, ⟨_, rfl⟩, q⟩
def dCountD : D → D → Option D
  | .list ds, d => if SeqAt.shaped (.list ds) = true ∧ SeqAt.shaped d = true then some (.int ((ds.countP fun z => PyData.eqv z d : Nat) : Int)) else none
  | _, _ => none
def cntDL (gb : LS → R D) : D → LS → R D
  | .list ds, L1 => (gb L1).bind fun e L2 => ofO (dCountD (.list ds) e) L2
  | _, _ => .stuck
def gCountD (ga gb : LS → R D) : LS → R D := fun L => (ga L).bind (cntDL gb)
section
variable {c : Ct} {n n1 n2 : Bool} {a b e : Expr} {es : List Expr} {ga gb : LS → R D} {gs : LS → R (List D)} {pos p p2 apos : Pos} {k : Nat}
theorem jd_countD {kk : Nat} (hr : Room kk c.X.A) (ha : JV c n1 a ga) (hb : JD c true b gb)
    (hbase : attributeBase a "count" c.X.env (eval a c.X.env) = eval a c.X.env := by rfl)
    (hfew : ((backTo pos (starEach [b] c.X.env)).all (fun x => !x.1) && (backToKw pos (keywordEach [] c.X.env)).all (fun x => x.1.isSome) && decide ([b].length + ([] : List Keyword).length + (if ([] : List Keyword).isEmpty then 0 else 1) < 30)) = true := by rfl)
    (hline : (apos.endLine == pos.line) = true := by rfl) (hs : starEach [b] c.X.env = (false, eval b c.X.env) :: starEach [] c.X.env := by rfl) (hplain : (backTo pos (starEach [] c.X.env)).any (·.1) = false := by rfl) :
    JD c n1 (.Call (.Attribute a "count" apos) [b] [] pos) (gCountD ga gb) := by
  obtain ⟨ta, p1, q1⟩ := ha
  obtain ⟨tb, p2, q2⟩ := hb
  refine ⟨_, pe_bm PySem.F.plainAttrs_list PySem.F.slot_list_count PySem.F.type_list_count (mt_countD (room65 hr)) p1 (pa_cons p2 pa_nil hs) hbase hfew hline hs hplain, fun G F ow σ H L Rr => ?_⟩
  refine (q1 G F ow σ H L Rr).bind1 (t2 := fun v H1 Q => tyV c.X.K "list" v H1 ∧ tb σ H1 fun y H2 => rCntD c.X.K v [y] H2 Q) fun d L1 v H1 F1 ow1 _ _ _ R1 b1 => ?_
  cases d with
  | list ds =>
    obtain ⟨l, vs, rfl, h1, h2⟩ := bv_list R1 b1
    have key := (q2 G F1 ow1 σ H1 L1 R1).bind1 (k := fun e L2 => ofO (dCountD (.list ds) e) L2) (B2 := BD c.X.K) (t2 := fun y H2 Q => rCntD c.X.K (.ref l) [y] H2 Q) fun e L2 u H2 F2 ow2 _ e2 s2 R2 b2 => by
      show Post c G true F2 H2 σ (ofO (if SeqAt.shaped (.list ds) = true ∧ SeqAt.shaped e = true then some (PyData.int ((ds.countP fun z => PyData.eqv z e : Nat) : Int)) else none) L2) _ _
      by_cases hk : SeqAt.shaped (.list ds) = true ∧ SeqAt.shaped e = true
      · rw [if_pos hk]
        have h3 : Dp c.X.K H2 (V.ref l) (.list ds) := .lst (sql_same (s2 rfl) h1) (DqA.dp _ _ ((h2.up e2).up R2.exF))
        exact (Post.val (a := PyData.int ((ds.countP fun z => PyData.eqv z e : Nat) : Int)) (b := V.int ((ds.countP fun z => PyData.eqv z e : Nat) : Int)) (B := BD c.X.K) R2 (.int _)).imp fun Q q => ⟨l, u, e, ds, rfl, rfl, h3, Dq.dp _ _ (b2.up R2.exF), hk.1, hk.2, q⟩
      · rw [if_neg hk]
        trivial
    have key2 : Post c G true F1 H1 σ ((gb L1).bind fun e L2 => ofO (dCountD (.list ds) e) L2) (BD c.X.K) (fun Q => tyV c.X.K "list" (V.ref l) H1 ∧ tb σ H1 fun y H2 => rCntD c.X.K (.ref l) [y] H2 Q) := key.imp fun Q q => ⟨.inl ⟨rfl, _, h1⟩, q⟩
    exact key2
  | _ => trivial
def intsR2 (lo : Int) (m : Nat) : List D := (intsD lo m).reverse
def rvr2 : List D → LS → R (List D)
  | [.int i, .int j], L => if -(2 ^ 62) ≤ i ∧ i < 2 ^ 62 ∧ -(2 ^ 62) ≤ j ∧ j < 2 ^ 62 then .ok (intsR2 i (j - i).toNat) L else .stuck
  | _, _ => .stuck
theorem intsR2_len (lo : Int) (m : Nat) : (intsR2 lo m).length = m := by
  unfold intsR2
  rw [List.length_reverse, intsD_len]
theorem itc_ok2 {K : PySem.W.Frag} {F : Hp} {lo : Int} {m : Nat} : ItOk K F (intsR2 lo m) (Itc (lo + ((m : Nat) : Int) - 1) (-1) m) := fun i H s => by
  rw [intsR2_len]
  refine ⟨fun h => h, fun d hd => ?_⟩
  have hi : i < m := by
    have := (List.getElem?_eq_some_iff.mp hd).1
    rw [intsR2_len] at this
    exact this
  unfold intsR2 at hd
  rw [List.getElem?_reverse (by rw [intsD_len]; exact hi), intsD_len] at hd
  unfold intsD at hd
  rw [List.getElem?_map, List.getElem?_range (by omega)] at hd
  cases hd
  refine ⟨hi, fun x H' ⟨e1, e2⟩ => .inl ⟨e1, ?_⟩⟩
  rw [e2]
  have : (lo + ((m : Nat) : Int) - 1 + (i : Nat) * (-1)) = lo + ((m - 1 - i : Nat) : Int) := by omega
  rw [this]
  exact .int _
theorem ji_revrange2 {tg : Expr} {p p2 pos2 : Pos} {n1 n2 : Bool} (hg : Gl c.X "reversed") (hm : c.X.mg "reversed" = none) (hg2 : Gl c.X "range") (hm2 : c.X.mg "range" = none) (h : JD c n1 a ga) (h2 : JD c n2 b gb)
    (hs : starEach [.Call (.Name "range" p2) [a, b] [] pos2] c.X.env = (false, eval (.Call (.Name "range" p2) [a, b] [] pos2) c.X.env) :: starEach [] c.X.env := by rfl) (hs2 : starEach [a, b] c.X.env = (false, eval a c.X.env) :: starEach [b] c.X.env := by rfl) (hpp : (backTo pos2 (starEach [b] c.X.env)).any (·.1) = false := by rfl) (hs3 : starEach [b] c.X.env = (false, eval b c.X.env) :: starEach [] c.X.env := by rfl) :
    JI c (n1 && n2) tg (.Call (.Name "reversed" p) [.Call (.Name "range" p2) [a, b] [] pos2] [] pos) (fun L => (gCons ga (gCons gb gNil) L).bind rvr2) := by
  obtain ⟨t, pa, q⟩ := h
  obtain ⟨t2, pb, q2⟩ := h2
  refine ⟨_, pi_revR hg hm (prg_2 hg2 hm2 pa pb hs2 hs3 hpp) hs, fun G F ow σ H L Rr => ?_⟩
  have key := (q G F ow σ H L Rr).bind (n2 := n2) (B2 := BI c.X.K) (k := fun d L1 => (gb L1).bind fun e L2 => rvr2 [d, e] L2) (t2 := fun v H1 (Q : It → Hp → Prop) => t2 σ H1 fun w H2 => ∃ i j : Int, v = V.int i ∧ w = V.int j ∧ (-(2 ^ 62) ≤ i ∧ i < 2 ^ 62 ∧ -(2 ^ 62) ≤ j ∧ j < 2 ^ 62 ∧ Q (Itc (i + (((j - i).toNat : Nat) : Int) - 1) (-1) (j - i).toNat) H2)) fun d L1 v H1 F1 ow1 _ _ _ R1 b1 => ?_
  · have e : (fun L => (gCons ga (gCons gb gNil) L).bind rvr2) L = (ga L).bind fun d L1 => (gb L1).bind fun e L2 => rvr2 [d, e] L2 := by
      show ((ga L).bind fun d L1 => ((gb L1).bind fun e L2 => (R.ok [] L2 : R (List D)).bind fun ds L3 => .ok (e :: ds) L3).bind fun ds L2 => .ok (d :: ds) L2).bind rvr2 = _
      cases ga L with
      | ok d L1 =>
        show (((gb L1).bind fun e L2 => (R.ok [] L2 : R (List D)).bind fun ds L3 => .ok (e :: ds) L3).bind fun ds L2 => .ok (d :: ds) L2).bind rvr2 = (gb L1).bind fun e L2 => rvr2 [d, e] L2
        cases gb L1 <;> rfl
      | _ => rfl
    rw [e]
    exact key
  · have key2 := (q2 G F1 ow1 σ H1 L1 R1).bind (n2 := true) (B2 := BI c.X.K) (k := fun e L2 => rvr2 [d, e] L2) (t2 := fun w H2 (Q : It → Hp → Prop) => ∃ i j : Int, v = V.int i ∧ w = V.int j ∧ (-(2 ^ 62) ≤ i ∧ i < 2 ^ 62 ∧ -(2 ^ 62) ≤ j ∧ j < 2 ^ 62 ∧ Q (Itc (i + (((j - i).toNat : Nat) : Int) - 1) (-1) (j - i).toNat) H2)) fun e L2 w H2 F2 ow2 _ e2 s2 R2 b2 => ?_
    · rw [Bool.and_true] at key2
      exact key2
    · cases b1 with
      | int i =>
        cases b2 with
        | int j => exact Post.guard fun hj => (Post.val (a := intsR2 i (j - i).toNat) (b := Itc (i + (((j - i).toNat : Nat) : Int) - 1) (-1) (j - i).toNat) (B := BI c.X.K) R2 itc_ok2).imp fun Q q => ⟨i, j, rfl, rfl, hj.1, hj.2.1, hj.2.2.1, hj.2.2.2, q⟩
        | _ => trivial
      | _ => trivial
end
end VS

namespace Lw
open PySem PySem.Spec PyProof.Rows L2 VS
def g_law_src : LS → R O := (gRet (gLst (gCons (gFz (gUn dList (gFz (gSl (gPeek 0) gNo (gSo (gC (.int 63))))))) (gCons (gC (.int 0)) (gCons (gC (.int 0)) (gCons (gC (.int 1)) (gCons (gC (.int 0)) gNil)))))))
def m_law_src : LS → R S := runDef [true] 1 g_law_src
def g_law_next : LS → R O := (gSeq (gSetIx 0 (gC (.int 4)) (gFz (gOp dAdd (gIxP 0 (gC (.int 4))) (gC (.int 1)))))
    (gSeq (gIf (gB (gOp dLe (gIxP 0 (gC (.int 2))) (gC (.int 1)))) (gSeq (gAsg 2 (gD (gC (.int 7))))
    (gSeq (gIf (gB (gOp dLt (gIxP 0 (gC (.int 1))) (gUn dLen (gIxP 0 (gC (.int 0)))))) (gSeq (gAsg 2 (gD (gOp dIx (gIxP 0 (gC (.int 0))) (gIxP 0 (gC (.int 1))))))
    (gSetIx 0 (gC (.int 1)) (gFz (gOp dAdd (gIxP 0 (gC (.int 1))) (gC (.int 1)))))) gNext)
    (gSeq (gSetIx 0 (gC (.int 3)) (gOp dMod (gFz (gOp dAdd (gFz (gOp dAdd (gFz (gOp dMul (gIxP 0 (gC (.int 3))) (gC (.int 48271)))) (gOp dMod (gVar 2) (gC (.int 998244353))))) (gIxP 0 (gC (.int 4))))) (gC (.int 2147483647))))
    (gIf (gB (gOp dGe (gPeek 2) (gOp dPow (gC (.int 10)) (gC (.int 18))))) (gSetIx 0 (gC (.int 2)) (gVar 2)) gNext)))) gNext)
    (gSeq (gIf (gB (gOp dGt (gIxP 0 (gC (.int 2))) (gC (.int 1)))) (gSeq (gAsg 3 (gD (gOp dMod (gIxP 0 (gC (.int 2))) (gVar 1))))
    (gSeq (gSetIx 0 (gC (.int 2)) (gOp dDiv (gIxP 0 (gC (.int 2))) (gVar 1)))
    (gRet (gMove 3)))) gNext)
    (gRet (gD (gOp dMod (gOp dDiv (gOp dMod (gFz (gOp dMul (gIxP 0 (gC (.int 3))) (gC (.int 40692)))) (gC (.int 2147483399))) (gC (.int 3))) (gVar 1)))))))
def m_law_next : LS → R S := runDef [true, false] 4 g_law_next
def g_law_unlike : LS → R O := (gSeq (gAsg 2 (gD (gC (.str "abcdefghijklmnopqrstuvwxyz"))))
    (gSeq (gAsg 3 (gSl (gPeek 1) gNo (gSo (gC (.int 10)))))
    (gSeq (gFor (fun L => ((gCons (gFz (gOp dAdd (gUn dLen (gPeek 0)) (gC (.int 1)))) gNil) L).bind rng1) (fName 4) (gSeq (gIf (gB (gOp dNotIn (gPeek 1) (gPeek 0))) (gRet (gMove 1)) gNext)
    (gAsg 1 (gOp dAdd (gFz (gOp dAdd (gVar 3) (gIxP 2 (gOp dMod (gVar 4) (gC (.int 26)))))) (gIxP 2 (gOp dDiv (gVar 4) (gC (.int 26))))))))
    (gRet (gMove 1)))))
def m_law_unlike : LS → R S := runDef [true, false] 5 g_law_unlike
def g_law_word : LS → R O := (gSeq (gAsg 2 (gD (gC (.str "abcdefghijklmnopqrstuvwxyz"))))
    (gRet (gD (gJoin (gC (.str "")) (gFz (gLc [3] (fun L => ((gCons (gVar 1) gNil) L).bind rng1) (fName 3) gYes (gIxP 2 (gFz (gCall Lw.m_law_next [.r 0, .d (gC (.int 26))])))))))))
def m_law_word : LS → R S := runDef [true, false] 4 g_law_word
def g_law_names : LS → R O := (gSeq (gAsg 2 (gCall Lw.m_law_next [.r 0, .d (gC (.int 3))]))
    (gSeq (gAsg 3 (gCall Lw.m_law_word [.r 0, .d (gFz (gOp dAdd (gC (.int 1)) (gFz (gCall Lw.m_law_next [.r 0, .d (gC (.int 11))]))))]))
    (gSeq (gAsg 4 (gCall Lw.m_law_next [.r 0, .d (gUn dLen (gPeek 3))]))
    (gSeq (gAsg 5 (gLst gNil))
    (gSeq (gFor (fun L => ((gCons (gVar 1) gNil) L).bind rng1) (fName 6) (gSeq (gAsg 7 (gOp dAdd (gFz (gOp dAdd (gFz (gSl (gPeek 3) gNo (gSo (gVar 4)))) (gFz (gCall Lw.m_law_word [.r 0, .d (gC (.int 1))])))) (gFz (gSl (gPeek 3) (gSo (gFz (gOp dAdd (gVar 4) (gC (.int 1))))) gNo))))
    (gSeq (gIf (gB (gOp dEq (gPeek 2) (gC (.int 1)))) (gAsg 7 (gSl (gVar 3) gNo (gSo (gFz (gOp dAdd (gC (.int 1)) (gFz (gCall Lw.m_law_next [.r 0, .d (gUn dLen (gPeek 3))]))))))) gNext)
    (gSeq (gIf (gB (gOp dEq (gPeek 2) (gC (.int 2)))) (gAsg 7 (gCall Lw.m_law_word [.r 0, .d (gFz (gOp dAdd (gC (.int 1)) (gFz (gCall Lw.m_law_next [.r 0, .d (gC (.int 12))]))))])) gNext)
    (gDrop (gApp 5 (gFz (gCall Lw.m_law_unlike [.r 5, .d (gVar 7)]))))))))
    (gRet (gMove 5)))))))
def m_law_names : LS → R S := runDef [true, false] 8 g_law_names
end Lw

namespace Lw
open PySem VS
def srcS (cells : List Int) (p b st k : Int) : S := .ol [.list (cells.map PyData.int), .int p, .int b, .int st, .int k]
def Src (s : S) : Prop := ∃ (cells : List Int) (p b st k : Int), s = srcS cells p b st k ∧ cells.length ≤ 63 ∧ 0 ≤ p ∧ p ≤ cells.length ∧ 0 ≤ b ∧ 0 ≤ st ∧ st < 2147483647
theorem dIx_cells (cells : List Int) (j : Nat) (h : j < cells.length) : dIx (.list (cells.map PyData.int)) (.int (j : Int)) = some (.int cells[j]) := by
  rw [dIx_nat, List.getElem?_map, List.getElem?_eq_getElem h]
  rfl
theorem pow18 : dPow (.int 10) (.int 18) = some (.int 1000000000000000000) := by
  rw [dPow_ok ⟨by decide, by decide, by decide⟩]
  rfl
theorem next_tail (cells : List Int) (p b st k n : Int) (o : Option S) (h0 : 0 < n) (h1 : n < 1073741824) (hl : cells.length ≤ 63) (hp0 : 0 ≤ p) (hp1 : p ≤ cells.length) (hb : 0 ≤ b) (hs0 : 0 ≤ st) (hs1 : st < 2147483647) :
    ∃ r s' o2 L, gSeq (gIf (gB (gOp dGt (gIxP 0 (gC (.int 2))) (gC (.int 1)))) (gSeq (gAsg 3 (gD (gOp dMod (gIxP 0 (gC (.int 2))) (gVar 1))))
    (gSeq (gSetIx 0 (gC (.int 2)) (gOp dDiv (gIxP 0 (gC (.int 2))) (gVar 1))) (gRet (gMove 3)))) gNext)
    (gRet (gD (gOp dMod (gOp dDiv (gOp dMod (gFz (gOp dMul (gIxP 0 (gC (.int 3))) (gC (.int 40692)))) (gC (.int 2147483399))) (gC (.int 3))) (gVar 1)))) [some (srcS cells p b st k), some (.d (.int n)), o, none] = .ok (.rt (.d (.int r))) (some s' :: o2 :: L) ∧ 0 ≤ r ∧ r < n ∧ Src s' := by
  by_cases c : 1 < b
  · refine ⟨b % n, srcS cells p (b / n) st k, some (.d (.int n)), [o, some (.d (.int (b % n)))], ?_, Int.emod_nonneg _ (by omega), Int.emod_lt_of_pos _ h0, cells, p, b / n, st, k, rfl, hl, hp0, hp1, Int.ediv_nonneg hb (by omega), hs0, hs1⟩
    simp only [ev_seq, seqK_nx, seqK_rt, seqK_bk, seqK_ct, seqK_err, ev_next, ev_if, ifK_ok, ifK_err, ev_asg, asgK_ok, asgK_err, ev_ret, retK_ok, retK_err, ev_retN, ev_drop, dropK_ok, dropK_err, ev_c, ev_d, dK_ok, dK_err, ev_fz, fzK_d, fzK_l, fzK_err, ev_op, opK1_ok, opK1_err, opK2_ok, opK2_err, ev_un, unK_ok, unK_err, ev_isi, ev_b, bK_ok, bK_err, ev_and, andK_ok, andK_err, ev_or, orK_ok, orK_err, ev_not, notK_ok, ev_andV, andVK_ok, ev_orV, orVK_ok, ev_ifE, ifEK_ok, ev_nil, ev_cons, consK1_ok, consK1_err, consK2_ok, consK2_err, ev_lst, lstK_ok, ev_tup, tupK_ok, ev_var, varK_d, varK_l, ev_peek, peekK_d, peekK_l, peekK_s, ev_move, moveK_d, moveK_l, ev_ixP, ixK_ok, ixK1_ok, ixK1_err, ixK2_ok, dIx_nat, dIx_natT, dIx_l0, dIx_l1, dIx_l2, dIx_l3, dIx_l4, dIx_t0, dIx_t1, dIx_t2, dIx_t3, ev_setIx, setK0_ok, setK0_err, setK1_ok, setK2_ok, setK3_0, setK3_1, setK3_2, setK3_3, setK3_4, ev_sl, slK1_ok, slK2_ok, slK3_ok, ev_no, ev_so, soK_ok, soK_err, ev_join, joinK1_ok, joinK2_ok, ev_app, appK1_ok, appK2_ok, appK2_err, appK3_ok, ev_a0, ev_aD, ev_aR, eaK1_ok, eaK1_err, eaK3_ok, eaK2_ok, eaK2_err, ev_call, callK_d1, callK_d2, callK_d3, callK_d4, callK_d5, callK_d6, callK_d7, callK_d8, callK_r0, callK_r1, callK_r2, callK_r3, callK_r4, callK_r5, callK_r6, callK_r7, callK_err, backK_ok, backK_err, slotOf_d, slotOf_r, putBack_d, putBack_r, putBack_nil, refs_nil, refs_d, refs_r, ev_run, endOf_nx, endOf_rt, endOf_err, maskL_t, maskL_f, maskL_nil, ev_for, forK_ok, forGo_nil, turnK_nx, turnK_ct, turnK_bk, turnK_rt, turnK_err, bind_ok, asItems_l, asItems_t, asItems_s, ev_name, ev_fnil, ev_fcons, ev_ftup, some_bind, ev_asgT, asgTK_ok, asgTK2_ok, ev_lc, lcK_ok, wipeL_nil, wipeL_cons, ev_yes, lcGo_nil, dLt_i, dLe_i, dGt_i, dGe_i, dEq_i, dEq_s, dEq_b, dNe_i, dNe_s, dIs_b, dSub_i, dLen_l, dLen_t, dList_l, dList_t, dSl_l, dNot_b, ty_n_bool, ty_n_int, ty_n_str, ty_n_list, ty_n_tuple, ty_b_bool, ty_b_int, ty_b_str, ty_b_list, ty_b_tuple, ty_i_bool, ty_i_int, ty_i_str, ty_i_list, ty_i_tuple, ty_s_bool, ty_s_int, ty_s_str, ty_s_list, ty_s_tuple, ty_l_bool, ty_l_int, ty_l_str, ty_l_list, ty_l_tuple, ty_t_bool, ty_t_int, ty_t_str, ty_t_list, ty_t_tuple, dIs_nn, dIs_in, dIs_bn, dIs_sn, dIs_ln, dIs_tn, dNe_b, ev_A, aK_ok, aK_err, dMin_ok, dMax_ok, asZip_l, asZip_t, ev_pop, popK1_ok, ev_cnt, cntK1_ok, cntK2_ok, dAdd_int, ofO_some, ofO_none, List.getElem?_cons_zero, List.getElem?_cons_succ, List.set_cons_zero, List.set_cons_succ, List.length_cons, List.length_nil, List.cons_append, List.nil_append, List.replicate_succ, List.replicate_zero, List.map_cons, List.map_nil, Option.join_some, List.append_nil, Nat.reduceAdd, Nat.reduceLT, Nat.reduceLeDiff, Nat.reduceSub, Nat.reduceEqDiff, if_true, if_false, decide_true, decide_false, Bool.false_eq_true, Bool.not_true, Bool.not_false, srcS, c, dMod_ok h0, dDiv_ok h0 h1, decide_true, if_true]
  · refine ⟨st * 40692 % 2147483399 / 3 % n, srcS cells p b st k, some (.d (.int n)), [o, none], ?_, Int.emod_nonneg _ (by omega), Int.emod_lt_of_pos _ h0, cells, p, b, st, k, rfl, hl, hp0, hp1, hb, hs0, hs1⟩
    simp only [ev_seq, seqK_nx, seqK_rt, seqK_bk, seqK_ct, seqK_err, ev_next, ev_if, ifK_ok, ifK_err, ev_asg, asgK_ok, asgK_err, ev_ret, retK_ok, retK_err, ev_retN, ev_drop, dropK_ok, dropK_err, ev_c, ev_d, dK_ok, dK_err, ev_fz, fzK_d, fzK_l, fzK_err, ev_op, opK1_ok, opK1_err, opK2_ok, opK2_err, ev_un, unK_ok, unK_err, ev_isi, ev_b, bK_ok, bK_err, ev_and, andK_ok, andK_err, ev_or, orK_ok, orK_err, ev_not, notK_ok, ev_andV, andVK_ok, ev_orV, orVK_ok, ev_ifE, ifEK_ok, ev_nil, ev_cons, consK1_ok, consK1_err, consK2_ok, consK2_err, ev_lst, lstK_ok, ev_tup, tupK_ok, ev_var, varK_d, varK_l, ev_peek, peekK_d, peekK_l, peekK_s, ev_move, moveK_d, moveK_l, ev_ixP, ixK_ok, ixK1_ok, ixK1_err, ixK2_ok, dIx_nat, dIx_natT, dIx_l0, dIx_l1, dIx_l2, dIx_l3, dIx_l4, dIx_t0, dIx_t1, dIx_t2, dIx_t3, ev_setIx, setK0_ok, setK0_err, setK1_ok, setK2_ok, setK3_0, setK3_1, setK3_2, setK3_3, setK3_4, ev_sl, slK1_ok, slK2_ok, slK3_ok, ev_no, ev_so, soK_ok, soK_err, ev_join, joinK1_ok, joinK2_ok, ev_app, appK1_ok, appK2_ok, appK2_err, appK3_ok, ev_a0, ev_aD, ev_aR, eaK1_ok, eaK1_err, eaK3_ok, eaK2_ok, eaK2_err, ev_call, callK_d1, callK_d2, callK_d3, callK_d4, callK_d5, callK_d6, callK_d7, callK_d8, callK_r0, callK_r1, callK_r2, callK_r3, callK_r4, callK_r5, callK_r6, callK_r7, callK_err, backK_ok, backK_err, slotOf_d, slotOf_r, putBack_d, putBack_r, putBack_nil, refs_nil, refs_d, refs_r, ev_run, endOf_nx, endOf_rt, endOf_err, maskL_t, maskL_f, maskL_nil, ev_for, forK_ok, forGo_nil, turnK_nx, turnK_ct, turnK_bk, turnK_rt, turnK_err, bind_ok, asItems_l, asItems_t, asItems_s, ev_name, ev_fnil, ev_fcons, ev_ftup, some_bind, ev_asgT, asgTK_ok, asgTK2_ok, ev_lc, lcK_ok, wipeL_nil, wipeL_cons, ev_yes, lcGo_nil, dLt_i, dLe_i, dGt_i, dGe_i, dEq_i, dEq_s, dEq_b, dNe_i, dNe_s, dIs_b, dSub_i, dLen_l, dLen_t, dList_l, dList_t, dSl_l, dNot_b, ty_n_bool, ty_n_int, ty_n_str, ty_n_list, ty_n_tuple, ty_b_bool, ty_b_int, ty_b_str, ty_b_list, ty_b_tuple, ty_i_bool, ty_i_int, ty_i_str, ty_i_list, ty_i_tuple, ty_s_bool, ty_s_int, ty_s_str, ty_s_list, ty_s_tuple, ty_l_bool, ty_l_int, ty_l_str, ty_l_list, ty_l_tuple, ty_t_bool, ty_t_int, ty_t_str, ty_t_list, ty_t_tuple, dIs_nn, dIs_in, dIs_bn, dIs_sn, dIs_ln, dIs_tn, dNe_b, ev_A, aK_ok, aK_err, dMin_ok, dMax_ok, asZip_l, asZip_t, ev_pop, popK1_ok, ev_cnt, cntK1_ok, cntK2_ok, dAdd_int, ofO_some, ofO_none, List.getElem?_cons_zero, List.getElem?_cons_succ, List.set_cons_zero, List.set_cons_succ, List.length_cons, List.length_nil, List.cons_append, List.nil_append, List.replicate_succ, List.replicate_zero, List.map_cons, List.map_nil, Option.join_some, List.append_nil, Nat.reduceAdd, Nat.reduceLT, Nat.reduceLeDiff, Nat.reduceSub, Nat.reduceEqDiff, if_true, if_false, decide_true, decide_false, Bool.false_eq_true, Bool.not_true, Bool.not_false, srcS, c, decide_false, if_false, Bool.false_eq_true, dMul_ok (show -(2 ^ 64) < st by omega) (show st < 2 ^ 64 by omega), dMod_ok (show (0 : Int) < 2147483399 by decide), dMod_ok h0, dDiv_ok (show (0 : Int) < 3 by decide) (show (3 : Int) < 1073741824 by decide)]
theorem next_mid (cells : List Int) (p b st k n : Int) (cell : Int) (hb : 0 ≤ b) (hs0 : 0 ≤ st) (hs1 : st < 2147483647) : ∃ b' st', gSeq (gSetIx 0 (gC (.int 3)) (gOp dMod (gFz (gOp dAdd (gFz (gOp dAdd (gFz (gOp dMul (gIxP 0 (gC (.int 3))) (gC (.int 48271)))) (gOp dMod (gVar 2) (gC (.int 998244353))))) (gIxP 0 (gC (.int 4))))) (gC (.int 2147483647))))
    (gIf (gB (gOp dGe (gPeek 2) (gOp dPow (gC (.int 10)) (gC (.int 18))))) (gSetIx 0 (gC (.int 2)) (gVar 2)) gNext) [some (srcS cells p b st k), some (.d (.int n)), some (.d (.int cell)), none] = .ok .nx [some (srcS cells p b' st' k), some (.d (.int n)), some (.d (.int cell)), none] ∧ 0 ≤ b' ∧ 0 ≤ st' ∧ st' < 2147483647 := by
  have st0 : 0 ≤ (st * 48271 + cell % 998244353 + k) % 2147483647 := Int.emod_nonneg _ (by omega)
  have st1 : (st * 48271 + cell % 998244353 + k) % 2147483647 < 2147483647 := Int.emod_lt_of_pos _ (by omega)
  by_cases c : 1000000000000000000 ≤ cell
  · refine ⟨cell, (st * 48271 + cell % 998244353 + k) % 2147483647, ?_, by omega, st0, st1⟩
    simp only [ev_seq, seqK_nx, seqK_rt, seqK_bk, seqK_ct, seqK_err, ev_next, ev_if, ifK_ok, ifK_err, ev_asg, asgK_ok, asgK_err, ev_ret, retK_ok, retK_err, ev_retN, ev_drop, dropK_ok, dropK_err, ev_c, ev_d, dK_ok, dK_err, ev_fz, fzK_d, fzK_l, fzK_err, ev_op, opK1_ok, opK1_err, opK2_ok, opK2_err, ev_un, unK_ok, unK_err, ev_isi, ev_b, bK_ok, bK_err, ev_and, andK_ok, andK_err, ev_or, orK_ok, orK_err, ev_not, notK_ok, ev_andV, andVK_ok, ev_orV, orVK_ok, ev_ifE, ifEK_ok, ev_nil, ev_cons, consK1_ok, consK1_err, consK2_ok, consK2_err, ev_lst, lstK_ok, ev_tup, tupK_ok, ev_var, varK_d, varK_l, ev_peek, peekK_d, peekK_l, peekK_s, ev_move, moveK_d, moveK_l, ev_ixP, ixK_ok, ixK1_ok, ixK1_err, ixK2_ok, dIx_nat, dIx_natT, dIx_l0, dIx_l1, dIx_l2, dIx_l3, dIx_l4, dIx_t0, dIx_t1, dIx_t2, dIx_t3, ev_setIx, setK0_ok, setK0_err, setK1_ok, setK2_ok, setK3_0, setK3_1, setK3_2, setK3_3, setK3_4, ev_sl, slK1_ok, slK2_ok, slK3_ok, ev_no, ev_so, soK_ok, soK_err, ev_join, joinK1_ok, joinK2_ok, ev_app, appK1_ok, appK2_ok, appK2_err, appK3_ok, ev_a0, ev_aD, ev_aR, eaK1_ok, eaK1_err, eaK3_ok, eaK2_ok, eaK2_err, ev_call, callK_d1, callK_d2, callK_d3, callK_d4, callK_d5, callK_d6, callK_d7, callK_d8, callK_r0, callK_r1, callK_r2, callK_r3, callK_r4, callK_r5, callK_r6, callK_r7, callK_err, backK_ok, backK_err, slotOf_d, slotOf_r, putBack_d, putBack_r, putBack_nil, refs_nil, refs_d, refs_r, ev_run, endOf_nx, endOf_rt, endOf_err, maskL_t, maskL_f, maskL_nil, ev_for, forK_ok, forGo_nil, turnK_nx, turnK_ct, turnK_bk, turnK_rt, turnK_err, bind_ok, asItems_l, asItems_t, asItems_s, ev_name, ev_fnil, ev_fcons, ev_ftup, some_bind, ev_asgT, asgTK_ok, asgTK2_ok, ev_lc, lcK_ok, wipeL_nil, wipeL_cons, ev_yes, lcGo_nil, dLt_i, dLe_i, dGt_i, dGe_i, dEq_i, dEq_s, dEq_b, dNe_i, dNe_s, dIs_b, dSub_i, dLen_l, dLen_t, dList_l, dList_t, dSl_l, dNot_b, ty_n_bool, ty_n_int, ty_n_str, ty_n_list, ty_n_tuple, ty_b_bool, ty_b_int, ty_b_str, ty_b_list, ty_b_tuple, ty_i_bool, ty_i_int, ty_i_str, ty_i_list, ty_i_tuple, ty_s_bool, ty_s_int, ty_s_str, ty_s_list, ty_s_tuple, ty_l_bool, ty_l_int, ty_l_str, ty_l_list, ty_l_tuple, ty_t_bool, ty_t_int, ty_t_str, ty_t_list, ty_t_tuple, dIs_nn, dIs_in, dIs_bn, dIs_sn, dIs_ln, dIs_tn, dNe_b, ev_A, aK_ok, aK_err, dMin_ok, dMax_ok, asZip_l, asZip_t, ev_pop, popK1_ok, ev_cnt, cntK1_ok, cntK2_ok, dAdd_int, ofO_some, ofO_none, List.getElem?_cons_zero, List.getElem?_cons_succ, List.set_cons_zero, List.set_cons_succ, List.length_cons, List.length_nil, List.cons_append, List.nil_append, List.replicate_succ, List.replicate_zero, List.map_cons, List.map_nil, Option.join_some, List.append_nil, Nat.reduceAdd, Nat.reduceLT, Nat.reduceLeDiff, Nat.reduceSub, Nat.reduceEqDiff, if_true, if_false, decide_true, decide_false, Bool.false_eq_true, Bool.not_true, Bool.not_false, srcS, pow18, c, decide_true, if_true, dMul_ok (show -(2 ^ 64) < st by omega) (show st < 2 ^ 64 by omega), dMod_ok (show (0 : Int) < 998244353 by decide), dMod_ok (show (0 : Int) < 2147483647 by decide)]
  · refine ⟨b, (st * 48271 + cell % 998244353 + k) % 2147483647, ?_, hb, st0, st1⟩
    simp only [ev_seq, seqK_nx, seqK_rt, seqK_bk, seqK_ct, seqK_err, ev_next, ev_if, ifK_ok, ifK_err, ev_asg, asgK_ok, asgK_err, ev_ret, retK_ok, retK_err, ev_retN, ev_drop, dropK_ok, dropK_err, ev_c, ev_d, dK_ok, dK_err, ev_fz, fzK_d, fzK_l, fzK_err, ev_op, opK1_ok, opK1_err, opK2_ok, opK2_err, ev_un, unK_ok, unK_err, ev_isi, ev_b, bK_ok, bK_err, ev_and, andK_ok, andK_err, ev_or, orK_ok, orK_err, ev_not, notK_ok, ev_andV, andVK_ok, ev_orV, orVK_ok, ev_ifE, ifEK_ok, ev_nil, ev_cons, consK1_ok, consK1_err, consK2_ok, consK2_err, ev_lst, lstK_ok, ev_tup, tupK_ok, ev_var, varK_d, varK_l, ev_peek, peekK_d, peekK_l, peekK_s, ev_move, moveK_d, moveK_l, ev_ixP, ixK_ok, ixK1_ok, ixK1_err, ixK2_ok, dIx_nat, dIx_natT, dIx_l0, dIx_l1, dIx_l2, dIx_l3, dIx_l4, dIx_t0, dIx_t1, dIx_t2, dIx_t3, ev_setIx, setK0_ok, setK0_err, setK1_ok, setK2_ok, setK3_0, setK3_1, setK3_2, setK3_3, setK3_4, ev_sl, slK1_ok, slK2_ok, slK3_ok, ev_no, ev_so, soK_ok, soK_err, ev_join, joinK1_ok, joinK2_ok, ev_app, appK1_ok, appK2_ok, appK2_err, appK3_ok, ev_a0, ev_aD, ev_aR, eaK1_ok, eaK1_err, eaK3_ok, eaK2_ok, eaK2_err, ev_call, callK_d1, callK_d2, callK_d3, callK_d4, callK_d5, callK_d6, callK_d7, callK_d8, callK_r0, callK_r1, callK_r2, callK_r3, callK_r4, callK_r5, callK_r6, callK_r7, callK_err, backK_ok, backK_err, slotOf_d, slotOf_r, putBack_d, putBack_r, putBack_nil, refs_nil, refs_d, refs_r, ev_run, endOf_nx, endOf_rt, endOf_err, maskL_t, maskL_f, maskL_nil, ev_for, forK_ok, forGo_nil, turnK_nx, turnK_ct, turnK_bk, turnK_rt, turnK_err, bind_ok, asItems_l, asItems_t, asItems_s, ev_name, ev_fnil, ev_fcons, ev_ftup, some_bind, ev_asgT, asgTK_ok, asgTK2_ok, ev_lc, lcK_ok, wipeL_nil, wipeL_cons, ev_yes, lcGo_nil, dLt_i, dLe_i, dGt_i, dGe_i, dEq_i, dEq_s, dEq_b, dNe_i, dNe_s, dIs_b, dSub_i, dLen_l, dLen_t, dList_l, dList_t, dSl_l, dNot_b, ty_n_bool, ty_n_int, ty_n_str, ty_n_list, ty_n_tuple, ty_b_bool, ty_b_int, ty_b_str, ty_b_list, ty_b_tuple, ty_i_bool, ty_i_int, ty_i_str, ty_i_list, ty_i_tuple, ty_s_bool, ty_s_int, ty_s_str, ty_s_list, ty_s_tuple, ty_l_bool, ty_l_int, ty_l_str, ty_l_list, ty_l_tuple, ty_t_bool, ty_t_int, ty_t_str, ty_t_list, ty_t_tuple, dIs_nn, dIs_in, dIs_bn, dIs_sn, dIs_ln, dIs_tn, dNe_b, ev_A, aK_ok, aK_err, dMin_ok, dMax_ok, asZip_l, asZip_t, ev_pop, popK1_ok, ev_cnt, cntK1_ok, cntK2_ok, dAdd_int, ofO_some, ofO_none, List.getElem?_cons_zero, List.getElem?_cons_succ, List.set_cons_zero, List.set_cons_succ, List.length_cons, List.length_nil, List.cons_append, List.nil_append, List.replicate_succ, List.replicate_zero, List.map_cons, List.map_nil, Option.join_some, List.append_nil, Nat.reduceAdd, Nat.reduceLT, Nat.reduceLeDiff, Nat.reduceSub, Nat.reduceEqDiff, if_true, if_false, decide_true, decide_false, Bool.false_eq_true, Bool.not_true, Bool.not_false, srcS, pow18, c, decide_false, if_false, Bool.false_eq_true, dMul_ok (show -(2 ^ 64) < st by omega) (show st < 2 ^ 64 by omega), dMod_ok (show (0 : Int) < 998244353 by decide), dMod_ok (show (0 : Int) < 2147483647 by decide)]
theorem next_ok {s : S} (h : Src s) {n : Int} (h0 : 0 < n) (h1 : n < 1073741824) : ∃ r s', m_law_next [some s, some (.d (.int n))] = .ok (.d (.int r)) [some s', none] ∧ 0 ≤ r ∧ r < n ∧ Src s' := by
  obtain ⟨cells, p, b, st, k, rfl, hl, hp0, hp1, hb, hs0, hs1⟩ := h
  obtain ⟨j, rfl⟩ := Int.eq_ofNat_of_zero_le hp0
  have s0 : gSetIx 0 (gC (.int 4)) (gFz (gOp dAdd (gIxP 0 (gC (.int 4))) (gC (.int 1)))) [some (srcS cells j b st k), some (.d (.int n)), none, none] = .ok .nx [some (srcS cells j b st (k + 1)), some (.d (.int n)), none, none] := by
    simp only [ev_seq, seqK_nx, seqK_rt, seqK_bk, seqK_ct, seqK_err, ev_next, ev_if, ifK_ok, ifK_err, ev_asg, asgK_ok, asgK_err, ev_ret, retK_ok, retK_err, ev_retN, ev_drop, dropK_ok, dropK_err, ev_c, ev_d, dK_ok, dK_err, ev_fz, fzK_d, fzK_l, fzK_err, ev_op, opK1_ok, opK1_err, opK2_ok, opK2_err, ev_un, unK_ok, unK_err, ev_isi, ev_b, bK_ok, bK_err, ev_and, andK_ok, andK_err, ev_or, orK_ok, orK_err, ev_not, notK_ok, ev_andV, andVK_ok, ev_orV, orVK_ok, ev_ifE, ifEK_ok, ev_nil, ev_cons, consK1_ok, consK1_err, consK2_ok, consK2_err, ev_lst, lstK_ok, ev_tup, tupK_ok, ev_var, varK_d, varK_l, ev_peek, peekK_d, peekK_l, peekK_s, ev_move, moveK_d, moveK_l, ev_ixP, ixK_ok, ixK1_ok, ixK1_err, ixK2_ok, dIx_nat, dIx_natT, dIx_l0, dIx_l1, dIx_l2, dIx_l3, dIx_l4, dIx_t0, dIx_t1, dIx_t2, dIx_t3, ev_setIx, setK0_ok, setK0_err, setK1_ok, setK2_ok, setK3_0, setK3_1, setK3_2, setK3_3, setK3_4, ev_sl, slK1_ok, slK2_ok, slK3_ok, ev_no, ev_so, soK_ok, soK_err, ev_join, joinK1_ok, joinK2_ok, ev_app, appK1_ok, appK2_ok, appK2_err, appK3_ok, ev_a0, ev_aD, ev_aR, eaK1_ok, eaK1_err, eaK3_ok, eaK2_ok, eaK2_err, ev_call, callK_d1, callK_d2, callK_d3, callK_d4, callK_d5, callK_d6, callK_d7, callK_d8, callK_r0, callK_r1, callK_r2, callK_r3, callK_r4, callK_r5, callK_r6, callK_r7, callK_err, backK_ok, backK_err, slotOf_d, slotOf_r, putBack_d, putBack_r, putBack_nil, refs_nil, refs_d, refs_r, ev_run, endOf_nx, endOf_rt, endOf_err, maskL_t, maskL_f, maskL_nil, ev_for, forK_ok, forGo_nil, turnK_nx, turnK_ct, turnK_bk, turnK_rt, turnK_err, bind_ok, asItems_l, asItems_t, asItems_s, ev_name, ev_fnil, ev_fcons, ev_ftup, some_bind, ev_asgT, asgTK_ok, asgTK2_ok, ev_lc, lcK_ok, wipeL_nil, wipeL_cons, ev_yes, lcGo_nil, dLt_i, dLe_i, dGt_i, dGe_i, dEq_i, dEq_s, dEq_b, dNe_i, dNe_s, dIs_b, dSub_i, dLen_l, dLen_t, dList_l, dList_t, dSl_l, dNot_b, ty_n_bool, ty_n_int, ty_n_str, ty_n_list, ty_n_tuple, ty_b_bool, ty_b_int, ty_b_str, ty_b_list, ty_b_tuple, ty_i_bool, ty_i_int, ty_i_str, ty_i_list, ty_i_tuple, ty_s_bool, ty_s_int, ty_s_str, ty_s_list, ty_s_tuple, ty_l_bool, ty_l_int, ty_l_str, ty_l_list, ty_l_tuple, ty_t_bool, ty_t_int, ty_t_str, ty_t_list, ty_t_tuple, dIs_nn, dIs_in, dIs_bn, dIs_sn, dIs_ln, dIs_tn, dNe_b, ev_A, aK_ok, aK_err, dMin_ok, dMax_ok, asZip_l, asZip_t, ev_pop, popK1_ok, ev_cnt, cntK1_ok, cntK2_ok, dAdd_int, ofO_some, ofO_none, List.getElem?_cons_zero, List.getElem?_cons_succ, List.set_cons_zero, List.set_cons_succ, List.length_cons, List.length_nil, List.cons_append, List.nil_append, List.replicate_succ, List.replicate_zero, List.map_cons, List.map_nil, Option.join_some, List.append_nil, Nat.reduceAdd, Nat.reduceLT, Nat.reduceLeDiff, Nat.reduceSub, Nat.reduceEqDiff, if_true, if_false, decide_true, decide_false, Bool.false_eq_true, Bool.not_true, Bool.not_false, srcS, if_true]
  by_cases c1 : b ≤ 1
  · by_cases c2 : (j : Int) < cells.length
    · have hj : j < cells.length := by omega
      obtain ⟨b', st', m1, m2, m3, m4⟩ := next_mid cells ((j : Int) + 1) b st (k + 1) n cells[j] hb hs0 hs1
      obtain ⟨r, s', o2, L, t1, t2, t3, t4⟩ := next_tail cells ((j : Int) + 1) b' st' (k + 1) n (some (.d (.int cells[j]))) h0 h1 hl (by omega) (by omega) m2 m3 m4
      refine ⟨r, s', ?_, t2, t3, t4⟩
      unfold m_law_next g_law_next
      rw [ev_run]
      simp only [List.length_cons, List.length_nil, Nat.reduceAdd, Nat.reduceSub, List.replicate_succ, List.replicate_zero, List.cons_append, List.nil_append]
      rw [ev_seq, s0, seqK_nx, ev_seq, ev_if]
      have e1 : gB (gOp dLe (gIxP 0 (gC (.int 2))) (gC (.int 1))) [some (srcS cells j b st (k + 1)), some (.d (.int n)), none, none] = .ok true [some (srcS cells j b st (k + 1)), some (.d (.int n)), none, none] := by
        simp only [ev_seq, seqK_nx, seqK_rt, seqK_bk, seqK_ct, seqK_err, ev_next, ev_if, ifK_ok, ifK_err, ev_asg, asgK_ok, asgK_err, ev_ret, retK_ok, retK_err, ev_retN, ev_drop, dropK_ok, dropK_err, ev_c, ev_d, dK_ok, dK_err, ev_fz, fzK_d, fzK_l, fzK_err, ev_op, opK1_ok, opK1_err, opK2_ok, opK2_err, ev_un, unK_ok, unK_err, ev_isi, ev_b, bK_ok, bK_err, ev_and, andK_ok, andK_err, ev_or, orK_ok, orK_err, ev_not, notK_ok, ev_andV, andVK_ok, ev_orV, orVK_ok, ev_ifE, ifEK_ok, ev_nil, ev_cons, consK1_ok, consK1_err, consK2_ok, consK2_err, ev_lst, lstK_ok, ev_tup, tupK_ok, ev_var, varK_d, varK_l, ev_peek, peekK_d, peekK_l, peekK_s, ev_move, moveK_d, moveK_l, ev_ixP, ixK_ok, ixK1_ok, ixK1_err, ixK2_ok, dIx_nat, dIx_natT, dIx_l0, dIx_l1, dIx_l2, dIx_l3, dIx_l4, dIx_t0, dIx_t1, dIx_t2, dIx_t3, ev_setIx, setK0_ok, setK0_err, setK1_ok, setK2_ok, setK3_0, setK3_1, setK3_2, setK3_3, setK3_4, ev_sl, slK1_ok, slK2_ok, slK3_ok, ev_no, ev_so, soK_ok, soK_err, ev_join, joinK1_ok, joinK2_ok, ev_app, appK1_ok, appK2_ok, appK2_err, appK3_ok, ev_a0, ev_aD, ev_aR, eaK1_ok, eaK1_err, eaK3_ok, eaK2_ok, eaK2_err, ev_call, callK_d1, callK_d2, callK_d3, callK_d4, callK_d5, callK_d6, callK_d7, callK_d8, callK_r0, callK_r1, callK_r2, callK_r3, callK_r4, callK_r5, callK_r6, callK_r7, callK_err, backK_ok, backK_err, slotOf_d, slotOf_r, putBack_d, putBack_r, putBack_nil, refs_nil, refs_d, refs_r, ev_run, endOf_nx, endOf_rt, endOf_err, maskL_t, maskL_f, maskL_nil, ev_for, forK_ok, forGo_nil, turnK_nx, turnK_ct, turnK_bk, turnK_rt, turnK_err, bind_ok, asItems_l, asItems_t, asItems_s, ev_name, ev_fnil, ev_fcons, ev_ftup, some_bind, ev_asgT, asgTK_ok, asgTK2_ok, ev_lc, lcK_ok, wipeL_nil, wipeL_cons, ev_yes, lcGo_nil, dLt_i, dLe_i, dGt_i, dGe_i, dEq_i, dEq_s, dEq_b, dNe_i, dNe_s, dIs_b, dSub_i, dLen_l, dLen_t, dList_l, dList_t, dSl_l, dNot_b, ty_n_bool, ty_n_int, ty_n_str, ty_n_list, ty_n_tuple, ty_b_bool, ty_b_int, ty_b_str, ty_b_list, ty_b_tuple, ty_i_bool, ty_i_int, ty_i_str, ty_i_list, ty_i_tuple, ty_s_bool, ty_s_int, ty_s_str, ty_s_list, ty_s_tuple, ty_l_bool, ty_l_int, ty_l_str, ty_l_list, ty_l_tuple, ty_t_bool, ty_t_int, ty_t_str, ty_t_list, ty_t_tuple, dIs_nn, dIs_in, dIs_bn, dIs_sn, dIs_ln, dIs_tn, dNe_b, ev_A, aK_ok, aK_err, dMin_ok, dMax_ok, asZip_l, asZip_t, ev_pop, popK1_ok, ev_cnt, cntK1_ok, cntK2_ok, dAdd_int, ofO_some, ofO_none, List.getElem?_cons_zero, List.getElem?_cons_succ, List.set_cons_zero, List.set_cons_succ, List.length_cons, List.length_nil, List.cons_append, List.nil_append, List.replicate_succ, List.replicate_zero, List.map_cons, List.map_nil, Option.join_some, List.append_nil, Nat.reduceAdd, Nat.reduceLT, Nat.reduceLeDiff, Nat.reduceSub, Nat.reduceEqDiff, if_true, if_false, decide_true, decide_false, Bool.false_eq_true, Bool.not_true, Bool.not_false, srcS, c1, decide_true]
      rw [e1, ifK_ok, if_pos rfl, ev_seq]
      have e2 : gAsg 2 (gD (gC (.int 7))) [some (srcS cells j b st (k + 1)), some (.d (.int n)), none, none] = .ok .nx [some (srcS cells j b st (k + 1)), some (.d (.int n)), some (.d (.int 7)), none] := rfl
      rw [e2, seqK_nx, ev_seq]
      have e3 : gIf (gB (gOp dLt (gIxP 0 (gC (.int 1))) (gUn dLen (gIxP 0 (gC (.int 0)))))) (gSeq (gAsg 2 (gD (gOp dIx (gIxP 0 (gC (.int 0))) (gIxP 0 (gC (.int 1))))))
          (gSetIx 0 (gC (.int 1)) (gFz (gOp dAdd (gIxP 0 (gC (.int 1))) (gC (.int 1)))))) gNext [some (srcS cells j b st (k + 1)), some (.d (.int n)), some (.d (.int 7)), none] = .ok .nx [some (srcS cells ((j : Int) + 1) b st (k + 1)), some (.d (.int n)), some (.d (.int cells[j])), none] := by
        simp only [ev_seq, seqK_nx, seqK_rt, seqK_bk, seqK_ct, seqK_err, ev_next, ev_if, ifK_ok, ifK_err, ev_asg, asgK_ok, asgK_err, ev_ret, retK_ok, retK_err, ev_retN, ev_drop, dropK_ok, dropK_err, ev_c, ev_d, dK_ok, dK_err, ev_fz, fzK_d, fzK_l, fzK_err, ev_op, opK1_ok, opK1_err, opK2_ok, opK2_err, ev_un, unK_ok, unK_err, ev_isi, ev_b, bK_ok, bK_err, ev_and, andK_ok, andK_err, ev_or, orK_ok, orK_err, ev_not, notK_ok, ev_andV, andVK_ok, ev_orV, orVK_ok, ev_ifE, ifEK_ok, ev_nil, ev_cons, consK1_ok, consK1_err, consK2_ok, consK2_err, ev_lst, lstK_ok, ev_tup, tupK_ok, ev_var, varK_d, varK_l, ev_peek, peekK_d, peekK_l, peekK_s, ev_move, moveK_d, moveK_l, ev_ixP, ixK_ok, ixK1_ok, ixK1_err, ixK2_ok, dIx_nat, dIx_natT, dIx_l0, dIx_l1, dIx_l2, dIx_l3, dIx_l4, dIx_t0, dIx_t1, dIx_t2, dIx_t3, ev_setIx, setK0_ok, setK0_err, setK1_ok, setK2_ok, setK3_0, setK3_1, setK3_2, setK3_3, setK3_4, ev_sl, slK1_ok, slK2_ok, slK3_ok, ev_no, ev_so, soK_ok, soK_err, ev_join, joinK1_ok, joinK2_ok, ev_app, appK1_ok, appK2_ok, appK2_err, appK3_ok, ev_a0, ev_aD, ev_aR, eaK1_ok, eaK1_err, eaK3_ok, eaK2_ok, eaK2_err, ev_call, callK_d1, callK_d2, callK_d3, callK_d4, callK_d5, callK_d6, callK_d7, callK_d8, callK_r0, callK_r1, callK_r2, callK_r3, callK_r4, callK_r5, callK_r6, callK_r7, callK_err, backK_ok, backK_err, slotOf_d, slotOf_r, putBack_d, putBack_r, putBack_nil, refs_nil, refs_d, refs_r, ev_run, endOf_nx, endOf_rt, endOf_err, maskL_t, maskL_f, maskL_nil, ev_for, forK_ok, forGo_nil, turnK_nx, turnK_ct, turnK_bk, turnK_rt, turnK_err, bind_ok, asItems_l, asItems_t, asItems_s, ev_name, ev_fnil, ev_fcons, ev_ftup, some_bind, ev_asgT, asgTK_ok, asgTK2_ok, ev_lc, lcK_ok, wipeL_nil, wipeL_cons, ev_yes, lcGo_nil, dLt_i, dLe_i, dGt_i, dGe_i, dEq_i, dEq_s, dEq_b, dNe_i, dNe_s, dIs_b, dSub_i, dLen_l, dLen_t, dList_l, dList_t, dSl_l, dNot_b, ty_n_bool, ty_n_int, ty_n_str, ty_n_list, ty_n_tuple, ty_b_bool, ty_b_int, ty_b_str, ty_b_list, ty_b_tuple, ty_i_bool, ty_i_int, ty_i_str, ty_i_list, ty_i_tuple, ty_s_bool, ty_s_int, ty_s_str, ty_s_list, ty_s_tuple, ty_l_bool, ty_l_int, ty_l_str, ty_l_list, ty_l_tuple, ty_t_bool, ty_t_int, ty_t_str, ty_t_list, ty_t_tuple, dIs_nn, dIs_in, dIs_bn, dIs_sn, dIs_ln, dIs_tn, dNe_b, ev_A, aK_ok, aK_err, dMin_ok, dMax_ok, asZip_l, asZip_t, ev_pop, popK1_ok, ev_cnt, cntK1_ok, cntK2_ok, dAdd_int, ofO_some, ofO_none, List.getElem?_cons_zero, List.getElem?_cons_succ, List.set_cons_zero, List.set_cons_succ, List.length_cons, List.length_nil, List.cons_append, List.nil_append, List.replicate_succ, List.replicate_zero, List.map_cons, List.map_nil, Option.join_some, List.append_nil, Nat.reduceAdd, Nat.reduceLT, Nat.reduceLeDiff, Nat.reduceSub, Nat.reduceEqDiff, if_true, if_false, decide_true, decide_false, Bool.false_eq_true, Bool.not_true, Bool.not_false, srcS, List.length_map, c2, decide_true, if_true, dIx_cells cells j hj]
      rw [e3, seqK_nx, m1, seqK_nx, t1]
      rfl
    · obtain ⟨b', st', m1, m2, m3, m4⟩ := next_mid cells j b st (k + 1) n 7 hb hs0 hs1
      obtain ⟨r, s', o2, L, t1, t2, t3, t4⟩ := next_tail cells j b' st' (k + 1) n (some (.d (.int 7))) h0 h1 hl (by omega) (by omega) m2 m3 m4
      refine ⟨r, s', ?_, t2, t3, t4⟩
      unfold m_law_next g_law_next
      rw [ev_run]
      simp only [List.length_cons, List.length_nil, Nat.reduceAdd, Nat.reduceSub, List.replicate_succ, List.replicate_zero, List.cons_append, List.nil_append]
      rw [ev_seq, s0, seqK_nx, ev_seq, ev_if]
      have e1 : gB (gOp dLe (gIxP 0 (gC (.int 2))) (gC (.int 1))) [some (srcS cells j b st (k + 1)), some (.d (.int n)), none, none] = .ok true [some (srcS cells j b st (k + 1)), some (.d (.int n)), none, none] := by
        simp only [ev_seq, seqK_nx, seqK_rt, seqK_bk, seqK_ct, seqK_err, ev_next, ev_if, ifK_ok, ifK_err, ev_asg, asgK_ok, asgK_err, ev_ret, retK_ok, retK_err, ev_retN, ev_drop, dropK_ok, dropK_err, ev_c, ev_d, dK_ok, dK_err, ev_fz, fzK_d, fzK_l, fzK_err, ev_op, opK1_ok, opK1_err, opK2_ok, opK2_err, ev_un, unK_ok, unK_err, ev_isi, ev_b, bK_ok, bK_err, ev_and, andK_ok, andK_err, ev_or, orK_ok, orK_err, ev_not, notK_ok, ev_andV, andVK_ok, ev_orV, orVK_ok, ev_ifE, ifEK_ok, ev_nil, ev_cons, consK1_ok, consK1_err, consK2_ok, consK2_err, ev_lst, lstK_ok, ev_tup, tupK_ok, ev_var, varK_d, varK_l, ev_peek, peekK_d, peekK_l, peekK_s, ev_move, moveK_d, moveK_l, ev_ixP, ixK_ok, ixK1_ok, ixK1_err, ixK2_ok, dIx_nat, dIx_natT, dIx_l0, dIx_l1, dIx_l2, dIx_l3, dIx_l4, dIx_t0, dIx_t1, dIx_t2, dIx_t3, ev_setIx, setK0_ok, setK0_err, setK1_ok, setK2_ok, setK3_0, setK3_1, setK3_2, setK3_3, setK3_4, ev_sl, slK1_ok, slK2_ok, slK3_ok, ev_no, ev_so, soK_ok, soK_err, ev_join, joinK1_ok, joinK2_ok, ev_app, appK1_ok, appK2_ok, appK2_err, appK3_ok, ev_a0, ev_aD, ev_aR, eaK1_ok, eaK1_err, eaK3_ok, eaK2_ok, eaK2_err, ev_call, callK_d1, callK_d2, callK_d3, callK_d4, callK_d5, callK_d6, callK_d7, callK_d8, callK_r0, callK_r1, callK_r2, callK_r3, callK_r4, callK_r5, callK_r6, callK_r7, callK_err, backK_ok, backK_err, slotOf_d, slotOf_r, putBack_d, putBack_r, putBack_nil, refs_nil, refs_d, refs_r, ev_run, endOf_nx, endOf_rt, endOf_err, maskL_t, maskL_f, maskL_nil, ev_for, forK_ok, forGo_nil, turnK_nx, turnK_ct, turnK_bk, turnK_rt, turnK_err, bind_ok, asItems_l, asItems_t, asItems_s, ev_name, ev_fnil, ev_fcons, ev_ftup, some_bind, ev_asgT, asgTK_ok, asgTK2_ok, ev_lc, lcK_ok, wipeL_nil, wipeL_cons, ev_yes, lcGo_nil, dLt_i, dLe_i, dGt_i, dGe_i, dEq_i, dEq_s, dEq_b, dNe_i, dNe_s, dIs_b, dSub_i, dLen_l, dLen_t, dList_l, dList_t, dSl_l, dNot_b, ty_n_bool, ty_n_int, ty_n_str, ty_n_list, ty_n_tuple, ty_b_bool, ty_b_int, ty_b_str, ty_b_list, ty_b_tuple, ty_i_bool, ty_i_int, ty_i_str, ty_i_list, ty_i_tuple, ty_s_bool, ty_s_int, ty_s_str, ty_s_list, ty_s_tuple, ty_l_bool, ty_l_int, ty_l_str, ty_l_list, ty_l_tuple, ty_t_bool, ty_t_int, ty_t_str, ty_t_list, ty_t_tuple, dIs_nn, dIs_in, dIs_bn, dIs_sn, dIs_ln, dIs_tn, dNe_b, ev_A, aK_ok, aK_err, dMin_ok, dMax_ok, asZip_l, asZip_t, ev_pop, popK1_ok, ev_cnt, cntK1_ok, cntK2_ok, dAdd_int, ofO_some, ofO_none, List.getElem?_cons_zero, List.getElem?_cons_succ, List.set_cons_zero, List.set_cons_succ, List.length_cons, List.length_nil, List.cons_append, List.nil_append, List.replicate_succ, List.replicate_zero, List.map_cons, List.map_nil, Option.join_some, List.append_nil, Nat.reduceAdd, Nat.reduceLT, Nat.reduceLeDiff, Nat.reduceSub, Nat.reduceEqDiff, if_true, if_false, decide_true, decide_false, Bool.false_eq_true, Bool.not_true, Bool.not_false, srcS, c1, decide_true]
      rw [e1, ifK_ok, if_pos rfl, ev_seq]
      have e2 : gAsg 2 (gD (gC (.int 7))) [some (srcS cells j b st (k + 1)), some (.d (.int n)), none, none] = .ok .nx [some (srcS cells j b st (k + 1)), some (.d (.int n)), some (.d (.int 7)), none] := rfl
      rw [e2, seqK_nx, ev_seq]
      have e3 : gIf (gB (gOp dLt (gIxP 0 (gC (.int 1))) (gUn dLen (gIxP 0 (gC (.int 0)))))) (gSeq (gAsg 2 (gD (gOp dIx (gIxP 0 (gC (.int 0))) (gIxP 0 (gC (.int 1))))))
          (gSetIx 0 (gC (.int 1)) (gFz (gOp dAdd (gIxP 0 (gC (.int 1))) (gC (.int 1)))))) gNext [some (srcS cells j b st (k + 1)), some (.d (.int n)), some (.d (.int 7)), none] = .ok .nx [some (srcS cells j b st (k + 1)), some (.d (.int n)), some (.d (.int 7)), none] := by
        simp only [ev_seq, seqK_nx, seqK_rt, seqK_bk, seqK_ct, seqK_err, ev_next, ev_if, ifK_ok, ifK_err, ev_asg, asgK_ok, asgK_err, ev_ret, retK_ok, retK_err, ev_retN, ev_drop, dropK_ok, dropK_err, ev_c, ev_d, dK_ok, dK_err, ev_fz, fzK_d, fzK_l, fzK_err, ev_op, opK1_ok, opK1_err, opK2_ok, opK2_err, ev_un, unK_ok, unK_err, ev_isi, ev_b, bK_ok, bK_err, ev_and, andK_ok, andK_err, ev_or, orK_ok, orK_err, ev_not, notK_ok, ev_andV, andVK_ok, ev_orV, orVK_ok, ev_ifE, ifEK_ok, ev_nil, ev_cons, consK1_ok, consK1_err, consK2_ok, consK2_err, ev_lst, lstK_ok, ev_tup, tupK_ok, ev_var, varK_d, varK_l, ev_peek, peekK_d, peekK_l, peekK_s, ev_move, moveK_d, moveK_l, ev_ixP, ixK_ok, ixK1_ok, ixK1_err, ixK2_ok, dIx_nat, dIx_natT, dIx_l0, dIx_l1, dIx_l2, dIx_l3, dIx_l4, dIx_t0, dIx_t1, dIx_t2, dIx_t3, ev_setIx, setK0_ok, setK0_err, setK1_ok, setK2_ok, setK3_0, setK3_1, setK3_2, setK3_3, setK3_4, ev_sl, slK1_ok, slK2_ok, slK3_ok, ev_no, ev_so, soK_ok, soK_err, ev_join, joinK1_ok, joinK2_ok, ev_app, appK1_ok, appK2_ok, appK2_err, appK3_ok, ev_a0, ev_aD, ev_aR, eaK1_ok, eaK1_err, eaK3_ok, eaK2_ok, eaK2_err, ev_call, callK_d1, callK_d2, callK_d3, callK_d4, callK_d5, callK_d6, callK_d7, callK_d8, callK_r0, callK_r1, callK_r2, callK_r3, callK_r4, callK_r5, callK_r6, callK_r7, callK_err, backK_ok, backK_err, slotOf_d, slotOf_r, putBack_d, putBack_r, putBack_nil, refs_nil, refs_d, refs_r, ev_run, endOf_nx, endOf_rt, endOf_err, maskL_t, maskL_f, maskL_nil, ev_for, forK_ok, forGo_nil, turnK_nx, turnK_ct, turnK_bk, turnK_rt, turnK_err, bind_ok, asItems_l, asItems_t, asItems_s, ev_name, ev_fnil, ev_fcons, ev_ftup, some_bind, ev_asgT, asgTK_ok, asgTK2_ok, ev_lc, lcK_ok, wipeL_nil, wipeL_cons, ev_yes, lcGo_nil, dLt_i, dLe_i, dGt_i, dGe_i, dEq_i, dEq_s, dEq_b, dNe_i, dNe_s, dIs_b, dSub_i, dLen_l, dLen_t, dList_l, dList_t, dSl_l, dNot_b, ty_n_bool, ty_n_int, ty_n_str, ty_n_list, ty_n_tuple, ty_b_bool, ty_b_int, ty_b_str, ty_b_list, ty_b_tuple, ty_i_bool, ty_i_int, ty_i_str, ty_i_list, ty_i_tuple, ty_s_bool, ty_s_int, ty_s_str, ty_s_list, ty_s_tuple, ty_l_bool, ty_l_int, ty_l_str, ty_l_list, ty_l_tuple, ty_t_bool, ty_t_int, ty_t_str, ty_t_list, ty_t_tuple, dIs_nn, dIs_in, dIs_bn, dIs_sn, dIs_ln, dIs_tn, dNe_b, ev_A, aK_ok, aK_err, dMin_ok, dMax_ok, asZip_l, asZip_t, ev_pop, popK1_ok, ev_cnt, cntK1_ok, cntK2_ok, dAdd_int, ofO_some, ofO_none, List.getElem?_cons_zero, List.getElem?_cons_succ, List.set_cons_zero, List.set_cons_succ, List.length_cons, List.length_nil, List.cons_append, List.nil_append, List.replicate_succ, List.replicate_zero, List.map_cons, List.map_nil, Option.join_some, List.append_nil, Nat.reduceAdd, Nat.reduceLT, Nat.reduceLeDiff, Nat.reduceSub, Nat.reduceEqDiff, if_true, if_false, decide_true, decide_false, Bool.false_eq_true, Bool.not_true, Bool.not_false, srcS, List.length_map, c2, decide_false, if_false, Bool.false_eq_true]
      rw [e3, seqK_nx, m1, seqK_nx, t1]
      rfl
  · obtain ⟨r, s', o2, L, t1, t2, t3, t4⟩ := next_tail cells j b st (k + 1) n none h0 h1 hl (by omega) (by omega) hb hs0 hs1
    refine ⟨r, s', ?_, t2, t3, t4⟩
    unfold m_law_next g_law_next
    rw [ev_run]
    simp only [List.length_cons, List.length_nil, Nat.reduceAdd, Nat.reduceSub, List.replicate_succ, List.replicate_zero, List.cons_append, List.nil_append]
    rw [ev_seq, s0, seqK_nx, ev_seq, ev_if]
    have e1 : gB (gOp dLe (gIxP 0 (gC (.int 2))) (gC (.int 1))) [some (srcS cells j b st (k + 1)), some (.d (.int n)), none, none] = .ok false [some (srcS cells j b st (k + 1)), some (.d (.int n)), none, none] := by
      simp only [ev_seq, seqK_nx, seqK_rt, seqK_bk, seqK_ct, seqK_err, ev_next, ev_if, ifK_ok, ifK_err, ev_asg, asgK_ok, asgK_err, ev_ret, retK_ok, retK_err, ev_retN, ev_drop, dropK_ok, dropK_err, ev_c, ev_d, dK_ok, dK_err, ev_fz, fzK_d, fzK_l, fzK_err, ev_op, opK1_ok, opK1_err, opK2_ok, opK2_err, ev_un, unK_ok, unK_err, ev_isi, ev_b, bK_ok, bK_err, ev_and, andK_ok, andK_err, ev_or, orK_ok, orK_err, ev_not, notK_ok, ev_andV, andVK_ok, ev_orV, orVK_ok, ev_ifE, ifEK_ok, ev_nil, ev_cons, consK1_ok, consK1_err, consK2_ok, consK2_err, ev_lst, lstK_ok, ev_tup, tupK_ok, ev_var, varK_d, varK_l, ev_peek, peekK_d, peekK_l, peekK_s, ev_move, moveK_d, moveK_l, ev_ixP, ixK_ok, ixK1_ok, ixK1_err, ixK2_ok, dIx_nat, dIx_natT, dIx_l0, dIx_l1, dIx_l2, dIx_l3, dIx_l4, dIx_t0, dIx_t1, dIx_t2, dIx_t3, ev_setIx, setK0_ok, setK0_err, setK1_ok, setK2_ok, setK3_0, setK3_1, setK3_2, setK3_3, setK3_4, ev_sl, slK1_ok, slK2_ok, slK3_ok, ev_no, ev_so, soK_ok, soK_err, ev_join, joinK1_ok, joinK2_ok, ev_app, appK1_ok, appK2_ok, appK2_err, appK3_ok, ev_a0, ev_aD, ev_aR, eaK1_ok, eaK1_err, eaK3_ok, eaK2_ok, eaK2_err, ev_call, callK_d1, callK_d2, callK_d3, callK_d4, callK_d5, callK_d6, callK_d7, callK_d8, callK_r0, callK_r1, callK_r2, callK_r3, callK_r4, callK_r5, callK_r6, callK_r7, callK_err, backK_ok, backK_err, slotOf_d, slotOf_r, putBack_d, putBack_r, putBack_nil, refs_nil, refs_d, refs_r, ev_run, endOf_nx, endOf_rt, endOf_err, maskL_t, maskL_f, maskL_nil, ev_for, forK_ok, forGo_nil, turnK_nx, turnK_ct, turnK_bk, turnK_rt, turnK_err, bind_ok, asItems_l, asItems_t, asItems_s, ev_name, ev_fnil, ev_fcons, ev_ftup, some_bind, ev_asgT, asgTK_ok, asgTK2_ok, ev_lc, lcK_ok, wipeL_nil, wipeL_cons, ev_yes, lcGo_nil, dLt_i, dLe_i, dGt_i, dGe_i, dEq_i, dEq_s, dEq_b, dNe_i, dNe_s, dIs_b, dSub_i, dLen_l, dLen_t, dList_l, dList_t, dSl_l, dNot_b, ty_n_bool, ty_n_int, ty_n_str, ty_n_list, ty_n_tuple, ty_b_bool, ty_b_int, ty_b_str, ty_b_list, ty_b_tuple, ty_i_bool, ty_i_int, ty_i_str, ty_i_list, ty_i_tuple, ty_s_bool, ty_s_int, ty_s_str, ty_s_list, ty_s_tuple, ty_l_bool, ty_l_int, ty_l_str, ty_l_list, ty_l_tuple, ty_t_bool, ty_t_int, ty_t_str, ty_t_list, ty_t_tuple, dIs_nn, dIs_in, dIs_bn, dIs_sn, dIs_ln, dIs_tn, dNe_b, ev_A, aK_ok, aK_err, dMin_ok, dMax_ok, asZip_l, asZip_t, ev_pop, popK1_ok, ev_cnt, cntK1_ok, cntK2_ok, dAdd_int, ofO_some, ofO_none, List.getElem?_cons_zero, List.getElem?_cons_succ, List.set_cons_zero, List.set_cons_succ, List.length_cons, List.length_nil, List.cons_append, List.nil_append, List.replicate_succ, List.replicate_zero, List.map_cons, List.map_nil, Option.join_some, List.append_nil, Nat.reduceAdd, Nat.reduceLT, Nat.reduceLeDiff, Nat.reduceSub, Nat.reduceEqDiff, if_true, if_false, decide_true, decide_false, Bool.false_eq_true, Bool.not_true, Bool.not_false, srcS, c1, decide_false]
    rw [e1, ifK_ok, if_neg Bool.false_ne_true, ev_next, seqK_nx, t1]
    rfl
end Lw

namespace Lw
open PySem VS
def sOf (ws : List Nat) : Str := ⟨ws.toArray⟩
theorem sOf_list (ws : List Nat) : (sOf ws).cps.toList = ws := by simp [sOf]
theorem sOf_len (ws : List Nat) : (sOf ws).length = ws.length := by simp [sOf, Str.length]
theorem sOf_app (a b : List Nat) : sOf a ++ sOf b = sOf (a ++ b) := by
  show (⟨a.toArray ++ b.toArray⟩ : Str) = ⟨(a ++ b).toArray⟩
  simp
theorem sOf_inj {a b : List Nat} (h : sOf a = sOf b) : a = b := by
  have := congrArg (fun s : Str => s.cps.toList) h
  simpa [sOf] using this
theorem sOf_of (s : Str) : s = sOf s.cps.toList := by
  cases s
  simp [sOf]
def Small (ws : List Nat) : Prop := ∀ c ∈ ws, 97 ≤ c ∧ c ≤ 122
theorem Small.app {a b : List Nat} (h : Small a) (h' : Small b) : Small (a ++ b) := fun c hc => (List.mem_append.mp hc).elim (h c) (h' c)
theorem Small.take {a : List Nat} (n : Nat) (h : Small a) : Small (a.take n) := fun c hc => h c (List.mem_of_mem_take hc)
theorem Small.drop {a : List Nat} (n : Nat) (h : Small a) : Small (a.drop n) := fun c hc => h c (List.mem_of_mem_drop hc)
abbrev abc : Str := "abcdefghijklmnopqrstuvwxyz"
theorem abc_at : ∀ k ∈ List.range 26, abc.cps.toList[k]? = some (97 + k) := by decide +kernel
theorem abc_len : abc.cps.toList.length = 26 := by decide +kernel
theorem ix_abc {r : Int} (h0 : 0 ≤ r) (h1 : r < 26) : dIx (.str abc) (.int r) = some (.str (sOf [97 + r.toNat])) := by
  obtain ⟨k, rfl⟩ := Int.eq_ofNat_of_zero_le h0
  have hk : k < 26 := by omega
  have e := abc_at k (List.mem_range.mpr hk)
  have hl : abc.length ≤ sizeLine := by
    have : abc.length = 26 := abc_len
    rw [this, PySem.sizeLine_eq]
    omega
  have e2 : L2.atI abc.cps.toList (k : Int) = some (97 + k) := L2.atI_nat e
  show (if abc.length ≤ sizeLine then (L2.atI abc.cps.toList (k : Int)).map fun k => PyData.str ⟨#[k]⟩ else none) = _
  rw [if_pos hl, e2]
  rfl
theorem rg_ok {j : Int} (h0 : 0 ≤ j) (h1 : j ≤ 100000) : -(2 ^ 62) ≤ j ∧ j < 2 ^ 62 := by omega
theorem rng1_at {j : Int} {L : LS} (h0 : 0 ≤ j) (h1 : j ≤ 100000) : rng1 [.int j] L = .ok (intsD 0 j.toNat) L := if_pos (rg_ok h0 h1)
theorem word_go (m : Int) : ∀ (ds acc : List D) (s : S), Src s → acc.length + ds.length < sizeLine → ∃ ws s', lcGo [3] (fName 3) gYes (gIxP 2 (gFz (gCall m_law_next [.r 0, .d (gC (.int 26))]))) ds acc [some s, some (.d (.int m)), some (.d (.str abc)), none]
    = .ok (.ol (acc ++ ws.map fun c => .str (sOf [c]))) [some s', some (.d (.int m)), some (.d (.str abc)), none] ∧ ws.length = ds.length ∧ Small ws ∧ Src s'
  | [], acc, s, hs, _ => ⟨[], s, by rw [lcGo_nil, List.map_nil, List.append_nil], rfl, (fun c hc => by cases hc), hs⟩
  | d :: ds, acc, s, hs, hl => by
    obtain ⟨r, s1, e, r0, r1, h1⟩ := next_ok hs (n := 26) (by omega) (by omega)
    rw [List.length_cons] at hl
    obtain ⟨ws, s', e2, l2, k2, h2⟩ := word_go m ds (acc ++ [.str (sOf [97 + r.toNat])]) s1 h1 (by rw [List.length_append, List.length_singleton]; omega)
    refine ⟨(97 + r.toNat) :: ws, s', ?_, by rw [List.length_cons, List.length_cons, l2], fun c hc => ?_, h2⟩
    · have step : gIxP 2 (gFz (gCall m_law_next [.r 0, .d (gC (.int 26))])) [some s, some (.d (.int m)), some (.d (.str abc)), some (.d d)] = .ok (.str (sOf [97 + r.toNat])) [some s1, some (.d (.int m)), some (.d (.str abc)), some (.d d)] := by
        simp only [ev_seq, seqK_nx, seqK_rt, seqK_bk, seqK_ct, seqK_err, ev_next, ev_if, ifK_ok, ifK_err, ev_asg, asgK_ok, asgK_err, ev_ret, retK_ok, retK_err, ev_retN, ev_drop, dropK_ok, dropK_err, ev_c, ev_d, dK_ok, dK_err, ev_fz, fzK_d, fzK_l, fzK_err, ev_op, opK1_ok, opK1_err, opK2_ok, opK2_err, ev_un, unK_ok, unK_err, ev_isi, ev_b, bK_ok, bK_err, ev_and, andK_ok, andK_err, ev_or, orK_ok, orK_err, ev_not, notK_ok, ev_andV, andVK_ok, ev_orV, orVK_ok, ev_ifE, ifEK_ok, ev_nil, ev_cons, consK1_ok, consK1_err, consK2_ok, consK2_err, ev_lst, lstK_ok, ev_tup, tupK_ok, ev_var, varK_d, varK_l, ev_peek, peekK_d, peekK_l, peekK_s, ev_move, moveK_d, moveK_l, ev_ixP, ixK_ok, ixK1_ok, ixK1_err, ixK2_ok, dIx_nat, dIx_natT, dIx_l0, dIx_l1, dIx_l2, dIx_l3, dIx_l4, dIx_t0, dIx_t1, dIx_t2, dIx_t3, ev_setIx, setK0_ok, setK0_err, setK1_ok, setK2_ok, setK3_0, setK3_1, setK3_2, setK3_3, setK3_4, ev_sl, slK1_ok, slK2_ok, slK3_ok, ev_no, ev_so, soK_ok, soK_err, ev_join, joinK1_ok, joinK2_ok, ev_app, appK1_ok, appK2_ok, appK2_err, appK3_ok, ev_a0, ev_aD, ev_aR, eaK1_ok, eaK1_err, eaK3_ok, eaK2_ok, eaK2_err, ev_call, callK_d1, callK_d2, callK_d3, callK_d4, callK_d5, callK_d6, callK_d7, callK_d8, callK_r0, callK_r1, callK_r2, callK_r3, callK_r4, callK_r5, callK_r6, callK_r7, callK_err, backK_ok, backK_err, slotOf_d, slotOf_r, putBack_d, putBack_r, putBack_nil, refs_nil, refs_d, refs_r, ev_run, endOf_nx, endOf_rt, endOf_err, maskL_t, maskL_f, maskL_nil, ev_for, forK_ok, forGo_nil, turnK_nx, turnK_ct, turnK_bk, turnK_rt, turnK_err, bind_ok, asItems_l, asItems_t, asItems_s, ev_name, ev_fnil, ev_fcons, ev_ftup, some_bind, ev_asgT, asgTK_ok, asgTK2_ok, ev_lc, lcK_ok, wipeL_nil, wipeL_cons, ev_yes, lcGo_nil, dLt_i, dLe_i, dGt_i, dGe_i, dEq_i, dEq_s, dEq_b, dNe_i, dNe_s, dIs_b, dSub_i, dLen_l, dLen_t, dList_l, dList_t, dSl_l, dNot_b, ty_n_bool, ty_n_int, ty_n_str, ty_n_list, ty_n_tuple, ty_b_bool, ty_b_int, ty_b_str, ty_b_list, ty_b_tuple, ty_i_bool, ty_i_int, ty_i_str, ty_i_list, ty_i_tuple, ty_s_bool, ty_s_int, ty_s_str, ty_s_list, ty_s_tuple, ty_l_bool, ty_l_int, ty_l_str, ty_l_list, ty_l_tuple, ty_t_bool, ty_t_int, ty_t_str, ty_t_list, ty_t_tuple, dIs_nn, dIs_in, dIs_bn, dIs_sn, dIs_ln, dIs_tn, dNe_b, ev_A, aK_ok, aK_err, dMin_ok, dMax_ok, asZip_l, asZip_t, ev_pop, popK1_ok, ev_cnt, cntK1_ok, cntK2_ok, dAdd_int, ofO_some, ofO_none, List.getElem?_cons_zero, List.getElem?_cons_succ, List.set_cons_zero, List.set_cons_succ, List.length_cons, List.length_nil, List.cons_append, List.nil_append, List.replicate_succ, List.replicate_zero, List.map_cons, List.map_nil, Option.join_some, List.append_nil, Nat.reduceAdd, Nat.reduceLT, Nat.reduceLeDiff, Nat.reduceSub, Nat.reduceEqDiff, if_true, if_false, decide_true, decide_false, Bool.false_eq_true, Bool.not_true, Bool.not_false, e, ix_abc r0 r1]
      rw [lcGo_yes (L1 := [some s, some (.d (.int m)), some (.d (.str abc)), some (.d d)]) (L2 := [some s, some (.d (.int m)), some (.d (.str abc)), some (.d d)]) [3] (fName 3) gYes _ d ds acc rfl rfl step (by omega)]
      rw [show wipeL [some s1, some (.d (.int m)), some (.d (.str abc)), some (.d d)] [3] = [some s1, some (.d (.int m)), some (.d (.str abc)), none] from rfl, e2, List.map_cons, List.append_assoc]
      rfl
    · rcases List.mem_cons.mp hc with rfl | hc
      · omega
      · exact k2 c hc
theorem strs_map (ws : List Nat) : strsOf (ws.map fun c => PyData.str (sOf [c])) = some (ws.map fun c => sOf [c]) := by
  induction ws with
  | nil => rfl
  | cons c ws ih =>
    show (strsOf (ws.map fun c => PyData.str (sOf [c]))).map (sOf [c] :: ·) = _
    rw [ih]
    rfl
theorem joinL_nil : ∀ l : List (List Nat), TL.joinL [] l = l.flatten
  | [] => rfl
  | [p] => by simp [TL.joinL]
  | p :: q :: r => by
    show p ++ ([] ++ TL.joinL [] (q :: r)) = _
    rw [List.nil_append, joinL_nil (q :: r)]
    rfl
theorem empty_list : ("" : Str).cps.toList = [] := by decide +kernel
theorem join_empty (ys : List (List Nat)) : Txt.join ("" : Str) (ys.map sOf) = sOf ys.flatten := by
  rw [sOf_of (Txt.join _ _), TL.join_eq]
  congr 1
  show TL.tl (Str.join _ _) = _
  rw [TL.tl_join, show TL.tl ("" : Str) = [] from empty_list, joinL_nil, List.map_map]
  congr 1
  rw [show (TL.tl ∘ sOf) = id from funext sOf_list, List.map_id]
theorem flat_one (ws : List Nat) : (ws.map fun c => [c]).flatten = ws := by
  induction ws with
  | nil => rfl
  | cons c ws ih => rw [List.map_cons, List.flatten_cons, ih]; rfl
theorem sum_one (ws : List Nat) : ((ws.map fun c => sOf [c]).map (·.length)).sum = ws.length := by
  induction ws with
  | nil => rfl
  | cons c ws ih =>
    rw [List.map_cons, List.map_cons, List.sum_cons, ih, sOf_len]
    simp only [List.length_cons, List.length_nil]
    omega
theorem join_chars {ws : List Nat} (h : ws.length ≤ 100000) : dJoin (.str "") (.list (ws.map fun c => PyData.str (sOf [c]))) = some (.str (sOf ws)) := by
  show (strsOf _).bind _ = _
  rw [strs_map]
  show (if joinOk "" (ws.map fun c => sOf [c]) then some (PyData.str (Txt.join "" (ws.map fun c => sOf [c]))) else none) = _
  have hj : joinOk "" (ws.map fun c => sOf [c]) = true := by
    unfold joinOk
    rw [sum_one, List.length_map, show (("" : Str).length) = 0 from by decide +kernel]
    exact decide_eq_true (by omega)
  rw [if_pos hj]
  have e : (ws.map fun c => sOf [c]) = (ws.map fun c => [c]).map sOf := by rw [List.map_map]; rfl
  rw [e, join_empty, flat_one]
theorem word_ok {s : S} (hs : Src s) {m : Int} (h0 : 0 ≤ m) (h1 : m ≤ 1000) : ∃ ws s', m_law_word [some s, some (.d (.int m))] = .ok (.d (.str (sOf ws))) [some s', none] ∧ ws.length = m.toNat ∧ Small ws ∧ Src s' := by
  obtain ⟨ws, s', e, l, k, h⟩ := word_go m (intsD 0 m.toNat) [] s hs (by rw [intsD_len, PySem.sizeLine_eq, List.length_nil]; omega)
  rw [intsD_len] at l
  refine ⟨ws, s', ?_, l, k, h⟩
  unfold m_law_word g_law_word
  simp only [ev_seq, seqK_nx, seqK_rt, seqK_bk, seqK_ct, seqK_err, ev_next, ev_if, ifK_ok, ifK_err, ev_asg, asgK_ok, asgK_err, ev_ret, retK_ok, retK_err, ev_retN, ev_drop, dropK_ok, dropK_err, ev_c, ev_d, dK_ok, dK_err, ev_fz, fzK_d, fzK_l, fzK_err, ev_op, opK1_ok, opK1_err, opK2_ok, opK2_err, ev_un, unK_ok, unK_err, ev_isi, ev_b, bK_ok, bK_err, ev_and, andK_ok, andK_err, ev_or, orK_ok, orK_err, ev_not, notK_ok, ev_andV, andVK_ok, ev_orV, orVK_ok, ev_ifE, ifEK_ok, ev_nil, ev_cons, consK1_ok, consK1_err, consK2_ok, consK2_err, ev_lst, lstK_ok, ev_tup, tupK_ok, ev_var, varK_d, varK_l, ev_peek, peekK_d, peekK_l, peekK_s, ev_move, moveK_d, moveK_l, ev_ixP, ixK_ok, ixK1_ok, ixK1_err, ixK2_ok, dIx_nat, dIx_natT, dIx_l0, dIx_l1, dIx_l2, dIx_l3, dIx_l4, dIx_t0, dIx_t1, dIx_t2, dIx_t3, ev_setIx, setK0_ok, setK0_err, setK1_ok, setK2_ok, setK3_0, setK3_1, setK3_2, setK3_3, setK3_4, ev_sl, slK1_ok, slK2_ok, slK3_ok, ev_no, ev_so, soK_ok, soK_err, ev_join, joinK1_ok, joinK2_ok, ev_app, appK1_ok, appK2_ok, appK2_err, appK3_ok, ev_a0, ev_aD, ev_aR, eaK1_ok, eaK1_err, eaK3_ok, eaK2_ok, eaK2_err, ev_call, callK_d1, callK_d2, callK_d3, callK_d4, callK_d5, callK_d6, callK_d7, callK_d8, callK_r0, callK_r1, callK_r2, callK_r3, callK_r4, callK_r5, callK_r6, callK_r7, callK_err, backK_ok, backK_err, slotOf_d, slotOf_r, putBack_d, putBack_r, putBack_nil, refs_nil, refs_d, refs_r, ev_run, endOf_nx, endOf_rt, endOf_err, maskL_t, maskL_f, maskL_nil, ev_for, forK_ok, forGo_nil, turnK_nx, turnK_ct, turnK_bk, turnK_rt, turnK_err, bind_ok, asItems_l, asItems_t, asItems_s, ev_name, ev_fnil, ev_fcons, ev_ftup, some_bind, ev_asgT, asgTK_ok, asgTK2_ok, ev_lc, lcK_ok, wipeL_nil, wipeL_cons, ev_yes, lcGo_nil, dLt_i, dLe_i, dGt_i, dGe_i, dEq_i, dEq_s, dEq_b, dNe_i, dNe_s, dIs_b, dSub_i, dLen_l, dLen_t, dList_l, dList_t, dSl_l, dNot_b, ty_n_bool, ty_n_int, ty_n_str, ty_n_list, ty_n_tuple, ty_b_bool, ty_b_int, ty_b_str, ty_b_list, ty_b_tuple, ty_i_bool, ty_i_int, ty_i_str, ty_i_list, ty_i_tuple, ty_s_bool, ty_s_int, ty_s_str, ty_s_list, ty_s_tuple, ty_l_bool, ty_l_int, ty_l_str, ty_l_list, ty_l_tuple, ty_t_bool, ty_t_int, ty_t_str, ty_t_list, ty_t_tuple, dIs_nn, dIs_in, dIs_bn, dIs_sn, dIs_ln, dIs_tn, dNe_b, ev_A, aK_ok, aK_err, dMin_ok, dMax_ok, asZip_l, asZip_t, ev_pop, popK1_ok, ev_cnt, cntK1_ok, cntK2_ok, dAdd_int, ofO_some, ofO_none, List.getElem?_cons_zero, List.getElem?_cons_succ, List.set_cons_zero, List.set_cons_succ, List.length_cons, List.length_nil, List.cons_append, List.nil_append, List.replicate_succ, List.replicate_zero, List.map_cons, List.map_nil, Option.join_some, List.append_nil, Nat.reduceAdd, Nat.reduceLT, Nat.reduceLeDiff, Nat.reduceSub, Nat.reduceEqDiff, if_true, if_false, decide_true, decide_false, Bool.false_eq_true, Bool.not_true, Bool.not_false]
  rw [rng1_at h0 (by omega)]
  simp only [ev_seq, seqK_nx, seqK_rt, seqK_bk, seqK_ct, seqK_err, ev_next, ev_if, ifK_ok, ifK_err, ev_asg, asgK_ok, asgK_err, ev_ret, retK_ok, retK_err, ev_retN, ev_drop, dropK_ok, dropK_err, ev_c, ev_d, dK_ok, dK_err, ev_fz, fzK_d, fzK_l, fzK_err, ev_op, opK1_ok, opK1_err, opK2_ok, opK2_err, ev_un, unK_ok, unK_err, ev_isi, ev_b, bK_ok, bK_err, ev_and, andK_ok, andK_err, ev_or, orK_ok, orK_err, ev_not, notK_ok, ev_andV, andVK_ok, ev_orV, orVK_ok, ev_ifE, ifEK_ok, ev_nil, ev_cons, consK1_ok, consK1_err, consK2_ok, consK2_err, ev_lst, lstK_ok, ev_tup, tupK_ok, ev_var, varK_d, varK_l, ev_peek, peekK_d, peekK_l, peekK_s, ev_move, moveK_d, moveK_l, ev_ixP, ixK_ok, ixK1_ok, ixK1_err, ixK2_ok, dIx_nat, dIx_natT, dIx_l0, dIx_l1, dIx_l2, dIx_l3, dIx_l4, dIx_t0, dIx_t1, dIx_t2, dIx_t3, ev_setIx, setK0_ok, setK0_err, setK1_ok, setK2_ok, setK3_0, setK3_1, setK3_2, setK3_3, setK3_4, ev_sl, slK1_ok, slK2_ok, slK3_ok, ev_no, ev_so, soK_ok, soK_err, ev_join, joinK1_ok, joinK2_ok, ev_app, appK1_ok, appK2_ok, appK2_err, appK3_ok, ev_a0, ev_aD, ev_aR, eaK1_ok, eaK1_err, eaK3_ok, eaK2_ok, eaK2_err, ev_call, callK_d1, callK_d2, callK_d3, callK_d4, callK_d5, callK_d6, callK_d7, callK_d8, callK_r0, callK_r1, callK_r2, callK_r3, callK_r4, callK_r5, callK_r6, callK_r7, callK_err, backK_ok, backK_err, slotOf_d, slotOf_r, putBack_d, putBack_r, putBack_nil, refs_nil, refs_d, refs_r, ev_run, endOf_nx, endOf_rt, endOf_err, maskL_t, maskL_f, maskL_nil, ev_for, forK_ok, forGo_nil, turnK_nx, turnK_ct, turnK_bk, turnK_rt, turnK_err, bind_ok, asItems_l, asItems_t, asItems_s, ev_name, ev_fnil, ev_fcons, ev_ftup, some_bind, ev_asgT, asgTK_ok, asgTK2_ok, ev_lc, lcK_ok, wipeL_nil, wipeL_cons, ev_yes, lcGo_nil, dLt_i, dLe_i, dGt_i, dGe_i, dEq_i, dEq_s, dEq_b, dNe_i, dNe_s, dIs_b, dSub_i, dLen_l, dLen_t, dList_l, dList_t, dSl_l, dNot_b, ty_n_bool, ty_n_int, ty_n_str, ty_n_list, ty_n_tuple, ty_b_bool, ty_b_int, ty_b_str, ty_b_list, ty_b_tuple, ty_i_bool, ty_i_int, ty_i_str, ty_i_list, ty_i_tuple, ty_s_bool, ty_s_int, ty_s_str, ty_s_list, ty_s_tuple, ty_l_bool, ty_l_int, ty_l_str, ty_l_list, ty_l_tuple, ty_t_bool, ty_t_int, ty_t_str, ty_t_list, ty_t_tuple, dIs_nn, dIs_in, dIs_bn, dIs_sn, dIs_ln, dIs_tn, dNe_b, ev_A, aK_ok, aK_err, dMin_ok, dMax_ok, asZip_l, asZip_t, ev_pop, popK1_ok, ev_cnt, cntK1_ok, cntK2_ok, dAdd_int, ofO_some, ofO_none, List.getElem?_cons_zero, List.getElem?_cons_succ, List.set_cons_zero, List.set_cons_succ, List.length_cons, List.length_nil, List.cons_append, List.nil_append, List.replicate_succ, List.replicate_zero, List.map_cons, List.map_nil, Option.join_some, List.append_nil, Nat.reduceAdd, Nat.reduceLT, Nat.reduceLeDiff, Nat.reduceSub, Nat.reduceEqDiff, if_true, if_false, decide_true, decide_false, Bool.false_eq_true, Bool.not_true, Bool.not_false, e, join_chars (ws := ws) (by omega)]
end Lw

namespace Lw
open PySem VS
def Good (w : List Nat) : Prop := Small w ∧ 1 ≤ w.length ∧ w.length ≤ 12
abbrev nD (w : List Nat) : D := .str (sOf w)
theorem in_names (w : List Nat) (ns : List (List Nat)) : dInB (nD w) (.list (ns.map nD)) = some (decide (w ∈ ns)) := by
  have hf : ∀ l : List (List Nat), (l.map nD).all flatD = true := fun l => by
    induction l with
    | nil => rfl
    | cons x l ih => rw [List.map_cons, List.all_cons, ih]; rfl
  show (if inOk (nD w) (ns.map nD) then some ((ns.map nD).any fun z => z.eqv (nD w)) else none) = _
  rw [if_pos (.inl ⟨rfl, hf ns⟩)]
  congr 1
  induction ns with
  | nil => rfl
  | cons x l ih =>
    rw [List.map_cons, List.any_cons, ih, eqv_str]
    by_cases h : x = w
    · subst h
      simp
    · have h1 : ¬ sOf x = sOf w := fun z => h (sOf_inj z)
      have h2 : ¬ w = x := fun z => h z.symm
      simp [h1, h2]
theorem notIn_names (w : List Nat) (ns : List (List Nat)) : dNotIn (nD w) (.list (ns.map nD)) = some (.bool (!decide (w ∈ ns))) := by
  unfold dNotIn
  rw [in_names]
  rfl
theorem dLen_n {w : List Nat} (h : w.length ≤ 100000) : dLen (nD w) = some (.int w.length) := by
  rw [dLen_s (by rw [sOf_len, PySem.sizeLine_eq]; omega), sOf_len]
theorem dAdd_n {a b : List Nat} (h : a.length + b.length ≤ 100000) : dAdd (nD a) (nD b) = some (.d (nD (a ++ b))) := by
  show dAdd (.str (sOf a)) (.str (sOf b)) = _
  rw [dAdd_str, if_pos (by rw [sOf_len, sOf_len, PySem.sizeLine_eq]; omega), sOf_app]
theorem cut_to {w : List Nat} {k : Int} (h : 0 ≤ k) : L2.cutS (sOf w) none (some k) = sOf (w.take k.toNat) := by
  unfold L2.cutS
  rw [sOf_len, sOf_list]
  have e : HT.sIx w.length 0 none = 0 := rfl
  have e2 : HT.sIx w.length w.length (some k) = min k.toNat w.length := by
    show (if k < 0 then (k + w.length).toNat else min k.toNat w.length) = _
    rw [if_neg (by omega)]
  rw [e, e2, List.drop_zero, Nat.sub_zero]
  unfold sOf
  congr 1
  congr 1
  by_cases hk : k.toNat ≤ w.length
  · rw [Nat.min_eq_left hk]
  · rw [Nat.min_eq_right (by omega), List.take_length, List.take_of_length_le (by omega)]
theorem cut_from {w : List Nat} {k : Int} (h : 0 ≤ k) : L2.cutS (sOf w) (some k) none = sOf (w.drop k.toNat) := by
  unfold L2.cutS
  rw [sOf_len, sOf_list]
  have e : HT.sIx w.length w.length none = w.length := rfl
  have e2 : HT.sIx w.length 0 (some k) = min k.toNat w.length := by
    show (if k < 0 then (k + w.length).toNat else min k.toNat w.length) = _
    rw [if_neg (by omega)]
  rw [e, e2]
  unfold sOf
  congr 1
  congr 1
  by_cases hk : k.toNat ≤ w.length
  · rw [Nat.min_eq_left hk, List.take_of_length_le (by rw [List.length_drop]; omega)]
  · rw [Nat.min_eq_right (by omega), Nat.sub_self, List.take_zero, List.drop_of_length_le (by omega)]
theorem dSl_to {w : List Nat} {k : Int} (h : 0 ≤ k) (hl : w.length ≤ 100000) : dSl (nD w) none (some k) = some (.d (nD (w.take k.toNat))) := by
  rw [dSl_s none (some k) (by rw [sOf_len, PySem.sizeLine_eq]; omega), cut_to h]
theorem dSl_from {w : List Nat} {k : Int} (h : 0 ≤ k) (hl : w.length ≤ 100000) : dSl (nD w) (some k) none = some (.d (nD (w.drop k.toNat))) := by
  rw [dSl_s (some k) none (by rw [sOf_len, PySem.sizeLine_eq]; omega), cut_from h]
theorem intsD_succ (lo : Int) (m : Nat) : intsD lo (m + 1) = .int lo :: intsD (lo + 1) m := by
  unfold intsD
  rw [List.range_succ_eq_map, List.map_cons, List.map_map]
  congr 1
  · simp
  · apply List.map_congr_left
    intro a _
    show PyData.int (lo + ((a + 1 : Nat) : Int)) = PyData.int (lo + 1 + (a : Int))
    congr 1
    omega
theorem nodup_len {α : Type} [DecidableEq α] : ∀ (l ns : List α), l.Nodup → (∀ x ∈ l, x ∈ ns) → l.length ≤ ns.length
  | [], ns, _, _ => Nat.zero_le _
  | x :: l, ns, nd, h => by
    obtain ⟨h1, h2⟩ := List.nodup_cons.mp nd
    have hx : x ∈ ns := h x List.mem_cons_self
    have ih := nodup_len l (ns.erase x) h2 fun y hy => (List.mem_erase_of_ne (fun z => h1 (by rw [← z]; exact hy))).mpr (h y (List.mem_cons_of_mem _ hy))
    rw [List.length_erase_of_mem hx] at ih
    have : 0 < ns.length := List.length_pos_of_mem hx
    rw [List.length_cons]
    omega
def cand (stem : List Nat) (t : Nat) : List Nat := stem ++ [97 + t % 26, 97 + t / 26]
def tried (w stem : List Nat) : Nat → List Nat
  | 0 => w
  | t + 1 => cand stem t
theorem cand_inj {stem : List Nat} {a b : Nat} (h : cand stem a = cand stem b) : a = b := by
  have h' := List.append_cancel_left h
  injection h' with h1 h2
  injection h2 with h2 _
  omega
theorem unlike_go (ns : List (List Nat)) (w stem : List Nat) (hs : stem.length ≤ 10) (hw : w.length ≤ 12) : ∀ (k t : Nat) (o : Option S), t + k ≤ 600 → (∃ t' L, t ≤ t' ∧ t' < t + k ∧
      forGo (fName 4) (gSeq (gIf (gB (gOp dNotIn (gPeek 1) (gPeek 0))) (gRet (gMove 1)) gNext) (gAsg 1 (gOp dAdd (gFz (gOp dAdd (gVar 3) (gIxP 2 (gOp dMod (gVar 4) (gC (.int 26)))))) (gIxP 2 (gOp dDiv (gVar 4) (gC (.int 26)))))))
        (intsD t k) [some (.ol (ns.map nD)), some (.d (nD (tried w stem t))), some (.d (.str abc)), some (.d (nD stem)), o] = .ok (.rt (.d (nD (tried w stem t')))) (some (.ol (ns.map nD)) :: some (.d (nD (tried w stem t'))) :: L) ∧ tried w stem t' ∉ ns) ∨
    ((∀ j, t ≤ j → j < t + k → tried w stem j ∈ ns) ∧ ∃ o', forGo (fName 4) (gSeq (gIf (gB (gOp dNotIn (gPeek 1) (gPeek 0))) (gRet (gMove 1)) gNext) (gAsg 1 (gOp dAdd (gFz (gOp dAdd (gVar 3) (gIxP 2 (gOp dMod (gVar 4) (gC (.int 26)))))) (gIxP 2 (gOp dDiv (gVar 4) (gC (.int 26)))))))
        (intsD t k) [some (.ol (ns.map nD)), some (.d (nD (tried w stem t))), some (.d (.str abc)), some (.d (nD stem)), o] = .ok .nx [some (.ol (ns.map nD)), some (.d (nD (tried w stem (t + k)))), some (.d (.str abc)), some (.d (nD stem)), o'])
  | 0, t, o, _ => .inr ⟨fun j h1 h2 => by omega, o, rfl⟩
  | k + 1, t, o, hk => by
    rw [intsD_succ, forGo_cons (L1 := [some (.ol (ns.map nD)), some (.d (nD (tried w stem t))), some (.d (.str abc)), some (.d (nD stem)), some (.d (.int t))]) _ _ _ _ rfl]
    by_cases hin : tried w stem t ∈ ns
    · have e1 : (t : Int) % 26 = ((t % 26 : Nat) : Int) := by omega
      have e2 : (t : Int) / 26 = ((t / 26 : Nat) : Int) := by omega
      have step : gSeq (gIf (gB (gOp dNotIn (gPeek 1) (gPeek 0))) (gRet (gMove 1)) gNext) (gAsg 1 (gOp dAdd (gFz (gOp dAdd (gVar 3) (gIxP 2 (gOp dMod (gVar 4) (gC (.int 26)))))) (gIxP 2 (gOp dDiv (gVar 4) (gC (.int 26))))))
          [some (.ol (ns.map nD)), some (.d (nD (tried w stem t))), some (.d (.str abc)), some (.d (nD stem)), some (.d (.int t))] = .ok .nx [some (.ol (ns.map nD)), some (.d (nD (tried w stem (t + 1)))), some (.d (.str abc)), some (.d (nD stem)), some (.d (.int t))] := by
        simp only [ev_seq, seqK_nx, seqK_rt, seqK_bk, seqK_ct, seqK_err, ev_next, ev_if, ifK_ok, ifK_err, ev_asg, asgK_ok, asgK_err, ev_ret, retK_ok, retK_err, ev_retN, ev_drop, dropK_ok, dropK_err, ev_c, ev_d, dK_ok, dK_err, ev_fz, fzK_d, fzK_l, fzK_err, ev_op, opK1_ok, opK1_err, opK2_ok, opK2_err, ev_un, unK_ok, unK_err, ev_isi, ev_b, bK_ok, bK_err, ev_and, andK_ok, andK_err, ev_or, orK_ok, orK_err, ev_not, notK_ok, ev_andV, andVK_ok, ev_orV, orVK_ok, ev_ifE, ifEK_ok, ev_nil, ev_cons, consK1_ok, consK1_err, consK2_ok, consK2_err, ev_lst, lstK_ok, ev_tup, tupK_ok, ev_var, varK_d, varK_l, ev_peek, peekK_d, peekK_l, peekK_s, ev_move, moveK_d, moveK_l, ev_ixP, ixK_ok, ixK1_ok, ixK1_err, ixK2_ok, dIx_nat, dIx_natT, dIx_l0, dIx_l1, dIx_l2, dIx_l3, dIx_l4, dIx_t0, dIx_t1, dIx_t2, dIx_t3, ev_setIx, setK0_ok, setK0_err, setK1_ok, setK2_ok, setK3_0, setK3_1, setK3_2, setK3_3, setK3_4, ev_sl, slK1_ok, slK2_ok, slK3_ok, ev_no, ev_so, soK_ok, soK_err, ev_join, joinK1_ok, joinK2_ok, ev_app, appK1_ok, appK2_ok, appK2_err, appK3_ok, ev_a0, ev_aD, ev_aR, eaK1_ok, eaK1_err, eaK3_ok, eaK2_ok, eaK2_err, ev_call, callK_d1, callK_d2, callK_d3, callK_d4, callK_d5, callK_d6, callK_d7, callK_d8, callK_r0, callK_r1, callK_r2, callK_r3, callK_r4, callK_r5, callK_r6, callK_r7, callK_err, backK_ok, backK_err, slotOf_d, slotOf_r, putBack_d, putBack_r, putBack_nil, refs_nil, refs_d, refs_r, ev_run, endOf_nx, endOf_rt, endOf_err, maskL_t, maskL_f, maskL_nil, ev_for, forK_ok, forGo_nil, turnK_nx, turnK_ct, turnK_bk, turnK_rt, turnK_err, bind_ok, asItems_l, asItems_t, asItems_s, ev_name, ev_fnil, ev_fcons, ev_ftup, some_bind, ev_asgT, asgTK_ok, asgTK2_ok, ev_lc, lcK_ok, wipeL_nil, wipeL_cons, ev_yes, lcGo_nil, dLt_i, dLe_i, dGt_i, dGe_i, dEq_i, dEq_s, dEq_b, dNe_i, dNe_s, dIs_b, dSub_i, dLen_l, dLen_t, dList_l, dList_t, dSl_l, dNot_b, ty_n_bool, ty_n_int, ty_n_str, ty_n_list, ty_n_tuple, ty_b_bool, ty_b_int, ty_b_str, ty_b_list, ty_b_tuple, ty_i_bool, ty_i_int, ty_i_str, ty_i_list, ty_i_tuple, ty_s_bool, ty_s_int, ty_s_str, ty_s_list, ty_s_tuple, ty_l_bool, ty_l_int, ty_l_str, ty_l_list, ty_l_tuple, ty_t_bool, ty_t_int, ty_t_str, ty_t_list, ty_t_tuple, dIs_nn, dIs_in, dIs_bn, dIs_sn, dIs_ln, dIs_tn, dNe_b, ev_A, aK_ok, aK_err, dMin_ok, dMax_ok, asZip_l, asZip_t, ev_pop, popK1_ok, ev_cnt, cntK1_ok, cntK2_ok, dAdd_int, ofO_some, ofO_none, List.getElem?_cons_zero, List.getElem?_cons_succ, List.set_cons_zero, List.set_cons_succ, List.length_cons, List.length_nil, List.cons_append, List.nil_append, List.replicate_succ, List.replicate_zero, List.map_cons, List.map_nil, Option.join_some, List.append_nil, Nat.reduceAdd, Nat.reduceLT, Nat.reduceLeDiff, Nat.reduceSub, Nat.reduceEqDiff, if_true, if_false, decide_true, decide_false, Bool.false_eq_true, Bool.not_true, Bool.not_false, notIn_names, hin, dMod_ok (show (0 : Int) < 26 by decide), dDiv_ok (show (0 : Int) < 26 by decide) (show (26 : Int) < 1073741824 by decide)]
        rw [ix_abc (r := (t : Int) % 26) (by omega) (by omega)]
        simp only [ev_seq, seqK_nx, seqK_rt, seqK_bk, seqK_ct, seqK_err, ev_next, ev_if, ifK_ok, ifK_err, ev_asg, asgK_ok, asgK_err, ev_ret, retK_ok, retK_err, ev_retN, ev_drop, dropK_ok, dropK_err, ev_c, ev_d, dK_ok, dK_err, ev_fz, fzK_d, fzK_l, fzK_err, ev_op, opK1_ok, opK1_err, opK2_ok, opK2_err, ev_un, unK_ok, unK_err, ev_isi, ev_b, bK_ok, bK_err, ev_and, andK_ok, andK_err, ev_or, orK_ok, orK_err, ev_not, notK_ok, ev_andV, andVK_ok, ev_orV, orVK_ok, ev_ifE, ifEK_ok, ev_nil, ev_cons, consK1_ok, consK1_err, consK2_ok, consK2_err, ev_lst, lstK_ok, ev_tup, tupK_ok, ev_var, varK_d, varK_l, ev_peek, peekK_d, peekK_l, peekK_s, ev_move, moveK_d, moveK_l, ev_ixP, ixK_ok, ixK1_ok, ixK1_err, ixK2_ok, dIx_nat, dIx_natT, dIx_l0, dIx_l1, dIx_l2, dIx_l3, dIx_l4, dIx_t0, dIx_t1, dIx_t2, dIx_t3, ev_setIx, setK0_ok, setK0_err, setK1_ok, setK2_ok, setK3_0, setK3_1, setK3_2, setK3_3, setK3_4, ev_sl, slK1_ok, slK2_ok, slK3_ok, ev_no, ev_so, soK_ok, soK_err, ev_join, joinK1_ok, joinK2_ok, ev_app, appK1_ok, appK2_ok, appK2_err, appK3_ok, ev_a0, ev_aD, ev_aR, eaK1_ok, eaK1_err, eaK3_ok, eaK2_ok, eaK2_err, ev_call, callK_d1, callK_d2, callK_d3, callK_d4, callK_d5, callK_d6, callK_d7, callK_d8, callK_r0, callK_r1, callK_r2, callK_r3, callK_r4, callK_r5, callK_r6, callK_r7, callK_err, backK_ok, backK_err, slotOf_d, slotOf_r, putBack_d, putBack_r, putBack_nil, refs_nil, refs_d, refs_r, ev_run, endOf_nx, endOf_rt, endOf_err, maskL_t, maskL_f, maskL_nil, ev_for, forK_ok, forGo_nil, turnK_nx, turnK_ct, turnK_bk, turnK_rt, turnK_err, bind_ok, asItems_l, asItems_t, asItems_s, ev_name, ev_fnil, ev_fcons, ev_ftup, some_bind, ev_asgT, asgTK_ok, asgTK2_ok, ev_lc, lcK_ok, wipeL_nil, wipeL_cons, ev_yes, lcGo_nil, dLt_i, dLe_i, dGt_i, dGe_i, dEq_i, dEq_s, dEq_b, dNe_i, dNe_s, dIs_b, dSub_i, dLen_l, dLen_t, dList_l, dList_t, dSl_l, dNot_b, ty_n_bool, ty_n_int, ty_n_str, ty_n_list, ty_n_tuple, ty_b_bool, ty_b_int, ty_b_str, ty_b_list, ty_b_tuple, ty_i_bool, ty_i_int, ty_i_str, ty_i_list, ty_i_tuple, ty_s_bool, ty_s_int, ty_s_str, ty_s_list, ty_s_tuple, ty_l_bool, ty_l_int, ty_l_str, ty_l_list, ty_l_tuple, ty_t_bool, ty_t_int, ty_t_str, ty_t_list, ty_t_tuple, dIs_nn, dIs_in, dIs_bn, dIs_sn, dIs_ln, dIs_tn, dNe_b, ev_A, aK_ok, aK_err, dMin_ok, dMax_ok, asZip_l, asZip_t, ev_pop, popK1_ok, ev_cnt, cntK1_ok, cntK2_ok, dAdd_int, ofO_some, ofO_none, List.getElem?_cons_zero, List.getElem?_cons_succ, List.set_cons_zero, List.set_cons_succ, List.length_cons, List.length_nil, List.cons_append, List.nil_append, List.replicate_succ, List.replicate_zero, List.map_cons, List.map_nil, Option.join_some, List.append_nil, Nat.reduceAdd, Nat.reduceLT, Nat.reduceLeDiff, Nat.reduceSub, Nat.reduceEqDiff, if_true, if_false, decide_true, decide_false, Bool.false_eq_true, Bool.not_true, Bool.not_false]
        rw [dAdd_n (a := stem) (b := [97 + ((t : Int) % 26).toNat]) (by simp; omega)]
        simp only [ev_seq, seqK_nx, seqK_rt, seqK_bk, seqK_ct, seqK_err, ev_next, ev_if, ifK_ok, ifK_err, ev_asg, asgK_ok, asgK_err, ev_ret, retK_ok, retK_err, ev_retN, ev_drop, dropK_ok, dropK_err, ev_c, ev_d, dK_ok, dK_err, ev_fz, fzK_d, fzK_l, fzK_err, ev_op, opK1_ok, opK1_err, opK2_ok, opK2_err, ev_un, unK_ok, unK_err, ev_isi, ev_b, bK_ok, bK_err, ev_and, andK_ok, andK_err, ev_or, orK_ok, orK_err, ev_not, notK_ok, ev_andV, andVK_ok, ev_orV, orVK_ok, ev_ifE, ifEK_ok, ev_nil, ev_cons, consK1_ok, consK1_err, consK2_ok, consK2_err, ev_lst, lstK_ok, ev_tup, tupK_ok, ev_var, varK_d, varK_l, ev_peek, peekK_d, peekK_l, peekK_s, ev_move, moveK_d, moveK_l, ev_ixP, ixK_ok, ixK1_ok, ixK1_err, ixK2_ok, dIx_nat, dIx_natT, dIx_l0, dIx_l1, dIx_l2, dIx_l3, dIx_l4, dIx_t0, dIx_t1, dIx_t2, dIx_t3, ev_setIx, setK0_ok, setK0_err, setK1_ok, setK2_ok, setK3_0, setK3_1, setK3_2, setK3_3, setK3_4, ev_sl, slK1_ok, slK2_ok, slK3_ok, ev_no, ev_so, soK_ok, soK_err, ev_join, joinK1_ok, joinK2_ok, ev_app, appK1_ok, appK2_ok, appK2_err, appK3_ok, ev_a0, ev_aD, ev_aR, eaK1_ok, eaK1_err, eaK3_ok, eaK2_ok, eaK2_err, ev_call, callK_d1, callK_d2, callK_d3, callK_d4, callK_d5, callK_d6, callK_d7, callK_d8, callK_r0, callK_r1, callK_r2, callK_r3, callK_r4, callK_r5, callK_r6, callK_r7, callK_err, backK_ok, backK_err, slotOf_d, slotOf_r, putBack_d, putBack_r, putBack_nil, refs_nil, refs_d, refs_r, ev_run, endOf_nx, endOf_rt, endOf_err, maskL_t, maskL_f, maskL_nil, ev_for, forK_ok, forGo_nil, turnK_nx, turnK_ct, turnK_bk, turnK_rt, turnK_err, bind_ok, asItems_l, asItems_t, asItems_s, ev_name, ev_fnil, ev_fcons, ev_ftup, some_bind, ev_asgT, asgTK_ok, asgTK2_ok, ev_lc, lcK_ok, wipeL_nil, wipeL_cons, ev_yes, lcGo_nil, dLt_i, dLe_i, dGt_i, dGe_i, dEq_i, dEq_s, dEq_b, dNe_i, dNe_s, dIs_b, dSub_i, dLen_l, dLen_t, dList_l, dList_t, dSl_l, dNot_b, ty_n_bool, ty_n_int, ty_n_str, ty_n_list, ty_n_tuple, ty_b_bool, ty_b_int, ty_b_str, ty_b_list, ty_b_tuple, ty_i_bool, ty_i_int, ty_i_str, ty_i_list, ty_i_tuple, ty_s_bool, ty_s_int, ty_s_str, ty_s_list, ty_s_tuple, ty_l_bool, ty_l_int, ty_l_str, ty_l_list, ty_l_tuple, ty_t_bool, ty_t_int, ty_t_str, ty_t_list, ty_t_tuple, dIs_nn, dIs_in, dIs_bn, dIs_sn, dIs_ln, dIs_tn, dNe_b, ev_A, aK_ok, aK_err, dMin_ok, dMax_ok, asZip_l, asZip_t, ev_pop, popK1_ok, ev_cnt, cntK1_ok, cntK2_ok, dAdd_int, ofO_some, ofO_none, List.getElem?_cons_zero, List.getElem?_cons_succ, List.set_cons_zero, List.set_cons_succ, List.length_cons, List.length_nil, List.cons_append, List.nil_append, List.replicate_succ, List.replicate_zero, List.map_cons, List.map_nil, Option.join_some, List.append_nil, Nat.reduceAdd, Nat.reduceLT, Nat.reduceLeDiff, Nat.reduceSub, Nat.reduceEqDiff, if_true, if_false, decide_true, decide_false, Bool.false_eq_true, Bool.not_true, Bool.not_false, dMod_ok (show (0 : Int) < 26 by decide), dDiv_ok (show (0 : Int) < 26 by decide) (show (26 : Int) < 1073741824 by decide)]
        rw [ix_abc (r := (t : Int) / 26) (by omega) (by omega)]
        simp only [ev_seq, seqK_nx, seqK_rt, seqK_bk, seqK_ct, seqK_err, ev_next, ev_if, ifK_ok, ifK_err, ev_asg, asgK_ok, asgK_err, ev_ret, retK_ok, retK_err, ev_retN, ev_drop, dropK_ok, dropK_err, ev_c, ev_d, dK_ok, dK_err, ev_fz, fzK_d, fzK_l, fzK_err, ev_op, opK1_ok, opK1_err, opK2_ok, opK2_err, ev_un, unK_ok, unK_err, ev_isi, ev_b, bK_ok, bK_err, ev_and, andK_ok, andK_err, ev_or, orK_ok, orK_err, ev_not, notK_ok, ev_andV, andVK_ok, ev_orV, orVK_ok, ev_ifE, ifEK_ok, ev_nil, ev_cons, consK1_ok, consK1_err, consK2_ok, consK2_err, ev_lst, lstK_ok, ev_tup, tupK_ok, ev_var, varK_d, varK_l, ev_peek, peekK_d, peekK_l, peekK_s, ev_move, moveK_d, moveK_l, ev_ixP, ixK_ok, ixK1_ok, ixK1_err, ixK2_ok, dIx_nat, dIx_natT, dIx_l0, dIx_l1, dIx_l2, dIx_l3, dIx_l4, dIx_t0, dIx_t1, dIx_t2, dIx_t3, ev_setIx, setK0_ok, setK0_err, setK1_ok, setK2_ok, setK3_0, setK3_1, setK3_2, setK3_3, setK3_4, ev_sl, slK1_ok, slK2_ok, slK3_ok, ev_no, ev_so, soK_ok, soK_err, ev_join, joinK1_ok, joinK2_ok, ev_app, appK1_ok, appK2_ok, appK2_err, appK3_ok, ev_a0, ev_aD, ev_aR, eaK1_ok, eaK1_err, eaK3_ok, eaK2_ok, eaK2_err, ev_call, callK_d1, callK_d2, callK_d3, callK_d4, callK_d5, callK_d6, callK_d7, callK_d8, callK_r0, callK_r1, callK_r2, callK_r3, callK_r4, callK_r5, callK_r6, callK_r7, callK_err, backK_ok, backK_err, slotOf_d, slotOf_r, putBack_d, putBack_r, putBack_nil, refs_nil, refs_d, refs_r, ev_run, endOf_nx, endOf_rt, endOf_err, maskL_t, maskL_f, maskL_nil, ev_for, forK_ok, forGo_nil, turnK_nx, turnK_ct, turnK_bk, turnK_rt, turnK_err, bind_ok, asItems_l, asItems_t, asItems_s, ev_name, ev_fnil, ev_fcons, ev_ftup, some_bind, ev_asgT, asgTK_ok, asgTK2_ok, ev_lc, lcK_ok, wipeL_nil, wipeL_cons, ev_yes, lcGo_nil, dLt_i, dLe_i, dGt_i, dGe_i, dEq_i, dEq_s, dEq_b, dNe_i, dNe_s, dIs_b, dSub_i, dLen_l, dLen_t, dList_l, dList_t, dSl_l, dNot_b, ty_n_bool, ty_n_int, ty_n_str, ty_n_list, ty_n_tuple, ty_b_bool, ty_b_int, ty_b_str, ty_b_list, ty_b_tuple, ty_i_bool, ty_i_int, ty_i_str, ty_i_list, ty_i_tuple, ty_s_bool, ty_s_int, ty_s_str, ty_s_list, ty_s_tuple, ty_l_bool, ty_l_int, ty_l_str, ty_l_list, ty_l_tuple, ty_t_bool, ty_t_int, ty_t_str, ty_t_list, ty_t_tuple, dIs_nn, dIs_in, dIs_bn, dIs_sn, dIs_ln, dIs_tn, dNe_b, ev_A, aK_ok, aK_err, dMin_ok, dMax_ok, asZip_l, asZip_t, ev_pop, popK1_ok, ev_cnt, cntK1_ok, cntK2_ok, dAdd_int, ofO_some, ofO_none, List.getElem?_cons_zero, List.getElem?_cons_succ, List.set_cons_zero, List.set_cons_succ, List.length_cons, List.length_nil, List.cons_append, List.nil_append, List.replicate_succ, List.replicate_zero, List.map_cons, List.map_nil, Option.join_some, List.append_nil, Nat.reduceAdd, Nat.reduceLT, Nat.reduceLeDiff, Nat.reduceSub, Nat.reduceEqDiff, if_true, if_false, decide_true, decide_false, Bool.false_eq_true, Bool.not_true, Bool.not_false]
        rw [dAdd_n (a := stem ++ [97 + ((t : Int) % 26).toNat]) (b := [97 + ((t : Int) / 26).toNat]) (by simp; omega)]
        simp only [ev_seq, seqK_nx, seqK_rt, seqK_bk, seqK_ct, seqK_err, ev_next, ev_if, ifK_ok, ifK_err, ev_asg, asgK_ok, asgK_err, ev_ret, retK_ok, retK_err, ev_retN, ev_drop, dropK_ok, dropK_err, ev_c, ev_d, dK_ok, dK_err, ev_fz, fzK_d, fzK_l, fzK_err, ev_op, opK1_ok, opK1_err, opK2_ok, opK2_err, ev_un, unK_ok, unK_err, ev_isi, ev_b, bK_ok, bK_err, ev_and, andK_ok, andK_err, ev_or, orK_ok, orK_err, ev_not, notK_ok, ev_andV, andVK_ok, ev_orV, orVK_ok, ev_ifE, ifEK_ok, ev_nil, ev_cons, consK1_ok, consK1_err, consK2_ok, consK2_err, ev_lst, lstK_ok, ev_tup, tupK_ok, ev_var, varK_d, varK_l, ev_peek, peekK_d, peekK_l, peekK_s, ev_move, moveK_d, moveK_l, ev_ixP, ixK_ok, ixK1_ok, ixK1_err, ixK2_ok, dIx_nat, dIx_natT, dIx_l0, dIx_l1, dIx_l2, dIx_l3, dIx_l4, dIx_t0, dIx_t1, dIx_t2, dIx_t3, ev_setIx, setK0_ok, setK0_err, setK1_ok, setK2_ok, setK3_0, setK3_1, setK3_2, setK3_3, setK3_4, ev_sl, slK1_ok, slK2_ok, slK3_ok, ev_no, ev_so, soK_ok, soK_err, ev_join, joinK1_ok, joinK2_ok, ev_app, appK1_ok, appK2_ok, appK2_err, appK3_ok, ev_a0, ev_aD, ev_aR, eaK1_ok, eaK1_err, eaK3_ok, eaK2_ok, eaK2_err, ev_call, callK_d1, callK_d2, callK_d3, callK_d4, callK_d5, callK_d6, callK_d7, callK_d8, callK_r0, callK_r1, callK_r2, callK_r3, callK_r4, callK_r5, callK_r6, callK_r7, callK_err, backK_ok, backK_err, slotOf_d, slotOf_r, putBack_d, putBack_r, putBack_nil, refs_nil, refs_d, refs_r, ev_run, endOf_nx, endOf_rt, endOf_err, maskL_t, maskL_f, maskL_nil, ev_for, forK_ok, forGo_nil, turnK_nx, turnK_ct, turnK_bk, turnK_rt, turnK_err, bind_ok, asItems_l, asItems_t, asItems_s, ev_name, ev_fnil, ev_fcons, ev_ftup, some_bind, ev_asgT, asgTK_ok, asgTK2_ok, ev_lc, lcK_ok, wipeL_nil, wipeL_cons, ev_yes, lcGo_nil, dLt_i, dLe_i, dGt_i, dGe_i, dEq_i, dEq_s, dEq_b, dNe_i, dNe_s, dIs_b, dSub_i, dLen_l, dLen_t, dList_l, dList_t, dSl_l, dNot_b, ty_n_bool, ty_n_int, ty_n_str, ty_n_list, ty_n_tuple, ty_b_bool, ty_b_int, ty_b_str, ty_b_list, ty_b_tuple, ty_i_bool, ty_i_int, ty_i_str, ty_i_list, ty_i_tuple, ty_s_bool, ty_s_int, ty_s_str, ty_s_list, ty_s_tuple, ty_l_bool, ty_l_int, ty_l_str, ty_l_list, ty_l_tuple, ty_t_bool, ty_t_int, ty_t_str, ty_t_list, ty_t_tuple, dIs_nn, dIs_in, dIs_bn, dIs_sn, dIs_ln, dIs_tn, dNe_b, ev_A, aK_ok, aK_err, dMin_ok, dMax_ok, asZip_l, asZip_t, ev_pop, popK1_ok, ev_cnt, cntK1_ok, cntK2_ok, dAdd_int, ofO_some, ofO_none, List.getElem?_cons_zero, List.getElem?_cons_succ, List.set_cons_zero, List.set_cons_succ, List.length_cons, List.length_nil, List.cons_append, List.nil_append, List.replicate_succ, List.replicate_zero, List.map_cons, List.map_nil, Option.join_some, List.append_nil, Nat.reduceAdd, Nat.reduceLT, Nat.reduceLeDiff, Nat.reduceSub, Nat.reduceEqDiff, if_true, if_false, decide_true, decide_false, Bool.false_eq_true, Bool.not_true, Bool.not_false]
        rw [e1, e2, Int.toNat_natCast, Int.toNat_natCast, List.append_assoc]
        rfl
      rw [step, turnK_nx]
      rcases unlike_go ns w stem hs hw k (t + 1) (some (.d (.int t))) (by omega) with ⟨t', L, h1, h2, h3, h4⟩ | ⟨h1, o', h2⟩
      · exact .inl ⟨t', L, by omega, by omega, h3, h4⟩
      · refine .inr ⟨fun j h3 h4 => ?_, o', ?_⟩
        · by_cases hj : j = t
          · rw [hj]
            exact hin
          · exact h1 j (by omega) (by omega)
        · have e : t + 1 + k = t + (k + 1) := by omega
          rw [e] at h2
          exact h2
    · refine .inl ⟨t, [some (.d (.str abc)), some (.d (nD stem)), some (.d (.int t))], Nat.le_refl t, by omega, ?_, hin⟩
      have step : gSeq (gIf (gB (gOp dNotIn (gPeek 1) (gPeek 0))) (gRet (gMove 1)) gNext) (gAsg 1 (gOp dAdd (gFz (gOp dAdd (gVar 3) (gIxP 2 (gOp dMod (gVar 4) (gC (.int 26)))))) (gIxP 2 (gOp dDiv (gVar 4) (gC (.int 26))))))
          [some (.ol (ns.map nD)), some (.d (nD (tried w stem t))), some (.d (.str abc)), some (.d (nD stem)), some (.d (.int t))] = .ok (.rt (.d (nD (tried w stem t)))) [some (.ol (ns.map nD)), some (.d (nD (tried w stem t))), some (.d (.str abc)), some (.d (nD stem)), some (.d (.int t))] := by
        simp only [ev_seq, seqK_nx, seqK_rt, seqK_bk, seqK_ct, seqK_err, ev_next, ev_if, ifK_ok, ifK_err, ev_asg, asgK_ok, asgK_err, ev_ret, retK_ok, retK_err, ev_retN, ev_drop, dropK_ok, dropK_err, ev_c, ev_d, dK_ok, dK_err, ev_fz, fzK_d, fzK_l, fzK_err, ev_op, opK1_ok, opK1_err, opK2_ok, opK2_err, ev_un, unK_ok, unK_err, ev_isi, ev_b, bK_ok, bK_err, ev_and, andK_ok, andK_err, ev_or, orK_ok, orK_err, ev_not, notK_ok, ev_andV, andVK_ok, ev_orV, orVK_ok, ev_ifE, ifEK_ok, ev_nil, ev_cons, consK1_ok, consK1_err, consK2_ok, consK2_err, ev_lst, lstK_ok, ev_tup, tupK_ok, ev_var, varK_d, varK_l, ev_peek, peekK_d, peekK_l, peekK_s, ev_move, moveK_d, moveK_l, ev_ixP, ixK_ok, ixK1_ok, ixK1_err, ixK2_ok, dIx_nat, dIx_natT, dIx_l0, dIx_l1, dIx_l2, dIx_l3, dIx_l4, dIx_t0, dIx_t1, dIx_t2, dIx_t3, ev_setIx, setK0_ok, setK0_err, setK1_ok, setK2_ok, setK3_0, setK3_1, setK3_2, setK3_3, setK3_4, ev_sl, slK1_ok, slK2_ok, slK3_ok, ev_no, ev_so, soK_ok, soK_err, ev_join, joinK1_ok, joinK2_ok, ev_app, appK1_ok, appK2_ok, appK2_err, appK3_ok, ev_a0, ev_aD, ev_aR, eaK1_ok, eaK1_err, eaK3_ok, eaK2_ok, eaK2_err, ev_call, callK_d1, callK_d2, callK_d3, callK_d4, callK_d5, callK_d6, callK_d7, callK_d8, callK_r0, callK_r1, callK_r2, callK_r3, callK_r4, callK_r5, callK_r6, callK_r7, callK_err, backK_ok, backK_err, slotOf_d, slotOf_r, putBack_d, putBack_r, putBack_nil, refs_nil, refs_d, refs_r, ev_run, endOf_nx, endOf_rt, endOf_err, maskL_t, maskL_f, maskL_nil, ev_for, forK_ok, forGo_nil, turnK_nx, turnK_ct, turnK_bk, turnK_rt, turnK_err, bind_ok, asItems_l, asItems_t, asItems_s, ev_name, ev_fnil, ev_fcons, ev_ftup, some_bind, ev_asgT, asgTK_ok, asgTK2_ok, ev_lc, lcK_ok, wipeL_nil, wipeL_cons, ev_yes, lcGo_nil, dLt_i, dLe_i, dGt_i, dGe_i, dEq_i, dEq_s, dEq_b, dNe_i, dNe_s, dIs_b, dSub_i, dLen_l, dLen_t, dList_l, dList_t, dSl_l, dNot_b, ty_n_bool, ty_n_int, ty_n_str, ty_n_list, ty_n_tuple, ty_b_bool, ty_b_int, ty_b_str, ty_b_list, ty_b_tuple, ty_i_bool, ty_i_int, ty_i_str, ty_i_list, ty_i_tuple, ty_s_bool, ty_s_int, ty_s_str, ty_s_list, ty_s_tuple, ty_l_bool, ty_l_int, ty_l_str, ty_l_list, ty_l_tuple, ty_t_bool, ty_t_int, ty_t_str, ty_t_list, ty_t_tuple, dIs_nn, dIs_in, dIs_bn, dIs_sn, dIs_ln, dIs_tn, dNe_b, ev_A, aK_ok, aK_err, dMin_ok, dMax_ok, asZip_l, asZip_t, ev_pop, popK1_ok, ev_cnt, cntK1_ok, cntK2_ok, dAdd_int, ofO_some, ofO_none, List.getElem?_cons_zero, List.getElem?_cons_succ, List.set_cons_zero, List.set_cons_succ, List.length_cons, List.length_nil, List.cons_append, List.nil_append, List.replicate_succ, List.replicate_zero, List.map_cons, List.map_nil, Option.join_some, List.append_nil, Nat.reduceAdd, Nat.reduceLT, Nat.reduceLeDiff, Nat.reduceSub, Nat.reduceEqDiff, if_true, if_false, decide_true, decide_false, Bool.false_eq_true, Bool.not_true, Bool.not_false, notIn_names, hin]
      rw [step, turnK_rt]
theorem tried_good {w : List Nat} (hw : Good w) {t : Nat} (ht : t ≤ 600) : Good (tried w (w.take 10) t) := by
  cases t with
  | zero => exact hw
  | succ t =>
    refine ⟨(hw.1.take 10).app fun c hc => ?_, ?_, ?_⟩
    · rcases List.mem_cons.mp hc with rfl | hc
      · omega
      · rw [List.mem_singleton] at hc
        omega
    · show 1 ≤ (w.take 10 ++ _).length
      rw [List.length_append]
      simp
    · show (w.take 10 ++ _).length ≤ 12
      rw [List.length_append, List.length_take]
      simp
      omega
theorem unlike_pre (ns : List (List Nat)) (w : List Nat) (hw : w.length ≤ 12) (X : LS → R O) : runDef [true, false] 5 (gSeq (gAsg 2 (gD (gC (.str abc)))) (gSeq (gAsg 3 (gSl (gPeek 1) gNo (gSo (gC (.int 10))))) X)) [some (.ol (ns.map nD)), some (.d (nD w))] = endOf [true, false] (X [some (.ol (ns.map nD)), some (.d (nD w)), some (.d (.str abc)), some (.d (nD (w.take 10))), none]) := by
  have h10 : dSl (nD w) none (some 10) = some (.d (nD (w.take 10))) := dSl_to (by decide) (by omega)
  simp only [ev_seq, seqK_nx, seqK_rt, seqK_bk, seqK_ct, seqK_err, ev_next, ev_if, ifK_ok, ifK_err, ev_asg, asgK_ok, asgK_err, ev_ret, retK_ok, retK_err, ev_retN, ev_drop, dropK_ok, dropK_err, ev_c, ev_d, dK_ok, dK_err, ev_fz, fzK_d, fzK_l, fzK_err, ev_op, opK1_ok, opK1_err, opK2_ok, opK2_err, ev_un, unK_ok, unK_err, ev_isi, ev_b, bK_ok, bK_err, ev_and, andK_ok, andK_err, ev_or, orK_ok, orK_err, ev_not, notK_ok, ev_andV, andVK_ok, ev_orV, orVK_ok, ev_ifE, ifEK_ok, ev_nil, ev_cons, consK1_ok, consK1_err, consK2_ok, consK2_err, ev_lst, lstK_ok, ev_tup, tupK_ok, ev_var, varK_d, varK_l, ev_peek, peekK_d, peekK_l, peekK_s, ev_move, moveK_d, moveK_l, ev_ixP, ixK_ok, ixK1_ok, ixK1_err, ixK2_ok, dIx_nat, dIx_natT, dIx_l0, dIx_l1, dIx_l2, dIx_l3, dIx_l4, dIx_t0, dIx_t1, dIx_t2, dIx_t3, ev_setIx, setK0_ok, setK0_err, setK1_ok, setK2_ok, setK3_0, setK3_1, setK3_2, setK3_3, setK3_4, ev_sl, slK1_ok, slK2_ok, slK3_ok, ev_no, ev_so, soK_ok, soK_err, ev_join, joinK1_ok, joinK2_ok, ev_app, appK1_ok, appK2_ok, appK2_err, appK3_ok, ev_a0, ev_aD, ev_aR, eaK1_ok, eaK1_err, eaK3_ok, eaK2_ok, eaK2_err, ev_call, callK_d1, callK_d2, callK_d3, callK_d4, callK_d5, callK_d6, callK_d7, callK_d8, callK_r0, callK_r1, callK_r2, callK_r3, callK_r4, callK_r5, callK_r6, callK_r7, callK_err, backK_ok, backK_err, slotOf_d, slotOf_r, putBack_d, putBack_r, putBack_nil, refs_nil, refs_d, refs_r, ev_run, endOf_nx, endOf_rt, endOf_err, maskL_t, maskL_f, maskL_nil, ev_for, forK_ok, forGo_nil, turnK_nx, turnK_ct, turnK_bk, turnK_rt, turnK_err, bind_ok, asItems_l, asItems_t, asItems_s, ev_name, ev_fnil, ev_fcons, ev_ftup, some_bind, ev_asgT, asgTK_ok, asgTK2_ok, ev_lc, lcK_ok, wipeL_nil, wipeL_cons, ev_yes, lcGo_nil, dLt_i, dLe_i, dGt_i, dGe_i, dEq_i, dEq_s, dEq_b, dNe_i, dNe_s, dIs_b, dSub_i, dLen_l, dLen_t, dList_l, dList_t, dSl_l, dNot_b, ty_n_bool, ty_n_int, ty_n_str, ty_n_list, ty_n_tuple, ty_b_bool, ty_b_int, ty_b_str, ty_b_list, ty_b_tuple, ty_i_bool, ty_i_int, ty_i_str, ty_i_list, ty_i_tuple, ty_s_bool, ty_s_int, ty_s_str, ty_s_list, ty_s_tuple, ty_l_bool, ty_l_int, ty_l_str, ty_l_list, ty_l_tuple, ty_t_bool, ty_t_int, ty_t_str, ty_t_list, ty_t_tuple, dIs_nn, dIs_in, dIs_bn, dIs_sn, dIs_ln, dIs_tn, dNe_b, ev_A, aK_ok, aK_err, dMin_ok, dMax_ok, asZip_l, asZip_t, ev_pop, popK1_ok, ev_cnt, cntK1_ok, cntK2_ok, dAdd_int, ofO_some, ofO_none, List.getElem?_cons_zero, List.getElem?_cons_succ, List.set_cons_zero, List.set_cons_succ, List.length_cons, List.length_nil, List.cons_append, List.nil_append, List.replicate_succ, List.replicate_zero, List.map_cons, List.map_nil, Option.join_some, List.append_nil, Nat.reduceAdd, Nat.reduceLT, Nat.reduceLeDiff, Nat.reduceSub, Nat.reduceEqDiff, if_true, if_false, decide_true, decide_false, Bool.false_eq_true, Bool.not_true, Bool.not_false, h10]
theorem len_rng1 (ns : List D) (o p q r : Option S) : gFz (gOp dAdd (gUn dLen (gPeek 0)) (gC (.int 1))) [some (.ol ns), o, p, q, r] = .ok (.int ((ns.length : Int) + 1)) [some (.ol ns), o, p, q, r] := by
  simp only [ev_seq, seqK_nx, seqK_rt, seqK_bk, seqK_ct, seqK_err, ev_next, ev_if, ifK_ok, ifK_err, ev_asg, asgK_ok, asgK_err, ev_ret, retK_ok, retK_err, ev_retN, ev_drop, dropK_ok, dropK_err, ev_c, ev_d, dK_ok, dK_err, ev_fz, fzK_d, fzK_l, fzK_err, ev_op, opK1_ok, opK1_err, opK2_ok, opK2_err, ev_un, unK_ok, unK_err, ev_isi, ev_b, bK_ok, bK_err, ev_and, andK_ok, andK_err, ev_or, orK_ok, orK_err, ev_not, notK_ok, ev_andV, andVK_ok, ev_orV, orVK_ok, ev_ifE, ifEK_ok, ev_nil, ev_cons, consK1_ok, consK1_err, consK2_ok, consK2_err, ev_lst, lstK_ok, ev_tup, tupK_ok, ev_var, varK_d, varK_l, ev_peek, peekK_d, peekK_l, peekK_s, ev_move, moveK_d, moveK_l, ev_ixP, ixK_ok, ixK1_ok, ixK1_err, ixK2_ok, dIx_nat, dIx_natT, dIx_l0, dIx_l1, dIx_l2, dIx_l3, dIx_l4, dIx_t0, dIx_t1, dIx_t2, dIx_t3, ev_setIx, setK0_ok, setK0_err, setK1_ok, setK2_ok, setK3_0, setK3_1, setK3_2, setK3_3, setK3_4, ev_sl, slK1_ok, slK2_ok, slK3_ok, ev_no, ev_so, soK_ok, soK_err, ev_join, joinK1_ok, joinK2_ok, ev_app, appK1_ok, appK2_ok, appK2_err, appK3_ok, ev_a0, ev_aD, ev_aR, eaK1_ok, eaK1_err, eaK3_ok, eaK2_ok, eaK2_err, ev_call, callK_d1, callK_d2, callK_d3, callK_d4, callK_d5, callK_d6, callK_d7, callK_d8, callK_r0, callK_r1, callK_r2, callK_r3, callK_r4, callK_r5, callK_r6, callK_r7, callK_err, backK_ok, backK_err, slotOf_d, slotOf_r, putBack_d, putBack_r, putBack_nil, refs_nil, refs_d, refs_r, ev_run, endOf_nx, endOf_rt, endOf_err, maskL_t, maskL_f, maskL_nil, ev_for, forK_ok, forGo_nil, turnK_nx, turnK_ct, turnK_bk, turnK_rt, turnK_err, bind_ok, asItems_l, asItems_t, asItems_s, ev_name, ev_fnil, ev_fcons, ev_ftup, some_bind, ev_asgT, asgTK_ok, asgTK2_ok, ev_lc, lcK_ok, wipeL_nil, wipeL_cons, ev_yes, lcGo_nil, dLt_i, dLe_i, dGt_i, dGe_i, dEq_i, dEq_s, dEq_b, dNe_i, dNe_s, dIs_b, dSub_i, dLen_l, dLen_t, dList_l, dList_t, dSl_l, dNot_b, ty_n_bool, ty_n_int, ty_n_str, ty_n_list, ty_n_tuple, ty_b_bool, ty_b_int, ty_b_str, ty_b_list, ty_b_tuple, ty_i_bool, ty_i_int, ty_i_str, ty_i_list, ty_i_tuple, ty_s_bool, ty_s_int, ty_s_str, ty_s_list, ty_s_tuple, ty_l_bool, ty_l_int, ty_l_str, ty_l_list, ty_l_tuple, ty_t_bool, ty_t_int, ty_t_str, ty_t_list, ty_t_tuple, dIs_nn, dIs_in, dIs_bn, dIs_sn, dIs_ln, dIs_tn, dNe_b, ev_A, aK_ok, aK_err, dMin_ok, dMax_ok, asZip_l, asZip_t, ev_pop, popK1_ok, ev_cnt, cntK1_ok, cntK2_ok, dAdd_int, ofO_some, ofO_none, List.getElem?_cons_zero, List.getElem?_cons_succ, List.set_cons_zero, List.set_cons_succ, List.length_cons, List.length_nil, List.cons_append, List.nil_append, List.replicate_succ, List.replicate_zero, List.map_cons, List.map_nil, Option.join_some, List.append_nil, Nat.reduceAdd, Nat.reduceLT, Nat.reduceLeDiff, Nat.reduceSub, Nat.reduceEqDiff, if_true, if_false, decide_true, decide_false, Bool.false_eq_true, Bool.not_true, Bool.not_false]
theorem len_rng2 (ns : List D) (o p q r : Option S) : (gCons (gFz (gOp dAdd (gUn dLen (gPeek 0)) (gC (.int 1)))) gNil [some (.ol ns), o, p, q, r]) = .ok [.int ((ns.length : Int) + 1)] [some (.ol ns), o, p, q, r] := by
  rw [ev_cons, len_rng1]
  rfl
theorem len_rng (ns : List D) (hn : ns.length ≤ 500) (o p q r : Option S) : (gCons (gFz (gOp dAdd (gUn dLen (gPeek 0)) (gC (.int 1)))) gNil [some (.ol ns), o, p, q, r]).bind rng1 = .ok (intsD 0 ((ns.length : Int) + 1).toNat) [some (.ol ns), o, p, q, r] := by
  rw [len_rng2, bind_ok, rng1_at (by omega) (by omega)]
theorem unlike_rng (ns : List (List Nat)) (w st : List Nat) (hn : ns.length ≤ 500) : (gCons (gFz (gOp dAdd (gUn dLen (gPeek 0)) (gC (.int 1)))) gNil [some (.ol (ns.map nD)), some (.d (nD w)), some (.d (.str abc)), some (.d (nD st)), none]).bind rng1 = .ok (intsD 0 (ns.length + 1)) [some (.ol (ns.map nD)), some (.d (nD w)), some (.d (.str abc)), some (.d (nD st)), none] := by
  rw [len_rng _ (by rw [List.length_map]; exact hn), List.length_map, show ((ns.length : Int) + 1).toNat = ns.length + 1 by omega]
theorem unlike_ok {ns : List (List Nat)} {w : List Nat} (hn : ns.length ≤ 500) (hw : Good w) : ∃ w', m_law_unlike [some (.ol (ns.map nD)), some (.d (nD w))] = .ok (.d (nD w')) [some (.ol (ns.map nD)), none] ∧ Good w' ∧ w' ∉ ns := by
  have hs : (w.take 10).length ≤ 10 := by rw [List.length_take]; omega
  unfold m_law_unlike g_law_unlike
  rw [unlike_pre ns w hw.2.2, ev_seq, ev_for, unlike_rng ns w (w.take 10) hn, forK_ok]
  rcases unlike_go ns w (w.take 10) hs hw.2.2 (ns.length + 1) 0 none (by omega) with ⟨t', L, h1, h2, h3, h4⟩ | ⟨h1, o', h2⟩
  · have h3' := h3
    rw [show tried w (w.take 10) 0 = w from rfl] at h3'
    rw [show ((0 : Nat) : Int) = 0 from rfl] at h3'
    rw [h3', seqK_rt]
    exact ⟨tried w (w.take 10) t', rfl, tried_good hw (by omega), h4⟩
  · have h2' := h2
    rw [show tried w (w.take 10) 0 = w from rfl] at h2'
    rw [show ((0 : Nat) : Int) = 0 from rfl] at h2'
    rw [h2', seqK_nx]
    refine ⟨tried w (w.take 10) (0 + (ns.length + 1)), rfl, tried_good hw (by omega), fun hin => ?_⟩
    have nd : ((List.range (ns.length + 1)).map (cand (w.take 10))).Nodup := by
      rw [List.nodup_iff_pairwise_ne, List.pairwise_map]
      exact (List.nodup_iff_pairwise_ne.mp List.nodup_range).imp fun h z => h (cand_inj z)
    have := nodup_len _ ns nd fun x hx => by
      obtain ⟨t, ht, rfl⟩ := List.mem_map.mp hx
      have ht' := List.mem_range.mp ht
      by_cases e : t = ns.length
      · subst e
        rw [Nat.zero_add] at hin
        exact hin
      · exact h1 (t + 1) (by omega) (by omega)
    rw [List.length_map, List.length_range] at this
    omega
end Lw

namespace Lw
open PySem VS
theorem small_mix {st x : List Nat} {a : Nat} (hs : Small st) (hx : Small x) (h : a < st.length) (hl : x.length = 1) (hle : st.length ≤ 12) : Good (st.take a ++ x ++ st.drop (a + 1)) := by
  refine ⟨((hs.take a).app hx).app (hs.drop (a + 1)), ?_, ?_⟩
  · rw [List.length_append, List.length_append, List.length_take, List.length_drop, hl]; omega
  · rw [List.length_append, List.length_append, List.length_take, List.length_drop, hl]; omega
abbrev namesBody : LS → R O := (gSeq (gAsg 7 (gOp dAdd (gFz (gOp dAdd (gFz (gSl (gPeek 3) gNo (gSo (gVar 4)))) (gFz (gCall m_law_word [.r 0, .d (gC (.int 1))])))) (gFz (gSl (gPeek 3) (gSo (gFz (gOp dAdd (gVar 4) (gC (.int 1))))) gNo))))
    (gSeq (gIf (gB (gOp dEq (gPeek 2) (gC (.int 1)))) (gAsg 7 (gSl (gVar 3) gNo (gSo (gFz (gOp dAdd (gC (.int 1)) (gFz (gCall m_law_next [.r 0, .d (gUn dLen (gPeek 3))]))))))) gNext)
    (gSeq (gIf (gB (gOp dEq (gPeek 2) (gC (.int 2)))) (gAsg 7 (gCall m_law_word [.r 0, .d (gFz (gOp dAdd (gC (.int 1)) (gFz (gCall m_law_next [.r 0, .d (gC (.int 12))]))))])) gNext)
    (gDrop (gApp 5 (gFz (gCall m_law_unlike [.r 5, .d (gVar 7)])))))))
theorem names_turn {many style : Int} {st : List Nat} {a : Nat} (hst : Small st) (ha : a < st.length) (hle : st.length ≤ 11) {s : S} (hs : Src s) {ns : List (List Nat)} (hn : ns.length ≤ 500) (o6 o7 : Option S) :
    ∃ w' s' o7', namesBody [some s, some (.d (.int many)), some (.d (.int style)), some (.d (nD st)), some (.d (.int a)), some (.ol (ns.map nD)), o6, o7]
      = .ok .nx [some s', some (.d (.int many)), some (.d (.int style)), some (.d (nD st)), some (.d (.int a)), some (.ol ((ns ++ [w']).map nD)), o6, o7'] ∧ Good w' ∧ w' ∉ ns ∧ Src s' := by
  obtain ⟨x, s1, e1, l1, k1, hs1⟩ := word_ok hs (m := 1) (by decide) (by decide)
  have l1' : x.length = 1 := l1
  have hmix := small_mix hst k1 ha l1' (by omega)
  have c1 : dSl (nD st) none (some (a : Int)) = some (.d (nD (st.take a))) := dSl_to (by omega) (by omega)
  have c2 : dSl (nD st) (some ((a : Int) + 1)) none = some (.d (nD (st.drop (a + 1)))) := dSl_from (k := (a : Int) + 1) (by omega) (by omega)
  have a1 : dAdd (nD (st.take a)) (nD x) = some (.d (nD (st.take a ++ x))) := dAdd_n (by rw [List.length_take]; omega)
  have a2 : dAdd (nD (st.take a ++ x)) (nD (st.drop (a + 1))) = some (.d (nD (st.take a ++ x ++ st.drop (a + 1)))) := dAdd_n (by rw [List.length_append, List.length_take, List.length_drop]; omega)
  have fin : ∀ (w : List Nat) (s : S), Good w → Src s → ∃ w', (gDrop (gApp 5 (gFz (gCall m_law_unlike [.r 5, .d (gVar 7)])))) [some s, some (.d (.int many)), some (.d (.int style)), some (.d (nD st)), some (.d (.int a)), some (.ol (ns.map nD)), o6, some (.d (nD w))]
      = .ok .nx [some s, some (.d (.int many)), some (.d (.int style)), some (.d (nD st)), some (.d (.int a)), some (.ol ((ns ++ [w']).map nD)), o6, some (.d (nD w))] ∧ Good w' ∧ w' ∉ ns := fun w s hw hs => by
    obtain ⟨w', e, g, ni⟩ := unlike_ok hn hw
    refine ⟨w', ?_, g, ni⟩
    have hz : (ns.map nD).length < sizeLine := by rw [List.length_map, PySem.sizeLine_eq]; omega
    simp only [ev_seq, seqK_nx, seqK_rt, seqK_bk, seqK_ct, seqK_err, ev_next, ev_if, ifK_ok, ifK_err, ev_asg, asgK_ok, asgK_err, ev_ret, retK_ok, retK_err, ev_retN, ev_drop, dropK_ok, dropK_err, ev_c, ev_d, dK_ok, dK_err, ev_fz, fzK_d, fzK_l, fzK_err, ev_op, opK1_ok, opK1_err, opK2_ok, opK2_err, ev_un, unK_ok, unK_err, ev_isi, ev_b, bK_ok, bK_err, ev_and, andK_ok, andK_err, ev_or, orK_ok, orK_err, ev_not, notK_ok, ev_andV, andVK_ok, ev_orV, orVK_ok, ev_ifE, ifEK_ok, ev_nil, ev_cons, consK1_ok, consK1_err, consK2_ok, consK2_err, ev_lst, lstK_ok, ev_tup, tupK_ok, ev_var, varK_d, varK_l, ev_peek, peekK_d, peekK_l, peekK_s, ev_move, moveK_d, moveK_l, ev_ixP, ixK_ok, ixK1_ok, ixK1_err, ixK2_ok, dIx_nat, dIx_natT, dIx_l0, dIx_l1, dIx_l2, dIx_l3, dIx_l4, dIx_t0, dIx_t1, dIx_t2, dIx_t3, ev_setIx, setK0_ok, setK0_err, setK1_ok, setK2_ok, setK3_0, setK3_1, setK3_2, setK3_3, setK3_4, ev_sl, slK1_ok, slK2_ok, slK3_ok, ev_no, ev_so, soK_ok, soK_err, ev_join, joinK1_ok, joinK2_ok, ev_app, appK1_ok, appK2_ok, appK2_err, appK3_ok, ev_a0, ev_aD, ev_aR, eaK1_ok, eaK1_err, eaK3_ok, eaK2_ok, eaK2_err, ev_call, callK_d1, callK_d2, callK_d3, callK_d4, callK_d5, callK_d6, callK_d7, callK_d8, callK_r0, callK_r1, callK_r2, callK_r3, callK_r4, callK_r5, callK_r6, callK_r7, callK_err, backK_ok, backK_err, slotOf_d, slotOf_r, putBack_d, putBack_r, putBack_nil, refs_nil, refs_d, refs_r, ev_run, endOf_nx, endOf_rt, endOf_err, maskL_t, maskL_f, maskL_nil, ev_for, forK_ok, forGo_nil, turnK_nx, turnK_ct, turnK_bk, turnK_rt, turnK_err, bind_ok, asItems_l, asItems_t, asItems_s, ev_name, ev_fnil, ev_fcons, ev_ftup, some_bind, ev_asgT, asgTK_ok, asgTK2_ok, ev_lc, lcK_ok, wipeL_nil, wipeL_cons, ev_yes, lcGo_nil, dLt_i, dLe_i, dGt_i, dGe_i, dEq_i, dEq_s, dEq_b, dNe_i, dNe_s, dIs_b, dSub_i, dLen_l, dLen_t, dList_l, dList_t, dSl_l, dNot_b, ty_n_bool, ty_n_int, ty_n_str, ty_n_list, ty_n_tuple, ty_b_bool, ty_b_int, ty_b_str, ty_b_list, ty_b_tuple, ty_i_bool, ty_i_int, ty_i_str, ty_i_list, ty_i_tuple, ty_s_bool, ty_s_int, ty_s_str, ty_s_list, ty_s_tuple, ty_l_bool, ty_l_int, ty_l_str, ty_l_list, ty_l_tuple, ty_t_bool, ty_t_int, ty_t_str, ty_t_list, ty_t_tuple, dIs_nn, dIs_in, dIs_bn, dIs_sn, dIs_ln, dIs_tn, dNe_b, ev_A, aK_ok, aK_err, dMin_ok, dMax_ok, asZip_l, asZip_t, ev_pop, popK1_ok, ev_cnt, cntK1_ok, cntK2_ok, dAdd_int, ofO_some, ofO_none, List.getElem?_cons_zero, List.getElem?_cons_succ, List.set_cons_zero, List.set_cons_succ, List.length_cons, List.length_nil, List.cons_append, List.nil_append, List.replicate_succ, List.replicate_zero, List.map_cons, List.map_nil, Option.join_some, List.append_nil, Nat.reduceAdd, Nat.reduceLT, Nat.reduceLeDiff, Nat.reduceSub, Nat.reduceEqDiff, if_true, if_false, decide_true, decide_false, Bool.false_eq_true, Bool.not_true, Bool.not_false, e, hz]
    rw [List.map_append]
    rfl
  have s0 : gAsg 7 (gOp dAdd (gFz (gOp dAdd (gFz (gSl (gPeek 3) gNo (gSo (gVar 4)))) (gFz (gCall m_law_word [.r 0, .d (gC (.int 1))])))) (gFz (gSl (gPeek 3) (gSo (gFz (gOp dAdd (gVar 4) (gC (.int 1))))) gNo))) [some s, some (.d (.int many)), some (.d (.int style)), some (.d (nD st)), some (.d (.int a)), some (.ol (ns.map nD)), o6, o7]
      = .ok .nx [some s1, some (.d (.int many)), some (.d (.int style)), some (.d (nD st)), some (.d (.int a)), some (.ol (ns.map nD)), o6, some (.d (nD (st.take a ++ x ++ st.drop (a + 1))))] := by
    simp only [ev_seq, seqK_nx, seqK_rt, seqK_bk, seqK_ct, seqK_err, ev_next, ev_if, ifK_ok, ifK_err, ev_asg, asgK_ok, asgK_err, ev_ret, retK_ok, retK_err, ev_retN, ev_drop, dropK_ok, dropK_err, ev_c, ev_d, dK_ok, dK_err, ev_fz, fzK_d, fzK_l, fzK_err, ev_op, opK1_ok, opK1_err, opK2_ok, opK2_err, ev_un, unK_ok, unK_err, ev_isi, ev_b, bK_ok, bK_err, ev_and, andK_ok, andK_err, ev_or, orK_ok, orK_err, ev_not, notK_ok, ev_andV, andVK_ok, ev_orV, orVK_ok, ev_ifE, ifEK_ok, ev_nil, ev_cons, consK1_ok, consK1_err, consK2_ok, consK2_err, ev_lst, lstK_ok, ev_tup, tupK_ok, ev_var, varK_d, varK_l, ev_peek, peekK_d, peekK_l, peekK_s, ev_move, moveK_d, moveK_l, ev_ixP, ixK_ok, ixK1_ok, ixK1_err, ixK2_ok, dIx_nat, dIx_natT, dIx_l0, dIx_l1, dIx_l2, dIx_l3, dIx_l4, dIx_t0, dIx_t1, dIx_t2, dIx_t3, ev_setIx, setK0_ok, setK0_err, setK1_ok, setK2_ok, setK3_0, setK3_1, setK3_2, setK3_3, setK3_4, ev_sl, slK1_ok, slK2_ok, slK3_ok, ev_no, ev_so, soK_ok, soK_err, ev_join, joinK1_ok, joinK2_ok, ev_app, appK1_ok, appK2_ok, appK2_err, appK3_ok, ev_a0, ev_aD, ev_aR, eaK1_ok, eaK1_err, eaK3_ok, eaK2_ok, eaK2_err, ev_call, callK_d1, callK_d2, callK_d3, callK_d4, callK_d5, callK_d6, callK_d7, callK_d8, callK_r0, callK_r1, callK_r2, callK_r3, callK_r4, callK_r5, callK_r6, callK_r7, callK_err, backK_ok, backK_err, slotOf_d, slotOf_r, putBack_d, putBack_r, putBack_nil, refs_nil, refs_d, refs_r, ev_run, endOf_nx, endOf_rt, endOf_err, maskL_t, maskL_f, maskL_nil, ev_for, forK_ok, forGo_nil, turnK_nx, turnK_ct, turnK_bk, turnK_rt, turnK_err, bind_ok, asItems_l, asItems_t, asItems_s, ev_name, ev_fnil, ev_fcons, ev_ftup, some_bind, ev_asgT, asgTK_ok, asgTK2_ok, ev_lc, lcK_ok, wipeL_nil, wipeL_cons, ev_yes, lcGo_nil, dLt_i, dLe_i, dGt_i, dGe_i, dEq_i, dEq_s, dEq_b, dNe_i, dNe_s, dIs_b, dSub_i, dLen_l, dLen_t, dList_l, dList_t, dSl_l, dNot_b, ty_n_bool, ty_n_int, ty_n_str, ty_n_list, ty_n_tuple, ty_b_bool, ty_b_int, ty_b_str, ty_b_list, ty_b_tuple, ty_i_bool, ty_i_int, ty_i_str, ty_i_list, ty_i_tuple, ty_s_bool, ty_s_int, ty_s_str, ty_s_list, ty_s_tuple, ty_l_bool, ty_l_int, ty_l_str, ty_l_list, ty_l_tuple, ty_t_bool, ty_t_int, ty_t_str, ty_t_list, ty_t_tuple, dIs_nn, dIs_in, dIs_bn, dIs_sn, dIs_ln, dIs_tn, dNe_b, ev_A, aK_ok, aK_err, dMin_ok, dMax_ok, asZip_l, asZip_t, ev_pop, popK1_ok, ev_cnt, cntK1_ok, cntK2_ok, dAdd_int, ofO_some, ofO_none, List.getElem?_cons_zero, List.getElem?_cons_succ, List.set_cons_zero, List.set_cons_succ, List.length_cons, List.length_nil, List.cons_append, List.nil_append, List.replicate_succ, List.replicate_zero, List.map_cons, List.map_nil, Option.join_some, List.append_nil, Nat.reduceAdd, Nat.reduceLT, Nat.reduceLeDiff, Nat.reduceSub, Nat.reduceEqDiff, if_true, if_false, decide_true, decide_false, Bool.false_eq_true, Bool.not_true, Bool.not_false, c1, e1, c2, a1, a2]
  unfold namesBody
  rw [ev_seq, s0, seqK_nx]
  by_cases h1 : style = 1
  · subst h1
    obtain ⟨r, s2, e2, r0, r1, hs2⟩ := next_ok hs1 (n := st.length) (by omega) (by omega)
    have c3 : dSl (nD st) none (some (1 + r)) = some (.d (nD (st.take (1 + r).toNat))) := dSl_to (by omega) (by omega)
    have hg : Good (st.take (1 + r).toNat) := ⟨hst.take _, by rw [List.length_take]; omega, by rw [List.length_take]; omega⟩
    obtain ⟨w', f1, f2, f3⟩ := fin _ s2 hg hs2
    refine ⟨w', s2, some (.d (nD (st.take (1 + r).toNat))), ?_, f2, f3, hs2⟩
    have hl : dLen (nD st) = some (.int st.length) := dLen_n (by omega)
    have s1' : gIf (gB (gOp dEq (gPeek 2) (gC (.int 1)))) (gAsg 7 (gSl (gVar 3) gNo (gSo (gFz (gOp dAdd (gC (.int 1)) (gFz (gCall m_law_next [.r 0, .d (gUn dLen (gPeek 3))]))))))) gNext [some s1, some (.d (.int many)), some (.d (.int 1)), some (.d (nD st)), some (.d (.int a)), some (.ol (ns.map nD)), o6, some (.d (nD (st.take a ++ x ++ st.drop (a + 1))))]
        = .ok .nx [some s2, some (.d (.int many)), some (.d (.int 1)), some (.d (nD st)), some (.d (.int a)), some (.ol (ns.map nD)), o6, some (.d (nD (st.take (1 + r).toNat)))] := by
      simp only [ev_seq, seqK_nx, seqK_rt, seqK_bk, seqK_ct, seqK_err, ev_next, ev_if, ifK_ok, ifK_err, ev_asg, asgK_ok, asgK_err, ev_ret, retK_ok, retK_err, ev_retN, ev_drop, dropK_ok, dropK_err, ev_c, ev_d, dK_ok, dK_err, ev_fz, fzK_d, fzK_l, fzK_err, ev_op, opK1_ok, opK1_err, opK2_ok, opK2_err, ev_un, unK_ok, unK_err, ev_isi, ev_b, bK_ok, bK_err, ev_and, andK_ok, andK_err, ev_or, orK_ok, orK_err, ev_not, notK_ok, ev_andV, andVK_ok, ev_orV, orVK_ok, ev_ifE, ifEK_ok, ev_nil, ev_cons, consK1_ok, consK1_err, consK2_ok, consK2_err, ev_lst, lstK_ok, ev_tup, tupK_ok, ev_var, varK_d, varK_l, ev_peek, peekK_d, peekK_l, peekK_s, ev_move, moveK_d, moveK_l, ev_ixP, ixK_ok, ixK1_ok, ixK1_err, ixK2_ok, dIx_nat, dIx_natT, dIx_l0, dIx_l1, dIx_l2, dIx_l3, dIx_l4, dIx_t0, dIx_t1, dIx_t2, dIx_t3, ev_setIx, setK0_ok, setK0_err, setK1_ok, setK2_ok, setK3_0, setK3_1, setK3_2, setK3_3, setK3_4, ev_sl, slK1_ok, slK2_ok, slK3_ok, ev_no, ev_so, soK_ok, soK_err, ev_join, joinK1_ok, joinK2_ok, ev_app, appK1_ok, appK2_ok, appK2_err, appK3_ok, ev_a0, ev_aD, ev_aR, eaK1_ok, eaK1_err, eaK3_ok, eaK2_ok, eaK2_err, ev_call, callK_d1, callK_d2, callK_d3, callK_d4, callK_d5, callK_d6, callK_d7, callK_d8, callK_r0, callK_r1, callK_r2, callK_r3, callK_r4, callK_r5, callK_r6, callK_r7, callK_err, backK_ok, backK_err, slotOf_d, slotOf_r, putBack_d, putBack_r, putBack_nil, refs_nil, refs_d, refs_r, ev_run, endOf_nx, endOf_rt, endOf_err, maskL_t, maskL_f, maskL_nil, ev_for, forK_ok, forGo_nil, turnK_nx, turnK_ct, turnK_bk, turnK_rt, turnK_err, bind_ok, asItems_l, asItems_t, asItems_s, ev_name, ev_fnil, ev_fcons, ev_ftup, some_bind, ev_asgT, asgTK_ok, asgTK2_ok, ev_lc, lcK_ok, wipeL_nil, wipeL_cons, ev_yes, lcGo_nil, dLt_i, dLe_i, dGt_i, dGe_i, dEq_i, dEq_s, dEq_b, dNe_i, dNe_s, dIs_b, dSub_i, dLen_l, dLen_t, dList_l, dList_t, dSl_l, dNot_b, ty_n_bool, ty_n_int, ty_n_str, ty_n_list, ty_n_tuple, ty_b_bool, ty_b_int, ty_b_str, ty_b_list, ty_b_tuple, ty_i_bool, ty_i_int, ty_i_str, ty_i_list, ty_i_tuple, ty_s_bool, ty_s_int, ty_s_str, ty_s_list, ty_s_tuple, ty_l_bool, ty_l_int, ty_l_str, ty_l_list, ty_l_tuple, ty_t_bool, ty_t_int, ty_t_str, ty_t_list, ty_t_tuple, dIs_nn, dIs_in, dIs_bn, dIs_sn, dIs_ln, dIs_tn, dNe_b, ev_A, aK_ok, aK_err, dMin_ok, dMax_ok, asZip_l, asZip_t, ev_pop, popK1_ok, ev_cnt, cntK1_ok, cntK2_ok, dAdd_int, ofO_some, ofO_none, List.getElem?_cons_zero, List.getElem?_cons_succ, List.set_cons_zero, List.set_cons_succ, List.length_cons, List.length_nil, List.cons_append, List.nil_append, List.replicate_succ, List.replicate_zero, List.map_cons, List.map_nil, Option.join_some, List.append_nil, Nat.reduceAdd, Nat.reduceLT, Nat.reduceLeDiff, Nat.reduceSub, Nat.reduceEqDiff, if_true, if_false, decide_true, decide_false, Bool.false_eq_true, Bool.not_true, Bool.not_false, hl, e2, c3]
    have s2' : gIf (gB (gOp dEq (gPeek 2) (gC (.int 2)))) (gAsg 7 (gCall m_law_word [.r 0, .d (gFz (gOp dAdd (gC (.int 1)) (gFz (gCall m_law_next [.r 0, .d (gC (.int 12))]))))])) gNext [some s2, some (.d (.int many)), some (.d (.int 1)), some (.d (nD st)), some (.d (.int a)), some (.ol (ns.map nD)), o6, some (.d (nD (st.take (1 + r).toNat)))]
        = .ok .nx [some s2, some (.d (.int many)), some (.d (.int 1)), some (.d (nD st)), some (.d (.int a)), some (.ol (ns.map nD)), o6, some (.d (nD (st.take (1 + r).toNat)))] := rfl
    rw [ev_seq, s1', seqK_nx, ev_seq, s2', seqK_nx, f1]
  · have s1' : gIf (gB (gOp dEq (gPeek 2) (gC (.int 1)))) (gAsg 7 (gSl (gVar 3) gNo (gSo (gFz (gOp dAdd (gC (.int 1)) (gFz (gCall m_law_next [.r 0, .d (gUn dLen (gPeek 3))]))))))) gNext [some s1, some (.d (.int many)), some (.d (.int style)), some (.d (nD st)), some (.d (.int a)), some (.ol (ns.map nD)), o6, some (.d (nD (st.take a ++ x ++ st.drop (a + 1))))]
        = .ok .nx [some s1, some (.d (.int many)), some (.d (.int style)), some (.d (nD st)), some (.d (.int a)), some (.ol (ns.map nD)), o6, some (.d (nD (st.take a ++ x ++ st.drop (a + 1))))] := by
      simp only [ev_seq, seqK_nx, seqK_rt, seqK_bk, seqK_ct, seqK_err, ev_next, ev_if, ifK_ok, ifK_err, ev_asg, asgK_ok, asgK_err, ev_ret, retK_ok, retK_err, ev_retN, ev_drop, dropK_ok, dropK_err, ev_c, ev_d, dK_ok, dK_err, ev_fz, fzK_d, fzK_l, fzK_err, ev_op, opK1_ok, opK1_err, opK2_ok, opK2_err, ev_un, unK_ok, unK_err, ev_isi, ev_b, bK_ok, bK_err, ev_and, andK_ok, andK_err, ev_or, orK_ok, orK_err, ev_not, notK_ok, ev_andV, andVK_ok, ev_orV, orVK_ok, ev_ifE, ifEK_ok, ev_nil, ev_cons, consK1_ok, consK1_err, consK2_ok, consK2_err, ev_lst, lstK_ok, ev_tup, tupK_ok, ev_var, varK_d, varK_l, ev_peek, peekK_d, peekK_l, peekK_s, ev_move, moveK_d, moveK_l, ev_ixP, ixK_ok, ixK1_ok, ixK1_err, ixK2_ok, dIx_nat, dIx_natT, dIx_l0, dIx_l1, dIx_l2, dIx_l3, dIx_l4, dIx_t0, dIx_t1, dIx_t2, dIx_t3, ev_setIx, setK0_ok, setK0_err, setK1_ok, setK2_ok, setK3_0, setK3_1, setK3_2, setK3_3, setK3_4, ev_sl, slK1_ok, slK2_ok, slK3_ok, ev_no, ev_so, soK_ok, soK_err, ev_join, joinK1_ok, joinK2_ok, ev_app, appK1_ok, appK2_ok, appK2_err, appK3_ok, ev_a0, ev_aD, ev_aR, eaK1_ok, eaK1_err, eaK3_ok, eaK2_ok, eaK2_err, ev_call, callK_d1, callK_d2, callK_d3, callK_d4, callK_d5, callK_d6, callK_d7, callK_d8, callK_r0, callK_r1, callK_r2, callK_r3, callK_r4, callK_r5, callK_r6, callK_r7, callK_err, backK_ok, backK_err, slotOf_d, slotOf_r, putBack_d, putBack_r, putBack_nil, refs_nil, refs_d, refs_r, ev_run, endOf_nx, endOf_rt, endOf_err, maskL_t, maskL_f, maskL_nil, ev_for, forK_ok, forGo_nil, turnK_nx, turnK_ct, turnK_bk, turnK_rt, turnK_err, bind_ok, asItems_l, asItems_t, asItems_s, ev_name, ev_fnil, ev_fcons, ev_ftup, some_bind, ev_asgT, asgTK_ok, asgTK2_ok, ev_lc, lcK_ok, wipeL_nil, wipeL_cons, ev_yes, lcGo_nil, dLt_i, dLe_i, dGt_i, dGe_i, dEq_i, dEq_s, dEq_b, dNe_i, dNe_s, dIs_b, dSub_i, dLen_l, dLen_t, dList_l, dList_t, dSl_l, dNot_b, ty_n_bool, ty_n_int, ty_n_str, ty_n_list, ty_n_tuple, ty_b_bool, ty_b_int, ty_b_str, ty_b_list, ty_b_tuple, ty_i_bool, ty_i_int, ty_i_str, ty_i_list, ty_i_tuple, ty_s_bool, ty_s_int, ty_s_str, ty_s_list, ty_s_tuple, ty_l_bool, ty_l_int, ty_l_str, ty_l_list, ty_l_tuple, ty_t_bool, ty_t_int, ty_t_str, ty_t_list, ty_t_tuple, dIs_nn, dIs_in, dIs_bn, dIs_sn, dIs_ln, dIs_tn, dNe_b, ev_A, aK_ok, aK_err, dMin_ok, dMax_ok, asZip_l, asZip_t, ev_pop, popK1_ok, ev_cnt, cntK1_ok, cntK2_ok, dAdd_int, ofO_some, ofO_none, List.getElem?_cons_zero, List.getElem?_cons_succ, List.set_cons_zero, List.set_cons_succ, List.length_cons, List.length_nil, List.cons_append, List.nil_append, List.replicate_succ, List.replicate_zero, List.map_cons, List.map_nil, Option.join_some, List.append_nil, Nat.reduceAdd, Nat.reduceLT, Nat.reduceLeDiff, Nat.reduceSub, Nat.reduceEqDiff, if_true, if_false, decide_true, decide_false, Bool.false_eq_true, Bool.not_true, Bool.not_false, h1]
    rw [ev_seq, s1', seqK_nx]
    by_cases h2 : style = 2
    · subst h2
      obtain ⟨r, s2, e2, r0, r1, hs2⟩ := next_ok hs1 (n := 12) (by omega) (by omega)
      obtain ⟨y, s3, e3, l3, k3, hs3⟩ := word_ok hs2 (m := 1 + r) (by omega) (by omega)
      obtain ⟨w', f1, f2, f3⟩ := fin y s3 ⟨k3, by omega, by omega⟩ hs3
      refine ⟨w', s3, some (.d (nD y)), ?_, f2, f3, hs3⟩
      have s2' : gIf (gB (gOp dEq (gPeek 2) (gC (.int 2)))) (gAsg 7 (gCall m_law_word [.r 0, .d (gFz (gOp dAdd (gC (.int 1)) (gFz (gCall m_law_next [.r 0, .d (gC (.int 12))]))))])) gNext [some s1, some (.d (.int many)), some (.d (.int 2)), some (.d (nD st)), some (.d (.int a)), some (.ol (ns.map nD)), o6, some (.d (nD (st.take a ++ x ++ st.drop (a + 1))))]
          = .ok .nx [some s3, some (.d (.int many)), some (.d (.int 2)), some (.d (nD st)), some (.d (.int a)), some (.ol (ns.map nD)), o6, some (.d (nD y))] := by
        simp only [ev_seq, seqK_nx, seqK_rt, seqK_bk, seqK_ct, seqK_err, ev_next, ev_if, ifK_ok, ifK_err, ev_asg, asgK_ok, asgK_err, ev_ret, retK_ok, retK_err, ev_retN, ev_drop, dropK_ok, dropK_err, ev_c, ev_d, dK_ok, dK_err, ev_fz, fzK_d, fzK_l, fzK_err, ev_op, opK1_ok, opK1_err, opK2_ok, opK2_err, ev_un, unK_ok, unK_err, ev_isi, ev_b, bK_ok, bK_err, ev_and, andK_ok, andK_err, ev_or, orK_ok, orK_err, ev_not, notK_ok, ev_andV, andVK_ok, ev_orV, orVK_ok, ev_ifE, ifEK_ok, ev_nil, ev_cons, consK1_ok, consK1_err, consK2_ok, consK2_err, ev_lst, lstK_ok, ev_tup, tupK_ok, ev_var, varK_d, varK_l, ev_peek, peekK_d, peekK_l, peekK_s, ev_move, moveK_d, moveK_l, ev_ixP, ixK_ok, ixK1_ok, ixK1_err, ixK2_ok, dIx_nat, dIx_natT, dIx_l0, dIx_l1, dIx_l2, dIx_l3, dIx_l4, dIx_t0, dIx_t1, dIx_t2, dIx_t3, ev_setIx, setK0_ok, setK0_err, setK1_ok, setK2_ok, setK3_0, setK3_1, setK3_2, setK3_3, setK3_4, ev_sl, slK1_ok, slK2_ok, slK3_ok, ev_no, ev_so, soK_ok, soK_err, ev_join, joinK1_ok, joinK2_ok, ev_app, appK1_ok, appK2_ok, appK2_err, appK3_ok, ev_a0, ev_aD, ev_aR, eaK1_ok, eaK1_err, eaK3_ok, eaK2_ok, eaK2_err, ev_call, callK_d1, callK_d2, callK_d3, callK_d4, callK_d5, callK_d6, callK_d7, callK_d8, callK_r0, callK_r1, callK_r2, callK_r3, callK_r4, callK_r5, callK_r6, callK_r7, callK_err, backK_ok, backK_err, slotOf_d, slotOf_r, putBack_d, putBack_r, putBack_nil, refs_nil, refs_d, refs_r, ev_run, endOf_nx, endOf_rt, endOf_err, maskL_t, maskL_f, maskL_nil, ev_for, forK_ok, forGo_nil, turnK_nx, turnK_ct, turnK_bk, turnK_rt, turnK_err, bind_ok, asItems_l, asItems_t, asItems_s, ev_name, ev_fnil, ev_fcons, ev_ftup, some_bind, ev_asgT, asgTK_ok, asgTK2_ok, ev_lc, lcK_ok, wipeL_nil, wipeL_cons, ev_yes, lcGo_nil, dLt_i, dLe_i, dGt_i, dGe_i, dEq_i, dEq_s, dEq_b, dNe_i, dNe_s, dIs_b, dSub_i, dLen_l, dLen_t, dList_l, dList_t, dSl_l, dNot_b, ty_n_bool, ty_n_int, ty_n_str, ty_n_list, ty_n_tuple, ty_b_bool, ty_b_int, ty_b_str, ty_b_list, ty_b_tuple, ty_i_bool, ty_i_int, ty_i_str, ty_i_list, ty_i_tuple, ty_s_bool, ty_s_int, ty_s_str, ty_s_list, ty_s_tuple, ty_l_bool, ty_l_int, ty_l_str, ty_l_list, ty_l_tuple, ty_t_bool, ty_t_int, ty_t_str, ty_t_list, ty_t_tuple, dIs_nn, dIs_in, dIs_bn, dIs_sn, dIs_ln, dIs_tn, dNe_b, ev_A, aK_ok, aK_err, dMin_ok, dMax_ok, asZip_l, asZip_t, ev_pop, popK1_ok, ev_cnt, cntK1_ok, cntK2_ok, dAdd_int, ofO_some, ofO_none, List.getElem?_cons_zero, List.getElem?_cons_succ, List.set_cons_zero, List.set_cons_succ, List.length_cons, List.length_nil, List.cons_append, List.nil_append, List.replicate_succ, List.replicate_zero, List.map_cons, List.map_nil, Option.join_some, List.append_nil, Nat.reduceAdd, Nat.reduceLT, Nat.reduceLeDiff, Nat.reduceSub, Nat.reduceEqDiff, if_true, if_false, decide_true, decide_false, Bool.false_eq_true, Bool.not_true, Bool.not_false, e2, e3]
      rw [ev_seq, s2', seqK_nx, f1]
    · obtain ⟨w', f1, f2, f3⟩ := fin _ s1 hmix hs1
      refine ⟨w', s1, some (.d (nD (st.take a ++ x ++ st.drop (a + 1)))), ?_, f2, f3, hs1⟩
      have s2' : gIf (gB (gOp dEq (gPeek 2) (gC (.int 2)))) (gAsg 7 (gCall m_law_word [.r 0, .d (gFz (gOp dAdd (gC (.int 1)) (gFz (gCall m_law_next [.r 0, .d (gC (.int 12))]))))])) gNext [some s1, some (.d (.int many)), some (.d (.int style)), some (.d (nD st)), some (.d (.int a)), some (.ol (ns.map nD)), o6, some (.d (nD (st.take a ++ x ++ st.drop (a + 1))))]
          = .ok .nx [some s1, some (.d (.int many)), some (.d (.int style)), some (.d (nD st)), some (.d (.int a)), some (.ol (ns.map nD)), o6, some (.d (nD (st.take a ++ x ++ st.drop (a + 1))))] := by
        simp only [ev_seq, seqK_nx, seqK_rt, seqK_bk, seqK_ct, seqK_err, ev_next, ev_if, ifK_ok, ifK_err, ev_asg, asgK_ok, asgK_err, ev_ret, retK_ok, retK_err, ev_retN, ev_drop, dropK_ok, dropK_err, ev_c, ev_d, dK_ok, dK_err, ev_fz, fzK_d, fzK_l, fzK_err, ev_op, opK1_ok, opK1_err, opK2_ok, opK2_err, ev_un, unK_ok, unK_err, ev_isi, ev_b, bK_ok, bK_err, ev_and, andK_ok, andK_err, ev_or, orK_ok, orK_err, ev_not, notK_ok, ev_andV, andVK_ok, ev_orV, orVK_ok, ev_ifE, ifEK_ok, ev_nil, ev_cons, consK1_ok, consK1_err, consK2_ok, consK2_err, ev_lst, lstK_ok, ev_tup, tupK_ok, ev_var, varK_d, varK_l, ev_peek, peekK_d, peekK_l, peekK_s, ev_move, moveK_d, moveK_l, ev_ixP, ixK_ok, ixK1_ok, ixK1_err, ixK2_ok, dIx_nat, dIx_natT, dIx_l0, dIx_l1, dIx_l2, dIx_l3, dIx_l4, dIx_t0, dIx_t1, dIx_t2, dIx_t3, ev_setIx, setK0_ok, setK0_err, setK1_ok, setK2_ok, setK3_0, setK3_1, setK3_2, setK3_3, setK3_4, ev_sl, slK1_ok, slK2_ok, slK3_ok, ev_no, ev_so, soK_ok, soK_err, ev_join, joinK1_ok, joinK2_ok, ev_app, appK1_ok, appK2_ok, appK2_err, appK3_ok, ev_a0, ev_aD, ev_aR, eaK1_ok, eaK1_err, eaK3_ok, eaK2_ok, eaK2_err, ev_call, callK_d1, callK_d2, callK_d3, callK_d4, callK_d5, callK_d6, callK_d7, callK_d8, callK_r0, callK_r1, callK_r2, callK_r3, callK_r4, callK_r5, callK_r6, callK_r7, callK_err, backK_ok, backK_err, slotOf_d, slotOf_r, putBack_d, putBack_r, putBack_nil, refs_nil, refs_d, refs_r, ev_run, endOf_nx, endOf_rt, endOf_err, maskL_t, maskL_f, maskL_nil, ev_for, forK_ok, forGo_nil, turnK_nx, turnK_ct, turnK_bk, turnK_rt, turnK_err, bind_ok, asItems_l, asItems_t, asItems_s, ev_name, ev_fnil, ev_fcons, ev_ftup, some_bind, ev_asgT, asgTK_ok, asgTK2_ok, ev_lc, lcK_ok, wipeL_nil, wipeL_cons, ev_yes, lcGo_nil, dLt_i, dLe_i, dGt_i, dGe_i, dEq_i, dEq_s, dEq_b, dNe_i, dNe_s, dIs_b, dSub_i, dLen_l, dLen_t, dList_l, dList_t, dSl_l, dNot_b, ty_n_bool, ty_n_int, ty_n_str, ty_n_list, ty_n_tuple, ty_b_bool, ty_b_int, ty_b_str, ty_b_list, ty_b_tuple, ty_i_bool, ty_i_int, ty_i_str, ty_i_list, ty_i_tuple, ty_s_bool, ty_s_int, ty_s_str, ty_s_list, ty_s_tuple, ty_l_bool, ty_l_int, ty_l_str, ty_l_list, ty_l_tuple, ty_t_bool, ty_t_int, ty_t_str, ty_t_list, ty_t_tuple, dIs_nn, dIs_in, dIs_bn, dIs_sn, dIs_ln, dIs_tn, dNe_b, ev_A, aK_ok, aK_err, dMin_ok, dMax_ok, asZip_l, asZip_t, ev_pop, popK1_ok, ev_cnt, cntK1_ok, cntK2_ok, dAdd_int, ofO_some, ofO_none, List.getElem?_cons_zero, List.getElem?_cons_succ, List.set_cons_zero, List.set_cons_succ, List.length_cons, List.length_nil, List.cons_append, List.nil_append, List.replicate_succ, List.replicate_zero, List.map_cons, List.map_nil, Option.join_some, List.append_nil, Nat.reduceAdd, Nat.reduceLT, Nat.reduceLeDiff, Nat.reduceSub, Nat.reduceEqDiff, if_true, if_false, decide_true, decide_false, Bool.false_eq_true, Bool.not_true, Bool.not_false, h2]
      rw [ev_seq, s2', seqK_nx, f1]
theorem names_go {many style : Int} {st : List Nat} {a : Nat} (hst : Small st) (ha : a < st.length) (hle : st.length ≤ 11) : ∀ (k : Nat) (lo : Int) {s : S} (hs : Src s) {ns : List (List Nat)} (hn : ns.length + k ≤ 500) (hd : ns.Nodup) (hg : ∀ n ∈ ns, Good n) (o6 o7 : Option S),
    ∃ (ns' : List (List Nat)) (s' : S) (o6' o7' : Option S), forGo (fName 6) namesBody (intsD lo k) [some s, some (.d (.int many)), some (.d (.int style)), some (.d (nD st)), some (.d (.int a)), some (.ol (ns.map nD)), o6, o7]
      = .ok .nx [some s', some (.d (.int many)), some (.d (.int style)), some (.d (nD st)), some (.d (.int a)), some (.ol (ns'.map nD)), o6', o7'] ∧ ns'.length = ns.length + k ∧ ns'.Nodup ∧ (∀ n ∈ ns', Good n) ∧ Src s'
  | 0, lo, s, hs, ns, hn, hd, hg, o6, o7 => ⟨ns, s, o6, o7, rfl, rfl, hd, hg, hs⟩
  | k + 1, lo, s, hs, ns, hn, hd, hg, o6, o7 => by
    obtain ⟨w', s1, o7', e, g, ni, hs1⟩ := names_turn (many := many) (style := style) hst ha hle hs (ns := ns) (by omega) (some (.d (.int lo))) o7
    obtain ⟨ns', s', o6', o7'', e2, l2, d2, g2, hs2⟩ := names_go (many := many) (style := style) hst ha hle k (lo + 1) hs1 (ns := ns ++ [w']) (by rw [List.length_append, List.length_singleton]; omega)
      (by
        rw [List.nodup_append]
        refine ⟨hd, List.nodup_cons.mpr ⟨List.not_mem_nil, List.nodup_nil⟩, fun x hx y hy z => ?_⟩
        rw [List.mem_singleton] at hy
        subst hy
        subst z
        exact ni hx)
      (fun n hn => by
        rcases List.mem_append.mp hn with h | h
        · exact hg n h
        · rw [List.mem_singleton] at h
          rw [h]
          exact g) (some (.d (.int lo))) o7'
    refine ⟨ns', s', o6', o7'', ?_, by rw [l2, List.length_append, List.length_singleton]; omega, d2, g2, hs2⟩
    rw [intsD_succ, forGo_cons (L1 := [some s, some (.d (.int many)), some (.d (.int style)), some (.d (nD st)), some (.d (.int a)), some (.ol (ns.map nD)), some (.d (.int lo)), o7]) _ _ _ _ rfl, e, turnK_nx, e2]
theorem names_ok {s : S} (hs : Src s) {many : Int} (h0 : 0 ≤ many) (h1 : many ≤ 500) : ∃ (ns : List (List Nat)) (s' : S), m_law_names [some s, some (.d (.int many))] = .ok (.ol (ns.map nD)) [some s', none] ∧ ns.length = many.toNat ∧ ns.Nodup ∧ (∀ n ∈ ns, Good n) ∧ Src s' := by
  obtain ⟨style, s1, e1, _, _, hs1⟩ := next_ok hs (n := 3) (by omega) (by omega)
  obtain ⟨r, s2, e2, r0, r1, hs2⟩ := next_ok hs1 (n := 11) (by omega) (by omega)
  obtain ⟨st, s3, e3, l3, k3, hs3⟩ := word_ok hs2 (m := 1 + r) (by omega) (by omega)
  obtain ⟨a, s4, e4, a0, a1, hs4⟩ := next_ok hs3 (n := st.length) (by omega) (by omega)
  obtain ⟨j, rfl⟩ := Int.eq_ofNat_of_zero_le a0
  obtain ⟨ns, s', o6, o7, e5, l5, d5, g5, hs5⟩ := names_go (many := many) (style := style) (a := j) k3 (by omega) (by omega) many.toNat 0 hs4 (ns := []) (by simp; omega) List.nodup_nil (fun n hn => by cases hn) none none
  refine ⟨ns, s', ?_, by rw [l5]; simp, d5, g5, hs5⟩
  have hl : dLen (nD st) = some (.int st.length) := dLen_n (by omega)
  unfold m_law_names g_law_names
  have pre : ∀ X : LS → R O, runDef [true, false] 8 (gSeq (gAsg 2 (gCall m_law_next [.r 0, .d (gC (.int 3))]))
    (gSeq (gAsg 3 (gCall m_law_word [.r 0, .d (gFz (gOp dAdd (gC (.int 1)) (gFz (gCall m_law_next [.r 0, .d (gC (.int 11))]))))]))
    (gSeq (gAsg 4 (gCall m_law_next [.r 0, .d (gUn dLen (gPeek 3))]))
    (gSeq (gAsg 5 (gLst gNil)) X)))) [some s, some (.d (.int many))] = endOf [true, false] (X [some s4, some (.d (.int many)), some (.d (.int style)), some (.d (nD st)), some (.d (.int j)), some (.ol []), none, none]) := fun X => by
    simp only [ev_seq, seqK_nx, seqK_rt, seqK_bk, seqK_ct, seqK_err, ev_next, ev_if, ifK_ok, ifK_err, ev_asg, asgK_ok, asgK_err, ev_ret, retK_ok, retK_err, ev_retN, ev_drop, dropK_ok, dropK_err, ev_c, ev_d, dK_ok, dK_err, ev_fz, fzK_d, fzK_l, fzK_err, ev_op, opK1_ok, opK1_err, opK2_ok, opK2_err, ev_un, unK_ok, unK_err, ev_isi, ev_b, bK_ok, bK_err, ev_and, andK_ok, andK_err, ev_or, orK_ok, orK_err, ev_not, notK_ok, ev_andV, andVK_ok, ev_orV, orVK_ok, ev_ifE, ifEK_ok, ev_nil, ev_cons, consK1_ok, consK1_err, consK2_ok, consK2_err, ev_lst, lstK_ok, ev_tup, tupK_ok, ev_var, varK_d, varK_l, ev_peek, peekK_d, peekK_l, peekK_s, ev_move, moveK_d, moveK_l, ev_ixP, ixK_ok, ixK1_ok, ixK1_err, ixK2_ok, dIx_nat, dIx_natT, dIx_l0, dIx_l1, dIx_l2, dIx_l3, dIx_l4, dIx_t0, dIx_t1, dIx_t2, dIx_t3, ev_setIx, setK0_ok, setK0_err, setK1_ok, setK2_ok, setK3_0, setK3_1, setK3_2, setK3_3, setK3_4, ev_sl, slK1_ok, slK2_ok, slK3_ok, ev_no, ev_so, soK_ok, soK_err, ev_join, joinK1_ok, joinK2_ok, ev_app, appK1_ok, appK2_ok, appK2_err, appK3_ok, ev_a0, ev_aD, ev_aR, eaK1_ok, eaK1_err, eaK3_ok, eaK2_ok, eaK2_err, ev_call, callK_d1, callK_d2, callK_d3, callK_d4, callK_d5, callK_d6, callK_d7, callK_d8, callK_r0, callK_r1, callK_r2, callK_r3, callK_r4, callK_r5, callK_r6, callK_r7, callK_err, backK_ok, backK_err, slotOf_d, slotOf_r, putBack_d, putBack_r, putBack_nil, refs_nil, refs_d, refs_r, ev_run, endOf_nx, endOf_rt, endOf_err, maskL_t, maskL_f, maskL_nil, ev_for, forK_ok, forGo_nil, turnK_nx, turnK_ct, turnK_bk, turnK_rt, turnK_err, bind_ok, asItems_l, asItems_t, asItems_s, ev_name, ev_fnil, ev_fcons, ev_ftup, some_bind, ev_asgT, asgTK_ok, asgTK2_ok, ev_lc, lcK_ok, wipeL_nil, wipeL_cons, ev_yes, lcGo_nil, dLt_i, dLe_i, dGt_i, dGe_i, dEq_i, dEq_s, dEq_b, dNe_i, dNe_s, dIs_b, dSub_i, dLen_l, dLen_t, dList_l, dList_t, dSl_l, dNot_b, ty_n_bool, ty_n_int, ty_n_str, ty_n_list, ty_n_tuple, ty_b_bool, ty_b_int, ty_b_str, ty_b_list, ty_b_tuple, ty_i_bool, ty_i_int, ty_i_str, ty_i_list, ty_i_tuple, ty_s_bool, ty_s_int, ty_s_str, ty_s_list, ty_s_tuple, ty_l_bool, ty_l_int, ty_l_str, ty_l_list, ty_l_tuple, ty_t_bool, ty_t_int, ty_t_str, ty_t_list, ty_t_tuple, dIs_nn, dIs_in, dIs_bn, dIs_sn, dIs_ln, dIs_tn, dNe_b, ev_A, aK_ok, aK_err, dMin_ok, dMax_ok, asZip_l, asZip_t, ev_pop, popK1_ok, ev_cnt, cntK1_ok, cntK2_ok, dAdd_int, ofO_some, ofO_none, List.getElem?_cons_zero, List.getElem?_cons_succ, List.set_cons_zero, List.set_cons_succ, List.length_cons, List.length_nil, List.cons_append, List.nil_append, List.replicate_succ, List.replicate_zero, List.map_cons, List.map_nil, Option.join_some, List.append_nil, Nat.reduceAdd, Nat.reduceLT, Nat.reduceLeDiff, Nat.reduceSub, Nat.reduceEqDiff, if_true, if_false, decide_true, decide_false, Bool.false_eq_true, Bool.not_true, Bool.not_false, e1, e2, e3, hl, e4, small_len (show 0 ≤ 1000000 by decide)]
  have hr : (gCons (gVar 1) gNil [some s4, some (.d (.int many)), some (.d (.int style)), some (.d (nD st)), some (.d (.int j)), some (.ol []), none, none]).bind rng1 = .ok (intsD 0 many.toNat) [some s4, some (.d (.int many)), some (.d (.int style)), some (.d (nD st)), some (.d (.int j)), some (.ol []), none, none] := by
    have e : gCons (gVar 1) gNil [some s4, some (.d (.int many)), some (.d (.int style)), some (.d (nD st)), some (.d (.int j)), some (.ol []), none, none] = .ok [.int many] [some s4, some (.d (.int many)), some (.d (.int style)), some (.d (nD st)), some (.d (.int j)), some (.ol []), none, none] := rfl
    rw [e, bind_ok, rng1_at h0 (by omega)]
  rw [pre, ev_seq, ev_for, hr, forK_ok]
  have e5' := e5
  unfold namesBody at e5'
  rw [List.map_nil] at e5'
  rw [e5', seqK_nx]
  rfl
end Lw

namespace Lw
open PySem VS
theorem cut_all (ns : List Int) (h : ns.length ≤ 63) : cutD (ns.map PyData.int) none (some 63) = ns.map PyData.int := by
  unfold cutD
  have e : HT.sIx (ns.map PyData.int).length 0 none = 0 := rfl
  have e2 : HT.sIx (ns.map PyData.int).length (ns.map PyData.int).length (some 63) = min (63 : Int).toNat (ns.map PyData.int).length := rfl
  rw [e, e2, List.drop_zero, List.length_map, Nat.sub_zero, List.take_of_length_le]
  rw [List.length_map]
  have : (63 : Int).toNat = 63 := rfl
  omega
theorem src_ok {ns : List Int} (h : ns.length ≤ 63) : m_law_src [some (.scr ns)] = .ok (srcS ns 0 0 1 0) [some (.scr ns)] := by
  unfold m_law_src g_law_src
  simp only [ev_seq, seqK_nx, seqK_rt, seqK_bk, seqK_ct, seqK_err, ev_next, ev_if, ifK_ok, ifK_err, ev_asg, asgK_ok, asgK_err, ev_ret, retK_ok, retK_err, ev_retN, ev_drop, dropK_ok, dropK_err, ev_c, ev_d, dK_ok, dK_err, ev_fz, fzK_d, fzK_l, fzK_err, ev_op, opK1_ok, opK1_err, opK2_ok, opK2_err, ev_un, unK_ok, unK_err, ev_isi, ev_b, bK_ok, bK_err, ev_and, andK_ok, andK_err, ev_or, orK_ok, orK_err, ev_not, notK_ok, ev_andV, andVK_ok, ev_orV, orVK_ok, ev_ifE, ifEK_ok, ev_nil, ev_cons, consK1_ok, consK1_err, consK2_ok, consK2_err, ev_lst, lstK_ok, ev_tup, tupK_ok, ev_var, varK_d, varK_l, ev_peek, peekK_d, peekK_l, peekK_s, ev_move, moveK_d, moveK_l, ev_ixP, ixK_ok, ixK1_ok, ixK1_err, ixK2_ok, dIx_nat, dIx_natT, dIx_l0, dIx_l1, dIx_l2, dIx_l3, dIx_l4, dIx_t0, dIx_t1, dIx_t2, dIx_t3, ev_setIx, setK0_ok, setK0_err, setK1_ok, setK2_ok, setK3_0, setK3_1, setK3_2, setK3_3, setK3_4, ev_sl, slK1_ok, slK2_ok, slK3_ok, ev_no, ev_so, soK_ok, soK_err, ev_join, joinK1_ok, joinK2_ok, ev_app, appK1_ok, appK2_ok, appK2_err, appK3_ok, ev_a0, ev_aD, ev_aR, eaK1_ok, eaK1_err, eaK3_ok, eaK2_ok, eaK2_err, ev_call, callK_d1, callK_d2, callK_d3, callK_d4, callK_d5, callK_d6, callK_d7, callK_d8, callK_r0, callK_r1, callK_r2, callK_r3, callK_r4, callK_r5, callK_r6, callK_r7, callK_err, backK_ok, backK_err, slotOf_d, slotOf_r, putBack_d, putBack_r, putBack_nil, refs_nil, refs_d, refs_r, ev_run, endOf_nx, endOf_rt, endOf_err, maskL_t, maskL_f, maskL_nil, ev_for, forK_ok, forGo_nil, turnK_nx, turnK_ct, turnK_bk, turnK_rt, turnK_err, bind_ok, asItems_l, asItems_t, asItems_s, ev_name, ev_fnil, ev_fcons, ev_ftup, some_bind, ev_asgT, asgTK_ok, asgTK2_ok, ev_lc, lcK_ok, wipeL_nil, wipeL_cons, ev_yes, lcGo_nil, dLt_i, dLe_i, dGt_i, dGe_i, dEq_i, dEq_s, dEq_b, dNe_i, dNe_s, dIs_b, dSub_i, dLen_l, dLen_t, dList_l, dList_t, dSl_l, dNot_b, ty_n_bool, ty_n_int, ty_n_str, ty_n_list, ty_n_tuple, ty_b_bool, ty_b_int, ty_b_str, ty_b_list, ty_b_tuple, ty_i_bool, ty_i_int, ty_i_str, ty_i_list, ty_i_tuple, ty_s_bool, ty_s_int, ty_s_str, ty_s_list, ty_s_tuple, ty_l_bool, ty_l_int, ty_l_str, ty_l_list, ty_l_tuple, ty_t_bool, ty_t_int, ty_t_str, ty_t_list, ty_t_tuple, dIs_nn, dIs_in, dIs_bn, dIs_sn, dIs_ln, dIs_tn, dNe_b, ev_A, aK_ok, aK_err, dMin_ok, dMax_ok, asZip_l, asZip_t, ev_pop, popK1_ok, ev_cnt, cntK1_ok, cntK2_ok, dAdd_int, ofO_some, ofO_none, List.getElem?_cons_zero, List.getElem?_cons_succ, List.set_cons_zero, List.set_cons_succ, List.length_cons, List.length_nil, List.cons_append, List.nil_append, List.replicate_succ, List.replicate_zero, List.map_cons, List.map_nil, Option.join_some, List.append_nil, Nat.reduceAdd, Nat.reduceLT, Nat.reduceLeDiff, Nat.reduceSub, Nat.reduceEqDiff, if_true, if_false, decide_true, decide_false, Bool.false_eq_true, Bool.not_true, Bool.not_false, cut_all ns h, small_len (show 0 + 1 + 1 + 1 + 1 + 1 ≤ 1000000 by decide)]
  rfl
theorem src_start {ns : List Int} (h : ns.length ≤ 63) : Src (srcS ns 0 0 1 0) := ⟨ns, 0, 0, 1, 0, rfl, h, by omega, by omega, by omega, by omega, by omega⟩
end Lw

namespace Lw
open PySem PySem.Spec PyProof.Rows L2 VS
def g_total : LS → R O := (gRet (gD (gUn dSum (gFz (gLc [1, 2] (fun L => ((gVar 0) L).bind asItems) (fTup 2 (fCons (fName 1) (fCons (fName 2) fNil))) gYes (gVar 2))))))
def m_total : LS → R S := runDef [false] 3 g_total
def g_law_weight : LS → R O := (gSeq (gAsg 1 (gCall Lw.m_law_next [.r 0, .d (gC (.int 5))]))
    (gSeq (gIf (gB (gOp dEq (gPeek 1) (gC (.int 0)))) (gRet (gOp dAdd (gC (.int 1)) (gFz (gCall Lw.m_law_next [.r 0, .d (gC (.int 1000))])))) gNext)
    (gSeq (gIf (gB (gOp dEq (gPeek 1) (gC (.int 1)))) (gRet (gD (gOp dSub (gC (.int 1000)) (gFz (gCall Lw.m_law_next [.r 0, .d (gC (.int 3))]))))) gNext)
    (gRet (gOp dAdd (gC (.int 1)) (gFz (gCall Lw.m_law_next [.r 0, .d (gC (.int 9))])))))))
def m_law_weight : LS → R S := runDef [true] 2 g_law_weight
def g_law_total : LS → R O := (gSeq (gAsg 1 (gD (gC (.int 0))))
    (gSeq (gFor (fun L => ((gVar 0) L).bind asItems) (fTup 2 (fCons (fName 2) (fCons (fName 3) fNil))) (gAsg 1 (gOp dAdd (gVar 1) (gVar 3))))
    (gRet (gMove 1))))
def m_law_total : LS → R S := runDef [false] 4 g_law_total
end Lw

namespace Lw
open PySem VS
def Pl : Nat → D → Prop
  | 0, _ => False
  | k + 1, d => match d with
    | .none => True
    | .bool _ => True
    | .int _ => True
    | .str _ => True
    | .list xs => ∀ x ∈ xs, Pl k x
    | .tuple xs => ∀ x ∈ xs, Pl k x
    | _ => False
end Lw

namespace Lw
open PySem VS
end Lw

namespace Lw
open PySem PySem.Spec PyProof.Rows L2 VS
end Lw

namespace Lw
open PySem PySem.Spec PyProof.Rows L2 VS
def g_kept_weight : LS → R O := (gRet (gCall Lw.m_total [.d (gFz (gLc [3, 4] (fun L => ((gVar 0) L).bind asItems) (fTup 2 (fCons (fName 3) (fCons (fName 4) fNil))) (gB (gDIn true 2 (gTup (gCons (gVar 1) (gCons (gVar 3) gNil))))) (gTup (gCons (gVar 3) (gCons (gVar 4) gNil)))))]))
def m_kept_weight : LS → R S := runDef [false, false, true] 5 g_kept_weight
def g_margin_by : LS → R O := (gSeq (gAsgT (fTup 4 (fCons (fName 3) (fCons (fName 4) (fCons (fName 5) (fCons (fName 6) fNil))))) (gVar 0))
    (gRet (gD (gOp dSub (gOp dSub (gFz (gCall Lw.m_kept_weight [.d (gVar 3), .d (gVar 1), .r 2])) (gFz (gCall Lw.m_kept_weight [.d (gVar 4), .d (gVar 1), .r 2]))) (gVar 5)))))
def m_margin_by : LS → R S := runDef [false, false, true] 7 g_margin_by
def g_settle : LS → R O := (gSeq (gAsg 2 (gOp dMul (gFz (gLst (gCons (gC (.bool false)) gNil))) (gUn dLen (gPeek 0))))
    (gSeq (gFor (fun L => ((gUn dLen (gPeek 0)) L).bind rvr1) (fName 3) (gSeq (gAsg 4 (gD (gIxP 0 (gVar 3))))
    (gSeq (gSetIx 2 (gVar 3) (gOp dGe (gFz (gCall Lw.m_margin_by [.d (gVar 4), .d (gVar 3), .r 1])) (gC (.int 0))))
    (gIf (gAnd (gB (gIxP 2 (gVar 3))) (gB (gOp dIsN (gIxP 4 (gC (.int 3))) (gC .none)))) (gDPut 1 (gIxP 4 (gC (.int 3))) (gC (.bool true))) gNext))))
    (gRet (gMove 2))))
def m_settle : LS → R S := runDef [true, true] 5 g_settle
def g_law_side_v2 : LS → R O := (gSeq (gAsg 3 (gUn dList (gPeek 1)))
    (gSeq (gAsg 4 (gLst gNil))
    (gSeq (gFor (fun L => ((gCons (gA dMin (gCons (gVar 2) (gCons (gUn dLen (gPeek 1)) gNil))) gNil) L).bind rng1) (fName 5) (gDrop (gApp 4 (gTup (gCons (gPopAt 3 (gFz (gCall Lw.m_law_next [.r 0, .d (gUn dLen (gPeek 3))]))) (gCons (gFz (gCall Lw.m_law_weight [.r 0])) gNil))))))
    (gRet (gMove 4)))))
def m_law_side_v2 : LS → R S := runDef [true, true, false] 6 g_law_side_v2
def g_law_need : LS → R O := (gSeq (gAsg 3 (gOp dAdd (gOp dSub (gOp dSub (gFz (gCall Lw.m_law_total [.d (gVar 1)])) (gFz (gCall Lw.m_law_total [.d (gVar 2)]))) (gC (.int 3))) (gFz (gCall Lw.m_law_next [.r 0, .d (gC (.int 6))]))))
    (gSeq (gIf (gB (gOp dEq (gFz (gCall Lw.m_law_next [.r 0, .d (gC (.int 4))])) (gC (.int 0)))) (gAsg 3 (gOp dAdd (gC (.int 1)) (gFz (gCall Lw.m_law_next [.r 0, .d (gC (.int 30))])))) gNext)
    (gRet (gD (gA dMax (gCons (gC (.int 1)) (gCons (gA dMin (gCons (gC (.int 12000)) (gCons (gVar 3) gNil))) gNil)))))))
def m_law_need : LS → R S := runDef [true, false, false] 4 g_law_need
def g_law_named : LS → R O := (gSeq (gAsg 2 (gD (gUn dLen (gPeek 1))))
    (gSeq (gIf (gOr (gB (gOp dEq (gPeek 2) (gC (.int 0)))) (gB (gOp dEq (gFz (gCall Lw.m_law_next [.r 0, .d (gC (.int 5))])) (gC (.int 0))))) (gRet (gD (gC .none))) gNext)
    (gSeq (gAsg 3 (gCall Lw.m_law_next [.r 0, .d (gVar 2)]))
    (gSeq (gIf (gB (gOp dEq (gFz (gCall Lw.m_law_next [.r 0, .d (gC (.int 3))])) (gC (.int 0)))) (gAsg 3 (gD (gOp dSub (gVar 2) (gC (.int 1))))) gNext)
    (gSeq (gAsg 4 (gLc [5, 6] (fun L => ((gFz (gOp dAdd (gOp dIx (gIxP 1 (gVar 3)) (gC (.int 0))) (gOp dIx (gIxP 1 (gVar 3)) (gC (.int 1))))) L).bind asItems) (fTup 2 (fCons (fName 5) (fCons (fName 6) fNil))) gYes (gVar 5)))
    (gSeq (gIf (gB (gOp dEq (gUn dLen (gPeek 4)) (gC (.int 0)))) (gRet (gD (gC .none))) gNext)
    (gRet (gD (gTup (gCons (gVar 3) (gCons (gIxP 4 (gFz (gCall Lw.m_law_next [.r 0, .d (gUn dLen (gPeek 4))]))) gNil)))))))))))
def m_law_named : LS → R S := runDef [true, true] 7 g_law_named
def g_law_suits : LS → R O := (gSeq (gAsg 3 (gCall Lw.m_law_names [.r 0, .d (gFz (gOp dAdd (gVar 2) (gC (.int 2))))]))
    (gSeq (gAsg 4 (gLst gNil))
    (gSeq (gFor (fun L => ((gCons (gVar 1) gNil) L).bind rng1) (fName 5) (gSeq (gAsg 6 (gCall Lw.m_law_side_v2 [.r 0, .r 3, .d (gFz (gCall Lw.m_law_next [.r 0, .d (gFz (gOp dAdd (gVar 2) (gC (.int 1))))]))]))
    (gSeq (gAsg 7 (gD (gOp dDiv (gFz (gOp dAdd (gFz (gOp dAdd (gUn dLen (gPeek 6)) (gC (.int 1)))) (gFz (gCall Lw.m_law_next [.r 0, .d (gC (.int 2))])))) (gC (.int 2)))))
    (gSeq (gIf (gB (gOp dEq (gFz (gCall Lw.m_law_next [.r 0, .d (gC (.int 3))])) (gC (.int 0)))) (gAsg 7 (gCall Lw.m_law_next [.r 0, .d (gFz (gOp dAdd (gUn dLen (gPeek 6)) (gC (.int 1))))])) gNext)
    (gSeq (gAsg 8 (gCall Lw.m_law_named [.r 0, .r 4]))
    (gSeq (gAsg 9 (gCall Lw.m_law_need [.r 0, .d (gFz (gSl (gPeek 6) gNo (gSo (gVar 7)))), .d (gFz (gSl (gPeek 6) (gSo (gVar 7)) gNo))]))
    (gDrop (gApp 4 (gTup (gCons (gFz (gSl (gPeek 6) gNo (gSo (gVar 7)))) (gCons (gFz (gSl (gPeek 6) (gSo (gVar 7)) gNo)) (gCons (gVar 9) (gCons (gVar 8) gNil)))))))))))))
    (gRet (gMove 4)))))
def m_law_suits : LS → R S := runDef [true, false, false] 10 g_law_suits
def g_law_is_broken : LS → R O := (gSeq (gIf (gB (gOp dIn (gTup (gCons (gVar 2) (gCons (gVar 3) gNil))) (gPeek 4))) (gRet (gD (gC (.bool true)))) gNext)
    (gSeq (gFor (fun L => ((gCons (gFz (gOp dAdd (gVar 2) (gC (.int 1)))) (gCons (gUn dLen (gPeek 0)) gNil)) L).bind rng2) (fName 5) (gIf (gAnd (gB (gIxP 1 (gVar 5))) (gB (gOp dEq (gOp dIx (gIxP 0 (gVar 5)) (gC (.int 3))) (gTup (gCons (gVar 2) (gCons (gVar 3) gNil)))))) (gRet (gD (gC (.bool true)))) gNext))
    (gRet (gD (gC (.bool false))))))
def m_law_is_broken : LS → R S := runDef [true, true, false, false, true] 6 g_law_is_broken
end Lw

namespace Lw
open PySem PySem.Spec PyProof.Rows L2 VS
end Lw

namespace Lw
open PySem PySem.Spec PyProof.Rows L2 VS
def g_there : LS → R O := (gSeq (gIf (gOr (gB (gOp dLt (gPeek 1) (gC (.int 0)))) (gB (gOp dGe (gPeek 1) (gUn dLen (gPeek 0))))) gNever gNext)
    (gRet (gD (gIxP 0 (gVar 1)))))
def m_there : LS → R S := runDef [true, false] 2 g_there
end Lw

namespace Lw
open PySem PySem.Spec PyProof.Rows L2 VS
end Lw

namespace Lw
open PySem PySem.Spec PyProof.Rows L2 VS
def g_naming : LS → R O := (gRet (gLc [3, 4] (fun L => ((gCons (gVar 0) gNil) L).bind asEnum) (fTup 2 (fCons (fName 3) (fCons (fName 4) fNil))) (gB (gOp dEq (gIxP 4 (gC (.int 3))) (gTup (gCons (gVar 1) (gCons (gVar 2) gNil))))) (gVar 3)))
def m_naming : LS → R S := runDef [true, false, false] 5 g_naming
def g_law_oaths : LS → R O := (gSeq (gAsg 1 (gLst gNil))
    (gSeq (gFor (fun L => ((gCons (gVar 0) gNil) L).bind asEnum) (fTup 2 (fCons (fName 2) (fCons (fTup 4 (fCons (fName 3) (fCons (fName 4) (fCons (fName 5) (fCons (fName 6) fNil))))) fNil))) (gFor (fun L => ((gFz (gOp dAdd (gVar 3) (gVar 4))) L).bind asItems) (fTup 2 (fCons (fName 7) (fCons (fName 8) fNil))) (gDrop (gApp 1 (gTup (gCons (gVar 2) (gCons (gVar 7) gNil)))))))
    (gRet (gUn dSortedG (gPeek 1)))))
def m_law_oaths : LS → R S := runDef [true] 9 g_law_oaths
end Lw

namespace Lw
open PySem PySem.Spec PyProof.Rows L2 VS
def g_law_margin_v2 : LS → R O := (gSeq (gAsgT (fTup 4 (fCons (fName 4) (fCons (fName 5) (fCons (fName 6) (fCons (fName 7) fNil))))) (gIxP 0 (gVar 2)))
    (gSeq (gAsg 8 (gD (gOp dSub (gC (.int 0)) (gVar 6))))
    (gSeq (gFor (fun L => ((gVar 4) L).bind asItems) (fTup 2 (fCons (fName 9) (fCons (fName 10) fNil))) (gIf (gNot (gB (gFz (gCall Lw.m_law_is_broken [.r 0, .r 1, .d (gVar 2), .d (gVar 9), .r 3])))) (gAsg 8 (gOp dAdd (gVar 8) (gVar 10))) gNext))
    (gSeq (gFor (fun L => ((gVar 5) L).bind asItems) (fTup 2 (fCons (fName 9) (fCons (fName 10) fNil))) (gIf (gNot (gB (gFz (gCall Lw.m_law_is_broken [.r 0, .r 1, .d (gVar 2), .d (gVar 9), .r 3])))) (gAsg 8 (gD (gOp dSub (gVar 8) (gVar 10)))) gNext))
    (gRet (gMove 8))))))
def m_law_margin_v2 : LS → R S := runDef [true, true, false, true] 11 g_law_margin_v2
end Lw

namespace Lw
open PySem PySem.Spec PyProof.Rows L2 VS
def g_claims : LS → R O := (gSeq (gAsgT (fTup 4 (fCons (fName 4) (fCons (fName 5) (fCons (fName 6) (fCons (fName 7) fNil))))) (gIxP 0 (gVar 1)))
    (gSeq (gAsg 8 (gLc [9] (fun L => ((gVar 4) L).bind asItems) (fName 9) (gB (gOp dEq (gDIn true 3 (gTup (gCons (gVar 1) (gCons (gIxP 9 (gC (.int 0))) gNil)))) (gPeek 2))) (gVar 9)))
    (gRet (gOp dAdd (gVar 8) (gFz (gLc [9] (fun L => ((gVar 5) L).bind asItems) (fName 9) (gB (gOp dEq (gDIn false 3 (gTup (gCons (gVar 1) (gCons (gIxP 9 (gC (.int 0))) gNil)))) (gPeek 2))) (gVar 9)))))))
def m_claims : LS → R S := runDef [true, false, false, true] 10 g_claims
end Lw

namespace Lw
open PySem PySem.Spec PyProof.Rows L2 VS
end Lw

namespace Lw
open PySem PySem.Spec PyProof.Rows L2 VS
end Lw

namespace Lw
open PySem PySem.Spec PyProof.Rows L2 VS
def g_better : LS → R O := (gSeq (gIf (gB (gDIn true 0 (gVar 1))) (gRet (gD (gC (.bool true)))) gNext)
    (gRet (gD (gOp dLt (gOp dIx (gDGet 0 (gVar 1)) (gC (.int 0))) (gPeek 2)))))
def m_better : LS → R S := runDef [true, false, false] 3 g_better
def g_cheapest : LS → R O := (gSeq (gIf (gB (gOp dLt (gPeek 1) (gC (.int 1)))) (gRet (gD (gFz (gLst gNil)))) gNext)
    (gSeq (gAsg 2 (gDlit (gC (.int 0)) (gTup (gCons (gC (.int 0)) (gCons (gFz (gLst gNil)) gNil)))))
    (gSeq (gFor (fun L => ((gCons (gVar 0) gNil) L).bind asEnum) (fTup 2 (fCons (fName 3) (fCons (fTup 2 (fCons (fName 4) (fCons (fName 5) fNil))) fNil))) (gSeq (gAsg 6 (gOnS sCopy (gLk 2)))
    (gSeq (gFor (fun L => ((gMove 2) L).bind asItemsK) (fTup 2 (fCons (fName 7) (fCons (fTup 2 (fCons (fName 8) (fCons (fName 9) fNil))) fNil))) (gSeq (gIf (gB (gOp dGe (gPeek 8) (gPeek 1))) (fun L => .ok .ct L) gNext)
    (gIf (gB (gFz (gCall Lw.m_better [.r 6, .d (gFz (gOp dAdd (gVar 7) (gVar 4))), .d (gFz (gOp dAdd (gVar 8) (gVar 5)))]))) (gDPut 6 (gFz (gOp dAdd (gVar 7) (gVar 4))) (gTup (gCons (gFz (gOp dAdd (gVar 8) (gVar 5))) (gCons (gFz (gOp dAdd (gVar 9) (gFz (gLst (gCons (gVar 3) gNil))))) gNil)))) gNext)))
    (gAsg 2 (gMove 6)))))
    (gSeq (gFor (fun L => ((gFz (gOnS sSorted (gLk 2))) L).bind asItems) (fName 7) (gIf (gB (gOp dGe (gOp dIx (gDGet 2 (gVar 7)) (gC (.int 0))) (gPeek 1))) (gRet (gD (gOp dIx (gDGet 2 (gVar 7)) (gC (.int 1))))) gNext))
    (gRet (gD (gC .none)))))))
def m_cheapest : LS → R S := runDef [false, false] 10 g_cheapest
def g_oath_plan : LS → R O := (gSeq (gIf (gB (gDIn true 3 (gTup (gCons (gVar 1) (gCons (gVar 2) gNil))))) (gRet (gLst (gCons (gTup (gCons (gVar 1) (gCons (gVar 2) gNil))) gNil))) gNext)
    (gSeq (gAsg 6 (gLst gNil))
    (gSeq (gFor (fun L => ((gFz (gCall Lw.m_naming [.r 0, .d (gVar 1), .d (gVar 2)])) L).bind asItems) (fName 7) (gIf (gB (gIxP 4 (gVar 7))) (gAsg 6 (gOp dAdd (gVar 6) (gIxP 5 (gVar 7)))) gNext))
    (gRet (gMove 6)))))
def m_oath_plan : LS → R S := runDef [true, false, false, true, true, true] 8 g_oath_plan
def g_case_plan : LS → R O := (gSeq (gAsg 5 (gLst gNil))
    (gSeq (gAsg 6 (gLst gNil))
    (gSeq (gFor (fun L => ((gFz (gCall Lw.m_claims [.r 0, .d (gVar 1), .d (gIxP 3 (gVar 1)), .r 2])) L).bind asItems) (fTup 2 (fCons (fName 7) (fCons (fName 8) fNil))) (gSeq (gDrop (gApp 5 (gFz (gCall Lw.m_oath_plan [.r 0, .d (gVar 1), .d (gVar 7), .r 2, .r 3, .r 4]))))
    (gDrop (gApp 6 (gTup (gCons (gUn dLen (gIxP 5 (gUn dNeg (gC (.int 1))))) (gCons (gVar 8) gNil)))))))
    (gSeq (gAsg 9 (gCall Lw.m_margin_by [.d (gIxP 0 (gVar 1)), .d (gVar 1), .r 2]))
    (gSeq (gIf (gB (gIxP 3 (gVar 1))) (gAsg 9 (gOp dAdd (gVar 9) (gC (.int 1)))) (gAsg 9 (gD (gOp dSub (gC (.int 0)) (gVar 9)))))
    (gSeq (gAsg 10 (gCall Lw.m_cheapest [.d (gVar 6), .d (gVar 9)]))
    (gSeq (gIf (gB (gOp dIs (gPeek 10) (gC .none))) (gRet (gD (gC .none))) gNext)
    (gSeq (gAsg 11 (gLst gNil))
    (gSeq (gFor (fun L => ((gVar 10) L).bind asItems) (fName 12) (gAsg 11 (gOp dAdd (gVar 11) (gIxP 5 (gVar 12)))))
    (gRet (gMove 11)))))))))))
def m_case_plan : LS → R S := runDef [true, false, true, true, true] 13 g_case_plan
def g_fewest : LS → R O := (gSeq (gDrop (gCall Lw.m_there [.r 0, .d (gVar 1)]))
    (gSeq (gAsg 2 gNewT)
    (gSeq (gAsg 3 (gCall Lw.m_settle [.r 0, .r 2]))
    (gSeq (gAsg 4 (gOp dMul (gFz (gLst (gCons (gC .none) gNil))) (gUn dLen (gPeek 0))))
    (gSeq (gFor (fun L => ((gUn dLen (gPeek 0)) L).bind rvr1) (fName 5) (gIf (gB (gOp dGe (gPeek 5) (gPeek 1))) (gSetIx 4 (gVar 5) (gFz (gCall Lw.m_case_plan [.r 0, .d (gVar 5), .r 2, .r 3, .r 4]))) gNext))
    (gSeq (gIf (gB (gOp dIs (gIxP 4 (gVar 1)) (gC .none))) (gRet (gD (gC .none))) gNext)
    (gRet (gUn dSortedG (gIxP 4 (gVar 1))))))))))
def m_fewest : LS → R S := runDef [true, false] 6 g_fewest
def g_law_settle : LS → R O := (gSeq (gAsg 2 (gOp dMul (gFz (gLst (gCons (gC (.bool false)) gNil))) (gUn dLen (gPeek 0))))
    (gSeq (gFor (fun L => ((gUn dLen (gPeek 0)) L).bind rvr1) (fName 3) (gSetIx 2 (gVar 3) (gOp dGe (gFz (gCall Lw.m_law_margin_v2 [.r 0, .r 2, .d (gVar 3), .r 1])) (gC (.int 0)))))
    (gRet (gMove 2))))
def m_law_settle : LS → R S := runDef [true, false] 4 g_law_settle
end Lw

namespace Lw
open PySem PySem.Spec PyProof.Rows L2 VS
def g_law_pairs_fit : LS → R O := (gSeq (gIf (gOr (gNot (gB (gIsi "list" (gPeek 0)))) (gB (gOp dNe (gPeek 0) (gFz (gUn dSortedG (gPeek 0)))))) (gRet (gD (gC (.bool false)))) gNext)
    (gSeq (gFor (fun L => ((gVar 0) L).bind asItems) (fName 2) (gIf (gOr (gNot (gB (gIsi "tuple" (gPeek 2)))) (gOr (gB (gOp dNotIn (gPeek 2) (gPeek 1))) (gB (gOp dNe (gCountD (gPeek 0) (gVar 2)) (gC (.int 1)))))) (gRet (gD (gC (.bool false)))) gNext))
    (gRet (gD (gC (.bool true))))))
def m_law_pairs_fit : LS → R S := runDef [false, false] 3 g_law_pairs_fit
def g_law_light : LS → R O := (gSeq (gAsg 1 (gLst gNil))
    (gSeq (gFor (fun L => ((gVar 0) L).bind asItems) (fTup 4 (fCons (fName 2) (fCons (fName 3) (fCons (fName 4) (fCons (fName 5) fNil))))) (gSeq (gAsg 6 (gLc [7, 8] (fun L => ((gVar 2) L).bind asItems) (fTup 2 (fCons (fName 7) (fCons (fName 8) fNil))) gYes (gTup (gCons (gVar 7) (gCons (gFz (gOp dAdd (gC (.int 1)) (gOp dMod (gVar 8) (gC (.int 9))))) gNil)))))
    (gDrop (gApp 1 (gTup (gCons (gVar 6) (gCons (gFz (gLc [7, 8] (fun L => ((gVar 3) L).bind asItems) (fTup 2 (fCons (fName 7) (fCons (fName 8) fNil))) gYes (gTup (gCons (gVar 7) (gCons (gFz (gOp dAdd (gC (.int 1)) (gOp dMod (gVar 8) (gC (.int 9))))) gNil))))) (gCons (gFz (gOp dAdd (gC (.int 1)) (gOp dMod (gVar 4) (gC (.int 12))))) (gCons (gVar 5) gNil)))))))))
    (gRet (gMove 1))))
def m_law_light : LS → R S := runDef [false] 9 g_law_light
def g_law_least : LS → R O := (gSeq (gAsg 2 (gOp dAdd (gFz (gLst (gCons (gC (.int 0)) gNil))) (gFz (gOp dMul (gFz (gLst (gCons (gC .none) gNil))) (gVar 1)))))
    (gSeq (gFor (fun L => ((gVar 0) L).bind asItems) (fTup 2 (fCons (fName 3) (fCons (fName 4) fNil))) (gFor (fun L => ((gCons (gC (.int 1)) (gCons (gFz (gOp dAdd (gVar 1) (gC (.int 1)))) gNil)) L).bind rvr2) (fName 5) (gSeq (gAsg 6 (gD (gIxP 2 (gA dMax (gCons (gC (.int 0)) (gCons (gOp dSub (gVar 5) (gVar 4)) gNil))))))
    (gIf (gAnd (gB (gOp dIsN (gPeek 6) (gC .none))) (gOr (gB (gOp dIs (gIxP 2 (gVar 5)) (gC .none))) (gB (gOp dLt (gFz (gOp dAdd (gVar 6) (gVar 3))) (gIxP 2 (gVar 5)))))) (gSetIx 2 (gVar 5) (gFz (gOp dAdd (gVar 6) (gVar 3)))) gNext))))
    (gRet (gD (gIxP 2 (gVar 1))))))
def m_law_least : LS → R S := runDef [true, false] 7 g_law_least
def g_law_price : LS → R O := (gSeq (gAsgT (fTup 4 (fCons (fName 4) (fCons (fName 5) (fCons (fName 6) (fCons (fName 7) fNil))))) (gIxP 0 (gVar 3)))
    (gSeq (gAsg 8 (gLst gNil))
    (gSeq (gFor (fun L => ((gFz (gOp dAdd (gVar 4) (gVar 5))) L).bind asItems) (fTup 2 (fCons (fName 9) (fCons (fName 10) fNil))) (gSeq (gAsg 11 (gD (gOp dEq (gOp dIn (gPeek 9) (gFz (gLc [16, 17] (fun L => ((gVar 4) L).bind asItems) (fTup 2 (fCons (fName 16) (fCons (fName 17) fNil))) gYes (gVar 16)))) (gIxP 1 (gVar 3)))))
    (gSeq (gAsg 12 (gCallT Lw.m_law_is_broken 5 [.r 0, .r 1, .d (gVar 3), .d (gVar 9)] (gLst gNil)))
    (gIf (gOr (gAnd (gB (gVar 11)) (gNot (gB (gVar 12)))) (gAnd (gNot (gB (gVar 11))) (gB (gVar 12)))) (gSeq (gAsg 13 (gD (gC (.int 1))))
    (gSeq (gIf (gB (gVar 12)) (gSeq (gAsg 13 (gD (gC (.int 0))))
    (gFor (fun L => ((gCons (gFz (gOp dAdd (gVar 3) (gC (.int 1)))) (gCons (gUn dLen (gPeek 0)) gNil)) L).bind rng2) (fName 14) (gIf (gAnd (gB (gIxP 1 (gVar 14))) (gB (gOp dEq (gOp dIx (gIxP 0 (gVar 14)) (gC (.int 3))) (gTup (gCons (gVar 3) (gCons (gVar 9) gNil)))))) (gAsg 13 (gOp dAdd (gVar 13) (gIxP 2 (gVar 14)))) gNext))) gNext)
    (gDrop (gApp 8 (gTup (gCons (gVar 13) (gCons (gVar 10) gNil))))))) gNext))))
    (gSeq (gAsg 15 (gCallT Lw.m_law_margin_v2 4 [.r 0, .r 1, .d (gVar 3)] (gLst gNil)))
    (gSeq (gIf (gB (gIxP 1 (gVar 3))) (gRet (gCall Lw.m_law_least [.r 8, .d (gFz (gOp dAdd (gVar 15) (gC (.int 1))))])) gNext)
    (gRet (gCall Lw.m_law_least [.r 8, .d (gOp dSub (gC (.int 0)) (gVar 15))])))))))
def m_law_price : LS → R S := runDef [true, true, true, false] 18 g_law_price
def g_main_k19 : LS → R O := (gSeq (gAsg 1 (gCall Lw.m_law_src [.r 0]))
    (gSeq (gAsg 2 (gCall Lw.m_law_light [.d (gFz (gCall Lw.m_law_suits [.r 1, .d (gFz (gOp dAdd (gC (.int 1)) (gFz (gCall Lw.m_law_next [.r 1, .d (gC (.int 12))])))), .d (gC (.int 8))]))]))
    (gSeq (gAsg 3 (gD (gFz (gCall Lw.m_law_settle [.r 2, .d (gFz (gLst gNil))]))))
    (gSeq (gAsg 4 (gD (gFz (gCall Lw.m_law_oaths [.r 2]))))
    (gSeq (gAsg 5 (gOp dMul (gFz (gLst (gCons (gC .none) gNil))) (gUn dLen (gPeek 2))))
    (gSeq (gFor (fun L => ((gUn dLen (gPeek 2)) L).bind rvr1) (fName 6) (gSeq (gSetIx 5 (gVar 6) (gFz (gCall Lw.m_law_price [.r 2, .r 3, .r 5, .d (gVar 6)])))
    (gSeq (gAsg 7 (gCall Lw.m_fewest [.r 2, .d (gVar 6)]))
    (gIf (gOr (gB (gOp dIs (gIxP 5 (gVar 6)) (gC .none))) (gB (gOp dIs (gPeek 7) (gC .none)))) (gIf (gOr (gB (gOp dIsN (gIxP 5 (gVar 6)) (gC .none))) (gB (gOp dIsN (gPeek 7) (gC .none)))) (gRet (gD (gC (.bool false)))) gNext) (gIf (gOr (gNot (gB (gFz (gCall Lw.m_law_pairs_fit [.d (gVar 7), .d (gVar 4)])))) (gB (gOp dNe (gUn dLen (gPeek 7)) (gIxP 5 (gVar 6))))) (gRet (gD (gC (.bool false)))) (gIf (gB (gOp dEq (gOp dIx (gFz (gCall Lw.m_law_settle [.r 2, .d (gVar 7)])) (gVar 6)) (gIxP 3 (gVar 6)))) (gRet (gD (gC (.bool false)))) gNext))))))
    (gRet (gD (gC (.bool true))))))))))
def m_main_k19 : LS → R S := runDef [true] 8 g_main_k19
end Lw

namespace VS
open PySem PySem.Spec PyProof.Rows L2
inductive T (ε α : Type) where
  | ok (a : α)
  | er (c : Nat) (e : ε)
  | no
namespace T
variable {ε ε' α β γ ν ρ : Type}
def bind (t : T ε α) (k : α → T ε β) : T ε β := match t with
  | .ok a => k a
  | .er c e => .er c e
  | .no => .no
theorem ok_bind (a : α) (k : α → T ε β) : (T.ok a).bind k = k a := rfl
def ofO (o : Option α) : T ε α := match o with
  | some a => .ok a
  | none => .no
@[irreducible] def gd (p : Prop) [Decidable p] (t : T ε α) : T ε α := if p then t else .no
theorem gd_of {p : Prop} [Decidable p] (h : p) (t : T ε α) : gd p t = t := by
  unfold gd
  exact if_pos h
def lift (f : ε' → ε) (t : T ε' α) : T ε α := match t with
  | .ok a => .ok a
  | .er c e => .er c (f e)
  | .no => .no
def forM : List α → ν → (α → ν → T ε ν) → T ε ν
  | [], v, _ => .ok v
  | x :: xs, v, f => (f x v).bind fun v' => forM xs v' f
inductive Lp (ν ρ : Type) where
  | nx (v : ν)
  | bk (v : ν)
  | rt (r : ρ)
inductive Le (ν ρ : Type) where
  | nx (v : ν)
  | rt (r : ρ)
def forL : List α → ν → (α → ν → T ε (Lp ν ρ)) → T ε (Le ν ρ)
  | [], v, _ => .ok (.nx v)
  | x :: xs, v, f => (f x v).bind fun r => match r with
    | .nx v' => forL xs v' f
    | .bk v' => .ok (.nx v')
    | .rt r => .ok (.rt r)
def bindL (t : T ε (Le ν ρ)) (n : ν → T ε α) (r : ρ → T ε α) : T ε α := t.bind fun z => match z with
  | .nx v => n v
  | .rt x => r x
theorem bindL_nx (v : ν) (n : ν → T ε α) (r : ρ → T ε α) : bindL (.ok (.nx v)) n r = n v := rfl
theorem bindL_rt (x : ρ) (n : ν → T ε α) (r : ρ → T ε α) : bindL (.ok (.rt x)) n r = r x := rfl
end T

def Mt (A L : LS) : Prop := L.length = A.length ∧ ∀ (i : Nat) (s : S), A[i]? = some (some s) → L[i]? = some (some s)
theorem Mt.refl (A : LS) : Mt A A := ⟨rfl, fun _ _ h => h⟩
theorem Mt.trans {A B C : LS} (h : Mt A B) (k : Mt B C) : Mt A C := ⟨k.1.trans h.1, fun i s e => k.2 i s (h.2 i s e)⟩
theorem Mt.set {A L : LS} (h : Mt A L) (i : Nat) (x : Option S) : Mt (A.set i x) (L.set i x) := ⟨by rw [List.length_set, List.length_set]; exact h.1, fun j s e => by
  rcases set_get e with ⟨rfl, hs⟩ | ⟨hj, hs⟩
  · have hlt : i < A.length := by
      have := (List.getElem?_eq_some_iff.mp e).1
      rwa [List.length_set] at this
    rw [List.getElem?_set_self (by rw [h.1]; exact hlt), hs]
  · rw [List.getElem?_set_ne hj]
    exact h.2 j s hs⟩
theorem Mt.off {A L : LS} (h : Mt A L) (i : Nat) : Mt (A.set i none) L := ⟨by rw [List.length_set]; exact h.1, fun j s e => by
  rcases set_get e with ⟨_, hs⟩ | ⟨hj, hs⟩
  · cases hs
  · exact h.2 j s hs⟩
theorem Mt.offL {A L : LS} (h : Mt A L) (i : Nat) (x : Option S) : Mt (A.set i none) (L.set i x) := ⟨by rw [List.length_set, List.length_set]; exact h.1, fun j s e => by
  rcases set_get e with ⟨_, hs⟩ | ⟨hj, hs⟩
  · cases hs
  · rw [List.getElem?_set_ne hj]
    exact h.2 j s hs⟩
theorem mt_nil : Mt [] [] := Mt.refl _
theorem mt_k {A L : LS} {x : Option S} (h : Mt A L) : Mt (x :: A) (x :: L) := ⟨by rw [List.length_cons, List.length_cons, h.1], fun i s e => by
  cases i with
  | zero => exact e
  | succ i => exact h.2 i s e⟩
theorem mt_w {A L : LS} {x : Option S} (h : Mt A L) : Mt (none :: A) (x :: L) := ⟨by rw [List.length_cons, List.length_cons, h.1], fun i s e => by
  cases i with
  | zero => cases e
  | succ i => exact h.2 i s e⟩
theorem Mt.app {A L B M : LS} (h : Mt A L) (k : Mt B M) : Mt (A ++ B) (L ++ M) := ⟨by rw [List.length_append, List.length_append, h.1, k.1], fun i s e => by
  by_cases hi : i < A.length
  · rw [List.getElem?_append_left hi] at e
    rw [List.getElem?_append_left (by rw [h.1]; exact hi)]
    exact h.2 i s e
  · rw [List.getElem?_append_right (Nat.le_of_not_lt hi)] at e
    rw [List.getElem?_append_right (by rw [h.1]; exact Nat.le_of_not_lt hi), h.1]
    exact k.2 _ s e⟩
theorem Mt.mask : ∀ {md : List Bool} {A L : LS}, Mt A L → Mt (maskL md A) (maskL md L)
  | [], A, L, h => by cases A <;> cases L <;> exact mt_nil
  | b :: md, [], [], h => Mt.refl _
  | b :: md, [], _ :: _, h => by cases h.1
  | b :: md, _ :: _, [], h => by cases h.1
  | b :: md, x :: A, y :: L, h => by
    have ht : Mt A L := ⟨Nat.succ.inj h.1, fun i s e => h.2 (i + 1) s e⟩
    show Mt ((if b then x else none) :: maskL md A) ((if b then y else none) :: maskL md L)
    cases b with
    | false => exact mt_k (Mt.mask ht)
    | true =>
      cases x with
      | none => exact mt_w (Mt.mask ht)
      | some s =>
        have := h.2 0 s rfl
        have hy : y = some s := Option.some.inj this
        rw [hy]
        exact mt_k (Mt.mask ht)

section
variable {ε ε' α β γ δ ω ω' ν ρ : Type}
def SimR (r : R ω) (t : T ε β) (F : β → ω) (B : β → LS) (X : ε → LS) : Prop := match t with
  | .ok b => ∃ L, r = .ok (F b) L ∧ Mt (B b) L
  | .er c e => ∃ L, r = .err c L ∧ Mt (X e) L
  | .no => True
def SK (A : LS) (k : LS → R ω) (t : T ε β) (F : β → ω) (B : β → LS) (X : ε → LS) : Prop := ∀ L, Mt A L → SimR (k L) t F B X
def Pu {α : Type} (A : LS) (g : LS → R α) (a : α) : Prop := ∀ L, Mt A L → g L = .ok a L
structure Kont (ω : Type) where
  nx : LS → R ω
  rt : S → LS → R ω
  bk : LS → R ω
  ct : LS → R ω
def fin (K : Kont ω) (r : R O) : R ω := match r with
  | .ok .nx L => K.nx L
  | .ok (.rt s) L => K.rt s L
  | .ok .bk L => K.bk L
  | .ok .ct L => K.ct L
  | .err c L => .err c L
  | .stuck => .stuck
def Kont.next (K : Kont ω) (g : LS → R O) : Kont ω := { K with nx := fun L => fin K (g L) }
variable {A A' : LS} {F : β → ω} {B : β → LS} {X : ε → LS} {t : T ε β}

theorem k_ok {w : ω} {b : β} (hw : w = F b) (hB : Mt (B b) A) : SK A (fun L => .ok w L) (.ok b) F B X := fun L hL => ⟨L, by rw [hw], hB.trans hL⟩
theorem k_no {k : LS → R ω} : SK A k (.no) F B X := fun _ _ => trivial
theorem k_gd {k : LS → R ω} {p : Prop} [Decidable p] (h : p → SK A k t F B X) : SK A k (T.gd p t) F B X := by
  unfold T.gd
  split
  · exact h (by assumption)
  · exact k_no
theorem e_pu {g : LS → R α} {a : α} {k : α → LS → R ω} (h : Pu A g a) (h2 : SK A (k a) t F B X) : SK A (fun L => (g L).bind k) t F B X := fun L hL => by
  show SimR ((g L).bind k) t F B X
  rw [h L hL]
  exact h2 L hL
theorem e_ok {a : α} {k : α → LS → R ω} (h2 : SK A (k a) t F B X) : SK A (fun L => (R.ok a L).bind k) t F B X := h2
theorem bind_assoc' {r : R α} {k : α → LS → R γ} {j : γ → LS → R ω} : (r.bind k).bind j = r.bind fun a L => (k a L).bind j := by cases r <;> rfl
theorem e_bind {g : LS → R α} {k : α → LS → R γ} {j : γ → LS → R ω} (h : SK A (fun L => (g L).bind fun a L1 => (k a L1).bind j) t F B X) : SK A (fun L => ((g L).bind k).bind j) t F B X := fun L hL => by
  show SimR (((g L).bind k).bind j) t F B X
  rw [bind_assoc']
  exact h L hL
theorem e_d {g : LS → R D} {k : S → LS → R ω} (h : SK A (fun L => (g L).bind fun d L1 => k (.d d) L1) t F B X) : SK A (fun L => (gD g L).bind k) t F B X := e_bind h
theorem e_fz {g : LS → R S} {k : D → LS → R ω} (h : SK A (fun L => (g L).bind fun s L1 => (frS s L1).bind k) t F B X) : SK A (fun L => (gFz g L).bind k) t F B X := e_bind h
theorem e_B {g : LS → R D} {k : Bool → LS → R ω} (h : SK A (fun L => (g L).bind fun d L1 => (asB d L1).bind k) t F B X) : SK A (fun L => (gB g L).bind k) t F B X := e_bind h
theorem e_op {f : D → D → Option α} {ga gb : LS → R D} {k : α → LS → R ω} (h : SK A (fun L => (ga L).bind fun d L1 => (gb L1).bind fun e L2 => (ofO (f d e) L2).bind k) t F B X) : SK A (fun L => (gOp f ga gb L).bind k) t F B X := fun L hL => by
  show SimR (((ga L).bind fun d L1 => (gb L1).bind fun e L2 => ofO (f d e) L2).bind k) t F B X
  rw [bind_assoc']
  have := h L hL
  dsimp only at this
  cases e : ga L with
  | stuck => rw [e] at this; exact this
  | err c L1 => rw [e] at this; exact this
  | ok d L1 =>
    rw [e] at this
    show SimR (((gb L1).bind fun e L2 => ofO (f d e) L2).bind k) t F B X
    rw [bind_assoc']
    exact this
theorem e_un {f : D → Option α} {ga : LS → R D} {k : α → LS → R ω} (h : SK A (fun L => (ga L).bind fun d L1 => (ofO (f d) L1).bind k) t F B X) : SK A (fun L => (gUn f ga L).bind k) t F B X := e_bind h
theorem e_o {o : Option α} {z : α} {k : α → LS → R ω} (h : o = some z) (h2 : SK A (k z) t F B X) : SK A (fun L => (ofO o L).bind k) t F B X := by
  rw [h]
  exact h2
theorem e_oO {o : Option α} {p : Option γ} {f : γ → α} {k : α → LS → R ω} {t' : γ → T ε β} (h : o = p.map f) (h2 : ∀ z, SK A (k (f z)) (t' z) F B X) : SK A (fun L => (ofO o L).bind k) ((T.ofO p).bind t') F B X := by
  rw [h]
  cases p with
  | none => exact k_no
  | some z => exact h2 z
theorem e_cons {a : LS → R D} {r : LS → R (List D)} {k : List D → LS → R ω} (h : SK A (fun L => (a L).bind fun d L1 => (r L1).bind fun ds L2 => k (d :: ds) L2) t F B X) : SK A (fun L => (gCons a r L).bind k) t F B X := fun L hL => by
  show SimR (((a L).bind fun d L1 => (r L1).bind fun ds L2 => R.ok (d :: ds) L2).bind k) t F B X
  rw [bind_assoc']
  have := h L hL
  dsimp only at this
  cases e : a L with
  | stuck => rw [e] at this; exact this
  | err c L1 => rw [e] at this; exact this
  | ok d L1 =>
    rw [e] at this
    show SimR (((r L1).bind fun ds L2 => R.ok (d :: ds) L2).bind k) t F B X
    rw [bind_assoc']
    exact this
theorem e_tup {a : LS → R (List D)} {k : D → LS → R ω} (h : SK A (fun L => (a L).bind fun ds L1 => (if ds.length ≤ sizeLine then R.ok (PyData.tuple ds) L1 else .stuck).bind k) t F B X) : SK A (fun L => (gTup a L).bind k) t F B X := e_bind h
theorem e_iteP {p : Prop} [Decidable p] {r : LS → R α} {k : α → LS → R ω} (hp : p) (h : SK A (fun L => (r L).bind k) t F B X) : SK A (fun L => (if p then r L else R.stuck).bind k) t F B X := by
  simp only [if_pos hp]
  exact h
theorem e_varF {i : Nat} {ds : List D} {k : D → LS → R ω} (h : A[i]? = some (some (.ol ds))) (h2 : SK (A.set i (some (.d (.list ds)))) (k (.list ds)) t F B X) : SK A (fun L => (gVar i L).bind k) t F B X := fun L hL => by
  show SimR ((gVar i L).bind k) t F B X
  unfold gVar
  rw [hL.2 i _ h]
  exact h2 _ (hL.set i _)
theorem e_move {i : Nat} {s : S} {k : S → LS → R ω} (h : A[i]? = some (some s)) (hs : ∀ ns, s ≠ .scr ns) (h2 : SK (A.set i none) (k s) t F B X) (hb : s.own = true := by rfl) : SK A (fun L => (gMove i L).bind k) t F B X := fun L hL => by
  show SimR ((gMove i L).bind k) t F B X
  unfold gMove
  rw [hL.2 i _ h]
  cases s with
  | d d => exact h2 _ (hL.off i)
  | scr ns => exact absurd rfl (hs ns)
  | ol _ => exact h2 _ (hL.offL i _)
  | odK _ => exact h2 _ (hL.offL i _)
  | odT _ => exact h2 _ (hL.offL i _)
  | ob _ _ => exact h2 _ (hL.offL i _)
  | os _ => exact h2 _ (hL.offL i _)
  | ot _ => exact h2 _ (hL.offL i _)
  | b _ => cases hb
  | bl _ => cases hb
theorem e_not {a : LS → R Bool} {k : Bool → LS → R ω} (h : SK A (fun L => (a L).bind fun x L1 => k (!x) L1) t F B X) : SK A (fun L => (gNot a L).bind k) t F B X := e_bind h
abbrev SS (A : LS) (g : LS → R O) (K : Kont ω) (t : T ε β) (F : β → ω) (B : β → LS) (X : ε → LS) : Prop := SK A (fun L => fin K (g L)) t F B X
theorem s_then {K : Kont ω} {g : LS → R O} (h : SS A g K t F B X) : SK A (K.next g).nx t F B X := h
theorem s_seq {K : Kont ω} {g1 g2 : LS → R O} (h : SS A g1 (K.next g2) t F B X) : SS A (gSeq g1 g2) K t F B X := fun L hL => by
  have := h L hL
  dsimp only at this
  show SimR (fin K (gSeq g1 g2 L)) t F B X
  unfold gSeq
  cases e : g1 L with
  | stuck => simp only [e] at this; exact this
  | err c L1 => simp only [e] at this; exact this
  | ok o L1 =>
    simp only [e] at this
    cases o <;> exact this
theorem s_next {K : Kont ω} (h : SK A K.nx t F B X) : SS A gNext K t F B X := h
theorem fin_bind {K : Kont ω} {r : R α} {k : α → LS → R O} : fin K (r.bind k) = r.bind fun a L => fin K (k a L) := by cases r <;> rfl
theorem s_bind {K : Kont ω} {g : LS → R α} {k : α → LS → R O} (h : SK A (fun L => (g L).bind fun a L1 => fin K (k a L1)) t F B X) : SS A (fun L => (g L).bind k) K t F B X := fun L hL => by
  show SimR (fin K ((g L).bind k)) t F B X
  rw [fin_bind]
  exact h L hL
theorem s_asg {K : Kont ω} {i : Nat} {g : LS → R S} (h : SK A (fun L => (g L).bind fun s L1 => K.nx (L1.set i (some s))) t F B X) : SS A (gAsg i g) K t F B X := s_bind h
theorem s_set {K : Kont ω} {i : Nat} {s : S} {A' : LS} (hA : A.set i (some s) = A') (h : SK A' K.nx t F B X) : SK A (fun L => K.nx (L.set i (some s))) t F B X := fun L hL => h _ (by rw [← hA]; exact hL.set i _)
theorem s_drop {K : Kont ω} {g : LS → R α} (h : SK A (fun L => (g L).bind fun _ L1 => K.nx L1) t F B X) : SS A (gDrop g) K t F B X := s_bind h
theorem s_ret {K : Kont ω} {g : LS → R S} (h : SK A (fun L => (g L).bind fun s L1 => K.rt s L1) t F B X) : SS A (gRet g) K t F B X := s_bind h
theorem s_ct {K : Kont ω} (h : SK A K.ct t F B X) : SS A (fun L => .ok .ct L) K t F B X := h
theorem s_if {K : Kont ω} {c : LS → R Bool} {g1 g2 : LS → R O} {x : Bool} {t1 t2 : T ε β} (hc : Pu A c x) (h1 : SS A g1 K t1 F B X) (h2 : SS A g2 K t2 F B X) : SS A (gIf c g1 g2) K (if x = true then t1 else t2) F B X := s_bind (e_pu hc (by
  cases x with
  | true => exact h1
  | false => exact h2))
theorem s_ifE {K : Kont ω} {c : LS → R Bool} {g1 g2 : LS → R O} (h : SK A (fun L => (c L).bind fun b L1 => fin K (if b = true then g1 L1 else g2 L1)) t F B X) : SS A (gIf c g1 g2) K t F B X := s_bind h
theorem s_ite {K : Kont ω} {g1 g2 : LS → R O} {x : Bool} {t1 t2 : T ε β} (h1 : SS A g1 K t1 F B X) (h2 : SS A g2 K t2 F B X) : SK A (fun L => fin K (if x = true then g1 L else g2 L)) (if x = true then t1 else t2) F B X := by
  cases x with
  | true => exact h1
  | false => exact h2
def KN : Kont Unit := ⟨fun L => .ok () L, fun _ _ => .stuck, fun _ => .stuck, fun _ => .stuck⟩
theorem s_cut {K : Kont ω} {g : LS → R O} {t1 : T ε γ} {B1 : γ → LS} {t' : γ → T ε β} (h1 : SS A g KN t1 (fun _ => ()) B1 X) (h2 : ∀ c, SK (B1 c) K.nx (t' c) F B X) : SS A g K (t1.bind t') F B X := fun L hL => by
  show SimR (fin K (g L)) (t1.bind t') F B X
  have h := h1 L hL
  cases t1 with
  | no => trivial
  | er c e =>
    obtain ⟨L1, h3, h4⟩ := h
    try dsimp only at h3
    cases e : g L with
    | ok o L2 => rw [e] at h3; cases o <;> cases h3
    | stuck => rw [e] at h3; cases h3
    | err c' L2 => rw [e] at h3; cases h3; exact ⟨L1, rfl, h4⟩
  | ok b =>
    obtain ⟨L1, h3, h4⟩ := h
    try dsimp only at h3
    cases e : g L with
    | ok o L2 => rw [e] at h3; cases o <;> cases h3; exact h2 b _ h4
    | stuck => rw [e] at h3; cases h3
    | err c' L2 => rw [e] at h3; cases h3
def leO (f : ρ → S) : T.Le ν ρ → O
  | .nx _ => .nx
  | .rt r => .rt (f r)
def leB (Bn : ν → LS) (Br : ρ → LS) : T.Le ν ρ → LS
  | .nx v => Bn v
  | .rt r => Br r
def Kf (md : List Bool) : Kont S := ⟨fun L => .ok (.d .none) (maskL md L), fun s L => .ok s (maskL md L), fun _ => .stuck, fun _ => .stuck⟩
theorem f_def {md : List Bool} {N : Nat} {g : LS → R O} {A0 : LS} {F : β → S} {X' : ε → LS} (h : SS (A0 ++ List.replicate (N - A0.length) none) g (Kf md) t F B X') (hX : ∀ e, Mt (X e) (maskL md (X' e))) : SK A0 (runDef md N g) t F B X := fun L hL => by
  have h1 := h (L ++ List.replicate (N - L.length) none) (by rw [hL.1]; exact hL.app (Mt.refl _))
  unfold runDef
  cases t with
  | no => trivial
  | er c e =>
    obtain ⟨L1, h3, h4⟩ := h1
    try dsimp only at h3
    cases e' : g (L ++ List.replicate (N - L.length) none) with
    | ok o L2 => rw [e'] at h3; cases o <;> cases h3
    | stuck => rw [e'] at h3; cases h3
    | err c' L2 => rw [e'] at h3; cases h3; exact ⟨_, rfl, (hX e).trans h4.mask⟩
  | ok b =>
    obtain ⟨L1, h3, h4⟩ := h1
    try dsimp only at h3
    cases e' : g (L ++ List.replicate (N - L.length) none) with
    | stuck => rw [e'] at h3; cases h3
    | err c' L2 => rw [e'] at h3; cases h3
    | ok o L2 =>
      rw [e'] at h3
      cases o with
      | nx => injection h3 with h5 h6; exact ⟨_, by show R.ok _ _ = _; rw [h5], by rw [h6]; exact h4⟩
      | rt s => injection h3 with h5 h6; exact ⟨_, by show R.ok _ _ = _; rw [h5], by rw [h6]; exact h4⟩
      | bk => cases h3
      | ct => cases h3
theorem f_rt {md : List Bool} {s : S} {b : β} {F : β → S} (hs : s = F b) (hB : Mt (B b) (maskL md A)) : SK A (fun L => (Kf md).rt s L) (.ok b) F B X := fun L hL => ⟨_, by show R.ok _ _ = _; rw [hs], hB.trans hL.mask⟩
theorem e_call {m : LS → R S} {as : List Ar} {k : S → LS → R ω} (h : SK A (fun L => (evArgs as L).bind fun xs L1 => (if (refs xs).Nodup then callAt m xs L1 else .stuck).bind k) t F B X) : SK A (fun L => (gCall m as L).bind k) t F B X := e_bind h
theorem a_nil {k : List Av → LS → R ω} (h : SK A (k []) t F B X) : SK A (fun L => (evArgs [] L).bind k) t F B X := h
theorem a_d {g : LS → R D} {as : List Ar} {k : List Av → LS → R ω} (h : SK A (fun L => (g L).bind fun d L1 => (evArgs as L1).bind fun xs L2 => k (.d d :: xs) L2) t F B X) : SK A (fun L => (evArgs (.d g :: as) L).bind k) t F B X := fun L hL => by
  have h := h L hL
  dsimp only at h
  show SimR (((g L).bind fun d L1 => (evArgs as L1).bind fun xs L2 => R.ok (Av.d d :: xs) L2).bind k) t F B X
  rw [bind_assoc']
  cases e : g L with
  | stuck => rw [e] at h; exact h
  | err c L1 => rw [e] at h; exact h
  | ok d L1 =>
    rw [e] at h
    show SimR (((evArgs as L1).bind fun xs L2 => R.ok (Av.d d :: xs) L2).bind k) t F B X
    rw [bind_assoc']
    exact h
theorem a_r {i : Nat} {s : S} {as : List Ar} {k : List Av → LS → R ω} (hi : A[i]? = some (some s)) (h : SK A (fun L => (evArgs as L).bind fun xs L2 => k (.r i :: xs) L2) t F B X) : SK A (fun L => (evArgs (.r i :: as) L).bind k) t F B X := fun L hL => by
  have h := h L hL
  dsimp only at h
  show SimR ((match L[i]? with
    | some (some _) => (evArgs as L).bind fun xs L2 => R.ok (Av.r i :: xs) L2
    | _ => .stuck).bind k) t F B X
  rw [hL.2 i s hi]
  show SimR (((evArgs as L).bind fun xs L2 => R.ok (Av.r i :: xs) L2).bind k) t F B X
  rw [bind_assoc']
  exact h
theorem Mt.join {A L : LS} (h : Mt A L) (i : Nat) {s : S} (e : (A[i]?).join = some s) : (L[i]?).join = some s := by
  cases e1 : A[i]? with
  | none => rw [e1] at e; cases e
  | some o =>
    rw [e1] at e
    have e : o = some s := e
    subst e
    rw [h.2 i s e1]
    rfl
theorem Mt.slots {A L : LS} (h : Mt A L) : ∀ xs : List Av, Mt (xs.map (slotOf A)) (xs.map (slotOf L))
  | [] => mt_nil
  | .d d :: xs => mt_k (h.slots xs)
  | .r i :: xs => by
    show Mt ((A[i]?).join :: xs.map (slotOf A)) ((L[i]?).join :: xs.map (slotOf L))
    cases e : (A[i]?).join with
    | none => exact mt_w (h.slots xs)
    | some s =>
      rw [h.join i e]
      exact mt_k (h.slots xs)
theorem Mt.set2 {A L : LS} {x y : Option S} (h : Mt A L) (i : Nat) (hx : ∀ s, x = some s → y = some s) : Mt (A.set i x) (L.set i y) := by
  cases x with
  | none => exact h.offL i y
  | some s => rw [hx s rfl]; exact h.set i _
theorem Mt.back : ∀ (xs : List Av) {A L ss zs : LS}, Mt A L → Mt ss zs → Mt (putBack xs ss A) (putBack xs zs L)
  | [], A, L, ss, zs, h, k => by cases ss <;> cases zs <;> exact h
  | .r i :: xs, A, L, [], [], h, k => h
  | .d d :: xs, A, L, [], [], h, k => h
  | .r i :: xs, A, L, [], _ :: _, h, k => by cases k.1
  | .d _ :: xs, A, L, [], _ :: _, h, k => by cases k.1
  | .r i :: xs, A, L, _ :: _, [], h, k => by cases k.1
  | .d _ :: xs, A, L, _ :: _, [], h, k => by cases k.1
  | .d d :: xs, A, L, x :: ss, y :: zs, h, k => Mt.back xs (ss := ss) (zs := zs) h ⟨Nat.succ.inj k.1, fun i s e => k.2 (i + 1) s e⟩
  | .r i :: xs, A, L, x :: ss, y :: zs, h, k => Mt.back xs (ss := ss) (zs := zs) (h.set2 i fun s e => by
      have := k.2 0 s (by rw [e]; rfl)
      exact Option.some.inj this) ⟨Nat.succ.inj k.1, fun i s e => k.2 (i + 1) s e⟩
theorem c_call {m : LS → R S} {xs : List Av} {k : S → LS → R ω} {A0 : LS} {tm : T ε γ} {Fm : γ → S} {Bm : γ → LS} {Xm : ε → LS} {t' : γ → T ε β} (nd : (refs xs).Nodup) (hA : xs.map (slotOf A) = A0) (hm : SK A0 m tm Fm Bm Xm) (hX : ∀ e, Mt (X e) (putBack xs (Xm e) A))
    (h : ∀ c, SK (putBack xs (Bm c) A) (k (Fm c)) (t' c) F B X) : SK A (fun L => (if (refs xs).Nodup then callAt m xs L else .stuck).bind k) (tm.bind t') F B X := fun L hL => by
  have h1 := hm (xs.map (slotOf L)) (by rw [← hA]; exact hL.slots xs)
  show SimR ((if (refs xs).Nodup then callAt m xs L else .stuck).bind k) (tm.bind t') F B X
  rw [if_pos nd]
  unfold callAt
  cases tm with
  | no => trivial
  | er c e =>
    obtain ⟨L1, h2, h3⟩ := h1
    try dsimp only at h2
    rw [h2]
    exact ⟨_, rfl, (hX e).trans (Mt.back xs hL h3)⟩
  | ok b =>
    obtain ⟨L1, h2, h3⟩ := h1
    try dsimp only at h2
    rw [h2]
    exact h b _ (Mt.back xs hL h3)
def Tg (A : LS) (f : D → LS → Option LS) (d : D) (A' : LS) : Prop := ∀ L, Mt A L → ∃ L', f d L = some L' ∧ Mt A' L'
def Tgs (A : LS) (f : List D → LS → Option LS) (ds : List D) (A' : LS) : Prop := ∀ L, Mt A L → ∃ L', f ds L = some L' ∧ Mt A' L'
theorem tg_name {i : Nat} {d : D} : Tg A (fName i) d (A.set i (some (.d d))) := fun L hL => ⟨_, rfl, hL.set i _⟩
theorem tgs_nil : Tgs A fNil [] A := fun L hL => ⟨L, rfl, hL⟩
theorem tgs_cons {f : D → LS → Option LS} {r : List D → LS → Option LS} {d : D} {ds : List D} {A1 A2 : LS} (h : Tg A f d A1) (k : Tgs A1 r ds A2) : Tgs A (fCons f r) (d :: ds) A2 := fun L hL => by
  obtain ⟨L1, h1, h2⟩ := h L hL
  obtain ⟨L2, k1, k2⟩ := k L1 h2
  exact ⟨L2, by show (f d L).bind (r ds) = _; rw [h1]; exact k1, k2⟩
theorem tg_tup {m : Nat} {f : List D → LS → Option LS} {ds : List D} {A1 : LS} (h : Tgs A f ds A1) (hm : ds.length = m) : Tg A (fTup m f) (.tuple ds) A1 := fun L hL => by
  obtain ⟨L1, h1, h2⟩ := h L hL
  exact ⟨L1, by show (if ds.length = m then f ds L else none) = _; rw [if_pos hm]; exact h1, h2⟩
theorem s_asgT {K : Kont ω} {f : D → LS → Option LS} {g : LS → R D} {d : D} {A1 : LS} (hg : Pu A g d) (hf : Tg A f d A1) (h : SK A1 K.nx t F B X) : SS A (gAsgT f g) K t F B X := fun L hL => by
  show SimR (fin K ((g L).bind fun d L1 => match f d L1 with
    | some L2 => R.ok .nx L2
    | none => .stuck)) t F B X
  rw [hg L hL]
  obtain ⟨L1, h1, h2⟩ := hf L hL
  show SimR (fin K (match f d L with
    | some L2 => R.ok .nx L2
    | none => .stuck)) t F B X
  rw [h1]
  exact h _ h2
def asgTQ (K : Kont ω) (f : D → LS → Option LS) (d : D) (L : LS) : R ω := fin K (match f d L with
    | some L2 => R.ok .nx L2
    | none => .stuck)
theorem s_asgTE {K : Kont ω} {f : D → LS → Option LS} {g : LS → R D} (h : SK A (fun L => (g L).bind (asgTQ K f)) t F B X) : SS A (gAsgT f g) K t F B X := s_bind h
theorem s_asgTQ {K : Kont ω} {f : D → LS → Option LS} {d : D} {A1 : LS} (hf : Tg A f d A1) (h : SK A1 K.nx t F B X) : SK A (asgTQ K f d) t F B X := fun L hL => by
  obtain ⟨L1, h1, h2⟩ := hf L hL
  unfold asgTQ
  rw [h1]
  exact h _ h2
def KL : Kont Unit := ⟨fun L => .ok () L, fun _ _ => .stuck, fun _ => .stuck, fun L => .ok () L⟩
theorem forGo_M {f : D → LS → Option LS} {g : LS → R O} {e : α → D} {Inv : ν → LS} {A1 : α → ν → LS} {tb : α → ν → T ε ν} (hf : ∀ x v, Tg (Inv v) f (e x) (A1 x v)) (hb : ∀ x v, SS (A1 x v) g KL (tb x v) (fun _ => ()) Inv X) :
    ∀ (xs : List α) (v : ν), SK (Inv v) (forGo f g (xs.map e)) (T.forM xs v tb) (fun _ => O.nx) Inv X
  | [], v => fun L hL => ⟨L, rfl, hL⟩
  | x :: xs, v => fun L hL => by
    obtain ⟨L1, h1, h2⟩ := hf x v L hL
    have h3 := hb x v L1 h2
    have ih := forGo_M hf hb xs
    show SimR (forGo f g (e x :: xs.map e) L) ((tb x v).bind fun v' => T.forM xs v' tb) _ _ _
    unfold forGo
    rw [h1]
    show SimR (match g L1 with
      | .ok .nx L2 => forGo f g (xs.map e) L2
      | .ok .ct L2 => forGo f g (xs.map e) L2
      | .ok .bk L2 => .ok .nx L2
      | r => r) _ _ _ _
    cases ht : tb x v with
    | no => trivial
    | er c z =>
      rw [ht] at h3
      obtain ⟨L3, h4, h5⟩ := h3
      try dsimp only at h4
      cases hg : g L1 with
      | ok o L2 => rw [hg] at h4; cases o <;> cases h4
      | stuck => rw [hg] at h4; cases h4
      | err c' L2 => rw [hg] at h4; cases h4; exact ⟨_, rfl, h5⟩
    | ok v' =>
      rw [ht] at h3
      obtain ⟨L3, h4, h5⟩ := h3
      try dsimp only at h4
      cases hg : g L1 with
      | stuck => rw [hg] at h4; cases h4
      | err c' L2 => rw [hg] at h4; cases h4
      | ok o L2 =>
        rw [hg] at h4
        cases o <;> cases h4
        · exact ih v' _ h5
        · exact ih v' _ h5
def KB : Kont O := ⟨fun L => .ok .nx L, fun s L => .ok (.rt s) L, fun L => .ok .bk L, fun L => .ok .nx L⟩
def lpO (f : ρ → S) : T.Lp ν ρ → O
  | .nx _ => .nx
  | .bk _ => .bk
  | .rt r => .rt (f r)
def lpB (Bn : ν → LS) (Br : ρ → LS) : T.Lp ν ρ → LS
  | .nx v => Bn v
  | .bk v => Bn v
  | .rt r => Br r
theorem forGo_L {f : D → LS → Option LS} {g : LS → R O} {e : α → D} {Inv : ν → LS} {Br : ρ → LS} {fr : ρ → S} {A1 : α → ν → LS} {tb : α → ν → T ε (T.Lp ν ρ)} (hf : ∀ x v, Tg (Inv v) f (e x) (A1 x v)) (hb : ∀ x v, SS (A1 x v) g KB (tb x v) (lpO fr) (lpB Inv Br) X) :
    ∀ (xs : List α) (v : ν), SK (Inv v) (forGo f g (xs.map e)) (T.forL xs v tb) (leO fr) (leB Inv Br) X
  | [], v => fun L hL => ⟨L, rfl, hL⟩
  | x :: xs, v => fun L hL => by
    obtain ⟨L1, h1, h2⟩ := hf x v L hL
    have h3 := hb x v L1 h2
    have ih := forGo_L hf hb xs
    show SimR (forGo f g (e x :: xs.map e) L) ((tb x v).bind _) _ _ _
    unfold forGo
    rw [h1]
    show SimR (match g L1 with
      | .ok .nx L2 => forGo f g (xs.map e) L2
      | .ok .ct L2 => forGo f g (xs.map e) L2
      | .ok .bk L2 => .ok .nx L2
      | r => r) _ _ _ _
    cases ht : tb x v with
    | no => trivial
    | er c z =>
      rw [ht] at h3
      obtain ⟨L3, h4, h5⟩ := h3
      try dsimp only at h4
      cases hg : g L1 with
      | ok o L2 => rw [hg] at h4; cases o <;> cases h4
      | stuck => rw [hg] at h4; cases h4
      | err c' L2 => rw [hg] at h4; cases h4; exact ⟨_, rfl, h5⟩
    | ok r =>
      rw [ht] at h3
      obtain ⟨L3, h4, h5⟩ := h3
      try dsimp only at h4
      cases hg : g L1 with
      | stuck => rw [hg] at h4; cases h4
      | err c' L2 => rw [hg] at h4; cases h4
      | ok o L2 =>
        rw [hg] at h4
        cases r with
        | nx v' =>
          cases o <;> cases h4
          · exact ih v' _ h5
          · exact ih v' _ h5
        | bk v' => cases o <;> cases h4; exact ⟨_, rfl, h5⟩
        | rt r => cases o <;> cases h4; exact ⟨_, rfl, h5⟩
end
end VS

namespace VS
open PySem PySem.Spec PyProof.Rows L2
structure Tx where
  cs : List (Fin 1114112)
deriving DecidableEq
def Tx.s (x : Tx) : Str := ⟨(x.cs.map (·.val)).toArray⟩
theorem Tx.s_list (x : Tx) : x.s.cps.toList = x.cs.map (·.val) := by simp [Tx.s]
theorem fin_map_inj {n : Nat} : ∀ {a b : List (Fin n)}, a.map (·.val) = b.map (·.val) → a = b
  | [], [], _ => rfl
  | [], _ :: _, h => by cases h
  | _ :: _, [], h => by cases h
  | x :: a, y :: b, h => by
    rw [List.map_cons, List.map_cons] at h
    injection h with h1 h2
    rw [Fin.ext h1, fin_map_inj h2]
theorem Tx.s_inj {x y : Tx} (h : x.s = y.s) : x = y := by
  have h1 : x.s.cps.toList = y.s.cps.toList := by rw [h]
  rw [Tx.s_list, Tx.s_list] at h1
  obtain ⟨a⟩ := x
  obtain ⟨b⟩ := y
  exact congrArg Tx.mk (fin_map_inj h1)
def Tx.of (l : List Nat) : Tx := ⟨l.map fun n => if h : n < 1114112 then ⟨n, h⟩ else ⟨0, by decide⟩⟩
theorem Tx.of_s {l : List Nat} (h : ∀ c ∈ l, c < 1114112) : (Tx.of l).s = ⟨l.toArray⟩ := by
  unfold Tx.s Tx.of
  rw [List.map_map]
  congr 2
  refine (List.map_congr_left (g := id) fun c hc => ?_).trans (List.map_id _)
  show (if h : c < 1114112 then (⟨c, h⟩ : Fin 1114112) else _).val = c
  rw [dif_pos (h c hc)]
def Tx.app (x y : Tx) : Tx := ⟨x.cs ++ y.cs⟩
instance : Append Tx := ⟨Tx.app⟩
structure Tp3 (α β γ : Type) where
  a : α
  b : β
  c : γ
deriving DecidableEq
structure Tp4 (α β γ δ : Type) where
  a : α
  b : β
  c : γ
  d : δ
deriving DecidableEq
structure Tp5 (α β γ δ ζ : Type) where
  a : α
  b : β
  c : γ
  d : δ
  e : ζ
deriving DecidableEq
class Enc (α : Type) where
  enc : α → D
instance : Enc D := ⟨id⟩
instance : Enc Unit := ⟨fun _ => .none⟩
instance : Enc Int := ⟨.int⟩
instance : Enc Bool := ⟨.bool⟩
instance : Enc Tx := ⟨fun x => .str x.s⟩
instance {α : Type} [Enc α] : Enc (List α) := ⟨fun xs => .list (xs.map Enc.enc)⟩
instance {α : Type} [Enc α] : Enc (Option α) := ⟨fun x => match x with
  | none => .none
  | some a => Enc.enc a⟩
instance {α β : Type} [Enc α] [Enc β] : Enc (α × β) := ⟨fun p => .tuple [Enc.enc p.1, Enc.enc p.2]⟩
instance {α β γ : Type} [Enc α] [Enc β] [Enc γ] : Enc (Tp3 α β γ) := ⟨fun p => .tuple [Enc.enc p.a, Enc.enc p.b, Enc.enc p.c]⟩
instance {α β γ δ : Type} [Enc α] [Enc β] [Enc γ] [Enc δ] : Enc (Tp4 α β γ δ) := ⟨fun p => .tuple [Enc.enc p.a, Enc.enc p.b, Enc.enc p.c, Enc.enc p.d]⟩
instance {α β γ δ ζ : Type} [Enc α] [Enc β] [Enc γ] [Enc δ] [Enc ζ] : Enc (Tp5 α β γ δ ζ) := ⟨fun p => .tuple [Enc.enc p.a, Enc.enc p.b, Enc.enc p.c, Enc.enc p.d, Enc.enc p.e]⟩
abbrev dv {α : Type} [Enc α] (x : α) : Option S := some (.d (Enc.enc x))
abbrev lv {α : Type} [Enc α] (xs : List α) : Option S := some (.ol (xs.map Enc.enc))

class Sh (α : Type) [Enc α] [DecidableEq α] where
  dep : Nat
  nn : ∀ x : α, Enc.enc x ≠ PyData.none
  lay : ∀ x : α, (Enc.enc x).canLay0 = true
  dp : ∀ x : α, (Enc.enc x).depth ≤ dep
  eqv : ∀ x y : α, (Enc.enc x).eqv (Enc.enc y) = decide (x = y)
theorem strOk_tx (x : Tx) : PyData.strOk x.s = true := by
  unfold PyData.strOk Tx.s
  simp only [List.all_toArray, List.all_map, List.all_eq_true]
  intro a _
  exact decide_eq_true a.isLt
instance : Sh Int where
  dep := 0
  nn := fun _ h => by cases h
  lay := fun _ => rfl
  dp := fun _ => Nat.le_refl _
  eqv := fun x y => by
    show (x == y) = _
    exact Bool.beq_eq_decide_eq x y
instance : Sh Bool where
  dep := 0
  nn := fun _ h => by cases h
  lay := fun _ => rfl
  dp := fun _ => Nat.le_refl _
  eqv := fun x y => by
    show (x == y) = _
    exact Bool.beq_eq_decide_eq x y
instance : Sh Tx where
  dep := 0
  nn := fun _ h => by cases h
  lay := fun x => by
    show PyData.canLay0 (.str x.s) = true
    unfold PyData.canLay0
    exact strOk_tx x
  dp := fun x => Nat.le_of_eq (by
    show PyData.depth (.str x.s) = 0
    unfold PyData.depth
    rfl)
  eqv := fun x y => by
    show (x.s == y.s) = _
    by_cases h : x = y
    · subst h; simp
    · rw [decide_eq_false h]
      exact beq_eq_false_iff_ne.mpr fun z => h (Tx.s_inj z)
theorem layAll {α : Type} [Enc α] [DecidableEq α] [Sh α] : ∀ xs : List α, PyData.canLayAll0 (xs.map Enc.enc) = true
  | [] => by unfold PyData.canLayAll0; rfl
  | x :: xs => by
    rw [List.map_cons]
    unfold PyData.canLayAll0
    rw [Sh.lay x, layAll xs]
    rfl
theorem dpAll {α : Type} [Enc α] [DecidableEq α] [i : Sh α] : ∀ xs : List α, PyData.depthAll (xs.map Enc.enc) ≤ i.dep
  | [] => by unfold PyData.depthAll; exact Nat.zero_le _
  | x :: xs => by
    rw [List.map_cons]
    unfold PyData.depthAll
    exact Nat.max_le.mpr ⟨Sh.dp x, dpAll xs⟩
theorem eqvAll {α : Type} [Enc α] [DecidableEq α] [Sh α] : ∀ xs ys : List α, PyData.eqvAll (xs.map Enc.enc) (ys.map Enc.enc) = decide (xs = ys)
  | [], [] => by simp [PyData.eqvAll]
  | [], _ :: _ => by simp [PyData.eqvAll]
  | _ :: _, [] => by simp [PyData.eqvAll]
  | x :: xs, y :: ys => by
    rw [List.map_cons, List.map_cons]
    unfold PyData.eqvAll
    rw [Sh.eqv x y, eqvAll xs ys]
    by_cases h1 : x = y <;> by_cases h2 : xs = ys <;> simp [h1, h2]
instance {α : Type} [Enc α] [DecidableEq α] [i : Sh α] : Sh (List α) where
  dep := i.dep + 1
  nn := fun _ h => by cases h
  lay := fun xs => by
    show PyData.canLay0 (.list (xs.map Enc.enc)) = true
    unfold PyData.canLay0
    exact layAll xs
  dp := fun xs => by
    show PyData.depth (.list (xs.map Enc.enc)) ≤ _
    unfold PyData.depth
    exact Nat.succ_le_succ (dpAll xs)
  eqv := fun xs ys => by
    show PyData.eqv (.list (xs.map Enc.enc)) (.list (ys.map Enc.enc)) = _
    unfold PyData.eqv
    exact eqvAll xs ys
instance {α β : Type} [Enc α] [DecidableEq α] [i : Sh α] [Enc β] [DecidableEq β] [j : Sh β] : Sh (α × β) where
  dep := max i.dep j.dep + 1
  nn := fun _ h => by cases h
  lay := fun p => by
    show PyData.canLay0 (.tuple [Enc.enc p.1, Enc.enc p.2]) = true
    simp [PyData.canLay0, PyData.canLayAll0, Sh.lay p.1, Sh.lay p.2]
  dp := fun p => by
    show PyData.depth (.tuple [Enc.enc p.1, Enc.enc p.2]) ≤ _
    have h1 := i.dp p.1
    have h2 := j.dp p.2
    simp only [PyData.depth, PyData.depthAll]
    omega
  eqv := fun p q => by
    show PyData.eqv (.tuple [Enc.enc p.1, Enc.enc p.2]) (.tuple [Enc.enc q.1, Enc.enc q.2]) = _
    simp only [PyData.eqv, PyData.eqvAll, Sh.eqv, Bool.and_true]
    by_cases h1 : p.1 = q.1 <;> by_cases h2 : p.2 = q.2 <;> simp [h1, h2, Prod.ext_iff]
theorem tp3_ext {α β γ : Type} {p q : Tp3 α β γ} : p = q ↔ p.a = q.a ∧ p.b = q.b ∧ p.c = q.c := by cases p; cases q; simp
instance {α β γ : Type} [Enc α] [DecidableEq α] [i : Sh α] [Enc β] [DecidableEq β] [j : Sh β] [Enc γ] [DecidableEq γ] [k : Sh γ] : Sh (Tp3 α β γ) where
  dep := max i.dep (max j.dep k.dep) + 1
  nn := fun _ h => by cases h
  lay := fun p => by
    show PyData.canLay0 (.tuple [Enc.enc p.a, Enc.enc p.b, Enc.enc p.c]) = true
    simp [PyData.canLay0, PyData.canLayAll0, Sh.lay p.a, Sh.lay p.b, Sh.lay p.c]
  dp := fun p => by
    show PyData.depth (.tuple [Enc.enc p.a, Enc.enc p.b, Enc.enc p.c]) ≤ _
    have h1 := i.dp p.a
    have h2 := j.dp p.b
    have h3 := k.dp p.c
    simp only [PyData.depth, PyData.depthAll]
    omega
  eqv := fun p q => by
    show PyData.eqv (.tuple [Enc.enc p.a, Enc.enc p.b, Enc.enc p.c]) (.tuple [Enc.enc q.a, Enc.enc q.b, Enc.enc q.c]) = _
    simp only [PyData.eqv, PyData.eqvAll, Sh.eqv, Bool.and_true]
    have e : decide (p = q) = decide (p.a = q.a ∧ p.b = q.b ∧ p.c = q.c) := decide_eq_decide.mpr tp3_ext
    rw [e]
    by_cases h1 : p.a = q.a <;> by_cases h2 : p.b = q.b <;> by_cases h3 : p.c = q.c <;> simp [h1, h2, h3]
theorem sh_ok {α : Type} [Enc α] [DecidableEq α] [i : Sh α] (h : i.dep ≤ 64) (x : α) : SeqAt.shaped (Enc.enc x) = true := by
  unfold SeqAt.shaped
  rw [Sh.lay x, Bool.true_and]
  exact decide_eq_true (Nat.le_trans (Sh.dp x) h)
theorem sh_non : SeqAt.shaped PyData.none = true := by decide +kernel
section
variable {α : Type} [Enc α] [DecidableEq α] [i : Sh α]
theorem eq_enc (x y : α) (h : i.dep ≤ 64 := by decide) : dEq (Enc.enc x) (Enc.enc y) = some (.bool (decide (x = y))) := by
  unfold dEq
  rw [if_pos (.inr ⟨sh_ok h x, sh_ok h y⟩), Sh.eqv]
theorem ne_enc (x y : α) (h : i.dep ≤ 64 := by decide) : dNe (Enc.enc x) (Enc.enc y) = some (.bool (!decide (x = y))) := by
  unfold dNe
  rw [if_pos (.inr ⟨sh_ok h x, sh_ok h y⟩), Sh.eqv]
theorem eqv_non (d : D) (h : d ≠ .none) : PyData.eqv .none d = false ∧ PyData.eqv d .none = false := by
  cases d <;> first | exact absurd rfl h | (unfold PyData.eqv; exact ⟨rfl, rfl⟩) | exact ⟨by unfold PyData.eqv; rfl, by unfold PyData.eqv; rfl⟩
theorem eqv_opt (x y : Option α) : PyData.eqv (Enc.enc x) (Enc.enc y) = decide (x = y) := by
  cases x with
  | none =>
    cases y with
    | none =>
      show PyData.eqv .none .none = _
      unfold PyData.eqv
      rfl
    | some b => exact (eqv_non _ (Sh.nn b)).1
  | some a =>
    cases y with
    | none => exact (eqv_non _ (Sh.nn a)).2
    | some b =>
      show PyData.eqv (Enc.enc a) (Enc.enc b) = _
      rw [Sh.eqv]
      exact decide_eq_decide.mpr ⟨fun h => by rw [h], fun h => Option.some.inj h⟩
theorem sh_opt (h : i.dep ≤ 64) (x : Option α) : SeqAt.shaped (Enc.enc x) = true := by
  cases x with
  | none => exact sh_non
  | some a => exact sh_ok h a
theorem eq_opt (x y : Option α) (h : i.dep ≤ 64 := by decide) : dEq (Enc.enc x) (Enc.enc y) = some (.bool (decide (x = y))) := by
  unfold dEq
  rw [if_pos (.inr ⟨sh_opt h x, sh_opt h y⟩), eqv_opt]
theorem ne_opt (x y : Option α) (h : i.dep ≤ 64 := by decide) : dNe (Enc.enc x) (Enc.enc y) = some (.bool (!decide (x = y))) := by
  unfold dNe
  rw [if_pos (.inr ⟨sh_opt h x, sh_opt h y⟩), eqv_opt]
theorem is_non (x : Option α) : dIs (Enc.enc x) .none = some (.bool x.isNone) := by
  cases x with
  | none => rfl
  | some a =>
    have h := Sh.nn a
    show dIs (Enc.enc a) .none = _
    generalize Enc.enc a = d at h
    cases d <;> first | exact absurd rfl h | rfl
theorem isN_non (x : Option α) : dIsN (Enc.enc x) .none = some (.bool x.isSome) := by
  cases x with
  | none => rfl
  | some a =>
    have h := Sh.nn a
    show dIsN (Enc.enc a) .none = _
    generalize Enc.enc a = d at h
    cases d <;> first | exact absurd rfl h | rfl
theorem any_eqv (x : α) : ∀ ys : List α, (ys.map Enc.enc).any (fun z => PyData.eqv z (Enc.enc x)) = decide (x ∈ ys)
  | [] => by simp
  | y :: ys => by
    rw [List.map_cons, List.any_cons, any_eqv x ys, Sh.eqv]
    by_cases h1 : y = x
    · simp [h1]
    · have h2 : ¬ x = y := fun z => h1 z.symm
      simp [h1, h2]
def memT {α : Type} [DecidableEq α] (x : α) (ys : List α) : Bool := decide (x ∈ ys)
omit [Enc α] i in
theorem memT_iff (x : α) (ys : List α) : memT x ys = true ↔ x ∈ ys := by unfold memT; exact decide_eq_true_iff
theorem in_l (x : α) (ys : List α) (h : i.dep ≤ 63 := by decide) : dIn (Enc.enc x) (.list (ys.map Enc.enc)) = some (.bool (memT x ys)) := by
  have ho : inOk (Enc.enc x) (ys.map Enc.enc) := .inr ⟨sh_ok (Nat.le_succ_of_le h) x, sh_ok (α := List α) (Nat.succ_le_succ h) ys⟩
  unfold dIn
  show (if inOk (Enc.enc x) (ys.map Enc.enc) then some ((ys.map Enc.enc).any fun z => PyData.eqv z (Enc.enc x)) else none).map PyData.bool = _
  rw [if_pos ho, any_eqv]
  rfl
theorem notIn_l (x : α) (ys : List α) (h : i.dep ≤ 63 := by decide) : dNotIn (Enc.enc x) (.list (ys.map Enc.enc)) = some (.bool (!memT x ys)) := by
  have ho : inOk (Enc.enc x) (ys.map Enc.enc) := .inr ⟨sh_ok (Nat.le_succ_of_le h) x, sh_ok (α := List α) (Nat.succ_le_succ h) ys⟩
  unfold dNotIn
  show (if inOk (Enc.enc x) (ys.map Enc.enc) then some ((ys.map Enc.enc).any fun z => PyData.eqv z (Enc.enc x)) else none).map (fun b => PyData.bool (!b)) = _
  rw [if_pos ho, any_eqv]
  rfl
end
section
variable {α β : Type} [Enc α] [Enc β]
theorem len_l (xs : List α) : dLen (.list (xs.map Enc.enc)) = some (.int xs.length) := by
  show some (PyData.int ((xs.map Enc.enc).length : Int)) = _
  rw [List.length_map]
theorem atI_map {α β : Type} (f : α → β) (xs : List α) (i : Int) : atI (xs.map f) i = (atI xs i).map f := by
  unfold atI
  rw [List.length_map]
  cases ixN xs.length i with
  | none => rfl
  | some j => exact List.getElem?_map ..
theorem ix_l (xs : List α) (i : Int) : dIx (.list (xs.map Enc.enc)) (.int i) = (atI xs i).map Enc.enc := atI_map _ _ _
def cutT {α : Type} (xs : List α) (lo hi : Option Int) : List α := (xs.drop (HT.sIx xs.length 0 lo)).take (HT.sIx xs.length xs.length hi - HT.sIx xs.length 0 lo)
theorem cut_l (xs : List α) (lo hi : Option Int) : dSl (.list (xs.map Enc.enc)) lo hi = some (.ol ((cutT xs lo hi).map Enc.enc)) := by
  show some (S.ol (cutD (xs.map Enc.enc) lo hi)) = _
  unfold cutD cutT
  rw [List.length_map, List.map_take, List.map_drop]
def catT {α : Type} (xs ys : List α) : Option (List α) := if xs.length + ys.length ≤ sizeLine then some (xs ++ ys) else none
theorem cat_l (xs ys : List α) : dAdd (.list (xs.map Enc.enc)) (.list (ys.map Enc.enc)) = (catT xs ys).map fun z => S.ol (z.map Enc.enc) := by
  rw [dAdd_list, List.length_map, List.length_map]
  unfold catT
  split
  · simp
  · rfl
theorem sum_l (ns : List Int) : dSum (.list (ns.map Enc.enc)) = some (.int ns.sum) := by
  show (intsOf (ns.map PyData.int)).map (fun ns => PyData.int ns.sum) = _
  rw [intsOf_map]
  rfl
@[irreducible] def repT {α : Type} (xs : List α) (k : Int) : Option (List α) := if repOk xs.length k = true then some (List.replicate k.toNat xs).flatten else none
theorem rep_l (xs : List α) (k : Int) : dMul (.list (xs.map Enc.enc)) (.int k) = (repT xs k).map fun z => S.ol (z.map Enc.enc) := by
  have h1 : dMul (.list (xs.map Enc.enc)) (.int k) = if repOk (xs.map Enc.enc).length k = true then some (S.ol (List.replicate k.toNat (xs.map Enc.enc)).flatten) else none := rfl
  rw [h1, List.length_map]
  unfold repT
  split
  · show some (S.ol _) = some (S.ol _)
    rw [List.map_flatten, List.map_replicate]
  · rfl
end
section
variable {A : LS} {α β : Type}
theorem pu_c {d : D} : Pu A (gC d) d := fun _ _ => rfl
theorem pu_var {i : Nat} {d : D} (h : A[i]? = some (some (.d d))) : Pu A (gVar i) d := fun L hL => by
  unfold gVar
  rw [hL.2 i _ h]
theorem pu_peek {i : Nat} {d : D} (h : A[i]? = some (some (.d d))) : Pu A (gPeek i) d := fun L hL => by
  unfold gPeek
  rw [hL.2 i _ h]
theorem pu_peekL {i : Nat} {ds : List D} (h : A[i]? = some (some (.ol ds))) : Pu A (gPeek i) (.list ds) := fun L hL => by
  unfold gPeek
  rw [hL.2 i _ h]
theorem pu_d {g : LS → R D} {d : D} (h : Pu A g d) : Pu A (gD g) (.d d) := fun L hL => by
  show (g L).bind _ = _
  rw [h L hL]
  rfl
theorem pu_fz {g : LS → R S} {d : D} (h : Pu A g (.d d)) : Pu A (gFz g) d := fun L hL => by
  show (g L).bind frS = _
  rw [h L hL]
  rfl
theorem pu_fzL {g : LS → R S} {ds : List D} (h : Pu A g (.ol ds)) : Pu A (gFz g) (.list ds) := fun L hL => by
  show (g L).bind frS = _
  rw [h L hL]
  rfl
theorem pu_op {f : D → D → Option α} {ga gb : LS → R D} {d e : D} {z : α} (ha : Pu A ga d) (hb : Pu A gb e) (h : f d e = some z) : Pu A (gOp f ga gb) z := fun L hL => by
  show (ga L).bind _ = _
  rw [ha L hL]
  show (gb L).bind _ = _
  rw [hb L hL]
  show ofO (f d e) L = _
  rw [h]
  rfl
theorem pu_un {f : D → Option α} {ga : LS → R D} {d : D} {z : α} (ha : Pu A ga d) (h : f d = some z) : Pu A (gUn f ga) z := fun L hL => by
  show (ga L).bind _ = _
  rw [ha L hL]
  show ofO (f d) L = _
  rw [h]
  rfl
theorem pu_ga {f : List D → Option α} {gs : LS → R (List D)} {ds : List D} {z : α} (ha : Pu A gs ds) (h : f ds = some z) : Pu A (gA f gs) z := fun L hL => by
  show (gs L).bind _ = _
  rw [ha L hL]
  show ofO (f ds) L = _
  rw [h]
  rfl
theorem pu_B {g : LS → R D} {b : Bool} (h : Pu A g (.bool b)) : Pu A (gB g) b := fun L hL => by
  show (g L).bind asB = _
  rw [h L hL]
  rfl
theorem pu_nil : Pu A gNil [] := fun _ _ => rfl
theorem pu_cons {a : LS → R D} {r : LS → R (List D)} {d : D} {ds : List D} (h1 : Pu A a d) (h2 : Pu A r ds) : Pu A (gCons a r) (d :: ds) := fun L hL => by
  show (a L).bind _ = _
  rw [h1 L hL]
  show (r L).bind _ = _
  rw [h2 L hL]
  rfl
theorem pu_tup {a : LS → R (List D)} {ds : List D} (h : Pu A a ds) (hl : ds.length ≤ 1000 := by decide) : Pu A (gTup a) (.tuple ds) := fun L hL => by
  show (a L).bind _ = _
  rw [h L hL]
  exact if_pos (Nat.le_trans hl (by rw [PySem.sizeLine_eq]; decide))
theorem pu_lst {a : LS → R (List D)} {ds : List D} (h : Pu A a ds) (hl : ds.length ≤ 1000 := by decide) : Pu A (gLst a) (.ol ds) := fun L hL => by
  show (a L).bind _ = _
  rw [h L hL]
  exact if_pos (Nat.le_trans hl (by rw [PySem.sizeLine_eq]; decide))
theorem pu_and {a b : LS → R Bool} {x y : Bool} (h1 : Pu A a x) (h2 : Pu A b y) : Pu A (gAnd a b) (x && y) := fun L hL => by
  show (a L).bind _ = _
  rw [h1 L hL]
  cases x with
  | true => exact h2 L hL
  | false => rfl
theorem pu_or {a b : LS → R Bool} {x y : Bool} (h1 : Pu A a x) (h2 : Pu A b y) : Pu A (gOr a b) (x || y) := fun L hL => by
  show (a L).bind _ = _
  rw [h1 L hL]
  cases x with
  | true => rfl
  | false => exact h2 L hL
theorem pu_not {a : LS → R Bool} {x : Bool} (h1 : Pu A a x) : Pu A (gNot a) (!x) := fun L hL => by
  show (a L).bind _ = _
  rw [h1 L hL]
  rfl
theorem pu_ixP {i : Nat} {gb : LS → R D} {d e z : D} (h : A[i]? = some (some (.d d))) (hb : Pu A gb e) (hf : dIx d e = some z) : Pu A (gIxP i gb) z := fun L hL => by
  unfold gIxP
  rw [hL.2 i _ h]
  show (gb L).bind _ = _
  rw [hb L hL]
  show (gPeek i L).bind _ = _
  rw [pu_peek h L hL]
  show ofO (dIx d e) L = _
  rw [hf]
  rfl
theorem pu_no : Pu A gNo none := fun _ _ => rfl
theorem pu_so {g : LS → R D} {i : Int} (h : Pu A g (.int i)) : Pu A (gSo g) (some i) := fun L hL => by
  show (g L).bind asI = _
  rw [h L hL]
  rfl
theorem pu_sl {ga : LS → R D} {lo hi : LS → R (Option Int)} {d : D} {l u : Option Int} {s : S} (h : Pu A ga d) (h1 : Pu A lo l) (h2 : Pu A hi u) (hs : dSl d l u = some s) : Pu A (gSl ga lo hi) s := fun L hL => by
  show (ga L).bind _ = _
  rw [h L hL]
  show (lo L).bind _ = _
  rw [h1 L hL]
  show (hi L).bind _ = _
  rw [h2 L hL]
  show ofO (dSl d l u) L = _
  rw [hs]
  rfl
theorem pu_isi {T : String} {ga : LS → R D} {d : D} {b : Bool} (h : Pu A ga d) (hk : kitB (dTy d) T = some b) : Pu A (gIsi T ga) (.bool b) := pu_un h (by unfold isTy; rw [hk]; rfl)
def rangeT (n : Nat) : List Int := (List.range n).map fun (k : Nat) => (k : Int)
def rangeT2 (lo : Int) (n : Nat) : List Int := (List.range n).map fun (k : Nat) => lo + (k : Int)
theorem intsD_T (n : Nat) : intsD 0 n = (rangeT n).map Enc.enc := by
  unfold intsD rangeT
  rw [List.map_map]
  refine List.map_congr_left fun k _ => ?_
  show PyData.int (0 + (k : Int)) = PyData.int (k : Int)
  rw [Int.zero_add]
theorem intsD_T2 (lo : Int) (n : Nat) : intsD lo n = (rangeT2 lo n).map Enc.enc := by
  unfold intsD rangeT2
  rw [List.map_map]
  rfl
theorem intsR_T (n : Nat) : intsR n = ((rangeT n).reverse).map Enc.enc := by
  unfold intsR
  rw [intsD_T, List.map_reverse]
def inR (j : Int) : Prop := -4611686018427387904 ≤ j ∧ j < 4611686018427387904
instance (j : Int) : Decidable (inR j) := by
  unfold inR
  exact inferInstance
theorem inR_of {j : Int} (h : inR j) : -(2 ^ 62) ≤ j ∧ j < 2 ^ 62 := by
  unfold inR at h
  omega
theorem inR_ok {j : Int} (h0 : -1000000000 ≤ j) (h1 : j ≤ 1000000000) : inR j := by
  unfold inR
  omega
end
end VS

namespace VS
open PySem PySem.Spec PyProof.Rows L2
section
variable {ε ε' α β γ δ ω ν ρ : Type} {A A' : LS} {F : β → ω} {B : β → LS} {X : ε → LS} {t : T ε β}
def appEnd (i : Nat) (d : D) (L1 : LS) : R S := gOwnL i (fun ds L2 => if ds.length < sizeLine then .ok (.d .none) (L2.set i (some (.ol (ds ++ [d])))) else .stuck) L1
theorem e_app {i : Nat} {ds : List D} {g : LS → R D} {k : S → LS → R ω} (h : A[i]? = some (some (.ol ds))) (h2 : SK A (fun L => (g L).bind fun d L1 => (appEnd i d L1).bind k) t F B X) : SK A (fun L => (gApp i g L).bind k) t F B X := fun L hL => by
  have h3 := h2 L hL
  show SimR ((gApp i g L).bind k) t F B X
  unfold gApp gOwnL
  rw [hL.2 i _ h]
  show SimR (((g L).bind fun d L1 => appEnd i d L1).bind k) t F B X
  rw [bind_assoc']
  exact h3
theorem c_app [Enc α] {i : Nat} {xs : List α} {x : α} {k : S → LS → R ω} {A' : LS} (h : A[i]? = some (some (.ol (xs.map Enc.enc)))) (hA : A.set i (some (.ol ((xs ++ [x]).map Enc.enc))) = A') (h2 : SK A' (k (.d .none)) t F B X) : SK A (fun L => (appEnd i (Enc.enc x) L).bind k) (T.gd (xs.length < sizeLine) t) F B X := k_gd fun hs L hL => by
  show SimR ((appEnd i (Enc.enc x) L).bind k) t F B X
  unfold appEnd gOwnL
  rw [hL.2 i _ h]
  show SimR ((if (xs.map Enc.enc).length < sizeLine then R.ok (S.d .none) (L.set i (some (.ol (xs.map Enc.enc ++ [Enc.enc x])))) else .stuck).bind k) t F B X
  rw [List.length_map, if_pos hs]
  refine h2 _ ?_
  rw [← hA, List.map_append]
  exact hL.set i _
def setQ (i : Nat) (gk : LS → R D) (d : D) (L1 : LS) : R O := match L1[i]? with
  | some (some _) => (gk L1).bind (setAt i d)
  | _ => .stuck
theorem s_setIx {K : Kont ω} {i : Nat} {gk g : LS → R D} (h : SK A (fun L => (g L).bind fun d L1 => fin K (setQ i gk d L1)) t F B X) : SS A (gSetIx i gk g) K t F B X := s_bind h
def setT {α : Type} (xs : List α) (k : Int) (x : α) : Option (List α) := (ixN xs.length k).map fun j => xs.set j x
theorem c_setIx [Enc α] {K : Kont ω} {i : Nat} {gk : LS → R D} {xs : List α} {x : α} {j : Int} {t' : List α → T ε β} (h : A[i]? = some (some (.ol (xs.map Enc.enc)))) (hk : Pu A gk (.int j)) (h2 : ∀ ys, SK (A.set i (some (.ol (ys.map Enc.enc)))) K.nx (t' ys) F B X) :
    SK A (fun L => fin K (setQ i gk (Enc.enc x) L)) ((T.ofO (setT xs j x)).bind t') F B X := fun L hL => by
  show SimR (fin K (setQ i gk (Enc.enc x) L)) _ F B X
  unfold setQ setT
  rw [hL.2 i _ h]
  show SimR (fin K ((gk L).bind (setAt i (Enc.enc x)))) _ F B X
  rw [hk L hL]
  show SimR (fin K (match L[i]? with
    | some (some (.ol ds)) => (match ixN ds.length j with
      | some m => R.ok .nx (L.set i (some (.ol (ds.set m (Enc.enc x)))))
      | none => .stuck)
    | _ => .stuck)) _ F B X
  rw [hL.2 i _ h]
  show SimR (fin K (match ixN (xs.map Enc.enc).length j with
      | some m => R.ok .nx (L.set i (some (.ol ((xs.map Enc.enc).set m (Enc.enc x)))))
      | none => .stuck)) _ F B X
  rw [List.length_map]
  cases ixN xs.length j with
  | none => trivial
  | some m =>
    have := h2 (xs.set m x) (L.set i (some (.ol ((xs.set m x).map Enc.enc)))) (hL.set i _)
    rw [List.map_set] at this
    exact this
theorem e_popAt {i : Nat} {ds : List D} {g : LS → R D} {k : D → LS → R ω} (h : A[i]? = some (some (.ol ds))) (h2 : SK A (fun L => (g L).bind fun d L1 => (popAt i d L1).bind k) t F B X) : SK A (fun L => (gPopAt i g L).bind k) t F B X := fun L hL => by
  have h3 := h2 L hL
  show SimR ((gPopAt i g L).bind k) t F B X
  unfold gPopAt gOwnD
  rw [hL.2 i _ h]
  show SimR (((g L).bind (popAt i)).bind k) t F B X
  rw [bind_assoc']
  exact h3
@[irreducible] def popT {α : Type} (xs : List α) (j : Int) : Option (α × List α) := if -(2 ^ 63) ≤ j ∧ j < 2 ^ 63 then (seqIndex? j xs.length).bind fun m => (xs[m]?).map fun x => (x, xs.eraseIdx m) else none
theorem eraseIdx_map' {α β : Type} (f : α → β) : ∀ (xs : List α) (m : Nat), (xs.map f).eraseIdx m = (xs.eraseIdx m).map f
  | [], m => by simp
  | x :: xs, 0 => rfl
  | x :: xs, m + 1 => by
    simp only [List.map_cons, List.eraseIdx_cons_succ]
    rw [eraseIdx_map' f xs m]
theorem c_popAt [Enc α] {i : Nat} {xs : List α} {j : Int} {k : D → LS → R ω} {t' : α × List α → T ε β} (h : A[i]? = some (some (.ol (xs.map Enc.enc)))) (h2 : ∀ x ys, SK (A.set i (some (.ol (ys.map Enc.enc)))) (k (Enc.enc x)) (t' (x, ys)) F B X) :
    SK A (fun L => (popAt i (.int j) L).bind k) ((T.ofO (popT xs j)).bind t') F B X := fun L hL => by
  show SimR ((popK i j L).bind k) _ F B X
  unfold popK popT
  rw [hL.2 i _ h]
  show SimR ((if -(2 ^ 63) ≤ j ∧ j < 2 ^ 63 then (match seqIndex? j (xs.map Enc.enc).length with
    | some j => (match (xs.map Enc.enc)[j]? with
      | some d => R.ok d (L.set i (some (.ol ((xs.map Enc.enc).eraseIdx j))))
      | none => .stuck)
    | none => .stuck) else .stuck).bind k) _ F B X
  by_cases hj : -(2 ^ 63) ≤ j ∧ j < 2 ^ 63
  · rw [if_pos hj, if_pos hj, List.length_map]
    cases seqIndex? j xs.length with
    | none => trivial
    | some m =>
      show SimR ((match (xs.map Enc.enc)[m]? with
        | some d => R.ok d (L.set i (some (.ol ((xs.map Enc.enc).eraseIdx m))))
        | none => .stuck).bind k) ((T.ofO ((xs[m]?).map fun x => (x, xs.eraseIdx m))).bind t') F B X
      rw [List.getElem?_map, eraseIdx_map']
      cases xs[m]? with
      | none => trivial
      | some x => exact h2 x _ _ (hL.set i _)
  · rw [if_neg hj, if_neg hj]
    trivial
theorem e_ixP {i : Nat} {s : S} {gb : LS → R D} {k : D → LS → R ω} (h : A[i]? = some (some s)) (h2 : SK A (fun L => (gb L).bind fun e L1 => (gPeek i L1).bind fun d L2 => (ofO (dIx d e) L2).bind k) t F B X) : SK A (fun L => (gIxP i gb L).bind k) t F B X := fun L hL => by
  have h3 := h2 L hL
  show SimR ((gIxP i gb L).bind k) t F B X
  unfold gIxP
  rw [hL.2 i _ h]
  show SimR (((gb L).bind fun e L1 => (gPeek i L1).bind fun d L2 => ofO (dIx d e) L2).bind k) t F B X
  rw [bind_assoc']
  dsimp only at h3
  cases e : gb L with
  | stuck => rw [e] at h3; exact h3
  | err c L1 => rw [e] at h3; exact h3
  | ok z L1 =>
    rw [e] at h3
    show SimR (((gPeek i L1).bind fun d L2 => ofO (dIx d z) L2).bind k) t F B X
    rw [bind_assoc']
    exact h3
class EncK (κ : Type) where
  ks : κ → List Key
  inj : ∀ a b, ks a = ks b → a = b
class Enc1 (κ : Type) where
  k1 : κ → Key
  inj : ∀ a b, k1 a = k1 b → a = b
instance : Enc1 Int := ⟨.inl, fun _ _ h => Sum.inl.inj h⟩
instance : Enc1 Tx := ⟨fun x => .inr x.s, fun _ _ h => Tx.s_inj (Sum.inr.inj h)⟩
instance {κ μ : Type} [Enc1 κ] [Enc1 μ] : EncK (κ × μ) := ⟨fun p => [Enc1.k1 p.1, Enc1.k1 p.2], fun a b h => by
  injection h with h1 h2
  injection h2 with h2 _
  exact Prod.ext (Enc1.inj _ _ h1) (Enc1.inj _ _ h2)⟩
class KD1 (κ : Type) [Enc κ] [Enc1 κ] : Prop where
  eq : ∀ x : κ, keyD (Enc.enc x) = some (Enc1.k1 x)
class KDs (κ : Type) [Enc κ] [EncK κ] : Prop where
  eq : ∀ x : κ, keysD (Enc.enc x) = some (EncK.ks x)
instance : KD1 Int := ⟨fun _ => rfl⟩
instance : KD1 Tx := ⟨fun _ => rfl⟩
instance {κ μ : Type} [Enc κ] [Enc1 κ] [KD1 κ] [Enc μ] [Enc1 μ] [KD1 μ] : KDs (κ × μ) := ⟨fun p => by
  show (keyD (Enc.enc p.1)).bind (fun k => ((keyD (Enc.enc p.2)).bind fun k => ((some [] : Option (List Key)).map (k :: ·))).map (k :: ·)) = _
  rw [KD1.eq p.1, KD1.eq p.2]
  rfl⟩
abbrev Dt (κ α : Type) := List (κ × α)
def dget {κ : Type} [DecidableEq κ] (d : Dt κ α) (k : κ) : Option α := (d.find? fun p => decide (p.1 = k)).map (·.2)
def dput {κ : Type} [DecidableEq κ] (d : Dt κ α) (k : κ) (v : α) : Dt κ α := if (d.any fun p => decide (p.1 = k)) = true then d.map (fun p => if p.1 = k then (p.1, v) else p) else d ++ [(k, v)]
def encT {κ α : Type} [EncK κ] [Enc α] (d : Dt κ α) : List (List Key × D) := d.map fun p => (EncK.ks p.1, Enc.enc p.2)
def enc1 {κ α : Type} [Enc1 κ] [Enc α] (d : Dt κ α) : List (Key × D) := d.map fun p => (Enc1.k1 p.1, Enc.enc p.2)
abbrev tv {κ α : Type} [EncK κ] [Enc α] (d : Dt κ α) : Option S := some (.odT (encT d))
abbrev kv {κ α : Type} [Enc1 κ] [Enc α] (d : Dt κ α) : Option S := some (.odK (enc1 d))
theorem val_gen {κ μ : Type} [DecidableEq κ] [DecidableEq μ] [Enc α] (f : κ → μ) (hf : ∀ a b, f a = f b → a = b) (k : κ) : ∀ d : Dt κ α, valK (d.map fun p => (f p.1, Enc.enc p.2)) (f k) = (dget d k).map Enc.enc
  | [] => rfl
  | p :: d => by
    have ih := val_gen f hf k d
    unfold valK dget at *
    by_cases h : p.1 = k
    · rw [List.map_cons, List.find?_cons_of_pos (l := d.map fun p => (f p.1, Enc.enc p.2)) (by simp [h]), List.find?_cons_of_pos (l := d) (by simp [h])]
      rfl
    · have h' : ¬ f p.1 = f k := fun z => h (hf _ _ z)
      rw [List.map_cons, List.find?_cons_of_neg (l := d.map fun p => (f p.1, Enc.enc p.2)) (by simp [h']), List.find?_cons_of_neg (l := d) (by simp [h])]
      exact ih
theorem put_gen {κ μ : Type} [DecidableEq κ] [DecidableEq μ] [Enc α] (f : κ → μ) (hf : ∀ a b, f a = f b → a = b) (k : κ) (v : α) (d : Dt κ α) : putD (d.map fun p => (f p.1, Enc.enc p.2)) (f k) (Enc.enc v) = (dput d k v).map fun p => (f p.1, Enc.enc p.2) := by
  unfold putD dput
  have hany : ((d.map fun p => (f p.1, (Enc.enc p.2 : D))).any fun kv => decide (kv.1 = f k)) = d.any fun p => decide (p.1 = k) := by
    rw [List.any_map]
    congr 1
    funext p
    exact decide_eq_decide.mpr ⟨fun z => hf _ _ z, fun z => by rw [← z]⟩
  rw [hany]
  split
  · rw [List.map_map, List.map_map]
    refine List.map_congr_left fun p _ => ?_
    show (if f p.1 = f k then (f p.1, Enc.enc v) else (f p.1, Enc.enc p.2)) = (f (if p.1 = k then (p.1, v) else p).1, Enc.enc (if p.1 = k then (p.1, v) else p).2)
    by_cases h : p.1 = k
    · rw [if_pos h, if_pos (by rw [h])]
    · rw [if_neg h, if_neg (fun z => h (hf _ _ z))]
  · rw [List.map_append]
    rfl
section
variable {κ : Type} [DecidableEq κ] [Enc κ] [Enc α] {i : Nat} {d : Dt κ α} {x : κ}
theorem dictAt_T [EncK κ] [KDs κ] {L : LS} (h : L[i]? = some (tv d)) : dictAt L[i]? (Enc.enc x) = some ((dget d x).map Enc.enc) := by
  rw [h]
  show (keysD (Enc.enc x)).map (valK (encT d)) = _
  rw [KDs.eq x]
  exact congrArg some (val_gen EncK.ks EncK.inj x d)
theorem dictAt_K [Enc1 κ] [KD1 κ] {L : LS} (h : L[i]? = some (kv d)) : dictAt L[i]? (Enc.enc x) = some ((dget d x).map Enc.enc) := by
  rw [h]
  show (keyD (Enc.enc x)).map (valK (enc1 d)) = _
  rw [KD1.eq x]
  exact congrArg some (val_gen Enc1.k1 Enc1.inj x d)
theorem isSome_map {α β : Type} (f : α → β) (o : Option α) : (o.map f).isSome = o.isSome := by cases o <;> rfl
theorem pu_dinT [EncK κ] [KDs κ] {ng : Bool} {g : LS → R D} (h : A[i]? = some (tv d)) (hg : Pu A g (Enc.enc x)) : Pu A (gDIn ng i g) (.bool (if ng = true then !(dget d x).isSome else (dget d x).isSome)) := fun L hL => by
  show (g L).bind (dinK ng i) = _
  rw [hg L hL]
  show (match dictAt L[i]? (Enc.enc x) with
    | some r => R.ok (PyData.bool (if ng then !r.isSome else r.isSome)) L
    | none => .stuck) = _
  rw [dictAt_T (hL.2 i _ h)]
  show R.ok (PyData.bool (if ng then !((dget d x).map Enc.enc).isSome else ((dget d x).map Enc.enc).isSome)) L = _
  rw [isSome_map]
theorem pu_dinK [Enc1 κ] [KD1 κ] {ng : Bool} {g : LS → R D} (h : A[i]? = some (kv d)) (hg : Pu A g (Enc.enc x)) : Pu A (gDIn ng i g) (.bool (if ng = true then !(dget d x).isSome else (dget d x).isSome)) := fun L hL => by
  show (g L).bind (dinK ng i) = _
  rw [hg L hL]
  show (match dictAt L[i]? (Enc.enc x) with
    | some r => R.ok (PyData.bool (if ng then !r.isSome else r.isSome)) L
    | none => .stuck) = _
  rw [dictAt_K (hL.2 i _ h)]
  show R.ok (PyData.bool (if ng then !((dget d x).map Enc.enc).isSome else ((dget d x).map Enc.enc).isSome)) L = _
  rw [isSome_map]
theorem e_dgetK [Enc1 κ] [KD1 κ] {g : LS → R D} {k : D → LS → R ω} {t' : α → T ε β} (h : A[i]? = some (kv d)) (hg : Pu A g (Enc.enc x)) (h2 : ∀ z, SK A (k (Enc.enc z)) (t' z) F B X) : SK A (fun L => (gDGet i g L).bind k) ((T.ofO (dget d x)).bind t') F B X := fun L hL => by
  show SimR ((gDGet i g L).bind k) _ F B X
  unfold gDGet
  rw [hL.2 i _ h]
  show SimR (((g L).bind fun d L1 => (match dictAt L1[i]? d with
    | some (some z) => R.ok z L1
    | _ => .stuck)).bind k) _ F B X
  rw [hg L hL]
  show SimR ((match dictAt L[i]? (Enc.enc x) with
    | some (some z) => R.ok z L
    | _ => .stuck).bind k) _ F B X
  rw [dictAt_K (hL.2 i _ h)]
  cases dget d x with
  | none => trivial
  | some z => exact h2 z L hL
def dputQ (i : Nat) (gk : LS → R D) (e : D) (L1 : LS) : R O := match L1[i]? with
  | some (some _) => (gk L1).bind fun d L2 => (match dictPut L2[i]? d e with
    | some s => .ok .nx (L2.set i (some s))
    | none => .stuck)
  | _ => .stuck
omit [DecidableEq κ] [Enc κ] [Enc α] in
theorem s_dput {K : Kont ω} {gk g : LS → R D} (h : SK A (fun L => (g L).bind fun d L1 => fin K (dputQ i gk d L1)) t F B X) : SS A (gDPut i gk g) K t F B X := s_bind h
def dputE (i : Nat) (e : D) (d : D) (L2 : LS) : R O := match dictPut L2[i]? d e with
    | some s => .ok .nx (L2.set i (some s))
    | none => .stuck
omit [DecidableEq κ] [Enc κ] [Enc α] in
theorem s_dputk {K : Kont ω} {gk : LS → R D} {e : D} {s : S} (h : A[i]? = some (some s)) (h2 : SK A (fun L => (gk L).bind fun d L1 => fin K (dputE i e d L1)) t F B X) : SK A (fun L => fin K (dputQ i gk e L)) t F B X := fun L hL => by
  have h3 := h2 L hL
  show SimR (fin K (dputQ i gk e L)) t F B X
  unfold dputQ
  rw [hL.2 i _ h]
  show SimR (fin K ((gk L).bind (dputE i e))) t F B X
  rw [fin_bind]
  exact h3
theorem c_dputT [EncK κ] [KDs κ] {K : Kont ω} {z : α} {A' : LS} (h : A[i]? = some (tv d)) (hA : A.set i (tv (dput d x z)) = A') (h2 : SK A' K.nx t F B X) : SK A (fun L => fin K (dputE i (Enc.enc z) (Enc.enc x) L)) (T.gd (d.length < sizeLine) t) F B X := k_gd fun hs L hL => by
  show SimR (fin K (dputE i (Enc.enc z) (Enc.enc x) L)) t F B X
  unfold dputE
  rw [hL.2 i _ h]
  have e : dictPut (some (tv d)) (Enc.enc x) (Enc.enc z) = some (.odT (encT (dput d x z))) := by
    show (if (encT d).length < sizeLine then (keysD (Enc.enc x)).map fun k => S.odT (putD (encT d) k (Enc.enc z)) else none) = _
    rw [show (encT d).length = d.length from List.length_map .., if_pos hs, KDs.eq x]
    exact congrArg (fun l => some (S.odT l)) (put_gen EncK.ks EncK.inj x z d)
  rw [e]
  refine h2 _ ?_
  rw [← hA]
  exact hL.set i _
theorem c_dputK [Enc1 κ] [KD1 κ] {K : Kont ω} {z : α} {A' : LS} (h : A[i]? = some (kv d)) (hA : A.set i (kv (dput d x z)) = A') (h2 : SK A' K.nx t F B X) : SK A (fun L => fin K (dputE i (Enc.enc z) (Enc.enc x) L)) (T.gd (d.length < sizeLine) t) F B X := k_gd fun hs L hL => by
  show SimR (fin K (dputE i (Enc.enc z) (Enc.enc x) L)) t F B X
  unfold dputE
  rw [hL.2 i _ h]
  have e : dictPut (some (kv d)) (Enc.enc x) (Enc.enc z) = some (.odK (enc1 (dput d x z))) := by
    show (if (enc1 d).length < sizeLine then (keyD (Enc.enc x)).map fun k => S.odK (putD (enc1 d) k (Enc.enc z)) else none) = _
    rw [show (enc1 d).length = d.length from List.length_map .., if_pos hs, KD1.eq x]
    exact congrArg (fun l => some (S.odK l)) (put_gen Enc1.k1 Enc1.inj x z d)
  rw [e]
  refine h2 _ ?_
  rw [← hA]
  exact hL.set i _
end

theorem Mt.wipe {A L : LS} (h : Mt A L) : ∀ vs : List Nat, Mt (wipeL A vs) (wipeL L vs)
  | [] => h
  | v :: vs => (h.wipe vs).set v none
def T.lcp {ε α β : Type} (xs : List α) (p : α → Bool) (h : α → β) : T ε (List β) := if xs.length ≤ sizeLine then .ok ((xs.filter p).map h) else .no
theorem e_lcp [Enc γ] {vs : List Nat} {gi : LS → R (List D)} {f : D → LS → Option LS} {gt : LS → R Bool} {ge : LS → R D} {e : α → D} {xs : List α} {k : S → LS → R ω} (A0 : LS) (A1 : α → LS) {p : α → Bool} {h : α → γ} {t' : List γ → T ε β} (hi : Pu A gi (xs.map e)) (h0 : Mt A0 (wipeL A vs)) (hf : ∀ x, Tg A0 f (e x) (A1 x))
    (hp : ∀ x, Pu (A1 x) gt (p x)) (hh : ∀ x, Pu (A1 x) ge (Enc.enc (h x))) (hw : ∀ x, Mt A0 (wipeL (A1 x) vs)) (h2 : ∀ ys, SK A0 (k (.ol (ys.map Enc.enc))) (t' ys) F B X) :
    SK A (fun L => (gLc vs gi f gt ge L).bind k) ((T.lcp xs p h).bind t') F B X := by
  have key : ∀ (xs : List α) (acc : List γ) (L : LS), Mt A0 L → acc.length + xs.length ≤ sizeLine → ∃ L', lcGo vs f gt ge (xs.map e) (acc.map Enc.enc) L = .ok (.ol ((acc ++ (xs.filter p).map h).map Enc.enc)) L' ∧ Mt A0 L' := by
    intro xs
    induction xs with
    | nil =>
      intro acc L hL _
      refine ⟨L, ?_, hL⟩
      simp [lcGo]
    | cons x xs ih =>
      intro acc L hL hs
      rw [List.length_cons] at hs
      obtain ⟨L1, h3, h4⟩ := hf x L hL
      rw [List.map_cons]
      unfold lcGo
      rw [h3]
      have h5 := hp x L1 h4
      have h6 := hh x L1 h4
      cases hpx : p x with
      | false =>
        rw [hpx] at h5
        simp only [h5]
        rw [if_neg (by simp), List.filter_cons_of_neg (by simp [hpx])]
        exact ih acc _ ((hw x).trans (h4.wipe vs)) (by omega)
      | true =>
        rw [hpx] at h5
        simp only [h5, h6]
        rw [if_pos trivial, List.length_map, if_pos (by omega), List.filter_cons_of_pos (by simp [hpx])]
        obtain ⟨L', h7, h8⟩ := ih (acc ++ [h x]) _ ((hw x).trans (h4.wipe vs)) (by rw [List.length_append]; simp; omega)
        refine ⟨L', ?_, h8⟩
        rw [List.map_append] at h7
        rw [List.map_cons, show acc ++ h x :: (xs.filter p).map h = acc ++ [h x] ++ (xs.filter p).map h by simp]
        exact h7
  intro L hL
  show SimR (((gi L).bind fun ds L1 => lcGo vs f gt ge ds [] (wipeL L1 vs)).bind k) _ F B X
  rw [hi L hL]
  show SimR ((lcGo vs f gt ge (xs.map e) [] (wipeL L vs)).bind k) ((T.lcp xs p h).bind t') F B X
  unfold T.lcp
  by_cases hs : xs.length ≤ sizeLine
  · rw [if_pos hs]
    obtain ⟨L', h7, h8⟩ := key xs [] (wipeL L vs) (h0.trans (hL.wipe vs)) (by simpa using hs)
    rw [List.map_nil] at h7
    rw [h7, List.nil_append]
    exact h2 _ L' h8
  · rw [if_neg hs]
    trivial

theorem e_callT {m : LS → R S} {n : Nat} {as : List Ar} {ge : LS → R S} {k : S → LS → R ω} (h : SK A (fun L => (evArgs as L).bind fun xs L1 => (ge L1).bind fun s L2 => (callT m n (xs, s) L2).bind k) t F B X) : SK A (fun L => (gCallT m n as ge L).bind k) t F B X := fun L hL => by
  have h := h L hL
  dsimp only at h
  show SimR (((evArgs as L).bind fun xs L1 => (ge L1).bind fun s L2 => R.ok (xs, s) L2).bind (callT m n) |>.bind k) t F B X
  rw [bind_assoc', bind_assoc']
  cases e : evArgs as L with
  | stuck => rw [e] at h; exact h
  | err c L1 => rw [e] at h; exact h
  | ok xs L1 =>
    rw [e] at h
    have h : SimR ((ge L1).bind fun s L2 => (callT m n (xs, s) L2).bind k) t F B X := h
    show SimR (((ge L1).bind fun s L2 => R.ok (xs, s) L2).bind fun a L => (callT m n a L).bind k) t F B X
    rw [bind_assoc']
    exact h
theorem c_callT {m : LS → R S} {n : Nat} {xs : List Av} {s : S} {k : S → LS → R ω} {A0 : LS} {tm : T ε γ} {Fm : γ → S} {Bm : γ → LS} {Xm : ε → LS} {t' : γ → T ε β} (nd : (refs xs).Nodup) (hn : xs.length + 1 = n) (hA : xs.map (slotOf A) ++ [some s] = A0) (hm : SK A0 m tm Fm Bm Xm) (hX : ∀ e, Mt (X e) (putBack xs (Xm e) A))
    (h : ∀ c, SK (putBack xs (Bm c) A) (k (Fm c)) (t' c) F B X) : SK A (fun L => (callT m n (xs, s) L).bind k) (tm.bind t') F B X := fun L hL => by
  have h1 := hm (xs.map (slotOf L) ++ [some s]) (by rw [← hA]; exact (hL.slots xs).app (Mt.refl _))
  show SimR ((callT m n (xs, s) L).bind k) (tm.bind t') F B X
  unfold callT
  rw [if_pos ⟨nd, hn⟩]
  unfold callAtT
  cases tm with
  | no => trivial
  | er c e =>
    obtain ⟨L1, h2, h3⟩ := h1
    rw [h2]
    exact ⟨_, rfl, (hX e).trans (Mt.back xs hL h3)⟩
  | ok b =>
    obtain ⟨L1, h2, h3⟩ := h1
    rw [h2]
    exact h b _ (Mt.back xs hL h3)
end
end VS

namespace VS
open PySem PySem.Spec PyProof.Rows L2
section
variable {ε ε' α β γ δ ω ν ρ : Type} {A A' : LS} {F : β → ω} {B : β → LS} {X : ε → LS} {t : T ε β}
abbrev XV : Empty → LS := fun e => e.elim
def T.up {ε α : Type} (t : T Empty α) : T ε α := t.lift Empty.elim
theorem xe_no {X G : Empty → LS} : ∀ e : Empty, Mt (X e) (G e) := fun e => e.elim
def orQ (x : Bool) (b : LS → R Bool) : LS → R Bool := fun L => if x = true then .ok true L else b L
def andQ (x : Bool) (b : LS → R Bool) : LS → R Bool := fun L => if x = true then b L else .ok false L
theorem e_orL {a b : LS → R Bool} {k : Bool → LS → R ω} (h : SK A (fun L => (a L).bind fun x L1 => (orQ x b L1).bind k) t F B X) : SK A (fun L => (gOr a b L).bind k) t F B X := e_bind h
theorem e_andL {a b : LS → R Bool} {k : Bool → LS → R ω} (h : SK A (fun L => (a L).bind fun x L1 => (andQ x b L1).bind k) t F B X) : SK A (fun L => (gAnd a b L).bind k) t F B X := e_bind h
theorem c_or {b : LS → R Bool} {x : Bool} {k : Bool → LS → R ω} {t1 t2 : T ε β} (h1 : SK A (k true) t1 F B X) (h2 : SK A (fun L => (b L).bind k) t2 F B X) : SK A (fun L => (orQ x b L).bind k) (if x = true then t1 else t2) F B X := by
  cases x with
  | true => exact h1
  | false => exact h2
theorem c_and {b : LS → R Bool} {x : Bool} {k : Bool → LS → R ω} {t1 t2 : T ε β} (h1 : SK A (fun L => (b L).bind k) t1 F B X) (h2 : SK A (k false) t2 F B X) : SK A (fun L => (andQ x b L).bind k) (if x = true then t1 else t2) F B X := by
  cases x with
  | true => exact h1
  | false => exact h2
theorem e_items {g : LS → R D} {k : List D → LS → R ω} (h : SK A (fun L => (g L).bind fun d L1 => (asItems d L1).bind k) t F B X) : SK A (fun L => ((g L).bind asItems).bind k) t F B X := e_bind h
theorem e_rng1 {g : LS → R (List D)} {k : List D → LS → R ω} (h : SK A (fun L => (g L).bind fun d L1 => (rng1 d L1).bind k) t F B X) : SK A (fun L => ((g L).bind rng1).bind k) t F B X := e_bind h
theorem e_rng2 {g : LS → R (List D)} {k : List D → LS → R ω} (h : SK A (fun L => (g L).bind fun d L1 => (rng2 d L1).bind k) t F B X) : SK A (fun L => ((g L).bind rng2).bind k) t F B X := e_bind h
theorem e_rvr1 {g : LS → R D} {k : List D → LS → R ω} (h : SK A (fun L => (g L).bind fun d L1 => (rvr1 d L1).bind k) t F B X) : SK A (fun L => ((g L).bind rvr1).bind k) t F B X := e_bind h
theorem c_rng1 {n : Int} {k : List D → LS → R ω} (h : SK A (k ((rangeT n.toNat).map Enc.enc)) t F B X) : SK A (fun L => (rng1 [Enc.enc n] L).bind k) (T.gd (inR n) t) F B X := k_gd fun hn L hL => by
  have h := h L hL
  show SimR ((if -(2 ^ 62) ≤ n ∧ n < 2 ^ 62 then R.ok (intsD 0 n.toNat) L else .stuck).bind k) t F B X
  rw [if_pos (inR_of hn), intsD_T]
  exact h
theorem c_rng2 {m n : Int} {k : List D → LS → R ω} (h : SK A (k ((rangeT2 m (n - m).toNat).map Enc.enc)) t F B X) : SK A (fun L => (rng2 [Enc.enc m, Enc.enc n] L).bind k) (T.gd (inR m ∧ inR n) t) F B X := k_gd fun hn L hL => by
  have h := h L hL
  show SimR ((if -(2 ^ 62) ≤ m ∧ m < 2 ^ 62 ∧ -(2 ^ 62) ≤ n ∧ n < 2 ^ 62 then R.ok (intsD m (n - m).toNat) L else .stuck).bind k) t F B X
  rw [if_pos ⟨(inR_of hn.1).1, (inR_of hn.1).2, (inR_of hn.2).1, (inR_of hn.2).2⟩, intsD_T2]
  exact h
theorem c_rvr1 {n : Int} {k : List D → LS → R ω} (h : SK A (k (((rangeT n.toNat).reverse).map Enc.enc)) t F B X) : SK A (fun L => (rvr1 (Enc.enc n) L).bind k) (T.gd (inR n) t) F B X := k_gd fun hn L hL => by
  have h := h L hL
  show SimR ((if -(2 ^ 62) ≤ n ∧ n < 2 ^ 62 then R.ok (intsR n.toNat) L else .stuck).bind k) t F B X
  rw [if_pos (inR_of hn), intsR_T]
  exact h
theorem s_forE {K : Kont ω} {gi : LS → R (List D)} {f : D → LS → Option LS} {g : LS → R O} (h : SK A (fun L => (gi L).bind fun ds L1 => fin K (forGo f g ds L1)) t F B X) : SS A (gFor gi f g) K t F B X := s_bind h
theorem c_for {K : Kont ω} {f : D → LS → Option LS} {g : LS → R O} {e : α → D} {xs : List α} {v : ν} {t' : ν → T ε β} (Inv : ν → LS) (A1 : α → ν → LS) {tb : α → ν → T ε ν} (h0 : Mt (Inv v) A) (hf : ∀ x v, Tg (Inv v) f (e x) (A1 x v)) (hb : ∀ x v, SS (A1 x v) g KL (tb x v) (fun _ => ()) Inv X)
    (h : ∀ v, SK (Inv v) K.nx (t' v) F B X) : SK A (fun L => fin K (forGo f g (xs.map e) L)) ((T.forM xs v tb).bind t') F B X := fun L hL => by
  have h1 := forGo_M hf hb xs v L (h0.trans hL)
  show SimR (fin K (forGo f g (xs.map e) L)) _ F B X
  cases ht : T.forM xs v tb with
  | no => trivial
  | er c z =>
    rw [ht] at h1
    obtain ⟨L3, h4, h5⟩ := h1
    rw [h4]
    exact ⟨_, rfl, h5⟩
  | ok v' =>
    rw [ht] at h1
    obtain ⟨L3, h4, h5⟩ := h1
    rw [h4]
    exact h v' _ h5
theorem c_forL {K : Kont ω} {f : D → LS → Option LS} {g : LS → R O} {e : α → D} {xs : List α} {v : ν} {tn : ν → T ε β} {tr : ρ → T ε β} (Inv : ν → LS) (Br : ρ → LS) (fr : ρ → S) (A1 : α → ν → LS) {tb : α → ν → T ε (T.Lp ν ρ)} (h0 : Mt (Inv v) A) (hf : ∀ x v, Tg (Inv v) f (e x) (A1 x v)) (hb : ∀ x v, SS (A1 x v) g KB (tb x v) (lpO fr) (lpB Inv Br) X)
    (h : ∀ v, SK (Inv v) K.nx (tn v) F B X) (h3 : ∀ r, SK (Br r) (fun L => K.rt (fr r) L) (tr r) F B X) : SK A (fun L => fin K (forGo f g (xs.map e) L)) (T.bindL (T.forL xs v tb) tn tr) F B X := fun L hL => by
  have h1 := forGo_L hf hb xs v L (h0.trans hL)
  show SimR (fin K (forGo f g (xs.map e) L)) _ F B X
  cases ht : T.forL xs v tb with
  | no => trivial
  | er c z =>
    rw [ht] at h1
    obtain ⟨L3, h4, h5⟩ := h1
    rw [h4]
    exact ⟨_, rfl, h5⟩
  | ok z =>
    rw [ht] at h1
    obtain ⟨L3, h4, h5⟩ := h1
    rw [h4]
    cases z with
    | nx v' => exact h v' _ h5
    | rt r => exact h3 r _ h5
def lcQ (vs : List Nat) (f : D → LS → Option LS) (gt : LS → R Bool) (ge : LS → R D) (ds : List D) (L1 : LS) : R S := lcGo vs f gt ge ds [] (wipeL L1 vs)
theorem e_lcE {vs : List Nat} {gi : LS → R (List D)} {f : D → LS → Option LS} {gt : LS → R Bool} {ge : LS → R D} {k : S → LS → R ω} (h : SK A (fun L => (gi L).bind fun ds L1 => (lcQ vs f gt ge ds L1).bind k) t F B X) : SK A (fun L => (gLc vs gi f gt ge L).bind k) t F B X := e_bind h
theorem c_lcp [Enc γ] {vs : List Nat} {f : D → LS → Option LS} {gt : LS → R Bool} {ge : LS → R D} {e : α → D} {xs : List α} {k : S → LS → R ω} (A0 : LS) (A1 : α → LS) {p : α → Bool} {h : α → γ} {t' : List γ → T ε β} (h0 : Mt A0 (wipeL A vs)) (hf : ∀ x, Tg A0 f (e x) (A1 x))
    (hp : ∀ x, Pu (A1 x) gt (p x)) (hh : ∀ x, Pu (A1 x) ge (Enc.enc (h x))) (hw : ∀ x, Mt A0 (wipeL (A1 x) vs)) (h2 : ∀ ys, SK A0 (k (.ol (ys.map Enc.enc))) (t' ys) F B X) :
    SK A (fun L => (lcQ vs f gt ge (xs.map e) L).bind k) ((T.lcp xs p h).bind t') F B X :=
  e_lcp (gi := fun L => .ok (xs.map e) L) A0 A1 (fun _ _ => rfl) h0 hf hp hh hw h2
theorem pu_yes : Pu A gYes true := fun _ _ => rfl
theorem law_end {m : LS → R S} {ns : List Int} {tm : T ε Bool} {Fm : Bool → S} {Bm : Bool → LS} {Xm : ε → LS} (hm : SK [some (.scr ns)] m tm Fm Bm Xm) (hF : Fm true = .d (.bool true)) (h : tm = .ok true) : ∃ L, m [some (.scr ns)] = .ok (.d (.bool true)) L := by
  have h1 := hm _ (Mt.refl _)
  rw [h] at h1
  obtain ⟨L, h2, _⟩ := h1
  exact ⟨L, by rw [h2, hF]⟩
end
end VS

namespace VS
open PySem PySem.Spec PyProof.Rows L2
theorem ln {α : Type} {l : List α} {n : Nat} (h : l.length = n) (hn : n ≤ 1000 := by decide) : l.length ≤ 1000 := by rw [h]; exact hn
theorem lnS {α : Type} {l : List α} {n : Nat} (h : l.length = n) (hn : n ≤ 1000 := by decide) : l.length ≤ sizeLine := by
  rw [h, PySem.sizeLine_eq]
  omega
theorem mod_lit {x y : Int} (h : 0 < y) : dMod (.int x) (.int y) = some (.int (x % y)) := if_pos (decide_eq_true h)
theorem div_lit {x y : Int} (h : 0 < y ∧ y < 1073741824) : dDiv (.int x) (.int y) = some (.int (x / y)) := if_pos (decide_eq_true h)
def minT (i j : Int) : Int := if j < i then j else i
def maxT (i j : Int) : Int := if j > i then j else i
theorem minT_eq (i j : Int) : minT i j = min i j := by unfold minT; omega
theorem maxT_eq (i j : Int) : maxT i j = max i j := by unfold maxT; omega
section
variable {ε α β γ ω : Type} {A : LS} {F : β → ω} {B : β → LS} {X : ε → LS} {t : T ε β}
theorem s_iteT {K : Kont ω} {g1 g2 : LS → R O} (h : SS A g1 K t F B X) : SK A (fun L => fin K (if true = true then g1 L else g2 L)) t F B X := h
theorem s_iteF {K : Kont ω} {g1 g2 : LS → R O} (h : SS A g2 K t F B X) : SK A (fun L => fin K (if false = true then g1 L else g2 L)) t F B X := h
theorem pu_new {g : LS → R S} {s : S} (h : ∀ L, g L = .ok s L) : Pu A g s := fun L _ => h L
theorem Mt.all : ∀ {ss : List S} {L : LS}, Mt (ss.map some) L → L = ss.map some
  | [], [], _ => rfl
  | [], _ :: _, h => by cases h.1
  | s :: ss, [], h => by cases h.1
  | s :: ss, y :: L, h => by
    have h0 := h.2 0 s rfl
    have hy : y = some s := Option.some.inj h0
    rw [hy, Mt.all (ss := ss) (L := L) ⟨Nat.succ.inj h.1, fun i s e => h.2 (i + 1) s e⟩]
    rfl
theorem sk_of {ss : List S} {m : LS → R S} {b : β} {F : β → S} {L' : LS} (h : m (ss.map some) = .ok (F b) L') (hB : Mt (B b) L') : SK (ss.map some) m (T.ok b : T ε β) F B X := fun L hL => by
  rw [hL.all]
  exact ⟨L', h, hB⟩
end
end VS
namespace Ty
open PySem VS Lw
def SrcT : Type := {s : S // Src s}
open Classical in
noncomputable def t_src (ns : List Int) : T Empty SrcT := if h : ns.length ≤ 63 then .ok ⟨_, src_start h⟩ else .no
theorem r_src (ns : List Int) : SK [some (.scr ns)] Lw.m_law_src (t_src ns) (fun r => r.1) (fun _ => [some (.scr ns)]) XV := by
  unfold t_src
  split
  · rename_i h
    exact sk_of (ss := [.scr ns]) (F := fun r : SrcT => r.1) (src_ok h) (Mt.refl _)
  · exact k_no
theorem src_spec {ns : List Int} (h : ns.length ≤ 63) : ∃ s, t_src ns = .ok s := by
  unfold t_src
  rw [dif_pos h]
  exact ⟨_, rfl⟩
def NextQ (s : SrcT) (n : Int) (p : Int × SrcT) : Prop := m_law_next [some s.1, some (.d (.int n))] = .ok (.d (.int p.1)) [some p.2.1, none] ∧ 0 ≤ p.1 ∧ p.1 < n
theorem next_ex (s : SrcT) {n : Int} (h : 0 < n ∧ n < 1073741824) : ∃ p, NextQ s n p := by
  obtain ⟨r, s', e, h0, h1, h2⟩ := next_ok s.2 h.1 h.2
  exact ⟨(r, ⟨s', h2⟩), e, h0, h1⟩
open Classical in
noncomputable def t_next (s : SrcT) (n : Int) : T Empty (Int × SrcT) := if h : 0 < n ∧ n < 1073741824 then .ok (Classical.choose (next_ex s h)) else .no
theorem r_next (s : SrcT) (n : Int) : SK [some s.1, dv n] Lw.m_law_next (t_next s n) (fun r => .d (Enc.enc r.1)) (fun r => [some r.2.1, none]) XV := by
  unfold t_next
  split
  · rename_i h
    exact sk_of (ss := [s.1, .d (.int n)]) (F := fun r : Int × SrcT => .d (.int r.1)) (Classical.choose_spec (next_ex s h)).1 (Mt.refl _)
  · exact k_no
theorem next_spec (s : SrcT) {n : Int} (h : 0 < n ∧ n < 1073741824) : ∃ r s', t_next s n = .ok (r, s') ∧ 0 ≤ r ∧ r < n := by
  have := Classical.choose_spec (next_ex s h)
  exact ⟨_, _, by unfold t_next; rw [dif_pos h], this.2.1, this.2.2⟩
def SmallT (x : Tx) : Prop := ∀ c ∈ x.cs, 97 ≤ c.val ∧ c.val ≤ 122
def GoodT (x : Tx) : Prop := SmallT x ∧ 1 ≤ x.cs.length ∧ x.cs.length ≤ 12
theorem small_lt {l : List Nat} (h : Small l) : ∀ c ∈ l, c < 1114112 := fun c hc => by have := h c hc; omega
theorem of_codes {l : List Nat} (h : Small l) : (Tx.of l).s = sOf l := Tx.of_s (small_lt h)
theorem of_vals {l : List Nat} (h : Small l) : (Tx.of l).cs.map (·.val) = l := by
  unfold Tx.of
  rw [List.map_map]
  refine (List.map_congr_left (g := id) fun c hc => ?_).trans (List.map_id _)
  show (if h : c < 1114112 then (⟨c, h⟩ : Fin 1114112) else _).val = c
  rw [dif_pos (small_lt h c hc)]
theorem of_len (l : List Nat) : (Tx.of l).cs.length = l.length := by simp [Tx.of]
theorem of_small {l : List Nat} (h : Small l) : SmallT (Tx.of l) := fun c hc => by
  have : c.val ∈ (Tx.of l).cs.map (·.val) := List.mem_map_of_mem hc
  rw [of_vals h] at this
  exact h _ this
theorem of_good {l : List Nat} (h : Good l) : GoodT (Tx.of l) := ⟨of_small h.1, by rw [of_len]; exact h.2.1, by rw [of_len]; exact h.2.2⟩
theorem of_inj {a b : List Nat} (ha : Small a) (hb : Small b) (h : Tx.of a = Tx.of b) : a = b := by rw [← of_vals ha, ← of_vals hb, h]
def NamesQ (s : SrcT) (m : Int) (p : List Tx × SrcT) : Prop := m_law_names [some s.1, some (.d (.int m))] = .ok (.ol (p.1.map Enc.enc)) [some p.2.1, none] ∧ p.1.length = m.toNat ∧ p.1.Nodup ∧ ∀ n ∈ p.1, GoodT n
theorem nodup_of {ns : List (List Nat)} (h : ns.Nodup) (g : ∀ n ∈ ns, Good n) : (ns.map Tx.of).Nodup := by
  rw [List.Nodup, List.pairwise_map]
  refine List.Pairwise.imp_of_mem (fun ha hb hab z => hab (of_inj (g _ ha).1 (g _ hb).1 z)) h
theorem names_ex (s : SrcT) {m : Int} (h : 0 ≤ m ∧ m ≤ 500) : ∃ p, NamesQ s m p := by
  obtain ⟨ns, s', e, h1, h2, h3, h4⟩ := names_ok s.2 h.1 h.2
  refine ⟨(ns.map Tx.of, ⟨s', h4⟩), ?_, by rw [List.length_map]; exact h1, nodup_of h2 h3, fun n hn => ?_⟩
  · rw [e, List.map_map]
    congr 2
    exact List.map_congr_left fun n hn => by
      show PyData.str (sOf n) = PyData.str (Tx.of n).s
      rw [of_codes (h3 n hn).1]
  · obtain ⟨w, hw, rfl⟩ := List.mem_map.mp hn
    exact of_good (h3 w hw)
open Classical in
noncomputable def t_names (s : SrcT) (m : Int) : T Empty (List Tx × SrcT) := if h : 0 ≤ m ∧ m ≤ 500 then .ok (Classical.choose (names_ex s h)) else .no
theorem r_names (s : SrcT) (m : Int) : SK [some s.1, dv m] Lw.m_law_names (t_names s m) (fun r => .ol (r.1.map Enc.enc)) (fun r => [some r.2.1, none]) XV := by
  unfold t_names
  split
  · rename_i h
    exact sk_of (ss := [s.1, .d (.int m)]) (F := fun r : List Tx × SrcT => .ol (r.1.map Enc.enc)) (Classical.choose_spec (names_ex s h)).1 (Mt.refl _)
  · exact k_no
theorem names_spec (s : SrcT) {m : Int} (h : 0 ≤ m ∧ m ≤ 500) : ∃ ns s', t_names s m = .ok (ns, s') ∧ ns.length = m.toNat ∧ ns.Nodup ∧ ∀ n ∈ ns, GoodT n := by
  have := Classical.choose_spec (names_ex s h)
  exact ⟨_, _, by unfold t_names; rw [dif_pos h], this.2.1, this.2.2.1, this.2.2.2⟩
abbrev Oath := Tx × Int
abbrev Suit := Tp4 (List Oath) (List Oath) Int (Option (Int × Tx))
abbrev Marks := Dt (Int × Tx) Bool
end Ty

namespace VS
open PySem L2
section
variable {ε ε' α β γ ν ρ : Type}
def T.Post (t : T ε α) (P : α → Prop) : Prop := ∃ a, t = .ok a ∧ P a
theorem post_ok {a : α} {P : α → Prop} (h : P a) : (T.ok a : T ε α).Post P := ⟨a, rfl, h⟩
theorem post_bind {t : T ε α} {k : α → T ε β} {P : α → Prop} {Q : β → Prop} (h : t.Post P) (h2 : ∀ a, P a → (k a).Post Q) : (t.bind k).Post Q := by
  obtain ⟨a, rfl, ha⟩ := h
  exact h2 a ha
theorem post_imp {t : T ε α} {P Q : α → Prop} (h : t.Post P) (k : ∀ a, P a → Q a) : t.Post Q := by
  obtain ⟨a, e, ha⟩ := h
  exact ⟨a, e, k a ha⟩
theorem post_gd {p : Prop} [Decidable p] {t : T ε α} {P : α → Prop} (hp : p) (h : t.Post P) : (T.gd p t).Post P := by
  rw [T.gd_of hp]
  exact h
theorem post_ofO {o : Option α} {k : α → T ε β} {Q : β → Prop} {a : α} (e : o = some a) (h : (k a).Post Q) : ((T.ofO o).bind k).Post Q := by
  subst e
  exact h
theorem post_bindL {t : T ε (T.Le ν ρ)} {n : ν → T ε β} {r : ρ → T ε β} {P : ν → Prop} {Q : β → Prop} (h : t.Post fun z => ∃ v, z = .nx v ∧ P v) (h2 : ∀ v, P v → (n v).Post Q) : (T.bindL t n r).Post Q := by
  obtain ⟨z, rfl, v, rfl, hv⟩ := h
  exact h2 v hv
theorem ofO_some' {a : α} {k : α → T ε β} : (T.ofO (some a)).bind k = k a := rfl
theorem forM_cons {x : α} {xs : List α} {v : ν} {f : α → ν → T ε ν} : T.forM (x :: xs) v f = (f x v).bind fun v' => T.forM xs v' f := rfl
theorem forM_post {f : α → ν → T ε ν} (Inv : List α → ν → Prop) {xs : List α} {v : ν} (h0 : Inv [] v) (hs : ∀ pre x post v, xs = pre ++ x :: post → Inv pre v → (f x v).Post (Inv (pre ++ [x]))) : (T.forM xs v f).Post (Inv xs) := by
  have key : ∀ (post pre : List α) (v : ν), xs = pre ++ post → Inv pre v → (T.forM post v f).Post (Inv xs) := by
    intro post
    induction post with
    | nil =>
      intro pre v e h
      rw [List.append_nil] at e
      subst e
      exact post_ok h
    | cons x post ih =>
      intro pre v e h
      exact post_bind (hs pre x post v e h) fun v' h' => ih (pre ++ [x]) v' (by rw [e]; simp) h'
  exact key xs [] v rfl h0
theorem rangeT_succ (n : Nat) : rangeT (n + 1) = rangeT n ++ [(n : Int)] := by
  unfold rangeT
  rw [List.range_succ, List.map_append]
  rfl
theorem rangeT_len (n : Nat) : (rangeT n).length = n := by unfold rangeT; simp
theorem mem_rangeT {n : Nat} {i : Int} : i ∈ rangeT n ↔ 0 ≤ i ∧ i < n := by
  unfold rangeT
  rw [List.mem_map]
  constructor
  · rintro ⟨k, hk, rfl⟩
    rw [List.mem_range] at hk
    omega
  · rintro ⟨h0, h1⟩
    exact ⟨i.toNat, by rw [List.mem_range]; omega, by omega⟩
theorem mem_rangeT2 {lo : Int} {n : Nat} {i : Int} : i ∈ rangeT2 lo n ↔ lo ≤ i ∧ i < lo + n := by
  unfold rangeT2
  rw [List.mem_map]
  constructor
  · rintro ⟨k, hk, rfl⟩
    rw [List.mem_range] at hk
    omega
  · rintro ⟨h0, h1⟩
    exact ⟨(i - lo).toNat, by rw [List.mem_range]; omega, by omega⟩
theorem forM_app {xs ys : List α} {v : ν} {f : α → ν → T ε ν} : T.forM (xs ++ ys) v f = (T.forM xs v f).bind fun v' => T.forM ys v' f := by
  induction xs generalizing v with
  | nil => rfl
  | cons x xs ih =>
    show (f x v).bind _ = ((f x v).bind _).bind _
    cases f x v with
    | ok a => exact ih
    | er c e => rfl
    | no => rfl
theorem range_post {f : Int → ν → T ε ν} (Inv : Nat → ν → Prop) {n : Nat} {v : ν} (h0 : Inv 0 v) (hs : ∀ (i : Nat) v, i < n → Inv i v → (f (i : Int) v).Post (Inv (i + 1))) : (T.forM (rangeT n) v f).Post (Inv n) := by
  induction n with
  | zero => exact post_ok h0
  | succ n ih =>
    rw [rangeT_succ, forM_app]
    exact post_bind (ih fun i v hi => hs i v (Nat.lt_succ_of_lt hi)) fun v' h' => post_bind (hs n v' (Nat.lt_succ_self n) h') fun v2 h2 => post_ok h2
theorem rev_post {f : Int → ν → T ε ν} (Inv : Nat → ν → Prop) {n : Nat} {v : ν} (h0 : Inv n v) (hs : ∀ (i : Nat) v, i < n → Inv (i + 1) v → (f (i : Int) v).Post (Inv i)) : (T.forM (rangeT n).reverse v f).Post (Inv 0) := by
  induction n generalizing v with
  | zero => exact post_ok h0
  | succ n ih =>
    rw [rangeT_succ, List.reverse_append]
    exact post_bind (hs n v (Nat.lt_succ_self n) h0) fun v' h' => ih h' fun i v hi => hs i v (Nat.lt_succ_of_lt hi)
theorem forM_fold {f : α → ν → T ε ν} {g : α → ν → ν} : ∀ {xs : List α} {v : ν}, (∀ x ∈ xs, ∀ v, f x v = .ok (g x v)) → T.forM xs v f = .ok (xs.foldl (fun v x => g x v) v)
  | [], v, _ => rfl
  | x :: xs, v, h => by
    rw [forM_cons, h x List.mem_cons_self v]
    exact forM_fold fun y hy v => h y (List.mem_cons_of_mem _ hy) v
theorem forL_nx {f : α → ν → T ε (T.Lp ν ρ)} {v : ν} : ∀ {xs : List α}, (∀ x ∈ xs, f x v = .ok (.nx v)) → T.forL xs v f = .ok (.nx v)
  | [], _ => rfl
  | x :: xs, h => by
    show (f x v).bind _ = _
    rw [h x List.mem_cons_self]
    exact forL_nx fun y hy => h y (List.mem_cons_of_mem _ hy)
theorem forL_find {f : α → Unit → T ε (T.Lp Unit ρ)} {p : α → Bool} {r : ρ} : ∀ {xs : List α}, (∀ x ∈ xs, f x () = if p x = true then .ok (.rt r) else .ok (.nx ())) → T.forL xs () f = if xs.any p = true then .ok (.rt r) else .ok (.nx ())
  | [], _ => rfl
  | x :: xs, h => by
    show (f x ()).bind _ = _
    rw [h x List.mem_cons_self, List.any_cons]
    cases p x with
    | true => rfl
    | false =>
      rw [Bool.false_or]
      exact forL_find fun y hy => h y (List.mem_cons_of_mem _ hy)
theorem sz (n : Nat) (h : n ≤ 1000000) : n ≤ sizeLine := by rw [PySem.sizeLine_eq]; omega
theorem szl (n : Nat) (h : n ≤ 1000000) : n < sizeLine := by rw [PySem.sizeLine_eq]; omega
theorem lcp_ok {xs : List α} {p : α → Bool} {h : α → β} (hs : xs.length ≤ 1000000) : (T.lcp xs p h : T ε (List β)) = .ok ((xs.filter p).map h) := if_pos (sz _ hs)
theorem atI_n (xs : List α) (j : Nat) : atI xs (j : Int) = xs[j]? := by
  unfold atI ixN
  rw [if_pos (by omega)]
  by_cases h : j < xs.length
  · rw [if_pos (by omega)]
    rfl
  · rw [if_neg (by omega), List.getElem?_eq_none (by omega)]
    rfl
theorem setT_nat {xs : List α} {j : Nat} {x : α} (h : j < xs.length) : setT xs (j : Int) x = some (xs.set j x) := by
  unfold setT ixN
  rw [if_pos (by omega), if_pos (by omega)]
  rfl
theorem popT_nat {xs : List α} {j : Nat} (h : j < xs.length) (hl : xs.length ≤ 1000000) : popT xs (j : Int) = some (xs[j], xs.eraseIdx j) := by
  unfold popT
  rw [if_pos (by omega)]
  have : seqIndex? (j : Int) xs.length = some j := by
    unfold seqIndex?
    simp
    omega
  rw [this]
  show (xs[j]?).map _ = _
  rw [List.getElem?_eq_getElem h]
  rfl
theorem catT_ok {xs ys : List α} (h : xs.length + ys.length ≤ 1000000) : catT xs ys = some (xs ++ ys) := if_pos (sz _ h)
theorem repT_one (x : α) (n : Nat) (h : n ≤ 1000000) : repT [x] (n : Int) = some (List.replicate n x) := by
  unfold repT
  rw [if_pos (by
    unfold repOk
    refine decide_eq_true ⟨by omega, by omega, ?_⟩
    rw [PySem.sizeLine_eq]
    simp
    omega)]
  congr 1
  rw [Int.toNat_natCast]
  induction n with
  | zero => rfl
  | succ n ih =>
    rw [List.replicate_succ, List.flatten_cons, ih (by omega), List.replicate_succ]
    rfl
theorem inR_s {j : Int} (h0 : 0 ≤ j) (h1 : j ≤ 1000000) : inR j := inR_ok (by omega) (by omega)
theorem cut_to {xs : List α} {k : Int} (h0 : 0 ≤ k) : cutT xs none (some k) = xs.take k.toNat := by
  unfold cutT
  obtain ⟨j, rfl⟩ := Int.eq_ofNat_of_zero_le h0
  have e1 : HT.sIx xs.length 0 none = 0 := rfl
  have e2 : HT.sIx xs.length xs.length (some (j : Int)) = min j xs.length := by
    unfold HT.sIx
    simp only []
    rw [if_neg (by omega), Int.toNat_natCast]
  rw [e1, e2]
  simp
theorem cut_from {xs : List α} {k : Int} (h0 : 0 ≤ k) : cutT xs (some k) none = xs.drop k.toNat := by
  unfold cutT
  obtain ⟨j, rfl⟩ := Int.eq_ofNat_of_zero_le h0
  have e1 : HT.sIx xs.length 0 (some (j : Int)) = min j xs.length := by
    unfold HT.sIx
    simp only []
    rw [if_neg (by omega), Int.toNat_natCast]
  have e2 : HT.sIx xs.length xs.length none = xs.length := rfl
  rw [e1, e2]
  by_cases h : j ≤ xs.length
  · rw [Nat.min_eq_left h, Int.toNat_natCast, List.take_of_length_le (by rw [List.length_drop]; omega)]
  · rw [Nat.min_eq_right (by omega), Int.toNat_natCast, List.drop_eq_nil_of_le (Nat.le_refl _), List.drop_eq_nil_of_le (by omega), List.take_nil]
section
variable {κ : Type} [DecidableEq κ]
theorem dget_nil (k : κ) : dget ([] : Dt κ α) k = none := rfl
theorem dget_put (d : Dt κ α) (k k' : κ) (v : α) : dget (dput d k v) k' = if k = k' then some v else dget d k' := by
  unfold dput
  by_cases ha : (d.any fun p => decide (p.1 = k)) = true
  · rw [if_pos ha]
    unfold dget
    induction d with
    | nil => simp at ha
    | cons p d ih =>
      rw [List.map_cons]
      by_cases h : p.1 = k
      · rw [if_pos h]
        by_cases hk : k = k'
        · rw [List.find?_cons_of_pos (by simp [h, hk]), if_pos hk]
          rfl
        · rw [List.find?_cons_of_neg (by simp [h, hk]), if_neg hk, List.find?_cons_of_neg (by simp [h, hk])]
          have := hk
          by_cases hd : (d.any fun p => decide (p.1 = k)) = true
          · have i := ih hd
            rw [if_neg hk] at i
            exact i
          · have e : d.map (fun p => if p.1 = k then (p.1, v) else p) = d := by
              refine (List.map_congr_left (g := id) fun q hq => ?_).trans (List.map_id _)
              rw [if_neg]
              · rfl
              · intro z
                exact hd (List.any_eq_true.mpr ⟨q, hq, by simp [z]⟩)
            rw [e]
      · rw [if_neg h]
        have hd : (d.any fun p => decide (p.1 = k)) = true := by
          rw [List.any_cons] at ha
          simpa [h] using ha
        by_cases h' : p.1 = k'
        · rw [List.find?_cons_of_pos (by simp [h']), List.find?_cons_of_pos (by simp [h']), if_neg fun z => h (h'.trans z.symm)]
        · rw [List.find?_cons_of_neg (by simp [h']), List.find?_cons_of_neg (by simp [h'])]
          exact ih hd
  · rw [if_neg ha]
    unfold dget
    rw [List.find?_append]
    by_cases hk : k = k'
    · rw [if_pos hk]
      have : d.find? (fun p => decide (p.1 = k')) = none := by
        rw [List.find?_eq_none]
        intro q hq z
        exact ha (List.any_eq_true.mpr ⟨q, hq, by simpa [hk] using z⟩)
      rw [this]
      simp [hk]
    · rw [if_neg hk]
      cases e : d.find? (fun p => decide (p.1 = k')) with
      | some q => rfl
      | none => simp [hk]
theorem dput_len (d : Dt κ α) (k : κ) (v : α) : (dput d k v).length ≤ d.length + 1 := by
  unfold dput
  split
  · rw [List.length_map]; omega
  · rw [List.length_append]; simp
end
end
end VS

noncomputable section
namespace Ty
open PySem VS Lw L2
def t_law_weight (src : SrcT) : T Empty (Int × SrcT) :=
  (t_next src ((5 : Int))).bind fun (r1, src2) =>
  if (decide (r1 = (0 : Int))) = true then ((t_next src2 ((1000 : Int))).bind fun (r3, src4) =>
  .ok (((1 : Int) + r3), src4)) else (if (decide (r1 = (1 : Int))) = true then ((t_next src2 ((3 : Int))).bind fun (r5, src6) =>
  .ok (((1000 : Int) - r5), src6)) else ((t_next src2 ((9 : Int))).bind fun (r7, src8) =>
  .ok (((1 : Int) + r7), src8)))
theorem r_law_weight (src : SrcT) : SK [some src.1] Lw.m_law_weight (t_law_weight src) (fun r => (S.d (Enc.enc r.1))) (fun r => [some r.2.1]) XV := by
  unfold Lw.m_law_weight Lw.g_law_weight t_law_weight
  refine f_def (X' := XV) ?_ xe_no
  show SK [some src.1, none] _ _ _ _ _
  refine s_seq ?_
  refine s_asg ?_
  refine e_call ?_
  refine a_r (by rfl) ?_
  refine a_d ?_
  refine e_pu (pu_c (d := Enc.enc (5 : Int))) ?_
  refine a_nil ?_
  refine c_call (by show List.Nodup [0]; decide) rfl (r_next src ((5 : Int))) xe_no ?_
  rintro ⟨r1, src2⟩
  show SK [some src2.1, none] _ _ _ _ _
  refine s_set rfl ?_
  refine s_then ?_
  refine s_seq ?_
  refine s_if (x := (decide (r1 = (0 : Int)))) (pu_B (pu_op (z := (Enc.enc ((decide (r1 = (0 : Int))) : Bool))) (pu_peek (by rfl)) (pu_c (d := Enc.enc (0 : Int))) (eq_enc r1 ((0 : Int))))) ?_ ?_
  · refine s_ret ?_
    refine e_op ?_
    refine e_pu (pu_c (d := Enc.enc (1 : Int))) ?_
    refine e_fz ?_
    refine e_call ?_
    refine a_r (by rfl) ?_
    refine a_d ?_
    refine e_pu (pu_c (d := Enc.enc (1000 : Int))) ?_
    refine a_nil ?_
    refine c_call (by show List.Nodup [0]; decide) rfl (r_next src2 ((1000 : Int))) xe_no ?_
    rintro ⟨r3, src4⟩
    show SK [some src4.1, dv r1] _ _ _ _ _
    refine e_ok ?_
    refine e_o (z := (S.d (Enc.enc ((1 : Int) + r3 : Int)))) rfl ?_
    exact f_rt rfl (mt_k mt_nil)
  · refine s_next ?_
    refine s_then ?_
    refine s_seq ?_
    refine s_if (x := (decide (r1 = (1 : Int)))) (pu_B (pu_op (z := (Enc.enc ((decide (r1 = (1 : Int))) : Bool))) (pu_peek (by rfl)) (pu_c (d := Enc.enc (1 : Int))) (eq_enc r1 ((1 : Int))))) ?_ ?_
    · refine s_ret ?_
      refine e_d ?_
      refine e_op ?_
      refine e_pu (pu_c (d := Enc.enc (1000 : Int))) ?_
      refine e_fz ?_
      refine e_call ?_
      refine a_r (by rfl) ?_
      refine a_d ?_
      refine e_pu (pu_c (d := Enc.enc (3 : Int))) ?_
      refine a_nil ?_
      refine c_call (by show List.Nodup [0]; decide) rfl (r_next src2 ((3 : Int))) xe_no ?_
      rintro ⟨r5, src6⟩
      show SK [some src6.1, dv r1] _ _ _ _ _
      refine e_ok ?_
      refine e_o (z := (Enc.enc (((1000 : Int) - r5) : Int))) rfl ?_
      exact f_rt rfl (mt_k mt_nil)
    · refine s_next ?_
      refine s_then ?_
      refine s_ret ?_
      refine e_op ?_
      refine e_pu (pu_c (d := Enc.enc (1 : Int))) ?_
      refine e_fz ?_
      refine e_call ?_
      refine a_r (by rfl) ?_
      refine a_d ?_
      refine e_pu (pu_c (d := Enc.enc (9 : Int))) ?_
      refine a_nil ?_
      refine c_call (by show List.Nodup [0]; decide) rfl (r_next src2 ((9 : Int))) xe_no ?_
      rintro ⟨r7, src8⟩
      show SK [some src8.1, dv r1] _ _ _ _ _
      refine e_ok ?_
      refine e_o (z := (S.d (Enc.enc ((1 : Int) + r7 : Int)))) rfl ?_
      exact f_rt rfl (mt_k mt_nil)
def t_law_side_v2 (src : SrcT) (names : (List Tx)) (many : Int) : T Empty ((List Oath) × SrcT) :=
  T.gd (inR (minT many ((List.length names : Nat) : Int))) <|
  (T.forM (rangeT (Int.toNat (minT many ((List.length names : Nat) : Int)))) ((src, names, ([] : List Oath)) : SrcT × (List Tx) × (List Oath)) (fun (i1 : Int) (src5, left6, side7) => (((t_next src5 (((List.length left6 : Nat) : Int) : Int)).bind fun (r8, src9) =>
  (T.ofO (popT left6 r8)).bind fun (x10, left11) =>
  (t_law_weight src9).bind fun (r12, src13) =>
  T.gd (side7.length < sizeLine) <|
  .ok (src13, left11, (side7 ++ [(x10, r12)]))) : T Empty (SrcT × (List Tx) × (List Oath))))).bind fun (src5, left6, side7) =>
  .ok (side7, src5)
theorem r_law_side_v2 (src : SrcT) (names : (List Tx)) (many : Int) : SK [some src.1, lv names, dv many] Lw.m_law_side_v2 (t_law_side_v2 src names many) (fun r => (S.ol (List.map Enc.enc r.1))) (fun r => [some r.2.1, lv names, none]) XV := by
  unfold Lw.m_law_side_v2 Lw.g_law_side_v2 t_law_side_v2
  refine f_def (X' := XV) ?_ xe_no
  show SK [some src.1, lv names, dv many, none, none, none] _ _ _ _ _
  refine s_seq ?_
  refine s_asg ?_
  refine e_pu (pu_un (z := (S.ol (List.map Enc.enc names))) (pu_peekL (by rfl)) rfl) ?_
  refine s_set rfl ?_
  refine s_then ?_
  refine s_seq ?_
  refine s_asg ?_
  refine e_pu (pu_lst pu_nil (ln (n := 0) rfl)) ?_
  refine s_set rfl ?_
  refine s_then ?_
  refine s_seq ?_
  refine s_forE ?_
  refine e_rng1 ?_
  refine e_pu (pu_cons (pu_ga (z := (Enc.enc ((minT many ((List.length names : Nat) : Int)) : Int))) (pu_cons (pu_var (by rfl)) (pu_cons (pu_un (z := (Enc.enc ((List.length names : Nat) : Int))) (pu_peekL (by rfl)) (len_l _)) pu_nil)) rfl) pu_nil) ?_
  refine c_rng1 (n := (minT many ((List.length names : Nat) : Int))) ?_
  refine c_for (e := Enc.enc) (xs := ((rangeT (Int.toNat (minT many ((List.length names : Nat) : Int)))) : (List Int))) (v := (src, names, ([] : List Oath))) (fun v => [some v.1.1, lv names, dv many, lv v.2.1, lv v.2.2, none]) (fun i1 v => [some v.1.1, lv names, dv many, lv v.2.1, lv v.2.2, dv i1]) (mt_k (mt_k (mt_k (mt_k (mt_k (mt_w mt_nil)))))) (fun i1 v => tg_name) (fun i1 v => ?_) (fun v => ?_)
  · obtain ⟨src5, left6, side7⟩ := v
    show SK [some src5.1, lv names, dv many, lv left6, lv side7, dv i1] _ _ _ _ _
    refine s_drop ?_
    refine e_app (by rfl) ?_
    refine e_tup ?_
    refine e_cons ?_
    refine e_popAt (by rfl) ?_
    refine e_fz ?_
    refine e_call ?_
    refine a_r (by rfl) ?_
    refine a_d ?_
    refine e_pu (pu_un (z := (Enc.enc ((List.length left6 : Nat) : Int))) (pu_peekL (by rfl)) (len_l _)) ?_
    refine a_nil ?_
    refine c_call (by show List.Nodup [0]; decide) rfl (r_next src5 (((List.length left6 : Nat) : Int))) xe_no ?_
    rintro ⟨r8, src9⟩
    show SK [some src9.1, lv names, dv many, lv left6, lv side7, dv i1] _ _ _ _ _
    refine e_ok ?_
    refine c_popAt (xs := left6) (by rfl) (fun x10 left11 => ?_)
    refine e_cons ?_
    refine e_fz ?_
    refine e_call ?_
    refine a_r (by rfl) ?_
    refine a_nil ?_
    refine c_call (by show List.Nodup [0]; decide) rfl (r_law_weight src9) xe_no ?_
    rintro ⟨r12, src13⟩
    show SK [some src13.1, lv names, dv many, lv left11, lv side7, dv i1] _ _ _ _ _
    refine e_ok ?_
    refine e_pu pu_nil ?_
    refine e_iteP (lnS (n := 2) rfl) ?_
    refine e_ok ?_
    refine c_app (xs := side7) (x := ((x10, r12) : Oath)) (by rfl) rfl ?_
    exact k_ok rfl (mt_k (mt_k (mt_k (mt_k (mt_k (mt_w mt_nil))))))
  obtain ⟨src5, left6, side7⟩ := v
  show SK [some src5.1, lv names, dv many, lv left6, lv side7, none] _ _ _ _ _
  refine s_then ?_
  refine s_ret ?_
  refine e_move (by rfl) (by intro _ h; cases h) ?_
  exact f_rt rfl (mt_k (mt_k (mt_w mt_nil)))
def t_law_named (src : SrcT) (suits : (List Suit)) : T Empty ((Option (Int × Tx)) × SrcT) :=
  if (decide ((((List.length suits : Nat) : Int) : Int) = (0 : Int))) = true then (.ok ((none : (Option (Int × Tx))), src)) else ((t_next src ((5 : Int))).bind fun (r1, src2) =>
  if (decide (r1 = (0 : Int))) = true then (.ok ((none : (Option (Int × Tx))), src2)) else ((t_next src2 (((List.length suits : Nat) : Int) : Int)).bind fun (r3, src4) =>
  (((t_next src4 ((3 : Int))).bind fun (r7, src8) =>
  if (decide (r7 = (0 : Int))) = true then (.ok (src8, (((List.length suits : Nat) : Int) - (1 : Int)))) else (.ok (src8, r3)) : T Empty (SrcT × Int))).bind fun (src5, case6) =>
  (T.ofO (atI suits case6)).bind fun x9 =>
  (T.ofO (atI suits case6)).bind fun x10 =>
  (T.ofO (catT x9.a x10.b)).bind fun x11 =>
  (T.lcp x11 (fun (i12 : Oath) => true) (fun i12 => i12.1)).bind fun l13 =>
  if (decide ((((List.length l13 : Nat) : Int) : Int) = (0 : Int))) = true then (.ok ((none : (Option (Int × Tx))), src5)) else ((t_next src5 (((List.length l13 : Nat) : Int) : Int)).bind fun (r14, src15) =>
  (T.ofO (atI l13 r14)).bind fun x16 =>
  .ok ((some (case6, x16)), src15))))
theorem r_law_named (src : SrcT) (suits : (List Suit)) : SK [some src.1, lv suits] Lw.m_law_named (t_law_named src suits) (fun r => (S.d (Enc.enc r.1))) (fun r => [some r.2.1, lv suits]) XV := by
  unfold Lw.m_law_named Lw.g_law_named t_law_named
  refine f_def (X' := XV) ?_ xe_no
  show SK [some src.1, lv suits, none, none, none, none, none] _ _ _ _ _
  refine s_seq ?_
  refine s_asg ?_
  refine e_pu (pu_d (pu_un (z := (Enc.enc ((List.length suits : Nat) : Int))) (pu_peekL (by rfl)) (len_l _))) ?_
  refine s_set rfl ?_
  refine s_then ?_
  refine s_seq ?_
  refine s_ifE ?_
  refine e_orL ?_
  refine e_pu (pu_B (pu_op (z := (Enc.enc ((decide ((((List.length suits : Nat) : Int) : Int) = (0 : Int))) : Bool))) (pu_peek (by rfl)) (pu_c (d := Enc.enc (0 : Int))) (eq_enc (((List.length suits : Nat) : Int) : Int) ((0 : Int))))) ?_
  refine c_or (x := (decide ((((List.length suits : Nat) : Int) : Int) = (0 : Int)))) ?_ ?_
  · refine s_iteT ?_
    refine s_ret ?_
    refine e_pu (pu_d pu_c) ?_
    exact f_rt rfl (mt_k (mt_k mt_nil))
  · refine e_B ?_
    refine e_op ?_
    refine e_fz ?_
    refine e_call ?_
    refine a_r (by rfl) ?_
    refine a_d ?_
    refine e_pu (pu_c (d := Enc.enc (5 : Int))) ?_
    refine a_nil ?_
    refine c_call (by show List.Nodup [0]; decide) rfl (r_next src ((5 : Int))) xe_no ?_
    rintro ⟨r1, src2⟩
    show SK [some src2.1, lv suits, dv (((List.length suits : Nat) : Int) : Int), none, none, none, none] _ _ _ _ _
    refine e_ok ?_
    refine e_pu (pu_c (d := Enc.enc (0 : Int))) ?_
    refine e_o (z := (Enc.enc ((decide (r1 = (0 : Int))) : Bool))) (eq_enc r1 ((0 : Int))) ?_
    refine e_ok ?_
    refine s_ite (x := (decide (r1 = (0 : Int)))) ?_ ?_
    · refine s_ret ?_
      refine e_pu (pu_d pu_c) ?_
      exact f_rt rfl (mt_k (mt_k mt_nil))
    · refine s_next ?_
      refine s_then ?_
      refine s_seq ?_
      refine s_asg ?_
      refine e_call ?_
      refine a_r (by rfl) ?_
      refine a_d ?_
      refine e_pu (pu_var (by rfl)) ?_
      refine a_nil ?_
      refine c_call (by show List.Nodup [0]; decide) rfl (r_next src2 (((List.length suits : Nat) : Int))) xe_no ?_
      rintro ⟨r3, src4⟩
      show SK [some src4.1, lv suits, dv (((List.length suits : Nat) : Int) : Int), none, none, none, none] _ _ _ _ _
      refine s_set rfl ?_
      refine s_then ?_
      refine s_seq ?_
      refine s_cut (B1 := fun v => [some v.1.1, lv suits, dv (((List.length suits : Nat) : Int) : Int), dv v.2, none, none, none]) ?_ ?_
      · refine s_ifE ?_
        refine e_B ?_
        refine e_op ?_
        refine e_fz ?_
        refine e_call ?_
        refine a_r (by rfl) ?_
        refine a_d ?_
        refine e_pu (pu_c (d := Enc.enc (3 : Int))) ?_
        refine a_nil ?_
        refine c_call (by show List.Nodup [0]; decide) rfl (r_next src4 ((3 : Int))) xe_no ?_
        rintro ⟨r7, src8⟩
        show SK [some src8.1, lv suits, dv (((List.length suits : Nat) : Int) : Int), dv r3, none, none, none] _ _ _ _ _
        refine e_ok ?_
        refine e_pu (pu_c (d := Enc.enc (0 : Int))) ?_
        refine e_o (z := (Enc.enc ((decide (r7 = (0 : Int))) : Bool))) (eq_enc r7 ((0 : Int))) ?_
        refine e_ok ?_
        refine s_ite (x := (decide (r7 = (0 : Int)))) ?_ ?_
        · refine s_asg ?_
          refine e_pu (pu_d (pu_op (z := (Enc.enc ((((List.length suits : Nat) : Int) - (1 : Int)) : Int))) (pu_var (by rfl)) (pu_c (d := Enc.enc (1 : Int))) rfl)) ?_
          refine s_set rfl ?_
          exact k_ok rfl (mt_k (mt_k (mt_k (mt_k (mt_w (mt_w (mt_w mt_nil)))))))
        · refine s_next ?_
          exact k_ok rfl (mt_k (mt_k (mt_k (mt_k (mt_w (mt_w (mt_w mt_nil)))))))
      rintro ⟨src5, case6⟩
      show SK [some src5.1, lv suits, dv (((List.length suits : Nat) : Int) : Int), dv case6, none, none, none] _ _ _ _ _
      refine s_then ?_
      refine s_seq ?_
      refine s_asg ?_
      refine e_lcE ?_
      refine e_items ?_
      refine e_fz ?_
      refine e_op ?_
      refine e_op ?_
      refine e_ixP (by rfl) ?_
      refine e_pu (pu_var (by rfl)) ?_
      refine e_pu (pu_peekL (by rfl)) ?_
      refine e_oO (p := atI suits case6) (f := Enc.enc) (ix_l suits case6) (fun x9 => ?_)
      refine e_pu (pu_c (d := Enc.enc (0 : Int))) ?_
      refine e_o (z := (Enc.enc x9.a)) rfl ?_
      refine e_op ?_
      refine e_ixP (by rfl) ?_
      refine e_pu (pu_var (by rfl)) ?_
      refine e_pu (pu_peekL (by rfl)) ?_
      refine e_oO (p := atI suits case6) (f := Enc.enc) (ix_l suits case6) (fun x10 => ?_)
      refine e_pu (pu_c (d := Enc.enc (1 : Int))) ?_
      refine e_o (z := (Enc.enc x10.b)) rfl ?_
      refine e_oO (p := catT x9.a x10.b) (f := (fun z => S.ol (List.map Enc.enc z))) (cat_l x9.a x10.b) (fun x11 => ?_)
      refine e_ok ?_
      refine e_ok ?_
      refine c_lcp (e := Enc.enc) (xs := x11) (p := fun (i12 : Oath) => true) (h := fun i12 => i12.1) [some src5.1, lv suits, dv (((List.length suits : Nat) : Int) : Int), dv case6, none, none, none] (fun i12 => [some src5.1, lv suits, dv (((List.length suits : Nat) : Int) : Int), dv case6, none, dv i12.1, dv i12.2]) (mt_k (mt_k (mt_k (mt_k (mt_w (mt_w (mt_w mt_nil))))))) (fun i12 => (tg_tup (tgs_cons tg_name (tgs_cons tg_name tgs_nil)) rfl)) (fun i12 => pu_yes) (fun i12 => (pu_var (by rfl))) (fun i12 => (mt_k (mt_k (mt_k (mt_k (mt_w (mt_w (mt_w mt_nil)))))))) (fun l13 => ?_)
      refine s_set rfl ?_
      refine s_then ?_
      refine s_seq ?_
      refine s_if (x := (decide ((((List.length l13 : Nat) : Int) : Int) = (0 : Int)))) (pu_B (pu_op (z := (Enc.enc ((decide ((((List.length l13 : Nat) : Int) : Int) = (0 : Int))) : Bool))) (pu_un (z := (Enc.enc ((List.length l13 : Nat) : Int))) (pu_peekL (by rfl)) (len_l _)) (pu_c (d := Enc.enc (0 : Int))) (eq_enc (((List.length l13 : Nat) : Int) : Int) ((0 : Int))))) ?_ ?_
      · refine s_ret ?_
        refine e_pu (pu_d pu_c) ?_
        exact f_rt rfl (mt_k (mt_k mt_nil))
      · refine s_next ?_
        refine s_then ?_
        refine s_ret ?_
        refine e_d ?_
        refine e_tup ?_
        refine e_cons ?_
        refine e_pu (pu_var (by rfl)) ?_
        refine e_cons ?_
        refine e_ixP (by rfl) ?_
        refine e_fz ?_
        refine e_call ?_
        refine a_r (by rfl) ?_
        refine a_d ?_
        refine e_pu (pu_un (z := (Enc.enc ((List.length l13 : Nat) : Int))) (pu_peekL (by rfl)) (len_l _)) ?_
        refine a_nil ?_
        refine c_call (by show List.Nodup [0]; decide) rfl (r_next src5 (((List.length l13 : Nat) : Int))) xe_no ?_
        rintro ⟨r14, src15⟩
        show SK [some src15.1, lv suits, dv (((List.length suits : Nat) : Int) : Int), dv case6, lv l13, none, none] _ _ _ _ _
        refine e_ok ?_
        refine e_pu (pu_peekL (by rfl)) ?_
        refine e_oO (p := atI l13 r14) (f := Enc.enc) (ix_l l13 r14) (fun x16 => ?_)
        refine e_pu pu_nil ?_
        refine e_iteP (lnS (n := 2) rfl) ?_
        refine e_ok ?_
        exact f_rt rfl (mt_k (mt_k mt_nil))
def t_law_total (side : (List Oath)) : T Empty (Int) :=
  (T.forM side ((0 : Int)) (fun (i1 : Oath) found3 => ((.ok (found3 + i1.2)) : T Empty (Int)))).bind fun found3 =>
  .ok found3
theorem r_law_total (side : (List Oath)) : SK [dv side] Lw.m_law_total (t_law_total side) (fun r => (S.d (Enc.enc r))) (fun r => [none]) XV := by
  unfold Lw.m_law_total Lw.g_law_total t_law_total
  refine f_def (X' := XV) ?_ xe_no
  show SK [dv side, none, none, none] _ _ _ _ _
  refine s_seq ?_
  refine s_asg ?_
  refine e_pu (pu_d (pu_c (d := Enc.enc (0 : Int)))) ?_
  refine s_set rfl ?_
  refine s_then ?_
  refine s_seq ?_
  refine s_forE ?_
  refine e_items ?_
  refine e_pu (pu_var (by rfl)) ?_
  refine e_ok ?_
  refine c_for (e := Enc.enc) (xs := side) (v := (0 : Int)) (fun v => [dv side, dv v, none, none]) (fun i1 v => [dv side, dv v, dv i1.1, dv i1.2]) (mt_k (mt_k (mt_w (mt_w mt_nil)))) (fun i1 v => (tg_tup (tgs_cons tg_name (tgs_cons tg_name tgs_nil)) rfl)) (fun i1 v => ?_) (fun v => ?_)
  · revert v; intro found3
    show SK [dv side, dv found3, dv i1.1, dv i1.2] _ _ _ _ _
    refine s_asg ?_
    refine e_pu (pu_op (z := (S.d (Enc.enc (found3 + i1.2 : Int)))) (pu_var (by rfl)) (pu_var (by rfl)) rfl) ?_
    refine s_set rfl ?_
    exact k_ok rfl (mt_k (mt_k (mt_w (mt_w mt_nil))))
  revert v; intro found3
  show SK [dv side, dv found3, none, none] _ _ _ _ _
  refine s_then ?_
  refine s_ret ?_
  refine e_move (by rfl) (by intro _ h; cases h) ?_
  exact f_rt rfl (mt_w mt_nil)
def t_law_need (src : SrcT) (ones : (List Oath)) (others : (List Oath)) : T Empty (Int × SrcT) :=
  (t_law_total ones).bind fun r1 =>
  (t_law_total others).bind fun r2 =>
  (t_next src ((6 : Int))).bind fun (r3, src4) =>
  (((t_next src4 ((4 : Int))).bind fun (r7, src8) =>
  if (decide (r7 = (0 : Int))) = true then ((t_next src8 ((30 : Int))).bind fun (r9, src10) =>
  .ok (src10, ((1 : Int) + r9))) else (.ok (src8, (((r1 - r2) - (3 : Int)) + r3))) : T Empty (SrcT × Int))).bind fun (src5, close6) =>
  .ok ((maxT (1 : Int) (minT (12000 : Int) close6)), src5)
theorem r_law_need (src : SrcT) (ones : (List Oath)) (others : (List Oath)) : SK [some src.1, dv ones, dv others] Lw.m_law_need (t_law_need src ones others) (fun r => (S.d (Enc.enc r.1))) (fun r => [some r.2.1, none, none]) XV := by
  unfold Lw.m_law_need Lw.g_law_need t_law_need
  refine f_def (X' := XV) ?_ xe_no
  show SK [some src.1, dv ones, dv others, none] _ _ _ _ _
  refine s_seq ?_
  refine s_asg ?_
  refine e_op ?_
  refine e_op ?_
  refine e_op ?_
  refine e_fz ?_
  refine e_call ?_
  refine a_d ?_
  refine e_pu (pu_var (by rfl)) ?_
  refine a_nil ?_
  refine c_call List.nodup_nil rfl (r_law_total ones) xe_no ?_
  rintro r1
  show SK [some src.1, dv ones, dv others, none] _ _ _ _ _
  refine e_ok ?_
  refine e_fz ?_
  refine e_call ?_
  refine a_d ?_
  refine e_pu (pu_var (by rfl)) ?_
  refine a_nil ?_
  refine c_call List.nodup_nil rfl (r_law_total others) xe_no ?_
  rintro r2
  show SK [some src.1, dv ones, dv others, none] _ _ _ _ _
  refine e_ok ?_
  refine e_o (z := (Enc.enc ((r1 - r2) : Int))) rfl ?_
  refine e_pu (pu_c (d := Enc.enc (3 : Int))) ?_
  refine e_o (z := (Enc.enc (((r1 - r2) - (3 : Int)) : Int))) rfl ?_
  refine e_fz ?_
  refine e_call ?_
  refine a_r (by rfl) ?_
  refine a_d ?_
  refine e_pu (pu_c (d := Enc.enc (6 : Int))) ?_
  refine a_nil ?_
  refine c_call (by show List.Nodup [0]; decide) rfl (r_next src ((6 : Int))) xe_no ?_
  rintro ⟨r3, src4⟩
  show SK [some src4.1, dv ones, dv others, none] _ _ _ _ _
  refine e_ok ?_
  refine e_o (z := (S.d (Enc.enc (((r1 - r2) - (3 : Int)) + r3 : Int)))) rfl ?_
  refine s_set rfl ?_
  refine s_then ?_
  refine s_seq ?_
  refine s_cut (B1 := fun v => [some v.1.1, dv ones, dv others, dv v.2]) ?_ ?_
  · refine s_ifE ?_
    refine e_B ?_
    refine e_op ?_
    refine e_fz ?_
    refine e_call ?_
    refine a_r (by rfl) ?_
    refine a_d ?_
    refine e_pu (pu_c (d := Enc.enc (4 : Int))) ?_
    refine a_nil ?_
    refine c_call (by show List.Nodup [0]; decide) rfl (r_next src4 ((4 : Int))) xe_no ?_
    rintro ⟨r7, src8⟩
    show SK [some src8.1, dv ones, dv others, dv ((((r1 - r2) - (3 : Int)) + r3) : Int)] _ _ _ _ _
    refine e_ok ?_
    refine e_pu (pu_c (d := Enc.enc (0 : Int))) ?_
    refine e_o (z := (Enc.enc ((decide (r7 = (0 : Int))) : Bool))) (eq_enc r7 ((0 : Int))) ?_
    refine e_ok ?_
    refine s_ite (x := (decide (r7 = (0 : Int)))) ?_ ?_
    · refine s_asg ?_
      refine e_op ?_
      refine e_pu (pu_c (d := Enc.enc (1 : Int))) ?_
      refine e_fz ?_
      refine e_call ?_
      refine a_r (by rfl) ?_
      refine a_d ?_
      refine e_pu (pu_c (d := Enc.enc (30 : Int))) ?_
      refine a_nil ?_
      refine c_call (by show List.Nodup [0]; decide) rfl (r_next src8 ((30 : Int))) xe_no ?_
      rintro ⟨r9, src10⟩
      show SK [some src10.1, dv ones, dv others, dv ((((r1 - r2) - (3 : Int)) + r3) : Int)] _ _ _ _ _
      refine e_ok ?_
      refine e_o (z := (S.d (Enc.enc ((1 : Int) + r9 : Int)))) rfl ?_
      refine s_set rfl ?_
      exact k_ok rfl (mt_k (mt_k (mt_k (mt_k mt_nil))))
    · refine s_next ?_
      exact k_ok rfl (mt_k (mt_k (mt_k (mt_k mt_nil))))
  rintro ⟨src5, close6⟩
  show SK [some src5.1, dv ones, dv others, dv close6] _ _ _ _ _
  refine s_then ?_
  refine s_ret ?_
  refine e_pu (pu_d (pu_ga (z := (Enc.enc ((maxT (1 : Int) (minT (12000 : Int) close6)) : Int))) (pu_cons (pu_c (d := Enc.enc (1 : Int))) (pu_cons (pu_ga (z := (Enc.enc ((minT (12000 : Int) close6) : Int))) (pu_cons (pu_c (d := Enc.enc (12000 : Int))) (pu_cons (pu_var (by rfl)) pu_nil)) rfl) pu_nil)) rfl)) ?_
  exact f_rt rfl (mt_k (mt_w (mt_w mt_nil)))
def t_law_suits (src : SrcT) (many : Int) (most : Int) : T Empty ((List Suit) × SrcT) :=
  (t_names src ((most + (2 : Int)) : Int)).bind fun (r1, src2) =>
  T.gd (inR many) <|
  (T.forM (rangeT (Int.toNat many)) ((src2, ([] : List Suit)) : SrcT × (List Suit)) (fun (i3 : Int) (src6, suits7) => (((t_next src6 ((most + (1 : Int)) : Int)).bind fun (r8, src9) =>
  (t_law_side_v2 src9 r1 r8).bind fun (r10, src11) =>
  (t_next src11 ((2 : Int))).bind fun (r12, src13) =>
  (((t_next src13 ((3 : Int))).bind fun (r16, src17) =>
  if (decide (r16 = (0 : Int))) = true then ((t_next src17 ((((List.length r10 : Nat) : Int) + (1 : Int)) : Int)).bind fun (r18, src19) =>
  .ok (src19, r18)) else (.ok (src17, (((((List.length r10 : Nat) : Int) + (1 : Int)) + r12) / (2 : Int)))) : T Empty (SrcT × Int))).bind fun (src14, cut15) =>
  (t_law_named src14 suits7).bind fun (r20, src21) =>
  (t_law_need src21 ((cutT r10 none (some cut15)) : (List Oath)) ((cutT r10 (some cut15) none) : (List Oath))).bind fun (r22, src23) =>
  T.gd (suits7.length < sizeLine) <|
  .ok (src23, (suits7 ++ [(Tp4.mk (cutT r10 none (some cut15)) (cutT r10 (some cut15) none) r22 r20)]))) : T Empty (SrcT × (List Suit))))).bind fun (src6, suits7) =>
  .ok (suits7, src6)
theorem r_law_suits (src : SrcT) (many : Int) (most : Int) : SK [some src.1, dv many, dv most] Lw.m_law_suits (t_law_suits src many most) (fun r => (S.ol (List.map Enc.enc r.1))) (fun r => [some r.2.1, none, none]) XV := by
  unfold Lw.m_law_suits Lw.g_law_suits t_law_suits
  refine f_def (X' := XV) ?_ xe_no
  show SK [some src.1, dv many, dv most, none, none, none, none, none, none, none] _ _ _ _ _
  refine s_seq ?_
  refine s_asg ?_
  refine e_call ?_
  refine a_r (by rfl) ?_
  refine a_d ?_
  refine e_pu (pu_fz (pu_op (z := (S.d (Enc.enc (most + (2 : Int))))) (pu_var (by rfl)) (pu_c (d := Enc.enc (2 : Int))) rfl)) ?_
  refine a_nil ?_
  refine c_call (by show List.Nodup [0]; decide) rfl (r_names src ((most + (2 : Int)))) xe_no ?_
  rintro ⟨r1, src2⟩
  show SK [some src2.1, dv many, dv most, none, none, none, none, none, none, none] _ _ _ _ _
  refine s_set rfl ?_
  refine s_then ?_
  refine s_seq ?_
  refine s_asg ?_
  refine e_pu (pu_lst pu_nil (ln (n := 0) rfl)) ?_
  refine s_set rfl ?_
  refine s_then ?_
  refine s_seq ?_
  refine s_forE ?_
  refine e_rng1 ?_
  refine e_pu (pu_cons (pu_var (by rfl)) pu_nil) ?_
  refine c_rng1 (n := many) ?_
  refine c_for (e := Enc.enc) (xs := ((rangeT (Int.toNat many)) : (List Int))) (v := (src2, ([] : List Suit))) (fun v => [some v.1.1, dv many, dv most, lv r1, lv v.2, none, none, none, none, none]) (fun i3 v => [some v.1.1, dv many, dv most, lv r1, lv v.2, dv i3, none, none, none, none]) (mt_k (mt_k (mt_k (mt_k (mt_k (mt_w (mt_w (mt_w (mt_w (mt_w mt_nil)))))))))) (fun i3 v => tg_name) (fun i3 v => ?_) (fun v => ?_)
  · obtain ⟨src6, suits7⟩ := v
    show SK [some src6.1, dv many, dv most, lv r1, lv suits7, dv i3, none, none, none, none] _ _ _ _ _
    refine s_seq ?_
    refine s_asg ?_
    refine e_call ?_
    refine a_r (by rfl) ?_
    refine a_r (by rfl) ?_
    refine a_d ?_
    refine e_fz ?_
    refine e_call ?_
    refine a_r (by rfl) ?_
    refine a_d ?_
    refine e_pu (pu_fz (pu_op (z := (S.d (Enc.enc (most + (1 : Int))))) (pu_var (by rfl)) (pu_c (d := Enc.enc (1 : Int))) rfl)) ?_
    refine a_nil ?_
    refine c_call (by show List.Nodup [0]; decide) rfl (r_next src6 ((most + (1 : Int)))) xe_no ?_
    rintro ⟨r8, src9⟩
    show SK [some src9.1, dv many, dv most, lv r1, lv suits7, dv i3, none, none, none, none] _ _ _ _ _
    refine e_ok ?_
    refine a_nil ?_
    refine c_call (by show List.Nodup [0, 3]; decide) rfl (r_law_side_v2 src9 r1 r8) xe_no ?_
    rintro ⟨r10, src11⟩
    show SK [some src11.1, dv many, dv most, lv r1, lv suits7, dv i3, none, none, none, none] _ _ _ _ _
    refine s_set rfl ?_
    refine s_then ?_
    refine s_seq ?_
    refine s_asg ?_
    refine e_d ?_
    refine e_op ?_
    refine e_fz ?_
    refine e_op ?_
    refine e_pu (pu_fz (pu_op (z := (S.d (Enc.enc (((List.length r10 : Nat) : Int) + (1 : Int))))) (pu_un (z := (Enc.enc ((List.length r10 : Nat) : Int))) (pu_peekL (by rfl)) (len_l _)) (pu_c (d := Enc.enc (1 : Int))) rfl)) ?_
    refine e_fz ?_
    refine e_call ?_
    refine a_r (by rfl) ?_
    refine a_d ?_
    refine e_pu (pu_c (d := Enc.enc (2 : Int))) ?_
    refine a_nil ?_
    refine c_call (by show List.Nodup [0]; decide) rfl (r_next src11 ((2 : Int))) xe_no ?_
    rintro ⟨r12, src13⟩
    show SK [some src13.1, dv many, dv most, lv r1, lv suits7, dv i3, lv r10, none, none, none] _ _ _ _ _
    refine e_ok ?_
    refine e_o (z := (S.d (Enc.enc ((((List.length r10 : Nat) : Int) + (1 : Int)) + r12 : Int)))) rfl ?_
    refine e_ok ?_
    refine e_pu (pu_c (d := Enc.enc (2 : Int))) ?_
    refine e_o (z := (Enc.enc ((((((List.length r10 : Nat) : Int) + (1 : Int)) + r12) / (2 : Int)) : Int))) (div_lit (by decide)) ?_
    refine s_set rfl ?_
    refine s_then ?_
    refine s_seq ?_
    refine s_cut (B1 := fun v => [some v.1.1, dv many, dv most, lv r1, lv suits7, dv i3, lv r10, dv v.2, none, none]) ?_ ?_
    · refine s_ifE ?_
      refine e_B ?_
      refine e_op ?_
      refine e_fz ?_
      refine e_call ?_
      refine a_r (by rfl) ?_
      refine a_d ?_
      refine e_pu (pu_c (d := Enc.enc (3 : Int))) ?_
      refine a_nil ?_
      refine c_call (by show List.Nodup [0]; decide) rfl (r_next src13 ((3 : Int))) xe_no ?_
      rintro ⟨r16, src17⟩
      show SK [some src17.1, dv many, dv most, lv r1, lv suits7, dv i3, lv r10, dv ((((((List.length r10 : Nat) : Int) + (1 : Int)) + r12) / (2 : Int)) : Int), none, none] _ _ _ _ _
      refine e_ok ?_
      refine e_pu (pu_c (d := Enc.enc (0 : Int))) ?_
      refine e_o (z := (Enc.enc ((decide (r16 = (0 : Int))) : Bool))) (eq_enc r16 ((0 : Int))) ?_
      refine e_ok ?_
      refine s_ite (x := (decide (r16 = (0 : Int)))) ?_ ?_
      · refine s_asg ?_
        refine e_call ?_
        refine a_r (by rfl) ?_
        refine a_d ?_
        refine e_pu (pu_fz (pu_op (z := (S.d (Enc.enc (((List.length r10 : Nat) : Int) + (1 : Int))))) (pu_un (z := (Enc.enc ((List.length r10 : Nat) : Int))) (pu_peekL (by rfl)) (len_l _)) (pu_c (d := Enc.enc (1 : Int))) rfl)) ?_
        refine a_nil ?_
        refine c_call (by show List.Nodup [0]; decide) rfl (r_next src17 ((((List.length r10 : Nat) : Int) + (1 : Int)))) xe_no ?_
        rintro ⟨r18, src19⟩
        show SK [some src19.1, dv many, dv most, lv r1, lv suits7, dv i3, lv r10, dv ((((((List.length r10 : Nat) : Int) + (1 : Int)) + r12) / (2 : Int)) : Int), none, none] _ _ _ _ _
        refine s_set rfl ?_
        exact k_ok rfl (mt_k (mt_k (mt_k (mt_k (mt_k (mt_k (mt_k (mt_k (mt_w (mt_w mt_nil))))))))))
      · refine s_next ?_
        exact k_ok rfl (mt_k (mt_k (mt_k (mt_k (mt_k (mt_k (mt_k (mt_k (mt_w (mt_w mt_nil))))))))))
    rintro ⟨src14, cut15⟩
    show SK [some src14.1, dv many, dv most, lv r1, lv suits7, dv i3, lv r10, dv cut15, none, none] _ _ _ _ _
    refine s_then ?_
    refine s_seq ?_
    refine s_asg ?_
    refine e_call ?_
    refine a_r (by rfl) ?_
    refine a_r (by rfl) ?_
    refine a_nil ?_
    refine c_call (by show List.Nodup [0, 4]; decide) rfl (r_law_named src14 suits7) xe_no ?_
    rintro ⟨r20, src21⟩
    show SK [some src21.1, dv many, dv most, lv r1, lv suits7, dv i3, lv r10, dv cut15, none, none] _ _ _ _ _
    refine s_set rfl ?_
    refine s_then ?_
    refine s_seq ?_
    refine s_asg ?_
    refine e_call ?_
    refine a_r (by rfl) ?_
    refine a_d ?_
    refine e_pu (pu_fzL (pu_sl (pu_peekL (by rfl)) pu_no (pu_so (pu_var (by rfl))) (cut_l _ _ _))) ?_
    refine a_d ?_
    refine e_pu (pu_fzL (pu_sl (pu_peekL (by rfl)) (pu_so (pu_var (by rfl))) pu_no (cut_l _ _ _))) ?_
    refine a_nil ?_
    refine c_call (by show List.Nodup [0]; decide) rfl (r_law_need src21 ((cutT r10 none (some cut15))) ((cutT r10 (some cut15) none))) xe_no ?_
    rintro ⟨r22, src23⟩
    show SK [some src23.1, dv many, dv most, lv r1, lv suits7, dv i3, lv r10, dv cut15, dv r20, none] _ _ _ _ _
    refine s_set rfl ?_
    refine s_then ?_
    refine s_drop ?_
    refine e_app (by rfl) ?_
    refine e_pu (pu_tup (pu_cons (pu_fzL (pu_sl (pu_peekL (by rfl)) pu_no (pu_so (pu_var (by rfl))) (cut_l _ _ _))) (pu_cons (pu_fzL (pu_sl (pu_peekL (by rfl)) (pu_so (pu_var (by rfl))) pu_no (cut_l _ _ _))) (pu_cons (pu_var (by rfl)) (pu_cons (pu_var (by rfl)) pu_nil)))) (ln (n := 4) rfl)) ?_
    refine c_app (xs := suits7) (x := ((Tp4.mk (cutT r10 none (some cut15)) (cutT r10 (some cut15) none) r22 r20) : Suit)) (by rfl) rfl ?_
    exact k_ok rfl (mt_k (mt_k (mt_k (mt_k (mt_k (mt_w (mt_w (mt_w (mt_w (mt_w mt_nil))))))))))
  obtain ⟨src6, suits7⟩ := v
  show SK [some src6.1, dv many, dv most, lv r1, lv suits7, none, none, none, none, none] _ _ _ _ _
  refine s_then ?_
  refine s_ret ?_
  refine e_move (by rfl) (by intro _ h; cases h) ?_
  exact f_rt rfl (mt_k (mt_w (mt_w mt_nil)))
def t_total (side : (List Oath)) : T Empty (Int) :=
  (T.lcp side (fun (i1 : Oath) => true) (fun i1 => i1.2)).bind fun l2 =>
  .ok (List.sum l2 : Int)
theorem r_total (side : (List Oath)) : SK [dv side] Lw.m_total (t_total side) (fun r => (S.d (Enc.enc r))) (fun r => [none]) XV := by
  unfold Lw.m_total Lw.g_total t_total
  refine f_def (X' := XV) ?_ xe_no
  show SK [dv side, none, none] _ _ _ _ _
  refine s_ret ?_
  refine e_d ?_
  refine e_un ?_
  refine e_fz ?_
  refine e_lcE ?_
  refine e_items ?_
  refine e_pu (pu_var (by rfl)) ?_
  refine e_ok ?_
  refine c_lcp (e := Enc.enc) (xs := side) (p := fun (i1 : Oath) => true) (h := fun i1 => i1.2) [dv side, none, none] (fun i1 => [dv side, dv i1.1, dv i1.2]) (mt_k (mt_w (mt_w mt_nil))) (fun i1 => (tg_tup (tgs_cons tg_name (tgs_cons tg_name tgs_nil)) rfl)) (fun i1 => pu_yes) (fun i1 => (pu_var (by rfl))) (fun i1 => (mt_k (mt_w (mt_w mt_nil)))) (fun l2 => ?_)
  refine e_ok ?_
  refine e_o (z := (Enc.enc (List.sum l2 : Int))) (sum_l _) ?_
  exact f_rt rfl (mt_w mt_nil)
def t_kept_weight (side : (List Oath)) (case_ : Int) (marks : Marks) : T Empty (Int) :=
  (T.lcp side (fun (i1 : Oath) => (!(dget marks (case_, i1.1)).isSome)) (fun i1 => ((i1.1, i1.2) : Oath))).bind fun l2 =>
  (t_total l2).bind fun r3 =>
  .ok r3
theorem r_kept_weight (side : (List Oath)) (case_ : Int) (marks : Marks) : SK [dv side, dv case_, tv marks] Lw.m_kept_weight (t_kept_weight side case_ marks) (fun r => (S.d (Enc.enc r))) (fun r => [none, none, tv marks]) XV := by
  unfold Lw.m_kept_weight Lw.g_kept_weight t_kept_weight
  refine f_def (X' := XV) ?_ xe_no
  show SK [dv side, dv case_, tv marks, none, none] _ _ _ _ _
  refine s_ret ?_
  refine e_call ?_
  refine a_d ?_
  refine e_fz ?_
  refine e_lcE ?_
  refine e_items ?_
  refine e_pu (pu_var (by rfl)) ?_
  refine e_ok ?_
  refine c_lcp (e := Enc.enc) (xs := side) (p := fun (i1 : Oath) => (!(dget marks (case_, i1.1)).isSome)) (h := fun i1 => ((i1.1, i1.2) : Oath)) [dv side, dv case_, tv marks, none, none] (fun i1 => [dv side, dv case_, tv marks, dv i1.1, dv i1.2]) (mt_k (mt_k (mt_k (mt_w (mt_w mt_nil))))) (fun i1 => (tg_tup (tgs_cons tg_name (tgs_cons tg_name tgs_nil)) rfl)) (fun i1 => (pu_B (pu_dinT (d := marks) (x := ((case_, i1.1) : (Int × Tx))) (by rfl) (pu_tup (pu_cons (pu_var (by rfl)) (pu_cons (pu_var (by rfl)) pu_nil)) (ln (n := 2) rfl))))) (fun i1 => (pu_tup (pu_cons (pu_var (by rfl)) (pu_cons (pu_var (by rfl)) pu_nil)) (ln (n := 2) rfl))) (fun i1 => (mt_k (mt_k (mt_k (mt_w (mt_w mt_nil)))))) (fun l2 => ?_)
  refine e_ok ?_
  refine a_nil ?_
  refine c_call List.nodup_nil rfl (r_total l2) xe_no ?_
  rintro r3
  show SK [dv side, dv case_, tv marks, none, none] _ _ _ _ _
  exact f_rt rfl (mt_w (mt_w (mt_k mt_nil)))
def t_margin_by (suit : Suit) (case_ : Int) (marks : Marks) : T Empty (Int) :=
  (t_kept_weight suit.a case_ marks).bind fun r1 =>
  (t_kept_weight suit.b case_ marks).bind fun r2 =>
  .ok ((r1 - r2) - suit.c)
theorem r_margin_by (suit : Suit) (case_ : Int) (marks : Marks) : SK [dv suit, dv case_, tv marks] Lw.m_margin_by (t_margin_by suit case_ marks) (fun r => (S.d (Enc.enc r))) (fun r => [none, none, tv marks]) XV := by
  unfold Lw.m_margin_by Lw.g_margin_by t_margin_by
  refine f_def (X' := XV) ?_ xe_no
  show SK [dv suit, dv case_, tv marks, none, none, none, none] _ _ _ _ _
  refine s_seq ?_
  refine s_asgT (pu_var (by rfl)) (tg_tup (tgs_cons tg_name (tgs_cons tg_name (tgs_cons tg_name (tgs_cons tg_name tgs_nil)))) rfl) ?_
  refine s_then ?_
  refine s_ret ?_
  refine e_d ?_
  refine e_op ?_
  refine e_op ?_
  refine e_fz ?_
  refine e_call ?_
  refine a_d ?_
  refine e_pu (pu_var (by rfl)) ?_
  refine a_d ?_
  refine e_pu (pu_var (by rfl)) ?_
  refine a_r (by rfl) ?_
  refine a_nil ?_
  refine c_call (by show List.Nodup [2]; decide) rfl (r_kept_weight suit.a case_ marks) xe_no ?_
  rintro r1
  show SK [dv suit, dv case_, tv marks, dv suit.a, dv suit.b, dv suit.c, dv suit.d] _ _ _ _ _
  refine e_ok ?_
  refine e_fz ?_
  refine e_call ?_
  refine a_d ?_
  refine e_pu (pu_var (by rfl)) ?_
  refine a_d ?_
  refine e_pu (pu_var (by rfl)) ?_
  refine a_r (by rfl) ?_
  refine a_nil ?_
  refine c_call (by show List.Nodup [2]; decide) rfl (r_kept_weight suit.b case_ marks) xe_no ?_
  rintro r2
  show SK [dv suit, dv case_, tv marks, dv suit.a, dv suit.b, dv suit.c, dv suit.d] _ _ _ _ _
  refine e_ok ?_
  refine e_o (z := (Enc.enc ((r1 - r2) : Int))) rfl ?_
  refine e_pu (pu_var (by rfl)) ?_
  refine e_o (z := (Enc.enc (((r1 - r2) - suit.c) : Int))) rfl ?_
  exact f_rt rfl (mt_w (mt_w (mt_k mt_nil)))
def t_settle (suits : (List Suit)) (marks : Marks) : T Empty ((List Bool) × Marks) :=
  (T.ofO (repT (([false] : List Bool) : (List Bool)) ((List.length suits : Nat) : Int))).bind fun x1 =>
  T.gd (inR ((List.length suits : Nat) : Int)) <|
  (T.forM ((rangeT (Int.toNat ((List.length suits : Nat) : Int))).reverse) ((marks, x1) : Marks × (List Bool)) (fun (i2 : Int) (marks5, told6) => (((T.ofO (atI suits i2)).bind fun x7 =>
  (t_margin_by x7 i2 marks5).bind fun r8 =>
  (T.ofO (setT told6 i2 (decide ((0 : Int) ≤ r8)))).bind fun told9 =>
  (T.ofO (atI told9 i2)).bind fun x10 =>
  if x10 = true then (if (Option.isSome x7.d) = true then ((T.ofO x7.d).bind fun u11 =>
  T.gd (marks5.length < sizeLine) <|
  .ok ((dput marks5 u11 true), told9)) else (.ok (marks5, told9))) else (.ok (marks5, told9))) : T Empty (Marks × (List Bool))))).bind fun (marks5, told6) =>
  .ok (told6, marks5)
theorem r_settle (suits : (List Suit)) (marks : Marks) : SK [dv suits, tv marks] Lw.m_settle (t_settle suits marks) (fun r => (S.ol (List.map Enc.enc r.1))) (fun r => [dv suits, tv r.2]) XV := by
  unfold Lw.m_settle Lw.g_settle t_settle
  refine f_def (X' := XV) ?_ xe_no
  show SK [dv suits, tv marks, none, none, none] _ _ _ _ _
  refine s_seq ?_
  refine s_asg ?_
  refine e_op ?_
  refine e_pu (pu_fzL (pu_lst (pu_cons (pu_c (d := Enc.enc false)) pu_nil) (ln (n := 1) rfl))) ?_
  refine e_pu (pu_un (z := (Enc.enc ((List.length suits : Nat) : Int))) (pu_peek (by rfl)) (len_l _)) ?_
  refine e_oO (p := repT (([false] : List Bool) : (List Bool)) ((List.length suits : Nat) : Int)) (f := (fun z => S.ol (List.map Enc.enc z))) (rep_l (([false] : List Bool) : (List Bool)) ((List.length suits : Nat) : Int)) (fun x1 => ?_)
  refine s_set rfl ?_
  refine s_then ?_
  refine s_seq ?_
  refine s_forE ?_
  refine e_rvr1 ?_
  refine e_pu (pu_un (z := (Enc.enc ((List.length suits : Nat) : Int))) (pu_peek (by rfl)) (len_l _)) ?_
  refine c_rvr1 (n := ((List.length suits : Nat) : Int)) ?_
  refine c_for (e := Enc.enc) (xs := (((rangeT (Int.toNat ((List.length suits : Nat) : Int))).reverse) : (List Int))) (v := (marks, x1)) (fun v => [dv suits, tv v.1, lv v.2, none, none]) (fun i2 v => [dv suits, tv v.1, lv v.2, dv i2, none]) (mt_k (mt_k (mt_k (mt_w (mt_w mt_nil))))) (fun i2 v => tg_name) (fun i2 v => ?_) (fun v => ?_)
  · obtain ⟨marks5, told6⟩ := v
    show SK [dv suits, tv marks5, lv told6, dv i2, none] _ _ _ _ _
    refine s_seq ?_
    refine s_asg ?_
    refine e_d ?_
    refine e_ixP (by rfl) ?_
    refine e_pu (pu_var (by rfl)) ?_
    refine e_pu (pu_peek (by rfl)) ?_
    refine e_oO (p := atI suits i2) (f := Enc.enc) (ix_l suits i2) (fun x7 => ?_)
    refine s_set rfl ?_
    refine s_then ?_
    refine s_seq ?_
    refine s_setIx ?_
    refine e_op ?_
    refine e_fz ?_
    refine e_call ?_
    refine a_d ?_
    refine e_pu (pu_var (by rfl)) ?_
    refine a_d ?_
    refine e_pu (pu_var (by rfl)) ?_
    refine a_r (by rfl) ?_
    refine a_nil ?_
    refine c_call (by show List.Nodup [1]; decide) rfl (r_margin_by x7 i2 marks5) xe_no ?_
    rintro r8
    show SK [dv suits, tv marks5, lv told6, dv i2, dv x7] _ _ _ _ _
    refine e_ok ?_
    refine e_pu (pu_c (d := Enc.enc (0 : Int))) ?_
    refine e_o (z := (Enc.enc ((decide ((0 : Int) ≤ r8)) : Bool))) rfl ?_
    refine c_setIx (xs := told6) (x := ((decide ((0 : Int) ≤ r8)) : Bool)) (by rfl) (pu_var (by rfl)) (fun told9 => ?_)
    refine s_then ?_
    refine s_ifE ?_
    refine e_andL ?_
    refine e_B ?_
    refine e_ixP (by rfl) ?_
    refine e_pu (pu_var (by rfl)) ?_
    refine e_pu (pu_peekL (by rfl)) ?_
    refine e_oO (p := atI told9 i2) (f := Enc.enc) (ix_l told9 i2) (fun x10 => ?_)
    refine e_ok ?_
    refine c_and (x := x10) ?_ ?_
    · refine e_pu (pu_B (pu_op (z := (Enc.enc ((Option.isSome x7.d) : Bool))) (pu_ixP (z := (Enc.enc x7.d)) (by rfl) (pu_c (d := Enc.enc (3 : Int))) rfl) pu_c (isN_non x7.d))) ?_
      refine s_ite (x := (Option.isSome x7.d)) ?_ ?_
      · refine s_dput ?_
        refine e_pu (pu_c (d := Enc.enc true)) ?_
        refine s_dputk (by rfl) ?_
        refine e_pu (pu_ixP (z := (Enc.enc x7.d)) (by rfl) (pu_c (d := Enc.enc (3 : Int))) rfl) ?_
        rcases hhu11 : x7.d with _ | u11
        · exact k_no
        refine c_dputT (d := marks5) (x := u11) (z := true) (by rfl) rfl ?_
        exact k_ok rfl (mt_k (mt_k (mt_k (mt_w (mt_w mt_nil)))))
      · refine s_next ?_
        exact k_ok rfl (mt_k (mt_k (mt_k (mt_w (mt_w mt_nil)))))
    · refine s_iteF ?_
      refine s_next ?_
      exact k_ok rfl (mt_k (mt_k (mt_k (mt_w (mt_w mt_nil)))))
  obtain ⟨marks5, told6⟩ := v
  show SK [dv suits, tv marks5, lv told6, none, none] _ _ _ _ _
  refine s_then ?_
  refine s_ret ?_
  refine e_move (by rfl) (by intro _ h; cases h) ?_
  exact f_rt rfl (mt_k (mt_k mt_nil))
def t_law_is_broken (suits : (List Suit)) (told : (List Bool)) (case_ : Int) (name : Tx) (more : (List (Int × Tx))) : T Empty (Bool) :=
  if (memT ((case_, name) : (Int × Tx)) more) = true then (.ok true) else (T.gd (inR (case_ + (1 : Int)) ∧ inR ((List.length suits : Nat) : Int)) <|
  T.bindL (T.forL (rangeT2 (case_ + (1 : Int)) (Int.toNat (((List.length suits : Nat) : Int) - (case_ + (1 : Int))))) (() : Unit) (fun (i1 : Int) _ => (((T.ofO (atI told i1)).bind fun x2 =>
  if x2 = true then ((T.ofO (atI suits i1)).bind fun x3 =>
  if (decide (x3.d = (some (case_, name)))) = true then (.ok (.rt true)) else (.ok (.nx ()))) else (.ok (.nx ()))) : T Empty (T.Lp (Unit) (Bool))))) (fun _ =>
  .ok false) (fun r_ => .ok r_))
theorem r_law_is_broken (suits : (List Suit)) (told : (List Bool)) (case_ : Int) (name : Tx) (more : (List (Int × Tx))) : SK [dv suits, lv told, dv case_, dv name, dv more] Lw.m_law_is_broken (t_law_is_broken suits told case_ name more) (fun r => (S.d (Enc.enc r))) (fun r => [dv suits, lv told, none, none, dv more]) XV := by
  unfold Lw.m_law_is_broken Lw.g_law_is_broken t_law_is_broken
  refine f_def (X' := XV) ?_ xe_no
  show SK [dv suits, lv told, dv case_, dv name, dv more, none] _ _ _ _ _
  refine s_seq ?_
  refine s_if (x := (memT ((case_, name) : (Int × Tx)) more)) (pu_B (pu_op (z := (Enc.enc ((memT ((case_, name) : (Int × Tx)) more) : Bool))) (pu_tup (pu_cons (pu_var (by rfl)) (pu_cons (pu_var (by rfl)) pu_nil)) (ln (n := 2) rfl)) (pu_peek (by rfl)) (in_l ((case_, name) : (Int × Tx)) more (by decide)))) ?_ ?_
  · refine s_ret ?_
    refine e_pu (pu_d (pu_c (d := Enc.enc true))) ?_
    exact f_rt rfl (mt_k (mt_k (mt_w (mt_w (mt_k mt_nil)))))
  · refine s_next ?_
    refine s_then ?_
    refine s_seq ?_
    refine s_forE ?_
    refine e_rng2 ?_
    refine e_pu (pu_cons (pu_fz (pu_op (z := (S.d (Enc.enc (case_ + (1 : Int))))) (pu_var (by rfl)) (pu_c (d := Enc.enc (1 : Int))) rfl)) (pu_cons (pu_un (z := (Enc.enc ((List.length suits : Nat) : Int))) (pu_peek (by rfl)) (len_l _)) pu_nil)) ?_
    refine c_rng2 (m := (case_ + (1 : Int))) (n := ((List.length suits : Nat) : Int)) ?_
    refine c_forL (e := Enc.enc) (xs := ((rangeT2 (case_ + (1 : Int)) (Int.toNat (((List.length suits : Nat) : Int) - (case_ + (1 : Int))))) : (List Int))) (v := (() : Unit)) (fun v => [dv suits, lv told, dv case_, dv name, dv more, none]) (fun r => [dv suits, lv told, none, none, dv more, none]) (fun (r : Bool) => (S.d (Enc.enc r))) (fun i1 v => [dv suits, lv told, dv case_, dv name, dv more, dv i1]) (mt_k (mt_k (mt_k (mt_k (mt_k (mt_w mt_nil)))))) (fun i1 v => tg_name) (fun i1 v => ?_) (fun v => ?_) (fun r => ?_)
    · show SK [dv suits, lv told, dv case_, dv name, dv more, dv i1] _ _ _ _ _
      refine s_ifE ?_
      refine e_andL ?_
      refine e_B ?_
      refine e_ixP (by rfl) ?_
      refine e_pu (pu_var (by rfl)) ?_
      refine e_pu (pu_peekL (by rfl)) ?_
      refine e_oO (p := atI told i1) (f := Enc.enc) (ix_l told i1) (fun x2 => ?_)
      refine e_ok ?_
      refine c_and (x := x2) ?_ ?_
      · refine e_B ?_
        refine e_op ?_
        refine e_op ?_
        refine e_ixP (by rfl) ?_
        refine e_pu (pu_var (by rfl)) ?_
        refine e_pu (pu_peek (by rfl)) ?_
        refine e_oO (p := atI suits i1) (f := Enc.enc) (ix_l suits i1) (fun x3 => ?_)
        refine e_pu (pu_c (d := Enc.enc (3 : Int))) ?_
        refine e_o (z := (Enc.enc x3.d)) rfl ?_
        refine e_pu (pu_tup (pu_cons (pu_var (by rfl)) (pu_cons (pu_var (by rfl)) pu_nil)) (ln (n := 2) rfl)) ?_
        refine e_o (z := (Enc.enc ((decide (x3.d = (some (case_, name)))) : Bool))) (eq_opt x3.d ((some (case_, name)) : (Option (Int × Tx)))) ?_
        refine e_ok ?_
        refine s_ite (x := (decide (x3.d = (some (case_, name))))) ?_ ?_
        · refine s_ret ?_
          refine e_pu (pu_d (pu_c (d := Enc.enc true))) ?_
          exact k_ok rfl (mt_k (mt_k (mt_w (mt_w (mt_k (mt_w mt_nil))))))
        · refine s_next ?_
          exact k_ok rfl (mt_k (mt_k (mt_k (mt_k (mt_k (mt_w mt_nil))))))
      · refine s_iteF ?_
        refine s_next ?_
        exact k_ok rfl (mt_k (mt_k (mt_k (mt_k (mt_k (mt_w mt_nil))))))
    · show SK [dv suits, lv told, dv case_, dv name, dv more, none] _ _ _ _ _
      refine s_then ?_
      refine s_ret ?_
      refine e_pu (pu_d (pu_c (d := Enc.enc false))) ?_
      exact f_rt rfl (mt_k (mt_k (mt_w (mt_w (mt_k mt_nil)))))
    · revert r; intro r_
      show SK [dv suits, lv told, none, none, dv more, none] _ _ _ _ _
      exact f_rt rfl (mt_k (mt_k (mt_w (mt_w (mt_k mt_nil)))))
def t_law_margin (suits : (List Suit)) (told : (List Bool)) (case_ : Int) (more : (List (Int × Tx))) : T Empty (Int) :=
  (T.ofO (atI suits case_)).bind fun x1 =>
  (T.forM x1.a (((0 : Int) - x1.c) : Int) (fun (i2 : Oath) found4 => (((t_law_is_broken suits told case_ i2.1 more).bind fun r5 =>
  if (!r5) = true then (.ok (found4 + i2.2)) else (.ok found4)) : T Empty (Int)))).bind fun found4 =>
  (T.forM x1.b (found4 : Int) (fun (i6 : Oath) found8 => (((t_law_is_broken suits told case_ i6.1 more).bind fun r9 =>
  if (!r9) = true then (.ok (found8 - i6.2)) else (.ok found8)) : T Empty (Int)))).bind fun found8 =>
  .ok found8
end Ty

namespace Ty
open PySem VS L2
structure SideOk (zs : List Oath) : Prop where
  nd : (zs.map (·.1)).Nodup
  wt : ∀ z ∈ zs, 1 ≤ z.2 ∧ z.2 ≤ 1000 ∧ GoodT z.1
def namesOf (u : Suit) : List Tx := (u.a ++ u.b).map (·.1)
structure SOk (us : List Suit) : Prop where
  len : us.length ≤ 60
  side : ∀ u ∈ us, SideOk (u.a ++ u.b) ∧ (u.a ++ u.b).length ≤ 24 ∧ 1 ≤ u.c ∧ u.c ≤ 12000
  named : ∀ (i : Nat) (u : Suit) (k : Int × Tx), us[i]? = some u → u.d = some k → ∃ (j : Nat) (w : Suit), k.1 = (j : Int) ∧ j < i ∧ us[j]? = some w ∧ k.2 ∈ namesOf w
theorem weight_spec (s : SrcT) : ∃ r s', t_law_weight s = .ok (r, s') ∧ 1 ≤ r ∧ r ≤ 1000 := by
  obtain ⟨k, s1, e1, k0, k1⟩ := next_spec s (n := 5) (by omega)
  unfold t_law_weight
  rw [e1, T.ok_bind]
  by_cases h0 : k = 0
  · obtain ⟨r, s2, e2, r0, r1⟩ := next_spec s1 (n := 1000) (by omega)
    simp only [h0, decide_true, if_true, e2, T.ok_bind]
    exact ⟨_, _, rfl, by omega, by omega⟩
  · by_cases h1 : k = 1
    · obtain ⟨r, s2, e2, r0, r1⟩ := next_spec s1 (n := 3) (by omega)
      simp only [h1, decide_true, if_true, e2, T.ok_bind, show ¬ ((1 : Int) = 0) by omega, decide_false, Bool.false_eq_true, if_false]
      exact ⟨_, _, rfl, by omega, by omega⟩
    · obtain ⟨r, s2, e2, r0, r1⟩ := next_spec s1 (n := 9) (by omega)
      simp only [h0, h1, decide_false, Bool.false_eq_true, if_false, e2, T.ok_bind]
      exact ⟨_, _, rfl, by omega, by omega⟩
theorem mem_erase {α : Type} {x : α} {xs : List α} {i : Nat} (h : x ∈ xs.eraseIdx i) : x ∈ xs := List.mem_of_mem_eraseIdx h
theorem nodup_erase {α : Type} {xs : List α} (h : xs.Nodup) (i : Nat) : (xs.eraseIdx i).Nodup := h.sublist (List.eraseIdx_sublist ..)
theorem erase_not {α : Type} {xs : List α} (h : xs.Nodup) {i : Nat} (hi : i < xs.length) : xs[i] ∉ xs.eraseIdx i := by
  induction xs generalizing i with
  | nil => simp at hi
  | cons x xs ih =>
    have hn := List.nodup_cons.mp h
    cases i with
    | zero => exact hn.1
    | succ i =>
      simp only [List.getElem_cons_succ, List.eraseIdx_cons_succ, List.mem_cons, not_or]
      have hi' : i < xs.length := by simpa using hi
      exact ⟨fun z => hn.1 (z ▸ List.getElem_mem hi'), ih hn.2 hi'⟩
theorem side_spec (s : SrcT) {ns : List Tx} (hd : ns.Nodup) (hg : ∀ n ∈ ns, GoodT n) (hl : ns.length ≤ 500) {many : Int} (h0 : 0 ≤ many) (h1 : many ≤ 500) :
    (t_law_side_v2 s ns many).Post fun p => SideOk p.1 ∧ (p.1.length : Int) = min many ns.length ∧ ∀ z ∈ p.1, z.1 ∈ ns := by
  unfold t_law_side_v2
  rw [minT_eq]
  have hm : 0 ≤ min many (ns.length : Int) ∧ min many (ns.length : Int) ≤ 500 := by omega
  refine post_gd (inR_s hm.1 (by omega)) ?_
  refine post_bind (range_post (fun i (v : SrcT × List Tx × List Oath) => v.2.1.length + i = ns.length ∧ v.2.2.length = i ∧ v.2.1.Nodup ∧ (∀ n ∈ v.2.1, n ∈ ns) ∧ SideOk v.2.2 ∧ (∀ z ∈ v.2.2, z.1 ∈ ns ∧ z.1 ∉ v.2.1)) ?_ ?_) ?_
  · exact ⟨by simp, rfl, hd, fun n h => h, ⟨List.nodup_nil, fun z h => by cases h⟩, fun z h => by cases h⟩
  · rintro i ⟨src, left, side⟩ hi ⟨a1, a2, a3, a4, a5, a6⟩
    dsimp only at a1 a2 a3 a4 a5 a6 ⊢
    have hlt : 0 < left.length := by omega
    obtain ⟨r, s1, e1, r0, r1⟩ := next_spec src (n := (left.length : Int)) (by omega)
    obtain ⟨j, rfl⟩ := Int.eq_ofNat_of_zero_le r0
    have hj : j < left.length := by omega
    obtain ⟨w, s2, e2, w0, w1⟩ := weight_spec s1
    rw [e1, T.ok_bind]
    dsimp only
    refine post_ofO (popT_nat hj (by omega)) ?_
    dsimp only
    rw [e2, T.ok_bind]
    refine post_gd (szl _ (by omega)) (post_ok ?_)
    dsimp only
    have hin := a4 _ (List.getElem_mem hj)
    refine ⟨by rw [List.length_eraseIdx_of_lt hj]; omega, by rw [List.length_append]; simp; omega, nodup_erase a3 j, fun n h => a4 n (mem_erase h), ⟨?_, fun z h => ?_⟩, fun z h => ?_⟩
    · rw [List.map_append, List.nodup_append]
      refine ⟨a5.nd, by simp, fun x hx y hy => ?_⟩
      obtain ⟨z, hz, rfl⟩ := List.mem_map.mp hx
      simp at hy
      subst hy
      exact fun z' => (a6 z hz).2 (z' ▸ List.getElem_mem hj)
    · rcases List.mem_append.mp h with h | h
      · exact a5.wt z h
      · simp at h
        subst h
        exact ⟨w0, w1, hg _ hin⟩
    · rcases List.mem_append.mp h with h | h
      · exact ⟨(a6 z h).1, fun z' => (a6 z h).2 (mem_erase z')⟩
      · simp at h
        subst h
        exact ⟨hin, erase_not a3 hj⟩
  · rintro ⟨src, left, side⟩ ⟨a1, a2, a3, a4, a5, a6⟩
    refine post_ok ⟨a5, ?_, fun z h => (a6 z h).1⟩
    dsimp only at a2 ⊢
    omega
def sumW (zs : List Oath) : Int := (zs.map (·.2)).sum
theorem foldl_add {α : Type} (f : α → Int) : ∀ (xs : List α) (a : Int), xs.foldl (fun v x => v + f x) a = a + (xs.map f).sum
  | [], a => by simp
  | x :: xs, a => by rw [List.foldl_cons, foldl_add f xs, List.map_cons, List.sum_cons]; omega
theorem law_total_eq (zs : List Oath) : t_law_total zs = .ok (sumW zs) := by
  unfold t_law_total
  rw [forM_fold (g := fun (x : Oath) (v : Int) => v + x.2) (fun x _ v => rfl), foldl_add]
  simp [T.bind, sumW]
theorem need_spec (s : SrcT) (ones others : List Oath) : (t_law_need s ones others).Post fun p => 1 ≤ p.1 ∧ p.1 ≤ 12000 := by
  unfold t_law_need
  rw [law_total_eq, T.ok_bind, law_total_eq, T.ok_bind]
  obtain ⟨r, s1, e1, _, _⟩ := next_spec s (n := 6) (by omega)
  obtain ⟨r2, s2, e2, _, _⟩ := next_spec s1 (n := 4) (by omega)
  obtain ⟨r3, s3, e3, _, _⟩ := next_spec s2 (n := 30) (by omega)
  rw [e1, T.ok_bind]
  dsimp only
  rw [e2, T.ok_bind]
  dsimp only
  by_cases h : r2 = 0
  · simp only [h, decide_true, if_true, e3, T.ok_bind, minT_eq, maxT_eq]
    exact post_ok ⟨by dsimp only; omega, by dsimp only; omega⟩
  · simp only [h, decide_false, Bool.false_eq_true, if_false, T.ok_bind, minT_eq, maxT_eq]
    exact post_ok ⟨by dsimp only; omega, by dsimp only; omega⟩
def NamedOk (us : List Suit) (o : Option (Int × Tx)) : Prop := ∀ k, o = some k → ∃ (j : Nat) (w : Suit), k.1 = (j : Int) ∧ us[j]? = some w ∧ k.2 ∈ namesOf w
theorem named_spec (s : SrcT) {us : List Suit} (hl : us.length ≤ 1000) (hs : ∀ u ∈ us, (u.a ++ u.b).length ≤ 1000) : (t_law_named s us).Post fun p => NamedOk us p.1 := by
  have none_ok : NamedOk us none := fun k h => by cases h
  unfold t_law_named
  by_cases h0 : us.length = 0
  · simp only [h0, Int.ofNat_zero, decide_true, if_true, T.ok_bind]
    exact post_ok none_ok
  · obtain ⟨r, s1, e1, _, _⟩ := next_spec s (n := 5) (by omega)
    have hz : ¬ ((us.length : Int) = 0) := by omega
    simp only [hz, decide_false, Bool.false_eq_true, if_false, e1, T.ok_bind]
    by_cases hr : r = 0
    · simp only [hr, decide_true, if_true]
      exact post_ok none_ok
    · simp only [hr, decide_false, Bool.false_eq_true, if_false]
      obtain ⟨c, s2, e2, c0, c1⟩ := next_spec s1 (n := (us.length : Int)) (by omega)
      obtain ⟨r3, s3, e3, _, _⟩ := next_spec s2 (n := 3) (by omega)
      simp only [e2, e3, T.ok_bind]
      refine post_bind (P := fun v : SrcT × Int => 0 ≤ v.2 ∧ v.2 < us.length) ?_ ?_
      · by_cases h3 : r3 = 0
        · simp only [h3, decide_true, if_true]
          exact post_ok ⟨by dsimp only; omega, by dsimp only; omega⟩
        · simp only [h3, decide_false, Bool.false_eq_true, if_false]
          exact post_ok ⟨c0, c1⟩
      · rintro ⟨s4, case⟩ ⟨q0, q1⟩
        dsimp only at q0 q1 ⊢
        obtain ⟨j, rfl⟩ := Int.eq_ofNat_of_zero_le q0
        have hj : j < us.length := by omega
        have hx : atI us (j : Int) = some us[j] := by rw [atI_n, List.getElem?_eq_getElem hj]
        have hlen := hs us[j] (List.getElem_mem hj)
        rw [List.length_append] at hlen
        refine post_ofO hx (post_ofO hx (post_ofO (catT_ok (by omega)) ?_))
        rw [lcp_ok (by rw [List.length_append]; omega), T.ok_bind]
        have hf : ((us[j].a ++ us[j].b).filter fun (_ : Oath) => true) = us[j].a ++ us[j].b := List.filter_eq_self.mpr fun _ _ => rfl
        rw [hf]
        show (if decide _ = true then _ else _ : T Empty _).Post _
        by_cases hn : ((us[j].a ++ us[j].b).map fun i14 => i14.1).length = 0
        · rw [if_pos (by simp only [hn]; rfl)]
          exact post_ok none_ok
        · rw [if_neg (by simp only [decide_eq_true_eq]; omega)]
          obtain ⟨r5, s5, e5, z0, z1⟩ := next_spec s4 (n := (((us[j].a ++ us[j].b).map fun i14 => i14.1).length : Int)) (by rw [List.length_map, List.length_append] at *; omega)
          rw [e5, T.ok_bind]
          dsimp only
          obtain ⟨m, rfl⟩ := Int.eq_ofNat_of_zero_le z0
          have hm : m < ((us[j].a ++ us[j].b).map fun i14 => i14.1).length := by omega
          refine post_ofO (by rw [atI_n, List.getElem?_eq_getElem hm]) (post_ok fun k hk => ?_)
          cases hk
          exact ⟨j, us[j], rfl, List.getElem?_eq_getElem hj, List.getElem_mem hm⟩
theorem suits_spec (s : SrcT) {many most : Int} (h0 : 0 ≤ many) (h1 : many ≤ 60) (m0 : 0 ≤ most) (m1 : most ≤ 24) : (t_law_suits s many most).Post fun p => SOk p.1 ∧ (p.1.length : Int) = many := by
  unfold t_law_suits
  obtain ⟨ns, s1, e1, l1, d1, g1⟩ := names_spec s (m := most + 2) (by omega)
  rw [e1, T.ok_bind]
  dsimp only
  refine post_gd (inR_s h0 (by omega)) ?_
  refine post_bind (range_post (fun i (v : SrcT × List Suit) => v.2.length = i ∧ SOk v.2) ⟨rfl, ⟨by simp, fun u h => (by cases h), fun i u k h => (by cases h)⟩⟩ ?_) ?_
  · rintro i ⟨src, us⟩ hi ⟨a1, a2⟩
    dsimp only at a1 a2 ⊢
    obtain ⟨r, s2, e2, r0, r1⟩ := next_spec src (n := most + 1) (by omega)
    rw [e2, T.ok_bind]
    dsimp only
    refine post_bind (side_spec s2 d1 g1 (by omega) r0 (by omega)) ?_
    rintro ⟨zs, s3⟩ ⟨z1, z2, z3⟩
    dsimp only at z1 z2 z3 ⊢
    obtain ⟨r4, s4, e4, r40, r41⟩ := next_spec s3 (n := 2) (by omega)
    obtain ⟨r5, s5, e5, r50, r51⟩ := next_spec s4 (n := 3) (by omega)
    rw [e4, T.ok_bind]
    dsimp only
    rw [e5, T.ok_bind]
    dsimp only
    refine post_bind (P := fun v : SrcT × Int => 0 ≤ v.2) ?_ ?_
    · obtain ⟨r6, s6, e6, r60, r61⟩ := next_spec s5 (n := (zs.length : Int) + 1) (by omega)
      by_cases hz : r5 = 0
      · simp only [hz, decide_true, if_true, e6, T.ok_bind]
        exact post_ok r60
      · simp only [hz, decide_false, Bool.false_eq_true, if_false]
        exact post_ok (by dsimp only; omega)
    · rintro ⟨s6, cut⟩ hc
      dsimp only at hc ⊢
      refine post_bind (named_spec s6 (us := us) (by have := a2.len; omega) fun u hu => by have := (a2.side u hu).2.1; omega) ?_
      rintro ⟨nm, s7⟩ hnm
      dsimp only at hnm ⊢
      refine post_bind (need_spec s7 _ _) ?_
      rintro ⟨nd, s8⟩ hnd
      dsimp only at hnd ⊢
      refine post_gd (szl _ (by have := a2.len; omega)) (post_ok ?_)
      dsimp only
      rw [cut_to hc, cut_from hc]
      refine ⟨by rw [List.length_append, a1]; rfl, ⟨by rw [List.length_append]; simp; have := a2.len; omega, fun u hu => ?_, fun j u k hj hk => ?_⟩⟩
      · rcases List.mem_append.mp hu with hu | hu
        · exact a2.side u hu
        · simp at hu
          subst hu
          dsimp only
          rw [List.take_append_drop]
          exact ⟨z1, by omega, hnd.1, hnd.2⟩
      · by_cases hj2 : j < us.length
        · rw [List.getElem?_append_left hj2] at hj
          obtain ⟨q, w, h2, h3, h4, h5⟩ := a2.named j u k hj hk
          exact ⟨q, w, h2, h3, by rw [List.getElem?_append_left (by omega)]; exact h4, h5⟩
        · rw [List.getElem?_append_right (by omega)] at hj
          have hj3 : j - us.length = 0 := by
            have := (List.getElem?_eq_some_iff.mp hj).1
            simp at this
            omega
          rw [hj3] at hj
          cases hj
          obtain ⟨q, w, h2, h4, h5⟩ := hnm k hk
          have := (List.getElem?_eq_some_iff.mp h4).1
          exact ⟨q, w, h2, by omega, by rw [List.getElem?_append_left this]; exact h4, h5⟩
  · rintro ⟨s2, us⟩ ⟨a1, a2⟩
    refine post_ok ⟨a2, ?_⟩
    dsimp only at a1 ⊢
    omega

def brkB (us : List Suit) (told : List Bool) (k : Int × Tx) : Bool := (us.zip told).any fun p => p.2 && decide (p.1.d = some k)
def keptW (zs : List Oath) (c : Int) (b : Int × Tx → Bool) : Int := sumW (zs.filter fun o => !b (c, o.1))
def margB (u : Suit) (c : Int) (b : Int × Tx → Bool) : Int := keptW u.a c b - keptW u.b c b - u.c
theorem brk_iff {us : List Suit} {told : List Bool} {k : Int × Tx} : brkB us told k = true ↔ ∃ (j : Nat) (u : Suit), us[j]? = some u ∧ told[j]? = some true ∧ u.d = some k := by
  unfold brkB
  rw [List.any_eq_true]
  constructor
  · rintro ⟨p, hp, h⟩
    obtain ⟨j, hj, e⟩ := List.getElem_of_mem hp
    have e' := List.getElem?_eq_some_iff.mpr ⟨hj, e⟩
    obtain ⟨h1, h2⟩ := List.getElem?_zip_eq_some.mp e'
    simp only [Bool.and_eq_true, decide_eq_true_eq] at h
    exact ⟨j, p.1, h1, by rw [h2, h.1], h.2⟩
  · rintro ⟨j, u, h1, h2, h3⟩
    refine ⟨(u, true), ?_, by simp [h3]⟩
    exact List.mem_of_getElem? (List.getElem?_zip_eq_some.mpr ⟨h1, h2⟩)
theorem keptW_congr {zs : List Oath} {c : Int} {b b' : Int × Tx → Bool} (h : ∀ o ∈ zs, b (c, o.1) = b' (c, o.1)) : keptW zs c b = keptW zs c b' := by
  unfold keptW
  rw [List.filter_congr fun o ho => by rw [h o ho]]
theorem margB_congr {u : Suit} {c : Int} {b b' : Int × Tx → Bool} (h : ∀ n, b (c, n) = b' (c, n)) : margB u c b = margB u c b' := by
  unfold margB
  rw [keptW_congr fun o _ => h o.1, keptW_congr fun o _ => h o.1]
structure Settles (us : List Suit) (b0 : Int × Tx → Bool) (told : List Bool) : Prop where
  len : told.length = us.length
  at_ : ∀ (c : Nat) (u : Suit), us[c]? = some u → told[c]? = some (decide (0 ≤ margB u c fun k => b0 k || brkB us told k))
theorem total_eq (zs : List Oath) (h : zs.length ≤ 1000000) : t_total zs = .ok (sumW zs) := by
  unfold t_total
  rw [lcp_ok h, T.ok_bind, List.filter_eq_self.mpr fun _ _ => rfl]
  rfl
theorem kept_weight_eq (zs : List Oath) (c : Int) (ms : Marks) (h : zs.length ≤ 1000000) : t_kept_weight zs c ms = .ok (keptW zs c fun k => (dget ms k).isSome) := by
  unfold t_kept_weight
  rw [lcp_ok h, T.ok_bind, total_eq _ (by rw [List.length_map]; exact Nat.le_trans (List.length_filter_le ..) h), T.ok_bind]
  congr 1
  unfold keptW
  congr 1
  exact List.map_id _
theorem margin_by_eq (u : Suit) (c : Int) (ms : Marks) (h1 : u.a.length ≤ 1000000) (h2 : u.b.length ≤ 1000000) : t_margin_by u c ms = .ok (margB u c fun k => (dget ms k).isSome) := by
  unfold t_margin_by
  rw [kept_weight_eq _ _ _ h1, T.ok_bind, kept_weight_eq _ _ _ h2, T.ok_bind]
  rfl
theorem SOk.sz {us : List Suit} (h : SOk us) {u : Suit} (hu : u ∈ us) : u.a.length ≤ 24 ∧ u.b.length ≤ 24 := by
  have := (h.side u hu).2.1
  rw [List.length_append] at this
  omega
theorem brk_set {us : List Suit} {told : List Bool} {c : Nat} {u : Suit} {b : Bool} (hu : us[c]? = some u) (hc : told[c]? = some false) (k : Int × Tx) : brkB us (told.set c b) k = (brkB us told k || (b && decide (u.d = some k))) := by
  have hlt := (List.getElem?_eq_some_iff.mp hc).1
  rw [Bool.eq_iff_iff, Bool.or_eq_true, Bool.and_eq_true, decide_eq_true_eq, brk_iff, brk_iff]
  constructor
  · rintro ⟨j, w, h1, h2, h3⟩
    by_cases hj : c = j
    · subst hj
      rw [hu] at h1
      cases h1
      rw [List.getElem?_set_self hlt] at h2
      exact .inr ⟨Option.some.inj h2, h3⟩
    · rw [List.getElem?_set_ne hj] at h2
      exact .inl ⟨j, w, h1, h2, h3⟩
  · rintro (⟨j, w, h1, h2, h3⟩ | ⟨rfl, h3⟩)
    · have hj : c ≠ j := fun z => by subst z; rw [hc] at h2; cases h2
      exact ⟨j, w, h1, by rw [List.getElem?_set_ne hj]; exact h2, h3⟩
    · exact ⟨c, u, hu, List.getElem?_set_self hlt, h3⟩
theorem settle_spec {us : List Suit} (hs : SOk us) (ms : Marks) (hm : ms.length ≤ 1000) : (t_settle us ms).Post fun p => Settles us (fun k => (dget ms k).isSome) p.1 ∧ (∀ k, (dget p.2 k).isSome = ((dget ms k).isSome || brkB us p.1 k)) ∧ p.2.length ≤ ms.length + 60 := by
  unfold t_settle
  have hl := hs.len
  refine post_ofO (repT_one false us.length (by omega)) (post_gd (inR_s (by omega) (by omega)) ?_)
  rw [Int.toNat_natCast]
  refine post_bind (rev_post (fun i (v : Marks × List Bool) => v.2.length = us.length ∧ (∀ j, j < i → j < us.length → v.2[j]? = some false) ∧ (∀ k, (dget v.1 k).isSome = ((dget ms k).isSome || brkB us v.2 k)) ∧ v.1.length + i ≤ ms.length + us.length ∧
    ∀ (c : Nat) (u : Suit), i ≤ c → us[c]? = some u → v.2[c]? = some (decide (0 ≤ margB u c fun k => (dget ms k).isSome || brkB us v.2 k))) ?_ ?_) ?_
  · refine ⟨by simp, fun j _ hj => by simp [hj], fun k => ?_, Nat.le_refl _, fun c u hc hu => ?_⟩
    · have : brkB us (List.replicate us.length false) k = false := by
        rw [Bool.eq_false_iff]
        intro z
        obtain ⟨j, u, _, h2, _⟩ := brk_iff.mp z
        rw [List.getElem?_replicate] at h2
        split at h2 <;> cases h2
      rw [this, Bool.or_false]
    · have := (List.getElem?_eq_some_iff.mp hu).1
      omega
  · rintro c ⟨m, told⟩ hc ⟨a1, a2, a3, a4, a5⟩
    dsimp only at a1 a2 a3 a4 a5 ⊢
    have hu : us[c]? = some us[c] := List.getElem?_eq_getElem hc
    generalize us[c] = u at hu
    have hmem : u ∈ us := List.mem_of_getElem? hu
    have hz := hs.sz hmem
    have hfc : told[c]? = some false := a2 c (by omega) hc
    have hct : c < told.length := by omega
    refine post_ofO (by rw [atI_n]; exact hu) ?_
    rw [margin_by_eq _ _ _ (by omega) (by omega), T.ok_bind]
    have em : (margB u c fun k => (dget m k).isSome) = margB u c fun k => (dget ms k).isSome || brkB us told k := margB_congr fun n => a3 _
    rw [em]
    generalize hb : decide (0 ≤ margB u c fun k => (dget ms k).isSome || brkB us told k) = b
    refine post_ofO (setT_nat hct) ?_
    have hget : atI (told.set c b) (c : Int) = some b := by rw [atI_n, List.getElem?_set_self hct]
    -- what the names of a case name lies ahead of it
    have ahead : ∀ k, u.d = some k → k.1 < (c : Int) := fun k hk => by
      obtain ⟨j, w, h1, h2, _⟩ := hs.named c u k hu hk
      omega
    have later : ∀ (j : Nat) (n : Tx), c ≤ j → brkB us (told.set c b) ((j : Int), n) = brkB us told ((j : Int), n) := fun j n hj => by
      rw [brk_set hu hfc]
      have : decide (u.d = some ((j : Int), n)) = false := decide_eq_false fun z => by
        have := ahead _ z
        dsimp only at this
        omega
      rw [this, Bool.and_false, Bool.or_false]
    have keep : ∀ (m' : Marks), (∀ k, (dget m' k).isSome = ((dget ms k).isSome || brkB us (told.set c b) k)) → m'.length ≤ m.length + 1 → (T.ok (m', told.set c b) : T Empty _).Post fun v : Marks × List Bool => v.2.length = us.length ∧ (∀ j, j < c → j < us.length → v.2[j]? = some false) ∧ (∀ k, (dget v.1 k).isSome = ((dget ms k).isSome || brkB us v.2 k)) ∧ v.1.length + c ≤ ms.length + us.length ∧
        ∀ (d : Nat) (u : Suit), c ≤ d → us[d]? = some u → v.2[d]? = some (decide (0 ≤ margB u d fun k => (dget ms k).isSome || brkB us v.2 k)) := fun m' h1 h2 => by
      refine post_ok ⟨by dsimp only; rw [List.length_set]; exact a1, fun j hj hj2 => ?_, h1, by dsimp only; omega, fun d w hd hw => ?_⟩
      · dsimp only
        rw [List.getElem?_set_ne (by omega)]
        exact a2 j (by omega) hj2
      · dsimp only
        have e2 : (margB w d fun k => (dget ms k).isSome || brkB us (told.set c b) k) = margB w d fun k => (dget ms k).isSome || brkB us told k := margB_congr fun n => by rw [later d n hd]
        rw [e2]
        by_cases hcd : c = d
        · subst hcd
          rw [hu] at hw
          cases hw
          rw [List.getElem?_set_self hct, hb]
        · rw [List.getElem?_set_ne hcd]
          exact a5 d w (by omega) hw
    rw [hget]
    cases b with
    | false =>
      simp only [ofO_some', Bool.false_eq_true, if_false]
      refine keep m (fun k => ?_) (by omega)
      rw [a3, brk_set hu hfc]
      simp
    | true =>
      simp only [ofO_some', if_true]
      cases hd : u.d with
      | none =>
        simp only [Option.isSome_none, Bool.false_eq_true, if_false]
        refine keep m (fun k => ?_) (by omega)
        rw [a3, brk_set hu hfc, hd]
        simp
      | some k0 =>
        simp only [Option.isSome_some, if_true, ofO_some']
        refine post_gd (szl _ (by omega)) (keep _ (fun k => ?_) (dput_len ..))
        rw [dget_put, brk_set hu hfc, hd]
        by_cases hk : k0 = k
        · rw [if_pos hk]
          simp [hk]
        · rw [if_neg hk, a3]
          have : decide (some k0 = some k) = false := decide_eq_false fun z => hk (Option.some.inj z)
          rw [this]
          simp
  · rintro ⟨m, told⟩ ⟨a1, a2, a3, a4, a5⟩
    dsimp only at a1 a2 a3 a4 a5 ⊢
    exact post_ok ⟨⟨a1, fun c u hu => a5 c u (Nat.zero_le _) hu⟩, a3, by dsimp only; omega⟩
abbrev no0 : Int × Tx → Bool := fun _ => false
theorem range2_any {n c : Nat} {p : Int → Bool} : ((rangeT2 ((c : Int) + 1) (Int.toNat ((n : Int) - ((c : Int) + 1)))).any p) = true ↔ ∃ j : Nat, c < j ∧ j < n ∧ p (j : Int) = true := by
  rw [List.any_eq_true]
  constructor
  · rintro ⟨i, hi, h⟩
    rw [mem_rangeT2] at hi
    obtain ⟨j, rfl⟩ := Int.eq_ofNat_of_zero_le (show 0 ≤ i by omega)
    exact ⟨j, by omega, by omega, h⟩
  · rintro ⟨j, h1, h2, h3⟩
    exact ⟨(j : Int), by rw [mem_rangeT2]; omega, h3⟩
theorem is_broken_eq {us : List Suit} (hs : SOk us) {told : List Bool} (hl : told.length = us.length) {c : Nat} (hc : c < us.length) (n : Tx) (more : List (Int × Tx)) : t_law_is_broken us told c n more = .ok (memT ((c : Int), n) more || brkB us told ((c : Int), n)) := by
  unfold t_law_is_broken
  have hlen := hs.len
  cases hm : memT ((c : Int), n) more with
  | true => rfl
  | false =>
    simp only [Bool.false_eq_true, if_false, Bool.false_or]
    rw [T.gd_of ⟨inR_s (by omega) (by omega), inR_s (by omega) (by omega)⟩]
    have key := forL_find (ε := Empty) (f := fun (i1 : Int) _ => (((T.ofO (atI told i1)).bind fun x2 => if x2 = true then ((T.ofO (atI us i1)).bind fun x3 => if (decide (x3.d = (some ((c : Int), n)))) = true then (.ok (.rt true)) else (.ok (.nx ()))) else (.ok (.nx ()))) : T Empty (T.Lp Unit Bool)))
      (p := fun i => match told[i.toNat]?, us[i.toNat]? with
        | some b, some u => b && decide (u.d = some ((c : Int), n))
        | _, _ => false) (r := true) (xs := rangeT2 ((c : Int) + 1) (Int.toNat ((us.length : Int) - ((c : Int) + 1)))) (fun i hi => by
        rw [mem_rangeT2] at hi
        obtain ⟨j, rfl⟩ := Int.eq_ofNat_of_zero_le (show 0 ≤ i by omega)
        have hj : j < us.length := by omega
        rw [atI_n, atI_n, Int.toNat_natCast, List.getElem?_eq_getElem hj, List.getElem?_eq_getElem (by omega : j < told.length)]
        simp only [ofO_some']
        cases told[j] <;> simp)
    rw [key]
    have e : ((rangeT2 ((c : Int) + 1) (Int.toNat ((us.length : Int) - ((c : Int) + 1)))).any fun i => match told[i.toNat]?, us[i.toNat]? with
        | some b, some u => b && decide (u.d = some ((c : Int), n))
        | _, _ => false) = brkB us told ((c : Int), n) := by
      rw [Bool.eq_iff_iff, range2_any, brk_iff]
      constructor
      · rintro ⟨j, h1, h2, h3⟩
        rw [Int.toNat_natCast, List.getElem?_eq_getElem h2, List.getElem?_eq_getElem (by omega : j < told.length)] at h3
        simp only [Bool.and_eq_true, decide_eq_true_eq] at h3
        exact ⟨j, us[j], List.getElem?_eq_getElem h2, by rw [List.getElem?_eq_getElem (by omega : j < told.length), h3.1], h3.2⟩
      · rintro ⟨j, u, h1, h2, h3⟩
        have hj := (List.getElem?_eq_some_iff.mp h1).1
        obtain ⟨q, w, e1, e2, _⟩ := hs.named j u _ h1 h3
        dsimp only at e1
        exact ⟨j, by omega, hj, by rw [Int.toNat_natCast, h1, h2]; simp [h3]⟩
    rw [e]
    cases brkB us told ((c : Int), n) <;> rfl
theorem sum_filter (p : Oath → Bool) (zs : List Oath) (a : Int) : zs.foldl (fun v o => if p o = true then v + o.2 else v) a = a + sumW (zs.filter p) := by
  induction zs generalizing a with
  | nil => simp [sumW]
  | cons z zs ih =>
    rw [List.foldl_cons, ih]
    cases h : p z with
    | true => rw [List.filter_cons_of_pos h]; simp [sumW]; omega
    | false => rw [List.filter_cons_of_neg (by simp [h])]; simp
theorem sub_filter (p : Oath → Bool) (zs : List Oath) (a : Int) : zs.foldl (fun v o => if p o = true then v - o.2 else v) a = a - sumW (zs.filter p) := by
  induction zs generalizing a with
  | nil => simp [sumW]
  | cons z zs ih =>
    rw [List.foldl_cons, ih]
    cases h : p z with
    | true => rw [List.filter_cons_of_pos h]; simp [sumW]; omega
    | false => rw [List.filter_cons_of_neg (by simp [h])]; simp
theorem law_margin_eq {us : List Suit} (hs : SOk us) {told : List Bool} (hl : told.length = us.length) {c : Nat} {u : Suit} (hu : us[c]? = some u) (more : List (Int × Tx)) : t_law_margin us told c more = .ok (margB u c fun k => memT k more || brkB us told k) := by
  have hc := (List.getElem?_eq_some_iff.mp hu).1
  unfold t_law_margin
  rw [atI_n, hu, ofO_some']
  rw [forM_fold (g := fun (o : Oath) (v : Int) => if (!(memT ((c : Int), o.1) more || brkB us told ((c : Int), o.1))) = true then v + o.2 else v) (fun o _ v => by
    rw [is_broken_eq hs hl hc, T.ok_bind]
    cases (memT ((c : Int), o.1) more || brkB us told ((c : Int), o.1)) <;> rfl), T.ok_bind]
  rw [forM_fold (g := fun (o : Oath) (v : Int) => if (!(memT ((c : Int), o.1) more || brkB us told ((c : Int), o.1))) = true then v - o.2 else v) (fun o _ v => by
    rw [is_broken_eq hs hl hc, T.ok_bind]
    cases (memT ((c : Int), o.1) more || brkB us told ((c : Int), o.1)) <;> rfl), T.ok_bind]
  rw [sum_filter, sub_filter]
  congr 1
  unfold margB keptW
  dsimp only
  omega
end Ty
namespace Lw
open VS Ty
end Lw

noncomputable section
namespace Ty
open PySem VS Lw L2
end Ty

namespace Ty
open PySem VS L2
theorem settles_one {us : List Suit} (hs : SOk us) {b0 : Int × Tx → Bool} {t1 t2 : List Bool} (h1 : Settles us b0 t1) (h2 : Settles us b0 t2) : t1 = t2 := by
  have key : ∀ (k c : Nat), us.length ≤ c + k → c ≤ us.length → ∀ j, c ≤ j → t1[j]? = t2[j]? := by
    intro k
    induction k with
    | zero =>
      intro c hc _ j hj
      rw [List.getElem?_eq_none (by rw [h1.len]; omega), List.getElem?_eq_none (by rw [h2.len]; omega)]
    | succ k ih =>
      intro c hc hc2 j hj
      by_cases hcn : c = us.length
      · exact ih c (by omega) hc2 j hj
      have hlt : c < us.length := by omega
      have ih' := ih (c + 1) (by omega) (by omega)
      by_cases hjc : j = c
      · subst hjc
        have hu : us[j]? = some us[j] := List.getElem?_eq_getElem hlt
        rw [h1.at_ j _ hu, h2.at_ j _ hu]
        have e : ∀ n : Tx, brkB us t1 ((j : Int), n) = brkB us t2 ((j : Int), n) := fun n => by
          rw [Bool.eq_iff_iff, brk_iff, brk_iff]
          constructor
          · rintro ⟨i, w, e1, e2, e3⟩
            obtain ⟨q, _, a1, a2, _⟩ := hs.named i w _ e1 e3
            dsimp only at a1
            exact ⟨i, w, e1, by rw [← ih' i (by omega)]; exact e2, e3⟩
          · rintro ⟨i, w, e1, e2, e3⟩
            obtain ⟨q, _, a1, a2, _⟩ := hs.named i w _ e1 e3
            dsimp only at a1
            exact ⟨i, w, e1, by rw [ih' i (by omega)]; exact e2, e3⟩
        rw [margB_congr (b' := fun k => b0 k || brkB us t2 k) fun n => by rw [e n]]
      · exact ih' j (by omega)
  exact List.ext_getElem? fun j => key us.length 0 (by omega) (Nat.zero_le _) j (Nat.zero_le _)
structure Rows (n : Nat) (rows : List (List Bool)) : Prop where
  len : rows.length = 2 ^ n
  nd : rows.Nodup
  mem : ∀ r, r ∈ rows ↔ r.length = n
end Ty
namespace Lw
open VS Ty
end Lw

namespace VS
open PySem L2
def enT {α : Type} : Nat → List α → List (Int × α)
  | _, [] => []
  | i, x :: xs => ((i : Nat), x) :: enT (i + 1) xs
section
variable {α β γ ε ν ω : Type} {A : LS} {t : T ε β} {F : β → ω} {B : β → LS} {X : ε → LS}
theorem enD_T [Enc α] : ∀ (xs : List α) (i : Nat), enD i (xs.map Enc.enc) = (enT i xs).map (Enc.enc : Int × α → D)
  | [], _ => rfl
  | x :: xs, i => by
    show PyData.tuple [.int (i : Nat), Enc.enc x] :: enD (i + 1) (xs.map Enc.enc) = _
    rw [enD_T xs (i + 1)]
    rfl
theorem e_enum {g : LS → R (List D)} {k : List D → LS → R ω} (h : SK A (fun L => (g L).bind fun d L1 => (asEnum d L1).bind k) t F B X) : SK A (fun L => ((g L).bind asEnum).bind k) t F B X := e_bind h
theorem c_enum [Enc α] {xs : List α} {k : List D → LS → R ω} (h : SK A (k ((enT 0 xs).map Enc.enc)) t F B X) : SK A (fun L => (asEnum [Enc.enc xs] L).bind k) t F B X := fun L hL => by
  have h := h L hL
  show SimR ((R.ok (enD 0 (xs.map Enc.enc)) L).bind k) t F B X
  rw [enD_T]
  exact h
theorem s_never {K : Kont ω} : SS A gNever K (T.no : T ε β) F B X := fun L hL => trivial
theorem enT_len : ∀ (xs : List α) (i : Nat), (enT i xs).length = xs.length
  | [], _ => rfl
  | x :: xs, i => by
    show (enT (i + 1) xs).length + 1 = xs.length + 1
    rw [enT_len xs (i + 1)]
theorem enT_get : ∀ (xs : List α) (i j : Nat), (enT i xs)[j]? = (xs[j]?).map fun x => (((i + j : Nat) : Int), x)
  | [], i, j => rfl
  | x :: xs, i, 0 => rfl
  | x :: xs, i, j + 1 => by
    show (enT (i + 1) xs)[j]? = (xs[j]?).map _
    rw [enT_get xs (i + 1) j]
    have : i + 1 + j = i + (j + 1) := by omega
    rw [this]
theorem enT_at {xs : List α} {pre post : List (Int × α)} {x : Int × α} (e : enT 0 xs = pre ++ x :: post) : x.1 = (pre.length : Int) ∧ xs[pre.length]? = some x.2 ∧ xs.length = pre.length + post.length + 1 := by
  have h := enT_get xs 0 pre.length
  rw [e, List.getElem?_append_right (Nat.le_refl _), Nat.sub_self] at h
  have l := congrArg List.length e
  rw [enT_len, List.length_append, List.length_cons] at l
  cases hx : xs[pre.length]? with
  | none => rw [hx] at h; cases h
  | some y =>
    rw [hx] at h
    have h : x = (((0 + pre.length : Nat) : Int), y) := Option.some.inj h
    rw [h, Nat.zero_add]
    exact ⟨rfl, rfl, by omega⟩
theorem range2_post {f : Int → ν → T ε ν} (Inv : Nat → ν → Prop) {lo n : Nat} {v : ν} (h0 : Inv lo v) (hs : ∀ (i : Nat) v, lo ≤ i → i < lo + n → Inv i v → (f (i : Int) v).Post (Inv (i + 1))) : (T.forM (rangeT2 (lo : Int) n) v f).Post (Inv (lo + n)) := by
  induction n with
  | zero => exact post_ok h0
  | succ n ih =>
    have e : rangeT2 (lo : Int) (n + 1) = rangeT2 (lo : Int) n ++ [((lo + n : Nat) : Int)] := by
      unfold rangeT2
      rw [List.range_succ, List.map_append]
      simp
    rw [e, forM_app]
    exact post_bind (ih fun i v h1 h2 => hs i v h1 (by omega)) fun v' h' => post_bind (hs (lo + n) v' (by omega) (by omega) h') fun v2 h2 => post_ok h2
theorem atI_last {xs : List α} (h : 0 < xs.length) : atI xs (-1) = some (xs[xs.length - 1]'(by omega)) := by
  unfold atI ixN
  rw [if_neg (by omega), if_pos (by omega)]
  show xs[((xs.length : Int) + -1).toNat]? = _
  have : ((xs.length : Int) + -1).toNat = xs.length - 1 := by omega
  rw [this]
  exact List.getElem?_eq_getElem _
end
end VS

noncomputable section
namespace Ty
open PySem VS Lw L2
def t_there (suits : (List Suit)) (case_ : Int) : T Empty (Suit) :=
  if ((decide (case_ < (0 : Int))) || (decide (((List.length suits : Nat) : Int) ≤ case_))) = true then (.no) else ((T.ofO (atI suits case_)).bind fun x1 =>
  .ok x1)
theorem r_there (suits : (List Suit)) (case_ : Int) : SK [dv suits, dv case_] Lw.m_there (t_there suits case_) (fun r => (S.d (Enc.enc r))) (fun r => [dv suits, none]) XV := by
  unfold Lw.m_there Lw.g_there t_there
  refine f_def (X' := XV) ?_ xe_no
  show SK [dv suits, dv case_] _ _ _ _ _
  refine s_seq ?_
  refine s_if (x := ((decide (case_ < (0 : Int))) || (decide (((List.length suits : Nat) : Int) ≤ case_)))) (pu_or (pu_B (pu_op (z := (Enc.enc ((decide (case_ < (0 : Int))) : Bool))) (pu_peek (by rfl)) (pu_c (d := Enc.enc (0 : Int))) rfl)) (pu_B (pu_op (z := (Enc.enc ((decide (((List.length suits : Nat) : Int) ≤ case_)) : Bool))) (pu_peek (by rfl)) (pu_un (z := (Enc.enc ((List.length suits : Nat) : Int))) (pu_peek (by rfl)) (len_l _)) rfl))) ?_ ?_
  · exact s_never
  · refine s_next ?_
    refine s_then ?_
    refine s_ret ?_
    refine e_d ?_
    refine e_ixP (by rfl) ?_
    refine e_pu (pu_var (by rfl)) ?_
    refine e_pu (pu_peek (by rfl)) ?_
    refine e_oO (p := atI suits case_) (f := Enc.enc) (ix_l suits case_) (fun x1 => ?_)
    exact f_rt rfl (mt_k (mt_w mt_nil))
end Ty

namespace Ty
open PySem VS L2
def chF (us : List Suit) : Nat → Nat → List Int
  | 0, _ => []
  | n + 1, c => match us[c]? with
    | some u => (match u.d with
      | some k => k.1 :: chF us n k.1.toNat
      | none => [])
    | none => []
def ch (us : List Suit) (c : Nat) : List Int := chF us (c + 1) c
def chO (us : List Suit) : Option (Int × Tx) → List Int
  | some k => k.1 :: ch us k.1.toNat
  | none => []
theorem chF_eq {us : List Suit} (hs : SOk us) : ∀ (n m c : Nat), c < n → c < m → chF us n c = chF us m c := by
  intro n
  induction n with
  | zero => intro m c h; omega
  | succ n ih =>
    intro m c h1 h2
    cases m with
    | zero => omega
    | succ m =>
      show (match us[c]? with | some u => (match u.d with | some k => k.1 :: chF us n k.1.toNat | none => []) | none => []) = (match us[c]? with | some u => (match u.d with | some k => k.1 :: chF us m k.1.toNat | none => []) | none => [])
      cases hu : us[c]? with
      | none => rfl
      | some u =>
        cases hd : u.d with
        | none => simp only [hd]
        | some k =>
          obtain ⟨j, w, e1, e2, _⟩ := hs.named c u k hu hd
          simp only [hd]
          rw [ih m k.1.toNat (by omega) (by omega)]
theorem ch_eq {us : List Suit} (hs : SOk us) {c : Nat} {u : Suit} (hu : us[c]? = some u) : ch us c = chO us u.d := by
  show (match us[c]? with | some u => (match u.d with | some k => k.1 :: chF us c k.1.toNat | none => []) | none => []) = _
  rw [hu]
  cases hd : u.d with
  | none => simp only [hd]; rfl
  | some k =>
    obtain ⟨j, w, e1, e2, _⟩ := hs.named c u k hu hd
    simp only [hd]
    show _ = k.1 :: chF us (k.1.toNat + 1) k.1.toNat
    rw [chF_eq hs c (k.1.toNat + 1) k.1.toNat (by omega) (by omega)]
theorem there_eq {us : List Suit} {c : Nat} {u : Suit} (hu : us[c]? = some u) : t_there us c = .ok u := by
  have hc := (List.getElem?_eq_some_iff.mp hu).1
  unfold t_there
  rw [if_neg (by simp only [Bool.or_eq_true, decide_eq_true_eq]; omega), atI_n, hu]
  rfl
def bears (us : List Suit) (c : Nat) : List Int := (rangeT us.length).filter fun i => memT (c : Int) (ch us i.toNat)
theorem lcp_names {zs : List Oath} (h : zs.length ≤ 1000000) : (T.lcp zs (fun (_ : Oath) => true) (fun i => i.1) : T Empty (List Tx)) = .ok (zs.map (·.1)) := by
  rw [lcp_ok h, List.filter_eq_self.mpr fun _ _ => rfl]
end Ty
namespace Lw
open VS Ty
end Lw

namespace Ty
open PySem VS Lw
theorem pl_up : ∀ (k : Nat) (d : D), Pl k d → Pl (k + 1) d
  | 0, _, h => h.elim
  | k + 1, d, h => by
    cases d with
    | none => trivial
    | bool b => trivial
    | int b => trivial
    | str b => trivial
    | list xs => exact fun x hx => pl_up k x (h x hx)
    | tuple xs => exact fun x hx => pl_up k x (h x hx)
    | dict b => exact h.elim
theorem pl_le {k m : Nat} (hk : k ≤ m) {d : D} (h : Pl k d) : Pl m d := by
  induction m with
  | zero =>
    have : k = 0 := by omega
    subst this
    exact h
  | succ m ih =>
    by_cases e : k = m + 1
    · subst e; exact h
    · exact pl_up m d (ih (by omega))
class Pln (α : Type) [Enc α] where
  dp : Nat
  pl : ∀ x : α, Pl (dp + 1) (Enc.enc x)
  inj : ∀ x y : α, Enc.enc x = Enc.enc y → x = y
class Nn (α : Type) [Enc α] : Prop where
  nn : ∀ x : α, Enc.enc x ≠ PyData.none
instance : Pln Int := ⟨0, fun _ => trivial, fun _ _ h => by injection h⟩
instance : Pln Bool := ⟨0, fun _ => trivial, fun _ _ h => by injection h⟩
instance : Pln Unit := ⟨0, fun _ => trivial, fun _ _ _ => rfl⟩
instance : Pln Tx := ⟨0, fun _ => trivial, fun _ _ h => Tx.s_inj (by injection h)⟩
instance : Nn Int := ⟨fun _ h => by cases h⟩
instance : Nn Bool := ⟨fun _ h => by cases h⟩
instance : Nn Tx := ⟨fun _ h => by cases h⟩
section
variable {α β γ δ ε : Type} [Enc α] [Enc β] [Enc γ] [Enc δ] [Enc ε]
theorem map_inj [i : Pln α] : ∀ {xs ys : List α}, xs.map (Enc.enc : α → D) = ys.map Enc.enc → xs = ys
  | [], [], _ => rfl
  | [], _ :: _, h => by cases h
  | _ :: _, [], h => by cases h
  | x :: xs, y :: ys, h => by
    rw [List.map_cons, List.map_cons] at h
    injection h with h1 h2
    rw [i.inj x y h1, map_inj h2]
instance [i : Pln α] : Pln (List α) := ⟨i.dp + 1, fun xs d hd => by
  obtain ⟨x, hx, rfl⟩ := List.mem_map.mp hd
  exact i.pl x, fun xs ys h => map_inj (by injection h)⟩
instance : Nn (List α) := ⟨fun _ h => by cases h⟩
instance [i : Pln α] [Nn α] : Pln (Option α) := ⟨i.dp, fun o => by
  cases o with
  | none => trivial
  | some x => exact i.pl x, fun x y h => by
  cases x with
  | none =>
    cases y with
    | none => rfl
    | some y => exact absurd h.symm (Nn.nn y)
  | some x =>
    cases y with
    | none => exact absurd h (Nn.nn x)
    | some y => rw [i.inj x y h]⟩
instance [i : Pln α] [j : Pln β] : Pln (α × β) := ⟨max i.dp j.dp + 1, fun p d hd => by
  simp at hd
  rcases hd with rfl | rfl
  · exact pl_le (by omega) (i.pl p.1)
  · exact pl_le (by omega) (j.pl p.2), fun p q h => by
  have h : PyData.tuple [Enc.enc p.1, Enc.enc p.2] = PyData.tuple [Enc.enc q.1, Enc.enc q.2] := h
  simp only [PyData.tuple.injEq, List.cons.injEq, and_true] at h
  exact Prod.ext (i.inj _ _ h.1) (j.inj _ _ h.2)⟩
instance : Nn (α × β) := ⟨fun _ h => by cases h⟩
instance [i : Pln α] [j : Pln β] [k : Pln γ] : Pln (Tp3 α β γ) := ⟨i.dp + j.dp + k.dp + 1, fun p d hd => by
  simp at hd
  rcases hd with rfl | rfl | rfl
  · exact pl_le (by omega) (i.pl p.a)
  · exact pl_le (by omega) (j.pl p.b)
  · exact pl_le (by omega) (k.pl p.c), fun p q h => by
  have h : PyData.tuple [Enc.enc p.a, Enc.enc p.b, Enc.enc p.c] = PyData.tuple [Enc.enc q.a, Enc.enc q.b, Enc.enc q.c] := h
  simp only [PyData.tuple.injEq, List.cons.injEq, and_true] at h
  obtain ⟨p1, p2, p3⟩ := p
  obtain ⟨q1, q2, q3⟩ := q
  rw [i.inj p1 q1 h.1, j.inj p2 q2 h.2.1, k.inj p3 q3 h.2.2]⟩
instance : Nn (Tp3 α β γ) := ⟨fun _ h => by cases h⟩
instance [i : Pln α] [j : Pln β] [k : Pln γ] [l : Pln δ] : Pln (Tp4 α β γ δ) := ⟨i.dp + j.dp + k.dp + l.dp + 1, fun p d hd => by
  simp at hd
  rcases hd with rfl | rfl | rfl | rfl
  · exact pl_le (by omega) (i.pl p.a)
  · exact pl_le (by omega) (j.pl p.b)
  · exact pl_le (by omega) (k.pl p.c)
  · exact pl_le (by omega) (l.pl p.d), fun p q h => by
  have h : PyData.tuple [Enc.enc p.a, Enc.enc p.b, Enc.enc p.c, Enc.enc p.d] = PyData.tuple [Enc.enc q.a, Enc.enc q.b, Enc.enc q.c, Enc.enc q.d] := h
  simp only [PyData.tuple.injEq, List.cons.injEq, and_true] at h
  obtain ⟨p1, p2, p3, p4⟩ := p
  obtain ⟨q1, q2, q3, q4⟩ := q
  rw [i.inj p1 q1 h.1, j.inj p2 q2 h.2.1, k.inj p3 q3 h.2.2.1, l.inj p4 q4 h.2.2.2]⟩
instance : Nn (Tp4 α β γ δ) := ⟨fun _ h => by cases h⟩
instance [i : Pln α] [j : Pln β] [k : Pln γ] [l : Pln δ] [m : Pln ε] : Pln (Tp5 α β γ δ ε) := ⟨i.dp + j.dp + k.dp + l.dp + m.dp + 1, fun p d hd => by
  simp at hd
  rcases hd with rfl | rfl | rfl | rfl | rfl
  · exact pl_le (by omega) (i.pl p.a)
  · exact pl_le (by omega) (j.pl p.b)
  · exact pl_le (by omega) (k.pl p.c)
  · exact pl_le (by omega) (l.pl p.d)
  · exact pl_le (by omega) (m.pl p.e), fun p q h => by
  have h : PyData.tuple [Enc.enc p.a, Enc.enc p.b, Enc.enc p.c, Enc.enc p.d, Enc.enc p.e] = PyData.tuple [Enc.enc q.a, Enc.enc q.b, Enc.enc q.c, Enc.enc q.d, Enc.enc q.e] := h
  simp only [PyData.tuple.injEq, List.cons.injEq, and_true] at h
  obtain ⟨p1, p2, p3, p4, p5⟩ := p
  obtain ⟨q1, q2, q3, q4, q5⟩ := q
  rw [i.inj p1 q1 h.1, j.inj p2 q2 h.2.1, k.inj p3 q3 h.2.2.1, l.inj p4 q4 h.2.2.2.1, m.inj p5 q5 h.2.2.2.2]⟩
instance : Nn (Tp5 α β γ δ ε) := ⟨fun _ h => by cases h⟩
end
end Ty

noncomputable section
namespace Ty
open PySem VS Lw L2
end Ty

namespace Ty
open PySem VS L2
theorem ch_dec {us : List Suit} (hs : SOk us) : ∀ c : Nat, (ch us c).Pairwise (fun x y => y < x) ∧ ∀ x ∈ ch us c, ∃ j : Nat, x = j ∧ j < c ∧ j < us.length := by
  intro c
  induction c using Nat.strongRecOn with
  | _ c ih =>
    cases hu : us[c]? with
    | none =>
      have : ch us c = [] := by unfold ch chF; rw [hu]
      rw [this]; exact ⟨.nil, fun x hx => by cases hx⟩
    | some u =>
      rw [ch_eq hs hu]
      cases hd : u.d with
      | none => exact ⟨.nil, fun x hx => by cases hx⟩
      | some k =>
        obtain ⟨j, w, e1, e2, e3, _⟩ := hs.named c u k hu hd
        have hj := (List.getElem?_eq_some_iff.mp e3).1
        obtain ⟨h1, h2⟩ := ih j e2
        show (k.1 :: ch us k.1.toNat).Pairwise _ ∧ ∀ x ∈ k.1 :: ch us k.1.toNat, _
        rw [e1, Int.toNat_natCast]
        refine ⟨List.pairwise_cons.mpr ⟨fun x hx => ?_, h1⟩, fun x hx => ?_⟩
        · obtain ⟨i, rfl, hi, _⟩ := h2 x hx
          omega
        · rcases List.mem_cons.mp hx with rfl | hx
          · exact ⟨j, rfl, e2, hj⟩
          · obtain ⟨i, rfl, hi, hi2⟩ := h2 x hx
            exact ⟨i, rfl, by omega, hi2⟩
end Ty
namespace Lw
open VS Ty
end Lw

namespace VS
open PySem L2
open PySem.W (dataLe)
section
variable {α β γ κ ε ν ω : Type} {A : LS} {t : T ε β} {F : β → ω} {B : β → LS} {X : ε → LS}
def sortT [Enc α] (xs : List α) : Option (List α) := if sortOk (xs.map Enc.enc) = true then some (xs.mergeSort (dataLe false Enc.enc)) else none
theorem srtD_map [Enc α] (xs : List α) : srtD (xs.map Enc.enc) = (xs.mergeSort (dataLe false Enc.enc)).map (Enc.enc : α → D) := by
  unfold srtD
  exact (List.map_mergeSort (r := dataLe false (Enc.enc : α → D)) (s := dataLe false id) (f := (Enc.enc : α → D)) fun a _ b _ => rfl).symm
theorem sort_l [Enc α] (xs : List α) : dSortedG (.list (xs.map Enc.enc)) = (sortT xs).map fun z => S.ol (z.map Enc.enc) := by
  show (if sortOk (xs.map Enc.enc) = true then some (S.ol (srtD (xs.map Enc.enc))) else none) = _
  unfold sortT
  by_cases h : sortOk (xs.map Enc.enc) = true
  · rw [if_pos h, if_pos h, srtD_map]
    rfl
  · rw [if_neg h, if_neg h]
    rfl
theorem keyD_inv {d : D} {k : Key} (h : keyD d = some k) : d = kD k := by
  cases d <;> cases h <;> rfl
theorem keysK_enc [Enc κ] [Enc1 κ] [i : KD1 κ] [Enc α] (d : Dt κ α) : keysK (enc1 d) = (d.map (·.1)).map (Enc.enc : κ → D) := by
  unfold keysK enc1
  rw [List.map_map, List.map_map]
  exact List.map_congr_left fun p _ => (keyD_inv (i.eq p.1)).symm
theorem sortS_k [Enc κ] [Enc1 κ] [KD1 κ] [Enc α] (d : Dt κ α) : sSorted (.odK (enc1 d)) = (sortT (d.map (·.1))).map fun z => S.ol (z.map Enc.enc) := by
  rw [← sort_l, ← keysK_enc]
  rfl
theorem pu_lk {i : Nat} {s : S} (h : A[i]? = some (some s)) (hs : s.own = true := by rfl) : Pu A (gLk i) s := fun L hL => by
  unfold gLk
  rw [hL.2 i _ h]
  exact if_pos hs
theorem e_onS {f : S → Option α} {g : LS → R S} {k : α → LS → R ω} (h : SK A (fun L => (g L).bind fun s L1 => (ofO (f s) L1).bind k) t F B X) : SK A (fun L => (gOnS f g L).bind k) t F B X := e_bind h
theorem sortT_perm [Enc α] {xs ys : List α} (h : sortT xs = some ys) : ys.Perm xs := by
  unfold sortT at h
  split at h
  · cases h
    exact List.mergeSort_perm xs _
  · cases h
theorem le_total_ [Enc α] (a b : α) : dataLe false Enc.enc a b = true ∨ dataLe false Enc.enc b a = true := by
  have := (PySem.W.sortLe_total (PyProof.Rows.listOrd PyProof.Rows.itemOrd) false fun b : α => PySem.W.keyToks (Enc.enc b)).total a b
  exact this
theorem le_trans_ [Enc α] (a b c : α) (h1 : dataLe false Enc.enc a b = true) (h2 : dataLe false Enc.enc b c = true) : dataLe false Enc.enc a c = true := (PySem.W.sortLe_total (PyProof.Rows.listOrd PyProof.Rows.itemOrd) false fun b : α => PySem.W.keyToks (Enc.enc b)).trans a b c h1 h2
theorem sortT_sorted [Enc α] {xs ys : List α} (h : sortT xs = some ys) : ys.Pairwise fun a b => dataLe false Enc.enc a b = true := by
  unfold sortT at h
  split at h
  · cases h
    exact List.pairwise_mergeSort (le := dataLe false Enc.enc) (fun a b c => le_trans_ a b c) (fun a b => by rw [Bool.or_eq_true]; exact le_total_ a b) xs
  · cases h
end
class SrtE (α : Type) [Enc α] : Prop where
  alike : ∀ a b : α, PySem.W.alike (Enc.enc a) (Enc.enc b) = true
  kind : (∀ a : α, isTup1 (Enc.enc a) = true) ∨ ∀ a : α, noTup (Enc.enc a) = true
  dep : ∀ a : α, (Enc.enc a : D).depth ≤ 60
  inj : ∀ a b : α, PySem.W.keyToks (Enc.enc a) = PySem.W.keyToks (Enc.enc b) → a = b
class SrtA (α : Type) [Enc α] : Prop where
  alike : ∀ a b : α, PySem.W.alike (Enc.enc a) (Enc.enc b) = true
  kind : ∀ a : α, noTup (Enc.enc a) = true
  dep : ∀ a : α, (Enc.enc a : D).depth = 0
  one : ∀ a : α, ∃ k, PySem.W.keyToks (Enc.enc a) = [k]
  inj : ∀ a b : α, PySem.W.keyToks (Enc.enc a) = PySem.W.keyToks (Enc.enc b) → a = b
instance : SrtA Int := ⟨fun a b => by show PySem.W.alike (.int a) (.int b) = true; simp only [PySem.W.alike], fun a => rfl, fun a => by show PyData.depth (.int a) = 0; simp only [PyData.depth], fun a => ⟨.inl a, by show PySem.W.keyToks (.int a) = _; simp only [PySem.W.keyToks]⟩, fun a b h => by
  have h : PySem.W.keyToks (.int a) = PySem.W.keyToks (.int b) := h
  simp only [PySem.W.keyToks] at h
  simpa using h⟩
instance : SrtA Tx := ⟨fun a b => by show PySem.W.alike (.str a.s) (.str b.s) = true; simp only [PySem.W.alike], fun a => rfl, fun a => by show PyData.depth (.str a.s) = 0; simp only [PyData.depth], fun a => ⟨.inr a.s.cps.toList, by show PySem.W.keyToks (.str a.s) = _; simp only [PySem.W.keyToks]⟩, fun a b h => by
  have h : PySem.W.keyToks (.str a.s) = PySem.W.keyToks (.str b.s) := h
  simp only [PySem.W.keyToks] at h
  have h : a.s.cps.toList = b.s.cps.toList := by simpa using h
  exact Tx.s_inj (PySem.W.str_of_cps h)⟩
section
variable {α β γ : Type} [Enc α] [Enc β] [Enc γ]
instance (priority := low) [i : SrtA α] : SrtE α := ⟨i.alike, .inr i.kind, fun a => by rw [i.dep]; omega, i.inj⟩
instance [i : SrtA α] [j : SrtA β] : SrtE (α × β) := ⟨fun a b => by
  show PySem.W.alike (.tuple [Enc.enc a.1, Enc.enc a.2]) (.tuple [Enc.enc b.1, Enc.enc b.2]) = true
  simp only [PySem.W.alike, PySem.W.alikeAll, i.alike, j.alike]
  rfl, .inl fun a => rfl, fun a => by
  show PyData.depth (.tuple [Enc.enc a.1, Enc.enc a.2]) ≤ 60
  simp only [PyData.depth, PyData.depthAll, i.dep, j.dep]
  omega, fun a b h => by
  have h : PySem.W.keyToks (.tuple [Enc.enc a.1, Enc.enc a.2]) = PySem.W.keyToks (.tuple [Enc.enc b.1, Enc.enc b.2]) := h
  obtain ⟨k1, e1⟩ := i.one a.1
  obtain ⟨k2, e2⟩ := j.one a.2
  obtain ⟨m1, f1⟩ := i.one b.1
  obtain ⟨m2, f2⟩ := j.one b.2
  simp only [PySem.W.keyToks, PySem.W.keyToksAll, e1, e2, f1, f2, List.cons_append, List.nil_append, List.cons.injEq, true_and, and_true] at h
  exact Prod.ext (i.inj _ _ (by rw [e1, f1, h.1])) (j.inj _ _ (by rw [e2, f2, h.2]))⟩
instance [i : SrtA α] [j : SrtA β] [k : SrtA γ] : SrtE (Tp3 α β γ) := ⟨fun a b => by
  show PySem.W.alike (.tuple [Enc.enc a.a, Enc.enc a.b, Enc.enc a.c]) (.tuple [Enc.enc b.a, Enc.enc b.b, Enc.enc b.c]) = true
  simp only [PySem.W.alike, PySem.W.alikeAll, i.alike, j.alike, k.alike]
  rfl, .inl fun a => rfl, fun a => by
  show PyData.depth (.tuple [Enc.enc a.a, Enc.enc a.b, Enc.enc a.c]) ≤ 60
  simp only [PyData.depth, PyData.depthAll, i.dep, j.dep, k.dep]
  omega, fun a b h => by
  have h : PySem.W.keyToks (.tuple [Enc.enc a.a, Enc.enc a.b, Enc.enc a.c]) = PySem.W.keyToks (.tuple [Enc.enc b.a, Enc.enc b.b, Enc.enc b.c]) := h
  obtain ⟨k1, e1⟩ := i.one a.a
  obtain ⟨k2, e2⟩ := j.one a.b
  obtain ⟨k3, e3⟩ := k.one a.c
  obtain ⟨m1, f1⟩ := i.one b.a
  obtain ⟨m2, f2⟩ := j.one b.b
  obtain ⟨m3, f3⟩ := k.one b.c
  simp only [PySem.W.keyToks, PySem.W.keyToksAll, e1, e2, e3, f1, f2, f3, List.cons_append, List.nil_append, List.cons.injEq, true_and, and_true] at h
  have x1 := i.inj a.a b.a (by rw [e1, f1, h.1])
  have x2 := j.inj a.b b.b (by rw [e2, f2, h.2.1])
  have x3 := k.inj a.c b.c (by rw [e3, f3, h.2.2])
  cases a
  cases b
  simp only at x1 x2 x3
  rw [x1, x2, x3]⟩
theorem sortT_ok [i : SrtE α] {xs : List α} (h : xs.length ≤ 1000000) : sortT xs = some (xs.mergeSort (dataLe false Enc.enc)) := by
  unfold sortT
  rw [if_pos]
  unfold sortOk
  simp only [Bool.and_eq_true, Bool.or_eq_true, List.all_eq_true, decide_eq_true_eq, List.length_map]
  refine ⟨fun d hd e he => ?_, ?_, fun d hd => ?_, sz _ h⟩
  · obtain ⟨x, _, rfl⟩ := List.mem_map.mp hd
    obtain ⟨y, _, rfl⟩ := List.mem_map.mp he
    exact i.alike x y
  · rcases i.kind with k | k
    · exact .inl fun d hd => by
        obtain ⟨x, _, rfl⟩ := List.mem_map.mp hd
        exact k x
    · exact .inr fun d hd => by
        obtain ⟨x, _, rfl⟩ := List.mem_map.mp hd
        exact k x
  · obtain ⟨x, _, rfl⟩ := List.mem_map.mp hd
    exact i.dep x
theorem le_anti [i : SrtE α] (a b : α) (h1 : dataLe false Enc.enc a b = true) (h2 : dataLe false Enc.enc b a = true) : a = b := by
  refine i.inj a b ?_
  have h1 : (!PyProof.Rows.lexLt PyProof.Rows.itemOrd (PySem.W.keyToks (Enc.enc b)) (PySem.W.keyToks (Enc.enc a))) = true := h1
  have h2 : (!PyProof.Rows.lexLt PyProof.Rows.itemOrd (PySem.W.keyToks (Enc.enc a)) (PySem.W.keyToks (Enc.enc b))) = true := h2
  rw [Bool.not_eq_true'] at h1 h2
  exact PyProof.Rows.lex_total _ _ h2 h1
theorem sort_one [i : SrtE α] {xs ys : List α} (hp : xs.Perm ys) (h1 : xs.Pairwise fun a b => dataLe false Enc.enc a b = true) (h2 : ys.Pairwise fun a b => dataLe false Enc.enc a b = true) : xs = ys :=
  List.Perm.eq_of_pairwise (fun a b _ _ h1 h2 => le_anti a b h1 h2) h1 h2 hp
theorem sortT_of [i : SrtE α] {xs ys : List α} (hp : ys.Perm xs) (hs : ys.Pairwise fun a b => dataLe false Enc.enc a b = true) (h : xs.length ≤ 1000000) : sortT xs = some ys := by
  rw [sortT_ok h]
  have e := sortT_ok h
  rw [sort_one ((sortT_perm e).trans hp.symm) (sortT_sorted e) hs]
theorem le_int (a b : Int) : dataLe false (Enc.enc : Int → D) a b = decide (a ≤ b) := by
  have := PySem.W.dataLe_int (β := Int) id
  exact congrFun (congrFun this a) b
end
end VS

noncomputable section
namespace Ty
open PySem VS Lw L2
theorem r_law_is_broken_3 (suits : (List Suit)) (told : (List Bool)) (case_ : Int) (name : Tx) (more : (List (Int × Tx))) : SK [lv suits, lv told, dv case_, dv name, dv more] Lw.m_law_is_broken (t_law_is_broken suits told case_ name more) (fun r => (S.d (Enc.enc r))) (fun r => [lv suits, lv told, none, none, dv more]) XV := by
  unfold Lw.m_law_is_broken Lw.g_law_is_broken t_law_is_broken
  refine f_def (X' := XV) ?_ xe_no
  show SK [lv suits, lv told, dv case_, dv name, dv more, none] _ _ _ _ _
  refine s_seq ?_
  refine s_if (x := (memT ((case_, name) : (Int × Tx)) more)) (pu_B (pu_op (z := (Enc.enc ((memT ((case_, name) : (Int × Tx)) more) : Bool))) (pu_tup (pu_cons (pu_var (by rfl)) (pu_cons (pu_var (by rfl)) pu_nil)) (ln (n := 2) rfl)) (pu_peek (by rfl)) (in_l ((case_, name) : (Int × Tx)) more (by decide)))) ?_ ?_
  · refine s_ret ?_
    refine e_pu (pu_d (pu_c (d := Enc.enc true))) ?_
    exact f_rt rfl (mt_k (mt_k (mt_w (mt_w (mt_k mt_nil)))))
  · refine s_next ?_
    refine s_then ?_
    refine s_seq ?_
    refine s_forE ?_
    refine e_rng2 ?_
    refine e_pu (pu_cons (pu_fz (pu_op (z := (S.d (Enc.enc (case_ + (1 : Int))))) (pu_var (by rfl)) (pu_c (d := Enc.enc (1 : Int))) rfl)) (pu_cons (pu_un (z := (Enc.enc ((List.length suits : Nat) : Int))) (pu_peekL (by rfl)) (len_l _)) pu_nil)) ?_
    refine c_rng2 (m := (case_ + (1 : Int))) (n := ((List.length suits : Nat) : Int)) ?_
    refine c_forL (e := Enc.enc) (xs := ((rangeT2 (case_ + (1 : Int)) (Int.toNat (((List.length suits : Nat) : Int) - (case_ + (1 : Int))))) : (List Int))) (v := (() : Unit)) (fun v => [lv suits, lv told, dv case_, dv name, dv more, none]) (fun r => [lv suits, lv told, none, none, dv more, none]) (fun (r : Bool) => (S.d (Enc.enc r))) (fun i1 v => [lv suits, lv told, dv case_, dv name, dv more, dv i1]) (mt_k (mt_k (mt_k (mt_k (mt_k (mt_w mt_nil)))))) (fun i1 v => tg_name) (fun i1 v => ?_) (fun v => ?_) (fun r => ?_)
    · show SK [lv suits, lv told, dv case_, dv name, dv more, dv i1] _ _ _ _ _
      refine s_ifE ?_
      refine e_andL ?_
      refine e_B ?_
      refine e_ixP (by rfl) ?_
      refine e_pu (pu_var (by rfl)) ?_
      refine e_pu (pu_peekL (by rfl)) ?_
      refine e_oO (p := atI told i1) (f := Enc.enc) (ix_l told i1) (fun x2 => ?_)
      refine e_ok ?_
      refine c_and (x := x2) ?_ ?_
      · refine e_B ?_
        refine e_op ?_
        refine e_op ?_
        refine e_ixP (by rfl) ?_
        refine e_pu (pu_var (by rfl)) ?_
        refine e_pu (pu_peekL (by rfl)) ?_
        refine e_oO (p := atI suits i1) (f := Enc.enc) (ix_l suits i1) (fun x3 => ?_)
        refine e_pu (pu_c (d := Enc.enc (3 : Int))) ?_
        refine e_o (z := (Enc.enc x3.d)) rfl ?_
        refine e_pu (pu_tup (pu_cons (pu_var (by rfl)) (pu_cons (pu_var (by rfl)) pu_nil)) (ln (n := 2) rfl)) ?_
        refine e_o (z := (Enc.enc ((decide (x3.d = (some (case_, name)))) : Bool))) (eq_opt x3.d ((some (case_, name)) : (Option (Int × Tx)))) ?_
        refine e_ok ?_
        refine s_ite (x := (decide (x3.d = (some (case_, name))))) ?_ ?_
        · refine s_ret ?_
          refine e_pu (pu_d (pu_c (d := Enc.enc true))) ?_
          exact k_ok rfl (mt_k (mt_k (mt_w (mt_w (mt_k (mt_w mt_nil))))))
        · refine s_next ?_
          exact k_ok rfl (mt_k (mt_k (mt_k (mt_k (mt_k (mt_w mt_nil))))))
      · refine s_iteF ?_
        refine s_next ?_
        exact k_ok rfl (mt_k (mt_k (mt_k (mt_k (mt_k (mt_w mt_nil))))))
    · show SK [lv suits, lv told, dv case_, dv name, dv more, none] _ _ _ _ _
      refine s_then ?_
      refine s_ret ?_
      refine e_pu (pu_d (pu_c (d := Enc.enc false))) ?_
      exact f_rt rfl (mt_k (mt_k (mt_w (mt_w (mt_k mt_nil)))))
    · revert r; intro r_
      show SK [lv suits, lv told, none, none, dv more, none] _ _ _ _ _
      exact f_rt rfl (mt_k (mt_k (mt_w (mt_w (mt_k mt_nil)))))
def t_law_oaths_2 (suits : (List Suit)) : T Empty ((List (Int × Tx)) × (List Suit)) :=
  (T.forM (enT 0 suits) (([] : List (Int × Tx)) : (List (Int × Tx))) (fun (i1 : (Int × Suit)) found3 => (((T.ofO (catT i1.2.a i1.2.b)).bind fun x4 =>
  (T.forM x4 (found3 : (List (Int × Tx))) (fun (i5 : Oath) found7 => ((T.gd (found7.length < sizeLine) <|
  .ok (found7 ++ [(i1.1, i5.1)])) : T Empty ((List (Int × Tx)))))).bind fun found7 =>
  .ok found7) : T Empty ((List (Int × Tx)))))).bind fun found3 =>
  (T.ofO (sortT found3)).bind fun x8 =>
  .ok (x8, suits)
theorem r_law_oaths_2 (suits : (List Suit)) : SK [lv suits] Lw.m_law_oaths (t_law_oaths_2 suits) (fun r => (S.ol (List.map Enc.enc r.1))) (fun r => [dv r.2]) XV := by
  unfold Lw.m_law_oaths Lw.g_law_oaths t_law_oaths_2
  refine f_def (X' := XV) ?_ xe_no
  show SK [lv suits, none, none, none, none, none, none, none, none] _ _ _ _ _
  refine s_seq ?_
  refine s_asg ?_
  refine e_pu (pu_lst pu_nil (ln (n := 0) rfl)) ?_
  refine s_set rfl ?_
  refine s_then ?_
  refine s_seq ?_
  refine s_forE ?_
  refine e_enum ?_
  refine e_cons ?_
  refine e_varF (by rfl) ?_
  refine e_pu pu_nil ?_
  refine c_enum (xs := suits) ?_
  refine c_for (e := Enc.enc) (xs := ((enT 0 suits) : (List (Int × Suit)))) (v := ([] : List (Int × Tx))) (fun v => [dv suits, lv v, none, none, none, none, none, none, none]) (fun i1 v => [dv suits, lv v, dv i1.1, dv i1.2.a, dv i1.2.b, dv i1.2.c, dv i1.2.d, none, none]) (mt_k (mt_k (mt_w (mt_w (mt_w (mt_w (mt_w (mt_w (mt_w mt_nil))))))))) (fun i1 v => (tg_tup (tgs_cons tg_name (tgs_cons (tg_tup (tgs_cons tg_name (tgs_cons tg_name (tgs_cons tg_name (tgs_cons tg_name tgs_nil)))) rfl) tgs_nil)) rfl)) (fun i1 v => ?_) (fun v => ?_)
  · revert v; intro found3
    show SK [dv suits, lv found3, dv i1.1, dv i1.2.a, dv i1.2.b, dv i1.2.c, dv i1.2.d, none, none] _ _ _ _ _
    refine s_forE ?_
    refine e_items ?_
    refine e_fz ?_
    refine e_op ?_
    refine e_pu (pu_var (by rfl)) ?_
    refine e_pu (pu_var (by rfl)) ?_
    refine e_oO (p := catT i1.2.a i1.2.b) (f := (fun z => S.ol (List.map Enc.enc z))) (cat_l i1.2.a i1.2.b) (fun x4 => ?_)
    refine e_ok ?_
    refine e_ok ?_
    refine c_for (e := Enc.enc) (xs := x4) (v := found3) (fun v => [dv suits, lv v, dv i1.1, dv i1.2.a, dv i1.2.b, dv i1.2.c, dv i1.2.d, none, none]) (fun i5 v => [dv suits, lv v, dv i1.1, dv i1.2.a, dv i1.2.b, dv i1.2.c, dv i1.2.d, dv i5.1, dv i5.2]) (mt_k (mt_k (mt_k (mt_k (mt_k (mt_k (mt_k (mt_w (mt_w mt_nil))))))))) (fun i5 v => (tg_tup (tgs_cons tg_name (tgs_cons tg_name tgs_nil)) rfl)) (fun i5 v => ?_) (fun v => ?_)
    · revert v; intro found7
      show SK [dv suits, lv found7, dv i1.1, dv i1.2.a, dv i1.2.b, dv i1.2.c, dv i1.2.d, dv i5.1, dv i5.2] _ _ _ _ _
      refine s_drop ?_
      refine e_app (by rfl) ?_
      refine e_pu (pu_tup (pu_cons (pu_var (by rfl)) (pu_cons (pu_var (by rfl)) pu_nil)) (ln (n := 2) rfl)) ?_
      refine c_app (xs := found7) (x := ((i1.1, i5.1) : (Int × Tx))) (by rfl) rfl ?_
      exact k_ok rfl (mt_k (mt_k (mt_k (mt_k (mt_k (mt_k (mt_k (mt_w (mt_w mt_nil)))))))))
    revert v; intro found7
    show SK [dv suits, lv found7, dv i1.1, dv i1.2.a, dv i1.2.b, dv i1.2.c, dv i1.2.d, none, none] _ _ _ _ _
    exact k_ok rfl (mt_k (mt_k (mt_w (mt_w (mt_w (mt_w (mt_w (mt_w (mt_w mt_nil)))))))))
  revert v; intro found3
  show SK [dv suits, lv found3, none, none, none, none, none, none, none] _ _ _ _ _
  refine s_then ?_
  refine s_ret ?_
  refine e_un ?_
  refine e_pu (pu_peekL (by rfl)) ?_
  refine e_oO (p := sortT found3) (f := (fun z => S.ol (List.map Enc.enc z))) (sort_l _) (fun x8 => ?_)
  exact f_rt rfl (mt_k mt_nil)
def t_naming (suits : (List Suit)) (case_ : Int) (name : Tx) : T Empty ((List Int)) :=
  (T.lcp (enT 0 suits) (fun (i1 : (Int × Suit)) => (decide (i1.2.d = (some (case_, name))))) (fun i1 => i1.1)).bind fun l2 =>
  .ok l2
theorem r_naming (suits : (List Suit)) (case_ : Int) (name : Tx) : SK [dv suits, dv case_, dv name] Lw.m_naming (t_naming suits case_ name) (fun r => (S.ol (List.map Enc.enc r))) (fun r => [dv suits, none, none]) XV := by
  unfold Lw.m_naming Lw.g_naming t_naming
  refine f_def (X' := XV) ?_ xe_no
  show SK [dv suits, dv case_, dv name, none, none] _ _ _ _ _
  refine s_ret ?_
  refine e_lcE ?_
  refine e_enum ?_
  refine e_pu (pu_cons (pu_var (by rfl)) pu_nil) ?_
  refine c_enum (xs := suits) ?_
  refine c_lcp (e := Enc.enc) (xs := ((enT 0 suits) : (List (Int × Suit)))) (p := fun (i1 : (Int × Suit)) => (decide (i1.2.d = (some (case_, name))))) (h := fun i1 => i1.1) [dv suits, dv case_, dv name, none, none] (fun i1 => [dv suits, dv case_, dv name, dv i1.1, dv i1.2]) (mt_k (mt_k (mt_k (mt_w (mt_w mt_nil))))) (fun i1 => (tg_tup (tgs_cons tg_name (tgs_cons tg_name tgs_nil)) rfl)) (fun i1 => (pu_B (pu_op (z := (Enc.enc ((decide (i1.2.d = (some (case_, name)))) : Bool))) (pu_ixP (z := (Enc.enc i1.2.d)) (by rfl) (pu_c (d := Enc.enc (3 : Int))) rfl) (pu_tup (pu_cons (pu_var (by rfl)) (pu_cons (pu_var (by rfl)) pu_nil)) (ln (n := 2) rfl)) (eq_opt i1.2.d ((some (case_, name)) : (Option (Int × Tx))))))) (fun i1 => (pu_var (by rfl))) (fun i1 => (mt_k (mt_k (mt_k (mt_w (mt_w mt_nil)))))) (fun l2 => ?_)
  exact f_rt rfl (mt_k (mt_w (mt_w mt_nil)))
end Ty

namespace VS
open PySem L2
section
variable {ε α β ν : Type}
end
section
variable {κ α : Type} [DecidableEq κ]
def NdK (d : Dt κ α) : Prop := (d.map (·.1)).Nodup
theorem ndk_put {d : Dt κ α} (h : NdK d) (k : κ) (v : α) : NdK (dput d k v) := by
  unfold NdK dput at *
  split
  · have : (d.map fun p => if p.1 = k then (p.1, v) else p).map (·.1) = d.map (·.1) := by
      rw [List.map_map]
      refine List.map_congr_left fun p _ => ?_
      show (if p.1 = k then (p.1, v) else p).1 = p.1
      split <;> rfl
    rw [this]
    exact h
  · rename_i hn
    rw [List.map_append, List.nodup_append]
    refine ⟨h, by simp, fun a ha b hb => ?_⟩
    simp at hb
    subst hb
    obtain ⟨p, hp, rfl⟩ := List.mem_map.mp ha
    exact fun z => hn (List.any_eq_true.mpr ⟨p, hp, by simp [z]⟩)
end
end VS
namespace Ty
open PySem VS L2
open PySem.W (dataLe)
def oathsOf (us : List Suit) : List (Int × Tx) := (enT 0 us).flatMap fun p => (namesOf p.2).map fun n => (p.1, n)
theorem mem_oaths {us : List Suit} {c : Int} {n : Tx} : (c, n) ∈ oathsOf us ↔ ∃ (j : Nat) (u : Suit), c = j ∧ us[j]? = some u ∧ n ∈ namesOf u := by
  unfold oathsOf
  rw [List.mem_flatMap]
  constructor
  · rintro ⟨p, hp, hq⟩
    obtain ⟨j, hj, e⟩ := List.getElem_of_mem hp
    have e' := List.getElem?_eq_some_iff.mpr ⟨hj, e⟩
    rw [enT_get] at e'
    obtain ⟨x, hx, rfl⟩ := Option.map_eq_some_iff.mp e'
    obtain ⟨m, hm, e2⟩ := List.mem_map.mp hq
    cases e2
    rw [Nat.zero_add]
    exact ⟨j, x, rfl, hx, hm⟩
  · rintro ⟨j, u, rfl, hu, hn⟩
    refine ⟨((j : Int), u), ?_, List.mem_map.mpr ⟨n, hn, rfl⟩⟩
    refine List.mem_of_getElem? (i := j) ?_
    rw [enT_get, hu, Nat.zero_add]
    rfl
theorem oaths_nodup {us : List Suit} (hs : ∀ u ∈ us, (namesOf u).Nodup) : ∀ i : Nat, ((enT i us).flatMap fun p => (namesOf p.2).map fun n => (p.1, n)).Nodup := by
  induction us with
  | nil => intro i; exact List.nodup_nil
  | cons u us ih =>
    intro i
    show (List.flatMap _ (((i : Int), u) :: enT (i + 1) us)).Nodup
    rw [List.flatMap_cons, List.nodup_append]
    refine ⟨?_, ih (fun w hw => hs w (List.mem_cons_of_mem _ hw)) (i + 1), ?_⟩
    · rw [List.Nodup, List.pairwise_map]
      exact List.Pairwise.imp (fun h z => h (by cases z; rfl)) (hs u List.mem_cons_self)
    · intro a ha b hb z
      subst z
      obtain ⟨n, _, rfl⟩ := List.mem_map.mp ha
      obtain ⟨p, hp, hq⟩ := List.mem_flatMap.mp hb
      obtain ⟨m, _, e⟩ := List.mem_map.mp hq
      have e1 : p.1 = (i : Int) := congrArg Prod.fst e
      obtain ⟨j, hj, e2⟩ := List.getElem_of_mem hp
      have e3 := List.getElem?_eq_some_iff.mpr ⟨hj, e2⟩
      rw [enT_get] at e3
      obtain ⟨x, hx, e4⟩ := Option.map_eq_some_iff.mp e3
      rw [← e4] at e1
      dsimp only at e1
      omega
theorem SOk.nd {us : List Suit} (hs : SOk us) : ∀ u ∈ us, (namesOf u).Nodup := fun u hu => (hs.side u hu).1.nd
theorem namesOf_len {us : List Suit} (hs : SOk us) {u : Suit} (hu : u ∈ us) : (namesOf u).length ≤ 24 := by
  unfold namesOf
  rw [List.length_map]
  exact (hs.side u hu).2.1
theorem law_oaths_loop {us : List Suit} (hs : SOk us) : ∃ f, (T.forM (enT 0 us) (([] : List (Int × Tx)) : (List (Int × Tx))) (fun (i1 : (Int × Suit)) found3 => (((T.ofO (catT i1.2.a i1.2.b)).bind fun x4 =>
  (T.forM x4 (found3 : (List (Int × Tx))) (fun (i5 : Oath) found7 => ((T.gd (found7.length < sizeLine) <|
  .ok (found7 ++ [(i1.1, i5.1)])) : T Empty ((List (Int × Tx)))))).bind fun found7 =>
  .ok found7) : T Empty ((List (Int × Tx)))))) = .ok f ∧ f = oathsOf us := by
  have hl := hs.len
  have key := forM_post (ε := Empty) (xs := enT 0 us) (v := ([] : List (Int × Tx))) (f := fun (i1 : (Int × Suit)) found3 => (((T.ofO (catT i1.2.a i1.2.b)).bind fun x4 =>
    (T.forM x4 (found3 : (List (Int × Tx))) (fun (i5 : Oath) found7 => ((T.gd (found7.length < sizeLine) <|
    .ok (found7 ++ [(i1.1, i5.1)])) : T Empty ((List (Int × Tx)))))).bind fun found7 =>
    .ok found7) : T Empty ((List (Int × Tx))))) (fun pre found => found = pre.flatMap (fun p => (namesOf p.2).map fun n => (p.1, n)) ∧ found.length ≤ 24 * pre.length) ⟨rfl, Nat.le_refl _⟩ ?_
  · obtain ⟨f, e, h, _⟩ := key
    exact ⟨f, e, h⟩
  · rintro pre x post found hx ⟨h1, h2⟩
    obtain ⟨x1, x2, x3⟩ := enT_at hx
    have hm : x.2 ∈ us := List.mem_of_getElem? x2
    have hz := hs.sz hm
    refine post_ofO (catT_ok (by omega)) ?_
    refine post_bind (P := fun v => v = found ++ (namesOf x.2).map fun n => (x.1, n)) ?_ fun v hv => post_ok ?_
    · refine post_imp (forM_post (fun p2 v => v = found ++ p2.map fun o : Oath => (x.1, o.1)) (by simp) ?_) fun v hv => ?_
      · rintro p2 o q2 v ho rfl
        have hlen := congrArg List.length ho
        rw [List.length_append, List.length_append, List.length_cons] at hlen
        refine post_gd (szl _ (by rw [List.length_append, List.length_map]; omega)) (post_ok ?_)
        rw [List.map_append, List.append_assoc]
        rfl
      · rw [hv]
        unfold namesOf
        rw [List.map_map]
        rfl
    · subst hv
      have hn := namesOf_len hs hm
      refine ⟨by rw [List.flatMap_append, h1]; simp, ?_⟩
      rw [List.length_append, List.length_append, List.length_map, List.length_singleton]
      omega
theorem oaths_len {us : List Suit} (hs : SOk us) : (oathsOf us).length ≤ 1440 := by
  have go : ∀ (l : List (Int × Suit)), (∀ p ∈ l, (namesOf p.2).length ≤ 24) → (l.flatMap fun p => (namesOf p.2).map fun n => (p.1, n)).length ≤ 24 * l.length := by
    intro l
    induction l with
    | nil => intro _; exact Nat.le_refl _
    | cons p l ih =>
      intro h
      have h1 := h p List.mem_cons_self
      have h2 := ih fun q hq => h q (List.mem_cons_of_mem _ hq)
      rw [List.flatMap_cons, List.length_append, List.length_map, List.length_cons]
      omega
  have := go (enT 0 us) fun p hp => by
    obtain ⟨j, hj, e⟩ := List.getElem_of_mem hp
    have e' := List.getElem?_eq_some_iff.mpr ⟨hj, e⟩
    rw [enT_get] at e'
    obtain ⟨x, hx, rfl⟩ := Option.map_eq_some_iff.mp e'
    exact namesOf_len hs (List.mem_of_getElem? hx)
  rw [enT_len] at this
  have hl := hs.len
  unfold oathsOf
  omega
structure Oaths (us : List Suit) (ol : List (Int × Tx)) : Prop where
  srt : ol.Pairwise fun a b => dataLe false Enc.enc a b = true
  perm : ol.Perm (oathsOf us)
theorem law_oaths2_spec {us : List Suit} (hs : SOk us) : (t_law_oaths_2 us).Post fun p => Oaths us p.1 ∧ p.2 = us := by
  unfold t_law_oaths_2
  obtain ⟨f, e, rfl⟩ := law_oaths_loop hs
  have hl := oaths_len hs
  rw [e, T.ok_bind]
  have e2 := sortT_ok (xs := oathsOf us) (by omega)
  refine post_ofO e2 (post_ok ⟨⟨sortT_sorted e2, sortT_perm e2⟩, rfl⟩)
theorem Oaths.mem {us : List Suit} {ol : List (Int × Tx)} (h : Oaths us ol) {k : Int × Tx} : k ∈ ol ↔ k ∈ oathsOf us := h.perm.mem_iff
theorem Oaths.nd {us : List Suit} (hs : SOk us) {ol : List (Int × Tx)} (h : Oaths us ol) : ol.Nodup := h.perm.nodup_iff.mpr (oaths_nodup hs.nd 0)
theorem naming_eq {us : List Suit} (hl : us.length ≤ 1000000) (c : Int) (n : Tx) : t_naming us c n = .ok ((rangeT us.length).filter fun i => decide ((us[i.toNat]?).bind (·.d) = some (c, n))) := by
  unfold t_naming
  rw [lcp_ok (by rw [enT_len]; exact hl), T.ok_bind]
  congr 1
  have go : ∀ (us : List Suit) (i : Nat) (f : Int → Option Suit), (∀ j : Nat, f ((i + j : Nat) : Int) = us[j]?) → ((enT i us).filter fun i1 => decide (i1.2.d = some (c, n))).map (·.1) = (rangeT2 (i : Int) us.length).filter fun x => decide ((f x).bind (·.d) = some (c, n)) := by
    intro us
    induction us with
    | nil => intro i f _; rfl
    | cons u us ih =>
      intro i f hf
      have e : rangeT2 (i : Int) (u :: us).length = (i : Int) :: rangeT2 ((i + 1 : Nat) : Int) us.length := by
        unfold rangeT2
        rw [List.length_cons, List.range_succ_eq_map, List.map_cons, List.map_map]
        congr 1
        refine List.map_congr_left fun x _ => ?_
        show (i : Int) + ((x + 1 : Nat) : Int) = ((i + 1 : Nat) : Int) + (x : Int)
        omega
      have h0 : f (i : Int) = some u := by
        have := hf 0
        simpa using this
      have ih' := ih (i + 1) f fun j => by
        have := hf (j + 1)
        rw [show i + 1 + j = i + (j + 1) by omega]
        simpa using this
      show (List.filter _ (((i : Int), u) :: enT (i + 1) us)).map _ = _
      rw [e, List.filter_cons, List.filter_cons, h0]
      dsimp only [Option.bind_some]
      by_cases h : u.d = some (c, n)
      · rw [if_pos (by simp [h]), if_pos (by simp [h]), List.map_cons, ih']
      · rw [if_neg (by simp [h]), if_neg (by simp [h]), ih']
  have := go us 0 (fun x => us[x.toNat]?) fun j => by rw [Nat.zero_add, Int.toNat_natCast]
  have e2 : rangeT2 ((0 : Nat) : Int) us.length = rangeT us.length := by
    unfold rangeT2 rangeT
    refine List.map_congr_left fun x _ => ?_
    show ((0 : Nat) : Int) + (x : Int) = (x : Int)
    omega
  rw [e2] at this
  exact this
end Ty
namespace Lw
open VS Ty
end Lw

noncomputable section
namespace Ty
open PySem VS Lw L2
def t_law_margin_v2 (suits : (List Suit)) (told : (List Bool)) (case_ : Int) (more : (List (Int × Tx))) : T Empty (Int) :=
  (T.ofO (atI suits case_)).bind fun x1 =>
  (T.forM x1.a (((0 : Int) - x1.c) : Int) (fun (i2 : Oath) found4 => (((t_law_is_broken suits told case_ i2.1 more).bind fun r5 =>
  if (!r5) = true then (.ok (found4 + i2.2)) else (.ok found4)) : T Empty (Int)))).bind fun found4 =>
  (T.forM x1.b (found4 : Int) (fun (i6 : Oath) found8 => (((t_law_is_broken suits told case_ i6.1 more).bind fun r9 =>
  if (!r9) = true then (.ok (found8 - i6.2)) else (.ok found8)) : T Empty (Int)))).bind fun found8 =>
  .ok found8
end Ty

namespace Ty
open PySem VS L2
theorem law_margin2_eq {us : List Suit} (hs : SOk us) {told : List Bool} (hl : told.length = us.length) {c : Nat} {u : Suit} (hu : us[c]? = some u) (more : List (Int × Tx)) : t_law_margin_v2 us told c more = .ok (margB u c fun k => memT k more || brkB us told k) := law_margin_eq hs hl hu more
end Ty
namespace Lw
open VS Ty
end Lw

namespace VS
open PySem L2
section
variable {α β γ κ ε ν ω : Type} {A A' : LS} {t : T ε β} {F : β → ω} {B : β → LS} {X : ε → LS}
def optS [Enc α] (o : Option (List α)) : S := match o with
  | none => .d .none
  | some xs => .ol (xs.map Enc.enc)
theorem e_varO [Enc α] {i : Nat} {o : Option (List α)} {k : D → LS → R ω} (h : A[i]? = some (some (optS o))) (h2 : SK (A.set i (dv o)) (k (Enc.enc o)) t F B X) : SK A (fun L => (gVar i L).bind k) t F B X := fun L hL => by
  show SimR ((gVar i L).bind k) t F B X
  unfold gVar
  rw [hL.2 i _ h]
  cases o with
  | none =>
    have h3 := h2 (L.set i (dv (none : Option (List α)))) (hL.set i _)
    have e : L.set i (dv (none : Option (List α))) = L := by
      have hl := hL.2 i _ h
      refine List.ext_getElem? fun j => ?_
      by_cases hj : i = j
      · subst hj
        rw [List.getElem?_set_self (List.getElem?_eq_some_iff.mp hl).1]
        exact hl.symm
      · rw [List.getElem?_set_ne hj]
    rw [e] at h3
    exact h3
  | some xs => exact h2 _ (hL.set i _)
def ordT (b : Bool) (x y : α × Int) : Bool := if b then decide (y.2 ≤ x.2) else decide (x.2 ≤ y.2)
section
variable [DecidableEq κ] [Enc κ] [Enc α]
end
end
end VS

namespace VS
open PySem PySem.Spec PyProof.Rows L2
section
variable {ε ε' α β γ κ ω : Type} {A : LS} {t : T ε β} {F : β → ω} {B : β → LS} {X : ε → LS}
theorem k_some {k : LS → R ω} {a : α} {t' : α → T ε β} (h : SK A k (t' a) F B X) : SK A k ((T.ofO (some a)).bind t') F B X := h
theorem pu_onS {f : S → Option γ} {g : LS → R S} {s : S} {z : γ} (h : Pu A g s) (hf : f s = some z) : Pu A (gOnS f g) z := fun L hL => by
  show (g L).bind (fun s L1 => ofO (f s) L1) = _
  rw [h L hL, R.bind_ok, hf]
  rfl
theorem sCopy_k [Enc1 κ] [Enc α] (d : Dt κ α) : sCopy (.odK (enc1 d)) = some (.odK (enc1 d)) := rfl
theorem kD_k1 [Enc κ] [Enc1 κ] [i : KD1 κ] (x : κ) : kD (Enc1.k1 x) = (Enc.enc x : D) := by
  have h := i.eq x
  generalize Enc1.k1 x = k at h
  generalize (Enc.enc x : D) = d at h
  cases d <;> cases h <;> rfl
theorem itemsK_enc [Enc κ] [Enc1 κ] [KD1 κ] [Enc α] (d : Dt κ α) : itemsK (enc1 d) = d.map (Enc.enc : κ × α → D) := by
  unfold itemsK enc1
  rw [List.map_map]
  refine List.map_congr_left fun p _ => ?_
  show PyData.tuple [kD (Enc1.k1 p.1), Enc.enc p.2] = _
  rw [kD_k1]
  rfl
theorem e_itemsK {g : LS → R S} {k : List D → LS → R ω} (h : SK A (fun L => (g L).bind fun s L1 => (asItemsK s L1).bind k) t F B X) : SK A (fun L => ((g L).bind asItemsK).bind k) t F B X := e_bind h
theorem c_itemsK [Enc κ] [Enc1 κ] [KD1 κ] [Enc α] {d : Dt κ α} {k : List D → LS → R ω} (h : SK A (k (d.map Enc.enc)) t F B X) : SK A (fun L => (asItemsK (.odK (enc1 d)) L).bind k) t F B X := fun L hL => by
  have h := h L hL
  show SimR ((R.ok (itemsK (enc1 d)) L).bind k) t F B X
  rw [itemsK_enc]
  exact h
theorem pu_dlit [Enc κ] [Enc1 κ] [i : KD1 κ] [Enc α] {ga gb : LS → R D} {x : κ} {z : α} (h1 : Pu A ga (Enc.enc x)) (h2 : Pu A gb (Enc.enc z)) : Pu A (gDlit ga gb) (.odK (enc1 ([(x, z)] : Dt κ α))) := fun L hL => by
  show (ga L).bind (fun d L1 => (gb L1).bind fun e L2 => dlit1 d e L2) = _
  rw [h1 L hL, R.bind_ok, h2 L hL, R.bind_ok]
  unfold dlit1
  rw [i.eq x]
  rfl
end
end VS

namespace VS
open PySem PySem.Spec PyProof.Rows L2
section
variable {ε ε' α β γ κ ω : Type} {A : LS} {t : T ε β} {F : β → ω} {B : β → LS} {X : ε → LS}
theorem pu_isO [Enc α] {i : Nat} {o : Option (List α)} (h : A[i]? = some (some (optS o))) : Pu A (gOp dIs (gPeek i) (gC .none)) (Enc.enc o.isNone) := fun L hL => by
  have h1 := hL.2 i _ h
  show (gPeek i L).bind (fun d L1 => (R.ok PyData.none L1 : R D).bind fun e L2 => ofO (dIs d e) L2) = _
  unfold gPeek
  rw [h1]
  cases o <;> rfl
theorem pu_isNO [Enc α] {i : Nat} {o : Option (List α)} (h : A[i]? = some (some (optS o))) : Pu A (gOp dIsN (gPeek i) (gC .none)) (Enc.enc o.isSome) := fun L hL => by
  have h1 := hL.2 i _ h
  show (gPeek i L).bind (fun d L1 => (R.ok PyData.none L1 : R D).bind fun e L2 => ofO (dIsN d e) L2) = _
  unfold gPeek
  rw [h1]
  cases o <;> rfl
theorem pu_isiL [Enc α] {g : LS → R D} {o : Option (List α)} (h : Pu A g (Enc.enc o)) : Pu A (gIsi "list" g) (Enc.enc o.isSome) := fun L hL => by
  show (g L).bind (fun d L1 => ofO (isTy "list" d) L1) = _
  rw [h L hL, R.bind_ok]
  have e1 : kitB "list" "list" = some true := by decide +kernel
  have e2 : kitB "NoneType" "list" = some false := by decide +kernel
  cases o with
  | none =>
    show ofO ((kitB "NoneType" "list").map PyData.bool) L = _
    rw [e2]
    rfl
  | some xs =>
    show ofO ((kitB "list" "list").map PyData.bool) L = _
    rw [e1]
    rfl
theorem c_frO [Enc α] {o : Option (List α)} {k : D → LS → R ω} (h : SK A (k (Enc.enc o)) t F B X) : SK A (fun L => (frS (optS o) L).bind k) t F B X := fun L hL => by
  have h1 := h L hL
  cases o with
  | none => exact h1
  | some xs => exact h1
def cntE {α : Type} [DecidableEq α] (xs : List α) (x : α) : Int := ((xs.countP fun z => decide (z = x) : Nat) : Int)
theorem cnt_l {α : Type} [Enc α] [DecidableEq α] [i : Sh α] (xs : List α) (x : α) (h : i.dep ≤ 63 := by decide) : dCountD (.list (xs.map Enc.enc)) (Enc.enc x) = some (Enc.enc (cntE xs x)) := by
  have h1 : SeqAt.shaped (.list (xs.map Enc.enc)) = true := sh_ok (α := List α) (by show i.dep + 1 ≤ 64; omega) xs
  have h2 : SeqAt.shaped (Enc.enc x) = true := sh_ok (by omega) x
  show (if SeqAt.shaped (.list (xs.map Enc.enc)) = true ∧ SeqAt.shaped (Enc.enc x) = true then some (PyData.int (((xs.map Enc.enc).countP fun z => PyData.eqv z (Enc.enc x) : Nat) : Int)) else none) = _
  rw [if_pos ⟨h1, h2⟩, List.countP_map]
  have : ((fun z => PyData.eqv z (Enc.enc x)) ∘ (Enc.enc : α → D)) = fun z => decide (z = x) := funext fun z => i.eqv z x
  rw [this]
  rfl
theorem e_countD {ga gb : LS → R D} {ds : List D} {k : D → LS → R ω} (h : Pu A ga (.list ds)) (h2 : SK A (fun L => (gb L).bind fun e L2 => (ofO (dCountD (.list ds) e) L2).bind k) t F B X) : SK A (fun L => (gCountD ga gb L).bind k) t F B X := fun L hL => by
  have h3 := h2 L hL
  show SimR (((ga L).bind (cntDL gb)).bind k) t F B X
  rw [h L hL, R.bind_ok]
  show SimR (((gb L).bind fun e L2 => ofO (dCountD (.list ds) e) L2).bind k) t F B X
  rw [bind_assoc']
  exact h3
theorem intsR2_T (lo : Int) (m : Nat) : intsR2 lo m = ((rangeT2 lo m).reverse).map (Enc.enc : Int → D) := by
  unfold intsR2
  rw [intsD_T2, List.map_reverse]
theorem e_rvr2 {g : LS → R (List D)} {k : List D → LS → R ω} (h : SK A (fun L => (g L).bind fun ds L1 => (rvr2 ds L1).bind k) t F B X) : SK A (fun L => ((g L).bind rvr2).bind k) t F B X := e_bind h
theorem c_rvr2 {m n : Int} {k : List D → LS → R ω} (h : SK A (k (((rangeT2 m (n - m).toNat).reverse).map Enc.enc)) t F B X) : SK A (fun L => (rvr2 [Enc.enc m, Enc.enc n] L).bind k) (T.gd (inR m ∧ inR n) t) F B X := k_gd fun hn L hL => by
  have h := h L hL
  show SimR ((if -(2 ^ 62) ≤ m ∧ m < 2 ^ 62 ∧ -(2 ^ 62) ≤ n ∧ n < 2 ^ 62 then R.ok (intsR2 m (n - m).toNat) L else .stuck).bind k) t F B X
  rw [if_pos ⟨(inR_of hn.1).1, (inR_of hn.1).2, (inR_of hn.2).1, (inR_of hn.2).2⟩, intsR2_T]
  exact h
end
end VS

noncomputable section
namespace Ty
open PySem VS Lw L2
def t_claims (suits : (List Suit)) (case_ : Int) (stands : Bool) (marks : Marks) : T Empty ((List Oath)) :=
  (T.ofO (atI suits case_)).bind fun x1 =>
  (T.lcp x1.a (fun (i2 : Oath) => (decide (((!(dget marks (case_, i2.1)).isSome) : Bool) = stands))) (fun i2 => i2)).bind fun l3 =>
  (T.lcp x1.b (fun (i4 : Oath) => (decide ((((dget marks (case_, i4.1)).isSome) : Bool) = stands))) (fun i4 => i4)).bind fun l5 =>
  (T.ofO (catT l3 l5)).bind fun x6 =>
  .ok x6
theorem r_claims (suits : (List Suit)) (case_ : Int) (stands : Bool) (marks : Marks) : SK [dv suits, dv case_, dv stands, tv marks] Lw.m_claims (t_claims suits case_ stands marks) (fun r => (S.ol (List.map Enc.enc r))) (fun r => [dv suits, none, none, tv marks]) XV := by
  unfold Lw.m_claims Lw.g_claims t_claims
  refine f_def (X' := XV) ?_ xe_no
  show SK [dv suits, dv case_, dv stands, tv marks, none, none, none, none, none, none] _ _ _ _ _
  refine s_seq ?_
  refine s_asgTE ?_
  refine e_ixP (by rfl) ?_
  refine e_pu (pu_var (by rfl)) ?_
  refine e_pu (pu_peek (by rfl)) ?_
  refine e_oO (p := atI suits case_) (f := Enc.enc) (ix_l suits case_) (fun x1 => ?_)
  refine s_asgTQ (tg_tup (tgs_cons tg_name (tgs_cons tg_name (tgs_cons tg_name (tgs_cons tg_name tgs_nil)))) rfl) ?_
  refine s_then ?_
  refine s_seq ?_
  refine s_asg ?_
  refine e_lcE ?_
  refine e_items ?_
  refine e_pu (pu_var (by rfl)) ?_
  refine e_ok ?_
  refine c_lcp (e := Enc.enc) (xs := x1.a) (p := fun (i2 : Oath) => (decide (((!(dget marks (case_, i2.1)).isSome) : Bool) = stands))) (h := fun i2 => i2) [dv suits, dv case_, dv stands, tv marks, dv x1.a, dv x1.b, dv x1.c, dv x1.d, none, none] (fun i2 => [dv suits, dv case_, dv stands, tv marks, dv x1.a, dv x1.b, dv x1.c, dv x1.d, none, dv i2]) (mt_k (mt_k (mt_k (mt_k (mt_k (mt_k (mt_k (mt_k (mt_w (mt_w mt_nil)))))))))) (fun i2 => tg_name) (fun i2 => (pu_B (pu_op (z := (Enc.enc ((decide (((!(dget marks (case_, i2.1)).isSome) : Bool) = stands)) : Bool))) (pu_dinT (d := marks) (x := ((case_, i2.1) : (Int × Tx))) (by rfl) (pu_tup (pu_cons (pu_var (by rfl)) (pu_cons (pu_ixP (z := (Enc.enc i2.1)) (by rfl) (pu_c (d := Enc.enc (0 : Int))) rfl) pu_nil)) (ln (n := 2) rfl))) (pu_peek (by rfl)) (eq_enc ((!(dget marks (case_, i2.1)).isSome) : Bool) stands)))) (fun i2 => (pu_var (by rfl))) (fun i2 => (mt_k (mt_k (mt_k (mt_k (mt_k (mt_k (mt_k (mt_k (mt_w (mt_w mt_nil))))))))))) (fun l3 => ?_)
  refine s_set rfl ?_
  refine s_then ?_
  refine s_ret ?_
  refine e_op ?_
  refine e_varF (by rfl) ?_
  refine e_fz ?_
  refine e_lcE ?_
  refine e_items ?_
  refine e_pu (pu_var (by rfl)) ?_
  refine e_ok ?_
  refine c_lcp (e := Enc.enc) (xs := x1.b) (p := fun (i4 : Oath) => (decide ((((dget marks (case_, i4.1)).isSome) : Bool) = stands))) (h := fun i4 => i4) [dv suits, dv case_, dv stands, tv marks, dv x1.a, dv x1.b, dv x1.c, dv x1.d, dv l3, none] (fun i4 => [dv suits, dv case_, dv stands, tv marks, dv x1.a, dv x1.b, dv x1.c, dv x1.d, dv l3, dv i4]) (mt_k (mt_k (mt_k (mt_k (mt_k (mt_k (mt_k (mt_k (mt_k (mt_w mt_nil)))))))))) (fun i4 => tg_name) (fun i4 => (pu_B (pu_op (z := (Enc.enc ((decide ((((dget marks (case_, i4.1)).isSome) : Bool) = stands)) : Bool))) (pu_dinT (d := marks) (x := ((case_, i4.1) : (Int × Tx))) (by rfl) (pu_tup (pu_cons (pu_var (by rfl)) (pu_cons (pu_ixP (z := (Enc.enc i4.1)) (by rfl) (pu_c (d := Enc.enc (0 : Int))) rfl) pu_nil)) (ln (n := 2) rfl))) (pu_peek (by rfl)) (eq_enc (((dget marks (case_, i4.1)).isSome) : Bool) stands)))) (fun i4 => (pu_var (by rfl))) (fun i4 => (mt_k (mt_k (mt_k (mt_k (mt_k (mt_k (mt_k (mt_k (mt_k (mt_w mt_nil))))))))))) (fun l5 => ?_)
  refine e_ok ?_
  refine e_oO (p := catT l3 l5) (f := (fun z => S.ol (List.map Enc.enc z))) (cat_l l3 l5) (fun x6 => ?_)
  exact f_rt rfl (mt_k (mt_w (mt_w (mt_k mt_nil))))
end Ty

namespace VS
open PySem L2
end VS
namespace Ty
open PySem VS L2
abbrev Ent := Tp3 Int Bool (List Tx)
def goalB (u : Suit) (st : Bool) : Int := if st = true then u.c + sumW u.b else sumW u.a - u.c + 1
def fairB (u : Suit) (st : Bool) (names : List Tx) : Bool := decide (names.Nodup) && (names.all fun n => memT n (namesOf u)) && decide (goalB u st ≤ sumW ((u.a ++ u.b).filter fun o => memT o.1 names))
end Ty

namespace Ty
open PySem VS L2
def namersOf (us : List Suit) (c : Int) (n : Tx) : List Int := (rangeT us.length).filter fun i => decide ((us[i.toNat]?).bind (·.d) = some (c, n))
def bornB (us : List Suit) (says : Dt Int Bool) (u : Suit) (e : Ent) (n : Tx) : Bool := if (decide (memT n (u.a.map (·.1)) = e.b)) = true then (namersOf us e.a n).all fun i => decide (dget says i = some false) else (namersOf us e.a n).any fun i => decide (dget says i = some true)
theorem namers_len (us : List Suit) (c : Int) (n : Tx) : (namersOf us c n).length ≤ us.length := by
  unfold namersOf
  exact Nat.le_trans (List.length_filter_le ..) (by rw [rangeT_len]; exact Nat.le_refl _)
end Ty

namespace Ty
open PySem VS L2
end Ty

namespace Ty
open PySem VS L2
end Ty

namespace Ty
open PySem VS L2
end Ty

namespace Ty
open PySem VS L2
end Ty

namespace Ty
open PySem VS L2
def fewN (goal : Int) : List Oath → Int → Nat
  | [], _ => 0
  | o :: os, r => if goal ≤ r then 0 else fewN goal os (r + o.2) + 1
theorem sumW_cons (o : Oath) (os : List Oath) : sumW (o :: os) = o.2 + sumW os := by
  unfold sumW
  rw [List.map_cons, List.sum_cons]
theorem sumW_app (xs ys : List Oath) : sumW (xs ++ ys) = sumW xs + sumW ys := by
  unfold sumW
  rw [List.map_append, List.sum_append]
def hvy (side : List Oath) : List Oath := side.mergeSort (ordT true)
def fewT (side : List Oath) (goal : Int) : List Tx := ((hvy side).take (fewN goal (hvy side) 0)).map (·.1)
def trueB (b : Int × Tx → Bool) (u : Suit) (c : Int) (st : Bool) : List Oath := (u.a.filter fun o => decide ((!b (c, o.1)) = st)) ++ (u.b.filter fun o => decide (b (c, o.1) = st))
theorem trueB_len (b : Int × Tx → Bool) (u : Suit) (c : Int) (st : Bool) : (trueB b u c st).length ≤ u.a.length + u.b.length := by
  unfold trueB
  rw [List.length_append]
  exact Nat.add_le_add (List.length_filter_le ..) (List.length_filter_le ..)
theorem trueB_sub (b : Int × Tx → Bool) (u : Suit) (c : Int) (st : Bool) : (trueB b u c st).Sublist (u.a ++ u.b) := by
  unfold trueB
  exact List.Sublist.append List.filter_sublist List.filter_sublist
theorem filter_not_sum (p : Oath → Bool) (zs : List Oath) : sumW (zs.filter fun o => !p o) = sumW zs - sumW (zs.filter p) := by
  induction zs with
  | nil => rfl
  | cons o zs ih =>
    rw [List.filter_cons, List.filter_cons, sumW_cons]
    cases p o with
    | true =>
      simp only [Bool.not_true, Bool.false_eq_true, if_false, if_true]
      rw [sumW_cons, ih]
      omega
    | false =>
      simp only [Bool.not_false, Bool.false_eq_true, if_false, if_true]
      rw [sumW_cons, ih]
      omega
theorem claims_eq {us : List Suit} {c : Int} {u : Suit} (hu : atI us c = some u) (h1 : u.a.length ≤ 1000) (h2 : u.b.length ≤ 1000) (st : Bool) (ms : Marks) : t_claims us c st ms = .ok (trueB (fun k => (dget ms k).isSome) u c st) := by
  unfold t_claims
  rw [hu, ofO_some', lcp_ok (by omega), T.ok_bind, lcp_ok (by omega), T.ok_bind]
  have e : ∀ l : List Oath, l.map (fun i => i) = l := fun l => List.map_id _
  rw [e, e, catT_ok, ofO_some']
  · rfl
  · have a1 := List.length_filter_le (fun (i2 : Oath) => decide ((!(dget ms (c, i2.1)).isSome) = st)) u.a
    have a2 := List.length_filter_le (fun (i4 : Oath) => decide (((dget ms (c, i4.1)).isSome) = st)) u.b
    omega
end Ty

namespace Ty
open PySem VS L2
def askN (us : List Suit) (told : List Bool) (u : Suit) (c : Int) (st : Bool) (n : Tx) : List Int := if (decide (memT n (u.a.map (·.1)) = st)) = true then namersOf us c n else ((namersOf us c n).filter fun i => decide (told[i.toNat]? = some true)).take 1
theorem mem_namers {us : List Suit} {c : Int} {n : Tx} {i : Int} : i ∈ namersOf us c n ↔ ∃ (j : Nat) (u : Suit), i = (j : Int) ∧ us[j]? = some u ∧ u.d = some (c, n) := by
  unfold namersOf
  rw [List.mem_filter, mem_rangeT, decide_eq_true_eq]
  constructor
  · rintro ⟨⟨h0, h1⟩, h⟩
    obtain ⟨j, rfl⟩ := Int.eq_ofNat_of_zero_le h0
    rw [Int.toNat_natCast] at h
    obtain ⟨u, hu, hd⟩ := Option.bind_eq_some_iff.mp h
    exact ⟨j, u, rfl, hu, hd⟩
  · rintro ⟨j, u, rfl, hu, hd⟩
    have := (List.getElem?_eq_some_iff.mp hu).1
    refine ⟨by omega, ?_⟩
    rw [Int.toNat_natCast, hu]
    exact hd
theorem rangeT_nodup (n : Nat) : (rangeT n).Nodup := by
  unfold rangeT List.Nodup
  rw [List.pairwise_map]
  exact List.nodup_range.imp fun h z => h (by omega)
theorem namers_nodup (us : List Suit) (c : Int) (n : Tx) : (namersOf us c n).Nodup := (rangeT_nodup _).sublist List.filter_sublist
def askE (us : List Suit) (told : List Bool) (u : Suit) (e : Ent) : List Int := e.c.flatMap (askN us told u e.a e.b)
def papE (us : List Suit) (told : List Bool) (c : Int) : Ent := match atI us c, atI told c with
  | some u, some st => Tp3.mk c st (fewT (trueB (brkB us told) u c st) (goalB u st))
  | _, _ => Tp3.mk c false []
def askP (us : List Suit) (told : List Bool) (c : Int) : List Int := match atI us c with
  | some u => askE us told u (papE us told c)
  | none => []
theorem nodup_bound : ∀ (n : Nat) (ks : List Int), ks.Nodup → (∀ k ∈ ks, 0 ≤ k ∧ k < n) → ks.length ≤ n
  | 0, ks, _, h => by
    cases ks with
    | nil => exact Nat.le_refl _
    | cons k ks => have := h k List.mem_cons_self; omega
  | n + 1, ks, hn, h => by
    have := nodup_bound n (ks.erase (n : Int)) (hn.erase _) fun k hk => by
      have h1 := h k (List.mem_of_mem_erase hk)
      have h2 : k ≠ (n : Int) := fun z => by
        subst z
        exact hn.not_mem_erase hk
      omega
    have := List.le_length_erase (a := (n : Int)) (l := ks)
    omega
end Ty

namespace Ty
open PySem VS L2
structure WOk (us : List Suit) (told : List Bool) (c : Int) (ks ws : List Int) : Prop where
  nd : (ks ++ ws).Nodup
  rg : ∀ x ∈ ks ++ ws, 0 ≤ x ∧ x < us.length
  ge : ∀ x ∈ ks ++ ws, c ≤ x
  src : ∀ x ∈ ks ++ ws, x = c ∨ ∃ y ∈ ks, x ∈ askP us told y
  cl : ∀ y ∈ ks, ∀ x ∈ askP us told y, x ∈ ks ++ ws
  has : c ∈ ks ++ ws
structure PapOk (us : List Suit) (told : List Bool) (c : Int) (ks : List Int) : Prop where
  nd : (c :: ks).Nodup
  rg : ∀ x ∈ c :: ks, 0 ≤ x ∧ x < us.length
  src : ∀ x ∈ ks, ∃ y ∈ c :: ks, x ∈ askP us told y
  cl : ∀ y ∈ c :: ks, ∀ x ∈ askP us told y, x ∈ ks
  up : ks.Pairwise fun a b => a ≤ b
end Ty

namespace VS
open PySem L2
end VS
namespace Ty
open PySem VS L2
structure BOk (n m : Nat) (es : List Ent) : Prop where
  len : es.length ≤ n
  nm : ∀ e ∈ es, e.c.length ≤ m
end Ty

namespace Ty
open PySem VS L2
def saysOf (es : List Ent) : Dt Int Bool := es.map fun e => (e.a, e.b)
structure GoodP (us : List Suit) (c : Int) (st : Bool) (es : List Ent) : Prop where
  nd : (es.map (·.a)).Nodup
  ent : ∀ e ∈ es, ∃ (j : Nat) (u : Suit), e.a = (j : Int) ∧ us[j]? = some u ∧ fairB u e.b e.c = true ∧ e.c.all (bornB us (saysOf es) u e) = true
  says : dget (saysOf es) c = some st
end Ty

namespace Ty
open PySem VS L2
end Ty
namespace Lw
open VS Ty
end Lw

noncomputable section
namespace Ty
open PySem VS Lw L2
end Ty

namespace Ty
open PySem VS L2
theorem sumW_filter_split (p q : Oath → Bool) (zs : List Oath) : sumW (zs.filter p) = sumW (zs.filter fun o => p o && q o) + sumW (zs.filter fun o => p o && !q o) := by
  induction zs with
  | nil => rfl
  | cons o zs ih =>
    rw [List.filter_cons, List.filter_cons, List.filter_cons]
    cases p o <;> cases q o <;> simp only [Bool.false_and, Bool.true_and, Bool.false_eq_true, if_false, if_true, Bool.not_true, Bool.not_false, sumW_cons] <;> omega
theorem sumW_nonneg {zs : List Oath} (h : ∀ z ∈ zs, 0 ≤ z.2) : 0 ≤ sumW zs := by
  induction zs with
  | nil => exact Int.le_refl _
  | cons o zs ih =>
    rw [sumW_cons]
    have h1 := h o List.mem_cons_self
    have h2 := ih fun z hz => h z (List.mem_cons_of_mem _ hz)
    omega
end Ty

namespace Ty
open PySem VS L2
end Ty
namespace Lw
open VS Ty
end Lw

noncomputable section
namespace Ty
open PySem VS Lw L2
end Ty

namespace Ty
open PySem VS L2
theorem few_claims {u : Suit} {b : Int × Tx → Bool} {c : Int} {st : Bool} (hs : SideOk (u.a ++ u.b)) {n : Tx} (hn : n ∈ (trueB b u c st).map (·.1)) : b (c, n) = !decide (memT n (u.a.map (·.1)) = st) := by
  obtain ⟨o, ho, rfl⟩ := List.mem_map.mp hn
  unfold trueB at ho
  have hnd := hs.nd
  rw [List.map_append, List.nodup_append] at hnd
  rcases List.mem_append.mp ho with h | h
  · obtain ⟨h1, h2⟩ := List.mem_filter.mp h
    have h3 : memT o.1 (u.a.map (·.1)) = true := (memT_iff _ _).mpr (List.mem_map.mpr ⟨o, h1, rfl⟩)
    rw [h3]
    have h2 := of_decide_eq_true h2
    rw [← h2]
    cases b (c, o.1) <;> rfl
  · obtain ⟨h1, h2⟩ := List.mem_filter.mp h
    have h3 : memT o.1 (u.a.map (·.1)) = false := by
      rw [Bool.eq_false_iff]
      intro z
      exact hnd.2.2 _ ((memT_iff _ _).mp z) _ (List.mem_map.mpr ⟨o, h1, rfl⟩) rfl
    rw [h3]
    have h2 := of_decide_eq_true h2
    rw [← h2]
    cases b (c, o.1) <;> rfl
end Ty

namespace Ty
open PySem VS L2
end Ty
namespace Lw
open VS Ty
end Lw

noncomputable section
namespace Ty
open PySem VS Lw L2
theorem r_law_margin_v2_2 (suits : (List Suit)) (told : (List Bool)) (case_ : Int) (more : (List (Int × Tx))) : SK [lv suits, lv told, dv case_, dv more] Lw.m_law_margin_v2 (t_law_margin_v2 suits told case_ more) (fun r => (S.d (Enc.enc r))) (fun r => [lv suits, lv told, none, dv more]) XV := by
  unfold Lw.m_law_margin_v2 Lw.g_law_margin_v2 t_law_margin_v2
  refine f_def (X' := XV) ?_ xe_no
  show SK [lv suits, lv told, dv case_, dv more, none, none, none, none, none, none, none] _ _ _ _ _
  refine s_seq ?_
  refine s_asgTE ?_
  refine e_ixP (by rfl) ?_
  refine e_pu (pu_var (by rfl)) ?_
  refine e_pu (pu_peekL (by rfl)) ?_
  refine e_oO (p := atI suits case_) (f := Enc.enc) (ix_l suits case_) (fun x1 => ?_)
  refine s_asgTQ (tg_tup (tgs_cons tg_name (tgs_cons tg_name (tgs_cons tg_name (tgs_cons tg_name tgs_nil)))) rfl) ?_
  refine s_then ?_
  refine s_seq ?_
  refine s_asg ?_
  refine e_pu (pu_d (pu_op (z := (Enc.enc (((0 : Int) - x1.c) : Int))) (pu_c (d := Enc.enc (0 : Int))) (pu_var (by rfl)) rfl)) ?_
  refine s_set rfl ?_
  refine s_then ?_
  refine s_seq ?_
  refine s_forE ?_
  refine e_items ?_
  refine e_pu (pu_var (by rfl)) ?_
  refine e_ok ?_
  refine c_for (e := Enc.enc) (xs := x1.a) (v := ((0 : Int) - x1.c)) (fun v => [lv suits, lv told, dv case_, dv more, dv x1.a, dv x1.b, dv x1.c, dv x1.d, dv v, none, none]) (fun i2 v => [lv suits, lv told, dv case_, dv more, dv x1.a, dv x1.b, dv x1.c, dv x1.d, dv v, dv i2.1, dv i2.2]) (mt_k (mt_k (mt_k (mt_k (mt_k (mt_k (mt_k (mt_k (mt_k (mt_w (mt_w mt_nil))))))))))) (fun i2 v => (tg_tup (tgs_cons tg_name (tgs_cons tg_name tgs_nil)) rfl)) (fun i2 v => ?_) (fun v => ?_)
  · revert v; intro found4
    show SK [lv suits, lv told, dv case_, dv more, dv x1.a, dv x1.b, dv x1.c, dv x1.d, dv found4, dv i2.1, dv i2.2] _ _ _ _ _
    refine s_ifE ?_
    refine e_not ?_
    refine e_B ?_
    refine e_fz ?_
    refine e_call ?_
    refine a_r (by rfl) ?_
    refine a_r (by rfl) ?_
    refine a_d ?_
    refine e_pu (pu_var (by rfl)) ?_
    refine a_d ?_
    refine e_pu (pu_var (by rfl)) ?_
    refine a_r (by rfl) ?_
    refine a_nil ?_
    refine c_call (by show List.Nodup [0, 1, 3]; decide) rfl (r_law_is_broken_3 suits told case_ i2.1 more) xe_no ?_
    rintro r5
    show SK [lv suits, lv told, dv case_, dv more, dv x1.a, dv x1.b, dv x1.c, dv x1.d, dv found4, dv i2.1, dv i2.2] _ _ _ _ _
    refine e_ok ?_
    refine e_ok ?_
    refine s_ite (x := (!r5)) ?_ ?_
    · refine s_asg ?_
      refine e_pu (pu_op (z := (S.d (Enc.enc (found4 + i2.2 : Int)))) (pu_var (by rfl)) (pu_var (by rfl)) rfl) ?_
      refine s_set rfl ?_
      exact k_ok rfl (mt_k (mt_k (mt_k (mt_k (mt_k (mt_k (mt_k (mt_k (mt_k (mt_w (mt_w mt_nil)))))))))))
    · refine s_next ?_
      exact k_ok rfl (mt_k (mt_k (mt_k (mt_k (mt_k (mt_k (mt_k (mt_k (mt_k (mt_w (mt_w mt_nil)))))))))))
  revert v; intro found4
  show SK [lv suits, lv told, dv case_, dv more, dv x1.a, dv x1.b, dv x1.c, dv x1.d, dv found4, none, none] _ _ _ _ _
  refine s_then ?_
  refine s_seq ?_
  refine s_forE ?_
  refine e_items ?_
  refine e_pu (pu_var (by rfl)) ?_
  refine e_ok ?_
  refine c_for (e := Enc.enc) (xs := x1.b) (v := found4) (fun v => [lv suits, lv told, dv case_, dv more, dv x1.a, dv x1.b, dv x1.c, dv x1.d, dv v, none, none]) (fun i6 v => [lv suits, lv told, dv case_, dv more, dv x1.a, dv x1.b, dv x1.c, dv x1.d, dv v, dv i6.1, dv i6.2]) (mt_k (mt_k (mt_k (mt_k (mt_k (mt_k (mt_k (mt_k (mt_k (mt_w (mt_w mt_nil))))))))))) (fun i6 v => (tg_tup (tgs_cons tg_name (tgs_cons tg_name tgs_nil)) rfl)) (fun i6 v => ?_) (fun v => ?_)
  · revert v; intro found8
    show SK [lv suits, lv told, dv case_, dv more, dv x1.a, dv x1.b, dv x1.c, dv x1.d, dv found8, dv i6.1, dv i6.2] _ _ _ _ _
    refine s_ifE ?_
    refine e_not ?_
    refine e_B ?_
    refine e_fz ?_
    refine e_call ?_
    refine a_r (by rfl) ?_
    refine a_r (by rfl) ?_
    refine a_d ?_
    refine e_pu (pu_var (by rfl)) ?_
    refine a_d ?_
    refine e_pu (pu_var (by rfl)) ?_
    refine a_r (by rfl) ?_
    refine a_nil ?_
    refine c_call (by show List.Nodup [0, 1, 3]; decide) rfl (r_law_is_broken_3 suits told case_ i6.1 more) xe_no ?_
    rintro r9
    show SK [lv suits, lv told, dv case_, dv more, dv x1.a, dv x1.b, dv x1.c, dv x1.d, dv found8, dv i6.1, dv i6.2] _ _ _ _ _
    refine e_ok ?_
    refine e_ok ?_
    refine s_ite (x := (!r9)) ?_ ?_
    · refine s_asg ?_
      refine e_pu (pu_d (pu_op (z := (Enc.enc ((found8 - i6.2) : Int))) (pu_var (by rfl)) (pu_var (by rfl)) rfl)) ?_
      refine s_set rfl ?_
      exact k_ok rfl (mt_k (mt_k (mt_k (mt_k (mt_k (mt_k (mt_k (mt_k (mt_k (mt_w (mt_w mt_nil)))))))))))
    · refine s_next ?_
      exact k_ok rfl (mt_k (mt_k (mt_k (mt_k (mt_k (mt_k (mt_k (mt_k (mt_k (mt_w (mt_w mt_nil)))))))))))
  revert v; intro found8
  show SK [lv suits, lv told, dv case_, dv more, dv x1.a, dv x1.b, dv x1.c, dv x1.d, dv found8, none, none] _ _ _ _ _
  refine s_then ?_
  refine s_ret ?_
  refine e_move (by rfl) (by intro _ h; cases h) ?_
  exact f_rt rfl (mt_k (mt_k (mt_w (mt_k mt_nil))))
def t_law_settle (suits : (List Suit)) (more : (List (Int × Tx))) : T Empty ((List Bool)) :=
  (T.ofO (repT (([false] : List Bool) : (List Bool)) ((List.length suits : Nat) : Int))).bind fun x1 =>
  T.gd (inR ((List.length suits : Nat) : Int)) <|
  (T.forM ((rangeT (Int.toNat ((List.length suits : Nat) : Int))).reverse) (x1 : (List Bool)) (fun (i2 : Int) told4 => (((t_law_margin_v2 suits told4 i2 more).bind fun r5 =>
  (T.ofO (setT told4 i2 (decide ((0 : Int) ≤ r5)))).bind fun told6 =>
  .ok told6) : T Empty ((List Bool))))).bind fun told4 =>
  .ok told4
theorem r_law_settle (suits : (List Suit)) (more : (List (Int × Tx))) : SK [lv suits, dv more] Lw.m_law_settle (t_law_settle suits more) (fun r => (S.ol (List.map Enc.enc r))) (fun r => [lv suits, none]) XV := by
  unfold Lw.m_law_settle Lw.g_law_settle t_law_settle
  refine f_def (X' := XV) ?_ xe_no
  show SK [lv suits, dv more, none, none] _ _ _ _ _
  refine s_seq ?_
  refine s_asg ?_
  refine e_op ?_
  refine e_pu (pu_fzL (pu_lst (pu_cons (pu_c (d := Enc.enc false)) pu_nil) (ln (n := 1) rfl))) ?_
  refine e_pu (pu_un (z := (Enc.enc ((List.length suits : Nat) : Int))) (pu_peekL (by rfl)) (len_l _)) ?_
  refine e_oO (p := repT (([false] : List Bool) : (List Bool)) ((List.length suits : Nat) : Int)) (f := (fun z => S.ol (List.map Enc.enc z))) (rep_l (([false] : List Bool) : (List Bool)) ((List.length suits : Nat) : Int)) (fun x1 => ?_)
  refine s_set rfl ?_
  refine s_then ?_
  refine s_seq ?_
  refine s_forE ?_
  refine e_rvr1 ?_
  refine e_pu (pu_un (z := (Enc.enc ((List.length suits : Nat) : Int))) (pu_peekL (by rfl)) (len_l _)) ?_
  refine c_rvr1 (n := ((List.length suits : Nat) : Int)) ?_
  refine c_for (e := Enc.enc) (xs := (((rangeT (Int.toNat ((List.length suits : Nat) : Int))).reverse) : (List Int))) (v := x1) (fun v => [lv suits, dv more, lv v, none]) (fun i2 v => [lv suits, dv more, lv v, dv i2]) (mt_k (mt_k (mt_k (mt_w mt_nil)))) (fun i2 v => tg_name) (fun i2 v => ?_) (fun v => ?_)
  · revert v; intro told4
    show SK [lv suits, dv more, lv told4, dv i2] _ _ _ _ _
    refine s_setIx ?_
    refine e_op ?_
    refine e_fz ?_
    refine e_call ?_
    refine a_r (by rfl) ?_
    refine a_r (by rfl) ?_
    refine a_d ?_
    refine e_pu (pu_var (by rfl)) ?_
    refine a_r (by rfl) ?_
    refine a_nil ?_
    refine c_call (by show List.Nodup [0, 2, 1]; decide) rfl (r_law_margin_v2_2 suits told4 i2 more) xe_no ?_
    rintro r5
    show SK [lv suits, dv more, lv told4, dv i2] _ _ _ _ _
    refine e_ok ?_
    refine e_pu (pu_c (d := Enc.enc (0 : Int))) ?_
    refine e_o (z := (Enc.enc ((decide ((0 : Int) ≤ r5)) : Bool))) rfl ?_
    refine c_setIx (xs := told4) (x := ((decide ((0 : Int) ≤ r5)) : Bool)) (by rfl) (pu_var (by rfl)) (fun told6 => ?_)
    exact k_ok rfl (mt_k (mt_k (mt_k (mt_w mt_nil))))
  revert v; intro told4
  show SK [lv suits, dv more, lv told4, none] _ _ _ _ _
  refine s_then ?_
  refine s_ret ?_
  refine e_move (by rfl) (by intro _ h; cases h) ?_
  exact f_rt rfl (mt_k (mt_w mt_nil))
theorem r_law_margin_v2_3 (suits : (List Suit)) (told : (List Bool)) (case_ : Int) (more : (List (Int × Tx))) : SK [dv suits, lv told, dv case_, dv more] Lw.m_law_margin_v2 (t_law_margin_v2 suits told case_ more) (fun r => (S.d (Enc.enc r))) (fun r => [dv suits, lv told, none, dv more]) XV := by
  unfold Lw.m_law_margin_v2 Lw.g_law_margin_v2 t_law_margin_v2
  refine f_def (X' := XV) ?_ xe_no
  show SK [dv suits, lv told, dv case_, dv more, none, none, none, none, none, none, none] _ _ _ _ _
  refine s_seq ?_
  refine s_asgTE ?_
  refine e_ixP (by rfl) ?_
  refine e_pu (pu_var (by rfl)) ?_
  refine e_pu (pu_peek (by rfl)) ?_
  refine e_oO (p := atI suits case_) (f := Enc.enc) (ix_l suits case_) (fun x1 => ?_)
  refine s_asgTQ (tg_tup (tgs_cons tg_name (tgs_cons tg_name (tgs_cons tg_name (tgs_cons tg_name tgs_nil)))) rfl) ?_
  refine s_then ?_
  refine s_seq ?_
  refine s_asg ?_
  refine e_pu (pu_d (pu_op (z := (Enc.enc (((0 : Int) - x1.c) : Int))) (pu_c (d := Enc.enc (0 : Int))) (pu_var (by rfl)) rfl)) ?_
  refine s_set rfl ?_
  refine s_then ?_
  refine s_seq ?_
  refine s_forE ?_
  refine e_items ?_
  refine e_pu (pu_var (by rfl)) ?_
  refine e_ok ?_
  refine c_for (e := Enc.enc) (xs := x1.a) (v := ((0 : Int) - x1.c)) (fun v => [dv suits, lv told, dv case_, dv more, dv x1.a, dv x1.b, dv x1.c, dv x1.d, dv v, none, none]) (fun i2 v => [dv suits, lv told, dv case_, dv more, dv x1.a, dv x1.b, dv x1.c, dv x1.d, dv v, dv i2.1, dv i2.2]) (mt_k (mt_k (mt_k (mt_k (mt_k (mt_k (mt_k (mt_k (mt_k (mt_w (mt_w mt_nil))))))))))) (fun i2 v => (tg_tup (tgs_cons tg_name (tgs_cons tg_name tgs_nil)) rfl)) (fun i2 v => ?_) (fun v => ?_)
  · revert v; intro found4
    show SK [dv suits, lv told, dv case_, dv more, dv x1.a, dv x1.b, dv x1.c, dv x1.d, dv found4, dv i2.1, dv i2.2] _ _ _ _ _
    refine s_ifE ?_
    refine e_not ?_
    refine e_B ?_
    refine e_fz ?_
    refine e_call ?_
    refine a_r (by rfl) ?_
    refine a_r (by rfl) ?_
    refine a_d ?_
    refine e_pu (pu_var (by rfl)) ?_
    refine a_d ?_
    refine e_pu (pu_var (by rfl)) ?_
    refine a_r (by rfl) ?_
    refine a_nil ?_
    refine c_call (by show List.Nodup [0, 1, 3]; decide) rfl (r_law_is_broken suits told case_ i2.1 more) xe_no ?_
    rintro r5
    show SK [dv suits, lv told, dv case_, dv more, dv x1.a, dv x1.b, dv x1.c, dv x1.d, dv found4, dv i2.1, dv i2.2] _ _ _ _ _
    refine e_ok ?_
    refine e_ok ?_
    refine s_ite (x := (!r5)) ?_ ?_
    · refine s_asg ?_
      refine e_pu (pu_op (z := (S.d (Enc.enc (found4 + i2.2 : Int)))) (pu_var (by rfl)) (pu_var (by rfl)) rfl) ?_
      refine s_set rfl ?_
      exact k_ok rfl (mt_k (mt_k (mt_k (mt_k (mt_k (mt_k (mt_k (mt_k (mt_k (mt_w (mt_w mt_nil)))))))))))
    · refine s_next ?_
      exact k_ok rfl (mt_k (mt_k (mt_k (mt_k (mt_k (mt_k (mt_k (mt_k (mt_k (mt_w (mt_w mt_nil)))))))))))
  revert v; intro found4
  show SK [dv suits, lv told, dv case_, dv more, dv x1.a, dv x1.b, dv x1.c, dv x1.d, dv found4, none, none] _ _ _ _ _
  refine s_then ?_
  refine s_seq ?_
  refine s_forE ?_
  refine e_items ?_
  refine e_pu (pu_var (by rfl)) ?_
  refine e_ok ?_
  refine c_for (e := Enc.enc) (xs := x1.b) (v := found4) (fun v => [dv suits, lv told, dv case_, dv more, dv x1.a, dv x1.b, dv x1.c, dv x1.d, dv v, none, none]) (fun i6 v => [dv suits, lv told, dv case_, dv more, dv x1.a, dv x1.b, dv x1.c, dv x1.d, dv v, dv i6.1, dv i6.2]) (mt_k (mt_k (mt_k (mt_k (mt_k (mt_k (mt_k (mt_k (mt_k (mt_w (mt_w mt_nil))))))))))) (fun i6 v => (tg_tup (tgs_cons tg_name (tgs_cons tg_name tgs_nil)) rfl)) (fun i6 v => ?_) (fun v => ?_)
  · revert v; intro found8
    show SK [dv suits, lv told, dv case_, dv more, dv x1.a, dv x1.b, dv x1.c, dv x1.d, dv found8, dv i6.1, dv i6.2] _ _ _ _ _
    refine s_ifE ?_
    refine e_not ?_
    refine e_B ?_
    refine e_fz ?_
    refine e_call ?_
    refine a_r (by rfl) ?_
    refine a_r (by rfl) ?_
    refine a_d ?_
    refine e_pu (pu_var (by rfl)) ?_
    refine a_d ?_
    refine e_pu (pu_var (by rfl)) ?_
    refine a_r (by rfl) ?_
    refine a_nil ?_
    refine c_call (by show List.Nodup [0, 1, 3]; decide) rfl (r_law_is_broken suits told case_ i6.1 more) xe_no ?_
    rintro r9
    show SK [dv suits, lv told, dv case_, dv more, dv x1.a, dv x1.b, dv x1.c, dv x1.d, dv found8, dv i6.1, dv i6.2] _ _ _ _ _
    refine e_ok ?_
    refine e_ok ?_
    refine s_ite (x := (!r9)) ?_ ?_
    · refine s_asg ?_
      refine e_pu (pu_d (pu_op (z := (Enc.enc ((found8 - i6.2) : Int))) (pu_var (by rfl)) (pu_var (by rfl)) rfl)) ?_
      refine s_set rfl ?_
      exact k_ok rfl (mt_k (mt_k (mt_k (mt_k (mt_k (mt_k (mt_k (mt_k (mt_k (mt_w (mt_w mt_nil)))))))))))
    · refine s_next ?_
      exact k_ok rfl (mt_k (mt_k (mt_k (mt_k (mt_k (mt_k (mt_k (mt_k (mt_k (mt_w (mt_w mt_nil)))))))))))
  revert v; intro found8
  show SK [dv suits, lv told, dv case_, dv more, dv x1.a, dv x1.b, dv x1.c, dv x1.d, dv found8, none, none] _ _ _ _ _
  refine s_then ?_
  refine s_ret ?_
  refine e_move (by rfl) (by intro _ h; cases h) ?_
  exact f_rt rfl (mt_k (mt_k (mt_w (mt_k mt_nil))))
theorem r_law_settle_2 (suits : (List Suit)) (more : (List (Int × Tx))) : SK [dv suits, dv more] Lw.m_law_settle (t_law_settle suits more) (fun r => (S.ol (List.map Enc.enc r))) (fun r => [dv suits, none]) XV := by
  unfold Lw.m_law_settle Lw.g_law_settle t_law_settle
  refine f_def (X' := XV) ?_ xe_no
  show SK [dv suits, dv more, none, none] _ _ _ _ _
  refine s_seq ?_
  refine s_asg ?_
  refine e_op ?_
  refine e_pu (pu_fzL (pu_lst (pu_cons (pu_c (d := Enc.enc false)) pu_nil) (ln (n := 1) rfl))) ?_
  refine e_pu (pu_un (z := (Enc.enc ((List.length suits : Nat) : Int))) (pu_peek (by rfl)) (len_l _)) ?_
  refine e_oO (p := repT (([false] : List Bool) : (List Bool)) ((List.length suits : Nat) : Int)) (f := (fun z => S.ol (List.map Enc.enc z))) (rep_l (([false] : List Bool) : (List Bool)) ((List.length suits : Nat) : Int)) (fun x1 => ?_)
  refine s_set rfl ?_
  refine s_then ?_
  refine s_seq ?_
  refine s_forE ?_
  refine e_rvr1 ?_
  refine e_pu (pu_un (z := (Enc.enc ((List.length suits : Nat) : Int))) (pu_peek (by rfl)) (len_l _)) ?_
  refine c_rvr1 (n := ((List.length suits : Nat) : Int)) ?_
  refine c_for (e := Enc.enc) (xs := (((rangeT (Int.toNat ((List.length suits : Nat) : Int))).reverse) : (List Int))) (v := x1) (fun v => [dv suits, dv more, lv v, none]) (fun i2 v => [dv suits, dv more, lv v, dv i2]) (mt_k (mt_k (mt_k (mt_w mt_nil)))) (fun i2 v => tg_name) (fun i2 v => ?_) (fun v => ?_)
  · revert v; intro told4
    show SK [dv suits, dv more, lv told4, dv i2] _ _ _ _ _
    refine s_setIx ?_
    refine e_op ?_
    refine e_fz ?_
    refine e_call ?_
    refine a_r (by rfl) ?_
    refine a_r (by rfl) ?_
    refine a_d ?_
    refine e_pu (pu_var (by rfl)) ?_
    refine a_r (by rfl) ?_
    refine a_nil ?_
    refine c_call (by show List.Nodup [0, 2, 1]; decide) rfl (r_law_margin_v2_3 suits told4 i2 more) xe_no ?_
    rintro r5
    show SK [dv suits, dv more, lv told4, dv i2] _ _ _ _ _
    refine e_ok ?_
    refine e_pu (pu_c (d := Enc.enc (0 : Int))) ?_
    refine e_o (z := (Enc.enc ((decide ((0 : Int) ≤ r5)) : Bool))) rfl ?_
    refine c_setIx (xs := told4) (x := ((decide ((0 : Int) ≤ r5)) : Bool)) (by rfl) (pu_var (by rfl)) (fun told6 => ?_)
    exact k_ok rfl (mt_k (mt_k (mt_k (mt_w mt_nil))))
  revert v; intro told4
  show SK [dv suits, dv more, lv told4, none] _ _ _ _ _
  refine s_then ?_
  refine s_ret ?_
  refine e_move (by rfl) (by intro _ h; cases h) ?_
  exact f_rt rfl (mt_k (mt_w mt_nil))
def t_oath_plan (suits : (List Suit)) (case_ : Int) (name : Tx) (marks : Marks) (told : (List Bool)) (plans : (List (Option (List (Int × Tx))))) : T Empty ((List (Int × Tx))) :=
  if (!(dget marks (case_, name)).isSome) = true then (.ok ([(case_, name)] : List (Int × Tx))) else ((t_naming suits case_ name).bind fun r1 =>
  (T.forM r1 (([] : List (Int × Tx)) : (List (Int × Tx))) (fun (i2 : Int) row4 => (((T.ofO (atI told i2)).bind fun x5 =>
  if x5 = true then ((T.ofO (atI plans i2)).bind fun x6 =>
  (T.ofO x6).bind fun u7 =>
  (T.ofO (catT row4 u7)).bind fun x8 =>
  .ok x8) else (.ok row4)) : T Empty ((List (Int × Tx)))))).bind fun row4 =>
  .ok row4)
def t_better (table : (Dt Int (Int × (List Int)))) (cost : Int) (gain : Int) : T Empty (Bool) :=
  if (!(dget table cost).isSome) = true then (.ok true) else ((T.ofO (dget table cost)).bind fun v1 =>
  .ok (decide (v1.1 < gain)))
theorem r_better (table : (Dt Int (Int × (List Int)))) (cost : Int) (gain : Int) : SK [kv table, dv cost, dv gain] Lw.m_better (t_better table cost gain) (fun r => (S.d (Enc.enc r))) (fun r => [kv table, none, none]) XV := by
  unfold Lw.m_better Lw.g_better t_better
  refine f_def (X' := XV) ?_ xe_no
  show SK [kv table, dv cost, dv gain] _ _ _ _ _
  refine s_seq ?_
  refine s_if (x := (!(dget table cost).isSome)) (pu_B (pu_dinK (d := table) (x := cost) (by rfl) (pu_var (by rfl)))) ?_ ?_
  · refine s_ret ?_
    refine e_pu (pu_d (pu_c (d := Enc.enc true))) ?_
    exact f_rt rfl (mt_k (mt_w (mt_w mt_nil)))
  · refine s_next ?_
    refine s_then ?_
    refine s_ret ?_
    refine e_d ?_
    refine e_op ?_
    refine e_op ?_
    refine e_dgetK (d := table) (x := cost) (by rfl) (pu_var (by rfl)) (fun v1 => ?_)
    refine e_pu (pu_c (d := Enc.enc (0 : Int))) ?_
    refine e_o (z := (Enc.enc v1.1)) rfl ?_
    refine e_pu (pu_peek (by rfl)) ?_
    refine e_o (z := (Enc.enc ((decide (v1.1 < gain)) : Bool))) rfl ?_
    exact f_rt rfl (mt_k (mt_w (mt_w mt_nil)))
def t_cheapest (offers : (List (Int × Int))) (goal : Int) : T Empty ((Option (List Int))) :=
  if (decide (goal < (1 : Int))) = true then (.ok (some ([] : List Int))) else ((T.forM (enT 0 offers) ([((0 : Int), ((0 : Int), ([] : List Int)))] : (Dt Int (Int × (List Int)))) (fun (i1 : (Int × (Int × Int))) table3 => (((T.forM table3 (table3 : (Dt Int (Int × (List Int)))) (fun (i4 : (Int × (Int × (List Int)))) grown6 => ((if (decide (goal ≤ i4.2.1)) = true then (.ok grown6) else ((t_better grown6 ((i4.1 + i1.2.1) : Int) ((i4.2.1 + i1.2.2) : Int)).bind fun r7 =>
  if r7 = true then ((T.ofO (catT i4.2.2 (([i1.1] : List Int) : (List Int)))).bind fun x8 =>
  T.gd (grown6.length < sizeLine) <|
  .ok (dput grown6 (i4.1 + i1.2.1) ((i4.2.1 + i1.2.2), x8))) else (.ok grown6))) : T Empty ((Dt Int (Int × (List Int))))))).bind fun grown6 =>
  .ok grown6) : T Empty ((Dt Int (Int × (List Int))))))).bind fun table3 =>
  (T.ofO (sortT (List.map (fun p => p.1) table3))).bind fun x9 =>
  T.bindL (T.forL x9 (() : Unit) (fun (i10 : Int) _ => (((T.ofO (dget table3 i10)).bind fun v11 =>
  if (decide (goal ≤ v11.1)) = true then ((T.ofO (dget table3 i10)).bind fun v12 =>
  .ok (.rt v12.2)) else (.ok (.nx ()))) : T Empty (T.Lp (Unit) ((List Int)))))) (fun _ =>
  .ok (none : (Option (List Int)))) (fun r_ => .ok (some r_)))
theorem r_cheapest (offers : (List (Int × Int))) (goal : Int) : SK [dv offers, dv goal] Lw.m_cheapest (t_cheapest offers goal) (fun r => (S.d (Enc.enc r))) (fun r => [none, none]) XV := by
  unfold Lw.m_cheapest Lw.g_cheapest t_cheapest
  refine f_def (X' := XV) ?_ xe_no
  show SK [dv offers, dv goal, none, none, none, none, none, none, none, none] _ _ _ _ _
  refine s_seq ?_
  refine s_if (x := (decide (goal < (1 : Int)))) (pu_B (pu_op (z := (Enc.enc ((decide (goal < (1 : Int))) : Bool))) (pu_peek (by rfl)) (pu_c (d := Enc.enc (1 : Int))) rfl)) ?_ ?_
  · refine s_ret ?_
    refine e_pu (pu_d (pu_fzL (pu_lst pu_nil (ln (n := 0) rfl)))) ?_
    exact f_rt rfl (mt_w (mt_w mt_nil))
  · refine s_next ?_
    refine s_then ?_
    refine s_seq ?_
    refine s_asg ?_
    refine e_pu (pu_dlit (x := ((0 : Int))) (z := (((0 : Int), ([] : List Int)) : (Int × (List Int)))) (pu_c (d := Enc.enc (0 : Int))) (pu_tup (pu_cons (pu_c (d := Enc.enc (0 : Int))) (pu_cons (pu_fzL (pu_lst pu_nil (ln (n := 0) rfl))) pu_nil)) (ln (n := 2) rfl))) ?_
    refine s_set rfl ?_
    refine s_then ?_
    refine s_seq ?_
    refine s_forE ?_
    refine e_enum ?_
    refine e_pu (pu_cons (pu_var (by rfl)) pu_nil) ?_
    refine c_enum (xs := offers) ?_
    refine c_for (e := Enc.enc) (xs := ((enT 0 offers) : (List (Int × (Int × Int))))) (v := [((0 : Int), ((0 : Int), ([] : List Int)))]) (fun v => [dv offers, dv goal, kv v, none, none, none, none, none, none, none]) (fun i1 v => [dv offers, dv goal, kv v, dv i1.1, dv i1.2.1, dv i1.2.2, none, none, none, none]) (mt_k (mt_k (mt_k (mt_w (mt_w (mt_w (mt_w (mt_w (mt_w (mt_w mt_nil)))))))))) (fun i1 v => (tg_tup (tgs_cons tg_name (tgs_cons (tg_tup (tgs_cons tg_name (tgs_cons tg_name tgs_nil)) rfl) tgs_nil)) rfl)) (fun i1 v => ?_) (fun v => ?_)
    · revert v; intro table3
      show SK [dv offers, dv goal, kv table3, dv i1.1, dv i1.2.1, dv i1.2.2, none, none, none, none] _ _ _ _ _
      refine s_seq ?_
      refine s_asg ?_
      refine e_pu (pu_onS (pu_lk (by rfl)) (sCopy_k table3)) ?_
      refine s_set rfl ?_
      refine s_then ?_
      refine s_seq ?_
      refine s_forE ?_
      refine e_itemsK ?_
      refine e_move (by rfl) (by intro _ h; cases h) ?_
      refine c_itemsK (d := table3) ?_
      refine c_for (e := Enc.enc) (xs := table3) (v := table3) (fun v => [dv offers, dv goal, none, dv i1.1, dv i1.2.1, dv i1.2.2, kv v, none, none, none]) (fun i4 v => [dv offers, dv goal, none, dv i1.1, dv i1.2.1, dv i1.2.2, kv v, dv i4.1, dv i4.2.1, dv i4.2.2]) (mt_k (mt_k (mt_w (mt_k (mt_k (mt_k (mt_k (mt_w (mt_w (mt_w mt_nil)))))))))) (fun i4 v => (tg_tup (tgs_cons tg_name (tgs_cons (tg_tup (tgs_cons tg_name (tgs_cons tg_name tgs_nil)) rfl) tgs_nil)) rfl)) (fun i4 v => ?_) (fun v => ?_)
      · revert v; intro grown6
        show SK [dv offers, dv goal, none, dv i1.1, dv i1.2.1, dv i1.2.2, kv grown6, dv i4.1, dv i4.2.1, dv i4.2.2] _ _ _ _ _
        refine s_seq ?_
        refine s_if (x := (decide (goal ≤ i4.2.1))) (pu_B (pu_op (z := (Enc.enc ((decide (goal ≤ i4.2.1)) : Bool))) (pu_peek (by rfl)) (pu_peek (by rfl)) rfl)) ?_ ?_
        · refine s_ct ?_
          exact k_ok rfl (mt_k (mt_k (mt_w (mt_k (mt_k (mt_k (mt_k (mt_w (mt_w (mt_w mt_nil))))))))))
        · refine s_next ?_
          refine s_then ?_
          refine s_ifE ?_
          refine e_B ?_
          refine e_fz ?_
          refine e_call ?_
          refine a_r (by rfl) ?_
          refine a_d ?_
          refine e_pu (pu_fz (pu_op (z := (S.d (Enc.enc (i4.1 + i1.2.1 : Int)))) (pu_var (by rfl)) (pu_var (by rfl)) rfl)) ?_
          refine a_d ?_
          refine e_pu (pu_fz (pu_op (z := (S.d (Enc.enc (i4.2.1 + i1.2.2 : Int)))) (pu_var (by rfl)) (pu_var (by rfl)) rfl)) ?_
          refine a_nil ?_
          refine c_call (by show List.Nodup [6]; decide) rfl (r_better grown6 ((i4.1 + i1.2.1)) ((i4.2.1 + i1.2.2))) xe_no ?_
          rintro r7
          show SK [dv offers, dv goal, none, dv i1.1, dv i1.2.1, dv i1.2.2, kv grown6, dv i4.1, dv i4.2.1, dv i4.2.2] _ _ _ _ _
          refine e_ok ?_
          refine e_ok ?_
          refine s_ite (x := r7) ?_ ?_
          · refine s_dput ?_
            refine e_tup ?_
            refine e_cons ?_
            refine e_pu (pu_fz (pu_op (z := (S.d (Enc.enc (i4.2.1 + i1.2.2 : Int)))) (pu_var (by rfl)) (pu_var (by rfl)) rfl)) ?_
            refine e_cons ?_
            refine e_fz ?_
            refine e_op ?_
            refine e_pu (pu_var (by rfl)) ?_
            refine e_pu (pu_fzL (pu_lst (pu_cons (pu_var (by rfl)) pu_nil) (ln (n := 1) rfl))) ?_
            refine e_oO (p := catT i4.2.2 (([i1.1] : List Int) : (List Int))) (f := (fun z => S.ol (List.map Enc.enc z))) (cat_l i4.2.2 (([i1.1] : List Int) : (List Int))) (fun x8 => ?_)
            refine e_ok ?_
            refine e_pu pu_nil ?_
            refine e_iteP (lnS (n := 2) rfl) ?_
            refine e_ok ?_
            refine s_dputk (by rfl) ?_
            refine e_pu (pu_fz (pu_op (z := (S.d (Enc.enc (i4.1 + i1.2.1 : Int)))) (pu_var (by rfl)) (pu_var (by rfl)) rfl)) ?_
            refine c_dputK (d := grown6) (x := ((i4.1 + i1.2.1) : Int)) (z := (((i4.2.1 + i1.2.2), x8) : (Int × (List Int)))) (by rfl) rfl ?_
            exact k_ok rfl (mt_k (mt_k (mt_w (mt_k (mt_k (mt_k (mt_k (mt_w (mt_w (mt_w mt_nil))))))))))
          · refine s_next ?_
            exact k_ok rfl (mt_k (mt_k (mt_w (mt_k (mt_k (mt_k (mt_k (mt_w (mt_w (mt_w mt_nil))))))))))
      revert v; intro grown6
      show SK [dv offers, dv goal, none, dv i1.1, dv i1.2.1, dv i1.2.2, kv grown6, none, none, none] _ _ _ _ _
      refine s_then ?_
      refine s_asg ?_
      refine e_move (by rfl) (by intro _ h; cases h) ?_
      refine s_set rfl ?_
      exact k_ok rfl (mt_k (mt_k (mt_k (mt_w (mt_w (mt_w (mt_w (mt_w (mt_w (mt_w mt_nil))))))))))
    revert v; intro table3
    show SK [dv offers, dv goal, kv table3, none, none, none, none, none, none, none] _ _ _ _ _
    refine s_then ?_
    refine s_seq ?_
    refine s_forE ?_
    refine e_items ?_
    refine e_fz ?_
    refine e_onS ?_
    refine e_pu (pu_lk (by rfl)) ?_
    refine e_oO (p := sortT (List.map (fun p => p.1) table3)) (f := fun z => S.ol (List.map Enc.enc z)) (sortS_k _) (fun x9 => ?_)
    refine e_ok ?_
    refine e_ok ?_
    refine c_forL (e := Enc.enc) (xs := x9) (v := (() : Unit)) (fun v => [dv offers, dv goal, kv table3, none, none, none, none, none, none, none]) (fun r => [none, none, none, none, none, none, none, none, none, none]) (fun (r : (List Int)) => (S.d (Enc.enc r))) (fun i10 v => [dv offers, dv goal, kv table3, none, none, none, none, dv i10, none, none]) (mt_k (mt_k (mt_k (mt_w (mt_w (mt_w (mt_w (mt_w (mt_w (mt_w mt_nil)))))))))) (fun i10 v => tg_name) (fun i10 v => ?_) (fun v => ?_) (fun r => ?_)
    · show SK [dv offers, dv goal, kv table3, none, none, none, none, dv i10, none, none] _ _ _ _ _
      refine s_ifE ?_
      refine e_B ?_
      refine e_op ?_
      refine e_op ?_
      refine e_dgetK (d := table3) (x := i10) (by rfl) (pu_var (by rfl)) (fun v11 => ?_)
      refine e_pu (pu_c (d := Enc.enc (0 : Int))) ?_
      refine e_o (z := (Enc.enc v11.1)) rfl ?_
      refine e_pu (pu_peek (by rfl)) ?_
      refine e_o (z := (Enc.enc ((decide (goal ≤ v11.1)) : Bool))) rfl ?_
      refine e_ok ?_
      refine s_ite (x := (decide (goal ≤ v11.1))) ?_ ?_
      · refine s_ret ?_
        refine e_d ?_
        refine e_op ?_
        refine e_dgetK (d := table3) (x := i10) (by rfl) (pu_var (by rfl)) (fun v12 => ?_)
        refine e_pu (pu_c (d := Enc.enc (1 : Int))) ?_
        refine e_o (z := (Enc.enc v12.2)) rfl ?_
        exact k_ok rfl (mt_w (mt_w (mt_w (mt_w (mt_w (mt_w (mt_w (mt_w (mt_w (mt_w mt_nil))))))))))
      · refine s_next ?_
        exact k_ok rfl (mt_k (mt_k (mt_k (mt_w (mt_w (mt_w (mt_w (mt_w (mt_w (mt_w mt_nil))))))))))
    · show SK [dv offers, dv goal, kv table3, none, none, none, none, none, none, none] _ _ _ _ _
      refine s_then ?_
      refine s_ret ?_
      refine e_pu (pu_d pu_c) ?_
      exact f_rt rfl (mt_w (mt_w mt_nil))
    · revert r; intro r_
      show SK [none, none, none, none, none, none, none, none, none, none] _ _ _ _ _
      exact f_rt rfl (mt_w (mt_w mt_nil))
def t_case_plan (suits : (List Suit)) (case_ : Int) (marks : Marks) (told : (List Bool)) (plans : (List (Option (List (Int × Tx))))) : T Empty ((Option (List (Int × Tx)))) :=
  (T.ofO (atI told case_)).bind fun x1 =>
  (t_claims suits case_ x1 marks).bind fun r2 =>
  (T.forM r2 ((([] : List (List (Int × Tx))), ([] : List (Int × Int))) : (List (List (Int × Tx))) × (List (Int × Int))) (fun (i3 : Oath) (rows6, offers7) => (((t_oath_plan suits case_ i3.1 marks told plans).bind fun r8 =>
  T.gd (rows6.length < sizeLine) <|
  (T.ofO (atI ((rows6 ++ [r8]) : (List (List (Int × Tx)))) (-1 : Int))).bind fun x9 =>
  T.gd (offers7.length < sizeLine) <|
  .ok ((rows6 ++ [r8]), (offers7 ++ [(((List.length x9 : Nat) : Int), i3.2)]))) : T Empty ((List (List (Int × Tx))) × (List (Int × Int)))))).bind fun (rows6, offers7) =>
  (T.ofO (atI suits case_)).bind fun x10 =>
  (t_margin_by x10 case_ marks).bind fun r11 =>
  (((T.ofO (atI told case_)).bind fun x13 =>
  if x13 = true then (.ok (r11 + (1 : Int))) else (.ok ((0 : Int) - r11)) : T Empty (Int))).bind fun goal12 =>
  (t_cheapest offers7 goal12).bind fun r14 =>
  if (Option.isNone r14) = true then (.ok (none : (Option (List (Int × Tx))))) else ((T.ofO r14).bind fun u15 =>
  (T.forM u15 (([] : List (Int × Tx)) : (List (Int × Tx))) (fun (i16 : Int) row18 => (((T.ofO (atI rows6 i16)).bind fun x19 =>
  (T.ofO (catT row18 x19)).bind fun x20 =>
  .ok x20) : T Empty ((List (Int × Tx)))))).bind fun row18 =>
  .ok (some row18))
theorem r_oath_plan_2 (suits : (List Suit)) (case_ : Int) (name : Tx) (marks : Marks) (told : (List Bool)) (plans : (List (Option (List (Int × Tx))))) : SK [dv suits, dv case_, dv name, tv marks, lv told, lv plans] Lw.m_oath_plan (t_oath_plan suits case_ name marks told plans) (fun r => (S.ol (List.map Enc.enc r))) (fun r => [dv suits, none, none, tv marks, lv told, lv plans]) XV := by
  unfold Lw.m_oath_plan Lw.g_oath_plan t_oath_plan
  refine f_def (X' := XV) ?_ xe_no
  show SK [dv suits, dv case_, dv name, tv marks, lv told, lv plans, none, none] _ _ _ _ _
  refine s_seq ?_
  refine s_if (x := (!(dget marks (case_, name)).isSome)) (pu_B (pu_dinT (d := marks) (x := ((case_, name) : (Int × Tx))) (by rfl) (pu_tup (pu_cons (pu_var (by rfl)) (pu_cons (pu_var (by rfl)) pu_nil)) (ln (n := 2) rfl)))) ?_ ?_
  · refine s_ret ?_
    refine e_pu (pu_lst (pu_cons (pu_tup (pu_cons (pu_var (by rfl)) (pu_cons (pu_var (by rfl)) pu_nil)) (ln (n := 2) rfl)) pu_nil) (ln (n := 1) rfl)) ?_
    exact f_rt rfl (mt_k (mt_w (mt_w (mt_k (mt_k (mt_k mt_nil))))))
  · refine s_next ?_
    refine s_then ?_
    refine s_seq ?_
    refine s_asg ?_
    refine e_pu (pu_lst pu_nil (ln (n := 0) rfl)) ?_
    refine s_set rfl ?_
    refine s_then ?_
    refine s_seq ?_
    refine s_forE ?_
    refine e_items ?_
    refine e_fz ?_
    refine e_call ?_
    refine a_r (by rfl) ?_
    refine a_d ?_
    refine e_pu (pu_var (by rfl)) ?_
    refine a_d ?_
    refine e_pu (pu_var (by rfl)) ?_
    refine a_nil ?_
    refine c_call (by show List.Nodup [0]; decide) rfl (r_naming suits case_ name) xe_no ?_
    rintro r1
    show SK [dv suits, dv case_, dv name, tv marks, lv told, lv plans, lv (([] : List (Int × Tx)) : (List (Int × Tx))), none] _ _ _ _ _
    refine e_ok ?_
    refine e_ok ?_
    refine c_for (e := Enc.enc) (xs := r1) (v := ([] : List (Int × Tx))) (fun v => [dv suits, dv case_, dv name, tv marks, lv told, lv plans, lv v, none]) (fun i2 v => [dv suits, dv case_, dv name, tv marks, lv told, lv plans, lv v, dv i2]) (mt_k (mt_k (mt_k (mt_k (mt_k (mt_k (mt_k (mt_w mt_nil)))))))) (fun i2 v => tg_name) (fun i2 v => ?_) (fun v => ?_)
    · revert v; intro row4
      show SK [dv suits, dv case_, dv name, tv marks, lv told, lv plans, lv row4, dv i2] _ _ _ _ _
      refine s_ifE ?_
      refine e_B ?_
      refine e_ixP (by rfl) ?_
      refine e_pu (pu_var (by rfl)) ?_
      refine e_pu (pu_peekL (by rfl)) ?_
      refine e_oO (p := atI told i2) (f := Enc.enc) (ix_l told i2) (fun x5 => ?_)
      refine e_ok ?_
      refine s_ite (x := x5) ?_ ?_
      · refine s_asg ?_
        refine e_op ?_
        refine e_varF (by rfl) ?_
        refine e_ixP (by rfl) ?_
        refine e_pu (pu_var (by rfl)) ?_
        refine e_pu (pu_peekL (by rfl)) ?_
        refine e_oO (p := atI plans i2) (f := Enc.enc) (ix_l plans i2) (fun x6 => ?_)
        rcases hhu7 : x6 with _ | u7
        · exact k_no
        refine k_some ?_
        refine e_oO (p := catT row4 u7) (f := (fun z => S.ol (List.map Enc.enc z))) (cat_l row4 u7) (fun x8 => ?_)
        refine s_set rfl ?_
        exact k_ok rfl (mt_k (mt_k (mt_k (mt_k (mt_k (mt_k (mt_k (mt_w mt_nil))))))))
      · refine s_next ?_
        exact k_ok rfl (mt_k (mt_k (mt_k (mt_k (mt_k (mt_k (mt_k (mt_w mt_nil))))))))
    revert v; intro row4
    show SK [dv suits, dv case_, dv name, tv marks, lv told, lv plans, lv row4, none] _ _ _ _ _
    refine s_then ?_
    refine s_ret ?_
    refine e_move (by rfl) (by intro _ h; cases h) ?_
    exact f_rt rfl (mt_k (mt_w (mt_w (mt_k (mt_k (mt_k mt_nil))))))
theorem r_case_plan_2 (suits : (List Suit)) (case_ : Int) (marks : Marks) (told : (List Bool)) (plans : (List (Option (List (Int × Tx))))) : SK [dv suits, dv case_, tv marks, lv told, lv plans] Lw.m_case_plan (t_case_plan suits case_ marks told plans) (fun r => (optS r)) (fun r => [dv suits, none, tv marks, lv told, lv plans]) XV := by
  unfold Lw.m_case_plan Lw.g_case_plan t_case_plan
  refine f_def (X' := XV) ?_ xe_no
  show SK [dv suits, dv case_, tv marks, lv told, lv plans, none, none, none, none, none, none, none, none] _ _ _ _ _
  refine s_seq ?_
  refine s_asg ?_
  refine e_pu (pu_lst pu_nil (ln (n := 0) rfl)) ?_
  refine s_set rfl ?_
  refine s_then ?_
  refine s_seq ?_
  refine s_asg ?_
  refine e_pu (pu_lst pu_nil (ln (n := 0) rfl)) ?_
  refine s_set rfl ?_
  refine s_then ?_
  refine s_seq ?_
  refine s_forE ?_
  refine e_items ?_
  refine e_fz ?_
  refine e_call ?_
  refine a_r (by rfl) ?_
  refine a_d ?_
  refine e_pu (pu_var (by rfl)) ?_
  refine a_d ?_
  refine e_ixP (by rfl) ?_
  refine e_pu (pu_var (by rfl)) ?_
  refine e_pu (pu_peekL (by rfl)) ?_
  refine e_oO (p := atI told case_) (f := Enc.enc) (ix_l told case_) (fun x1 => ?_)
  refine a_r (by rfl) ?_
  refine a_nil ?_
  refine c_call (by show List.Nodup [0, 2]; decide) rfl (r_claims suits case_ x1 marks) xe_no ?_
  rintro r2
  show SK [dv suits, dv case_, tv marks, lv told, lv plans, lv (([] : List (List (Int × Tx))) : (List (List (Int × Tx)))), lv (([] : List (Int × Int)) : (List (Int × Int))), none, none, none, none, none, none] _ _ _ _ _
  refine e_ok ?_
  refine e_ok ?_
  refine c_for (e := Enc.enc) (xs := r2) (v := (([] : List (List (Int × Tx))), ([] : List (Int × Int)))) (fun v => [dv suits, dv case_, tv marks, lv told, lv plans, lv v.1, lv v.2, none, none, none, none, none, none]) (fun i3 v => [dv suits, dv case_, tv marks, lv told, lv plans, lv v.1, lv v.2, dv i3.1, dv i3.2, none, none, none, none]) (mt_k (mt_k (mt_k (mt_k (mt_k (mt_k (mt_k (mt_w (mt_w (mt_w (mt_w (mt_w (mt_w mt_nil))))))))))))) (fun i3 v => (tg_tup (tgs_cons tg_name (tgs_cons tg_name tgs_nil)) rfl)) (fun i3 v => ?_) (fun v => ?_)
  · obtain ⟨rows6, offers7⟩ := v
    show SK [dv suits, dv case_, tv marks, lv told, lv plans, lv rows6, lv offers7, dv i3.1, dv i3.2, none, none, none, none] _ _ _ _ _
    refine s_seq ?_
    refine s_drop ?_
    refine e_app (by rfl) ?_
    refine e_fz ?_
    refine e_call ?_
    refine a_r (by rfl) ?_
    refine a_d ?_
    refine e_pu (pu_var (by rfl)) ?_
    refine a_d ?_
    refine e_pu (pu_var (by rfl)) ?_
    refine a_r (by rfl) ?_
    refine a_r (by rfl) ?_
    refine a_r (by rfl) ?_
    refine a_nil ?_
    refine c_call (by show List.Nodup [0, 2, 3, 4]; decide) rfl (r_oath_plan_2 suits case_ i3.1 marks told plans) xe_no ?_
    rintro r8
    show SK [dv suits, dv case_, tv marks, lv told, lv plans, lv rows6, lv offers7, dv i3.1, dv i3.2, none, none, none, none] _ _ _ _ _
    refine e_ok ?_
    refine c_app (xs := rows6) (x := r8) (by rfl) rfl ?_
    refine s_then ?_
    refine s_drop ?_
    refine e_app (by rfl) ?_
    refine e_tup ?_
    refine e_cons ?_
    refine e_un ?_
    refine e_ixP (by rfl) ?_
    refine e_pu (pu_un (z := (Enc.enc ((-1 : Int) : Int))) (pu_c (d := Enc.enc (1 : Int))) rfl) ?_
    refine e_pu (pu_peekL (by rfl)) ?_
    refine e_oO (p := atI ((rows6 ++ [r8]) : (List (List (Int × Tx)))) (-1 : Int)) (f := Enc.enc) (ix_l ((rows6 ++ [r8]) : (List (List (Int × Tx)))) (-1 : Int)) (fun x9 => ?_)
    refine e_o (z := (Enc.enc ((List.length x9 : Nat) : Int))) (len_l _) ?_
    refine e_pu (pu_cons (pu_var (by rfl)) pu_nil) ?_
    refine e_iteP (lnS (n := 2) rfl) ?_
    refine e_ok ?_
    refine c_app (xs := offers7) (x := ((((List.length x9 : Nat) : Int), i3.2) : (Int × Int))) (by rfl) rfl ?_
    exact k_ok rfl (mt_k (mt_k (mt_k (mt_k (mt_k (mt_k (mt_k (mt_w (mt_w (mt_w (mt_w (mt_w (mt_w mt_nil)))))))))))))
  obtain ⟨rows6, offers7⟩ := v
  show SK [dv suits, dv case_, tv marks, lv told, lv plans, lv rows6, lv offers7, none, none, none, none, none, none] _ _ _ _ _
  refine s_then ?_
  refine s_seq ?_
  refine s_asg ?_
  refine e_call ?_
  refine a_d ?_
  refine e_ixP (by rfl) ?_
  refine e_pu (pu_var (by rfl)) ?_
  refine e_pu (pu_peek (by rfl)) ?_
  refine e_oO (p := atI suits case_) (f := Enc.enc) (ix_l suits case_) (fun x10 => ?_)
  refine a_d ?_
  refine e_pu (pu_var (by rfl)) ?_
  refine a_r (by rfl) ?_
  refine a_nil ?_
  refine c_call (by show List.Nodup [2]; decide) rfl (r_margin_by x10 case_ marks) xe_no ?_
  rintro r11
  show SK [dv suits, dv case_, tv marks, lv told, lv plans, lv rows6, lv offers7, none, none, none, none, none, none] _ _ _ _ _
  refine s_set rfl ?_
  refine s_then ?_
  refine s_seq ?_
  refine s_cut (B1 := fun v => [dv suits, dv case_, tv marks, lv told, lv plans, lv rows6, lv offers7, none, none, dv v, none, none, none]) ?_ ?_
  · refine s_ifE ?_
    refine e_B ?_
    refine e_ixP (by rfl) ?_
    refine e_pu (pu_var (by rfl)) ?_
    refine e_pu (pu_peekL (by rfl)) ?_
    refine e_oO (p := atI told case_) (f := Enc.enc) (ix_l told case_) (fun x13 => ?_)
    refine e_ok ?_
    refine s_ite (x := x13) ?_ ?_
    · refine s_asg ?_
      refine e_pu (pu_op (z := (S.d (Enc.enc (r11 + (1 : Int))))) (pu_var (by rfl)) (pu_c (d := Enc.enc (1 : Int))) rfl) ?_
      refine s_set rfl ?_
      exact k_ok rfl (mt_k (mt_k (mt_k (mt_k (mt_k (mt_k (mt_k (mt_w (mt_w (mt_k (mt_w (mt_w (mt_w mt_nil)))))))))))))
    · refine s_asg ?_
      refine e_pu (pu_d (pu_op (z := (Enc.enc (((0 : Int) - r11) : Int))) (pu_c (d := Enc.enc (0 : Int))) (pu_var (by rfl)) rfl)) ?_
      refine s_set rfl ?_
      exact k_ok rfl (mt_k (mt_k (mt_k (mt_k (mt_k (mt_k (mt_k (mt_w (mt_w (mt_k (mt_w (mt_w (mt_w mt_nil)))))))))))))
  rintro goal12
  show SK [dv suits, dv case_, tv marks, lv told, lv plans, lv rows6, lv offers7, none, none, dv goal12, none, none, none] _ _ _ _ _
  refine s_then ?_
  refine s_seq ?_
  refine s_asg ?_
  refine e_call ?_
  refine a_d ?_
  refine e_varF (by rfl) ?_
  refine a_d ?_
  refine e_pu (pu_var (by rfl)) ?_
  refine a_nil ?_
  refine c_call List.nodup_nil rfl (r_cheapest offers7 goal12) xe_no ?_
  rintro r14
  show SK [dv suits, dv case_, tv marks, lv told, lv plans, lv rows6, dv offers7, none, none, dv goal12, none, none, none] _ _ _ _ _
  refine s_set rfl ?_
  refine s_then ?_
  refine s_seq ?_
  refine s_if (x := (Option.isNone r14)) (pu_B (pu_op (z := (Enc.enc ((Option.isNone r14) : Bool))) (pu_peek (by rfl)) pu_c (is_non r14))) ?_ ?_
  · refine s_ret ?_
    refine e_pu (pu_d pu_c) ?_
    exact f_rt rfl (mt_k (mt_w (mt_k (mt_k (mt_k mt_nil)))))
  · refine s_next ?_
    refine s_then ?_
    refine s_seq ?_
    refine s_asg ?_
    refine e_pu (pu_lst pu_nil (ln (n := 0) rfl)) ?_
    refine s_set rfl ?_
    refine s_then ?_
    refine s_seq ?_
    refine s_forE ?_
    refine e_items ?_
    refine e_pu (pu_var (by rfl)) ?_
    rcases hhu15 : r14 with _ | u15
    · exact k_no
    show SK [dv suits, dv case_, tv marks, lv told, lv plans, lv rows6, dv offers7, none, none, dv goal12, dv u15, lv (([] : List (Int × Tx)) : (List (Int × Tx))), none] _ _ _ _ _
    refine k_some ?_
    refine e_ok ?_
    refine c_for (e := Enc.enc) (xs := u15) (v := ([] : List (Int × Tx))) (fun v => [dv suits, dv case_, tv marks, lv told, lv plans, lv rows6, dv offers7, none, none, dv goal12, dv u15, lv v, none]) (fun i16 v => [dv suits, dv case_, tv marks, lv told, lv plans, lv rows6, dv offers7, none, none, dv goal12, dv u15, lv v, dv i16]) (mt_k (mt_k (mt_k (mt_k (mt_k (mt_k (mt_k (mt_w (mt_w (mt_k (mt_k (mt_k (mt_w mt_nil))))))))))))) (fun i16 v => tg_name) (fun i16 v => ?_) (fun v => ?_)
    · revert v; intro row18
      show SK [dv suits, dv case_, tv marks, lv told, lv plans, lv rows6, dv offers7, none, none, dv goal12, dv u15, lv row18, dv i16] _ _ _ _ _
      refine s_asg ?_
      refine e_op ?_
      refine e_varF (by rfl) ?_
      refine e_ixP (by rfl) ?_
      refine e_pu (pu_var (by rfl)) ?_
      refine e_pu (pu_peekL (by rfl)) ?_
      refine e_oO (p := atI rows6 i16) (f := Enc.enc) (ix_l rows6 i16) (fun x19 => ?_)
      refine e_oO (p := catT row18 x19) (f := (fun z => S.ol (List.map Enc.enc z))) (cat_l row18 x19) (fun x20 => ?_)
      refine s_set rfl ?_
      exact k_ok rfl (mt_k (mt_k (mt_k (mt_k (mt_k (mt_k (mt_k (mt_w (mt_w (mt_k (mt_k (mt_k (mt_w mt_nil)))))))))))))
    revert v; intro row18
    show SK [dv suits, dv case_, tv marks, lv told, lv plans, lv rows6, dv offers7, none, none, dv goal12, dv u15, lv row18, none] _ _ _ _ _
    refine s_then ?_
    refine s_ret ?_
    refine e_move (by rfl) (by intro _ h; cases h) ?_
    exact f_rt rfl (mt_k (mt_w (mt_k (mt_k (mt_k mt_nil)))))
def t_fewest (suits : (List Suit)) (case_ : Int) : T Empty ((Option (List (Int × Tx)))) :=
  (t_there suits case_).bind fun r1 =>
  (t_settle suits ([] : Marks)).bind fun (r2, marks3) =>
  (T.ofO (repT (([(none : (Option (List (Int × Tx))))] : List (Option (List (Int × Tx)))) : (List (Option (List (Int × Tx))))) ((List.length suits : Nat) : Int))).bind fun x4 =>
  T.gd (inR ((List.length suits : Nat) : Int)) <|
  (T.forM ((rangeT (Int.toNat ((List.length suits : Nat) : Int))).reverse) (x4 : (List (Option (List (Int × Tx))))) (fun (i5 : Int) plans7 => ((if (decide (case_ ≤ i5)) = true then ((t_case_plan suits i5 marks3 r2 plans7).bind fun r8 =>
  (T.ofO (setT plans7 i5 r8)).bind fun plans9 =>
  .ok plans9) else (.ok plans7)) : T Empty ((List (Option (List (Int × Tx)))))))).bind fun plans7 =>
  (T.ofO (atI plans7 case_)).bind fun x10 =>
  if (Option.isNone x10) = true then (.ok (none : (Option (List (Int × Tx))))) else ((T.ofO (atI plans7 case_)).bind fun x11 =>
  (T.ofO x11).bind fun u12 =>
  (T.ofO (sortT u12)).bind fun x13 =>
  .ok (some x13))
theorem r_fewest (suits : (List Suit)) (case_ : Int) : SK [dv suits, dv case_] Lw.m_fewest (t_fewest suits case_) (fun r => (optS r)) (fun r => [dv suits, none]) XV := by
  unfold Lw.m_fewest Lw.g_fewest t_fewest
  refine f_def (X' := XV) ?_ xe_no
  show SK [dv suits, dv case_, none, none, none, none] _ _ _ _ _
  refine s_seq ?_
  refine s_drop ?_
  refine e_call ?_
  refine a_r (by rfl) ?_
  refine a_d ?_
  refine e_pu (pu_var (by rfl)) ?_
  refine a_nil ?_
  refine c_call (by show List.Nodup [0]; decide) rfl (r_there suits case_) xe_no ?_
  rintro r1
  show SK [dv suits, dv case_, none, none, none, none] _ _ _ _ _
  refine s_then ?_
  refine s_seq ?_
  refine s_asg ?_
  refine e_pu (pu_new (s := S.odT []) (by intro _; rfl)) ?_
  refine s_set rfl ?_
  refine s_then ?_
  refine s_seq ?_
  refine s_asg ?_
  refine e_call ?_
  refine a_r (by rfl) ?_
  refine a_r (by rfl) ?_
  refine a_nil ?_
  refine c_call (by show List.Nodup [0, 2]; decide) rfl (r_settle suits ([])) xe_no ?_
  rintro ⟨r2, marks3⟩
  show SK [dv suits, dv case_, tv marks3, none, none, none] _ _ _ _ _
  refine s_set rfl ?_
  refine s_then ?_
  refine s_seq ?_
  refine s_asg ?_
  refine e_op ?_
  refine e_pu (pu_fzL (pu_lst (pu_cons pu_c pu_nil) (ln (n := 1) rfl))) ?_
  refine e_pu (pu_un (z := (Enc.enc ((List.length suits : Nat) : Int))) (pu_peek (by rfl)) (len_l _)) ?_
  refine e_oO (p := repT (([(none : (Option (List (Int × Tx))))] : List (Option (List (Int × Tx)))) : (List (Option (List (Int × Tx))))) ((List.length suits : Nat) : Int)) (f := (fun z => S.ol (List.map Enc.enc z))) (rep_l (([(none : (Option (List (Int × Tx))))] : List (Option (List (Int × Tx)))) : (List (Option (List (Int × Tx))))) ((List.length suits : Nat) : Int)) (fun x4 => ?_)
  refine s_set rfl ?_
  refine s_then ?_
  refine s_seq ?_
  refine s_forE ?_
  refine e_rvr1 ?_
  refine e_pu (pu_un (z := (Enc.enc ((List.length suits : Nat) : Int))) (pu_peek (by rfl)) (len_l _)) ?_
  refine c_rvr1 (n := ((List.length suits : Nat) : Int)) ?_
  refine c_for (e := Enc.enc) (xs := (((rangeT (Int.toNat ((List.length suits : Nat) : Int))).reverse) : (List Int))) (v := x4) (fun v => [dv suits, dv case_, tv marks3, lv r2, lv v, none]) (fun i5 v => [dv suits, dv case_, tv marks3, lv r2, lv v, dv i5]) (mt_k (mt_k (mt_k (mt_k (mt_k (mt_w mt_nil)))))) (fun i5 v => tg_name) (fun i5 v => ?_) (fun v => ?_)
  · revert v; intro plans7
    show SK [dv suits, dv case_, tv marks3, lv r2, lv plans7, dv i5] _ _ _ _ _
    refine s_if (x := (decide (case_ ≤ i5))) (pu_B (pu_op (z := (Enc.enc ((decide (case_ ≤ i5)) : Bool))) (pu_peek (by rfl)) (pu_peek (by rfl)) rfl)) ?_ ?_
    · refine s_setIx ?_
      refine e_fz ?_
      refine e_call ?_
      refine a_r (by rfl) ?_
      refine a_d ?_
      refine e_pu (pu_var (by rfl)) ?_
      refine a_r (by rfl) ?_
      refine a_r (by rfl) ?_
      refine a_r (by rfl) ?_
      refine a_nil ?_
      refine c_call (by show List.Nodup [0, 2, 3, 4]; decide) rfl (r_case_plan_2 suits i5 marks3 r2 plans7) xe_no ?_
      rintro r8
      show SK [dv suits, dv case_, tv marks3, lv r2, lv plans7, dv i5] _ _ _ _ _
      refine c_frO (o := r8) ?_
      refine c_setIx (xs := plans7) (x := r8) (by rfl) (pu_var (by rfl)) (fun plans9 => ?_)
      exact k_ok rfl (mt_k (mt_k (mt_k (mt_k (mt_k (mt_w mt_nil))))))
    · refine s_next ?_
      exact k_ok rfl (mt_k (mt_k (mt_k (mt_k (mt_k (mt_w mt_nil))))))
  revert v; intro plans7
  show SK [dv suits, dv case_, tv marks3, lv r2, lv plans7, none] _ _ _ _ _
  refine s_then ?_
  refine s_seq ?_
  refine s_ifE ?_
  refine e_B ?_
  refine e_op ?_
  refine e_ixP (by rfl) ?_
  refine e_pu (pu_var (by rfl)) ?_
  refine e_pu (pu_peekL (by rfl)) ?_
  refine e_oO (p := atI plans7 case_) (f := Enc.enc) (ix_l plans7 case_) (fun x10 => ?_)
  refine e_pu pu_c ?_
  refine e_o (z := (Enc.enc ((Option.isNone x10) : Bool))) (is_non x10) ?_
  refine e_ok ?_
  refine s_ite (x := (Option.isNone x10)) ?_ ?_
  · refine s_ret ?_
    refine e_pu (pu_d pu_c) ?_
    exact f_rt rfl (mt_k (mt_w mt_nil))
  · refine s_next ?_
    refine s_then ?_
    refine s_ret ?_
    refine e_un ?_
    refine e_ixP (by rfl) ?_
    refine e_pu (pu_var (by rfl)) ?_
    refine e_pu (pu_peekL (by rfl)) ?_
    refine e_oO (p := atI plans7 case_) (f := Enc.enc) (ix_l plans7 case_) (fun x11 => ?_)
    rcases hhu12 : x11 with _ | u12
    · exact k_no
    refine k_some ?_
    refine e_oO (p := sortT u12) (f := (fun z => S.ol (List.map Enc.enc z))) (sort_l _) (fun x13 => ?_)
    exact f_rt rfl (mt_k (mt_w mt_nil))
end Ty

namespace Ty
open PySem VS L2
abbrev Off := Int × (Int × Int)
abbrev Tab := Dt Int (Int × List Int)
def costS (S : List Off) : Int := (S.map (·.2.1)).sum
def gainS (S : List Off) : Int := (S.map (·.2.2)).sum
theorem costS_app (S T : List Off) : costS (S ++ T) = costS S + costS T := by unfold costS; rw [List.map_append, List.sum_append]
theorem gainS_app (S T : List Off) : gainS (S ++ T) = gainS S + gainS T := by unfold gainS; rw [List.map_append, List.sum_append]
theorem costS_one (o : Off) : costS [o] = o.2.1 := by unfold costS; simp
theorem gainS_one (o : Off) : gainS [o] = o.2.2 := by unfold gainS; simp
theorem sum_le_of_sub : ∀ {xs ys : List Int}, xs.Sublist ys → (∀ y ∈ ys, 0 ≤ y) → xs.sum ≤ ys.sum
  | _, _, .slnil, _ => Int.le_refl _
  | _, _, .cons a h, hy => by
    rw [List.sum_cons]
    have := sum_le_of_sub h fun y hm => hy y (List.mem_cons_of_mem _ hm)
    have := hy a List.mem_cons_self
    omega
  | _, _, .cons₂ a h, hy => by
    rw [List.sum_cons, List.sum_cons]
    have := sum_le_of_sub h fun y hm => hy y (List.mem_cons_of_mem _ hm)
    omega
theorem sum_nonneg {xs : List Int} (h : ∀ x ∈ xs, 0 ≤ x) : 0 ≤ xs.sum := by
  have := sum_le_of_sub (List.nil_sublist xs) h
  simpa using this
theorem costS_le {S T : List Off} (h : S.Sublist T) (hp : ∀ o ∈ T, 0 ≤ o.2.1) : costS S ≤ costS T := sum_le_of_sub (h.map _) fun y hy => by
  obtain ⟨o, ho, rfl⟩ := List.mem_map.mp hy
  exact hp o ho
theorem costS_nonneg {S : List Off} (hp : ∀ o ∈ S, 0 ≤ o.2.1) : 0 ≤ costS S := by
  have := costS_le (List.nil_sublist S) hp
  simpa [costS] using this
theorem dget_mem' {κ α : Type} [DecidableEq κ] {d : Dt κ α} {k : κ} {v : α} (h : dget d k = some v) : (k, v) ∈ d := by
  unfold dget at h
  obtain ⟨p, hp, rfl⟩ := Option.map_eq_some_iff.mp h
  have h1 := List.mem_of_find?_eq_some hp
  have h2 : p.1 = k := of_decide_eq_true (List.find?_some (p := fun p : κ × α => decide (p.1 = k)) hp)
  rw [← h2]
  exact h1
theorem mem_dget' {κ α : Type} [DecidableEq κ] {d : Dt κ α} (hn : NdK d) {k : κ} {v : α} (h : (k, v) ∈ d) : dget d k = some v := by
  unfold dget
  unfold NdK at hn
  induction d with
  | nil => cases h
  | cons p d ih =>
    rw [List.map_cons, List.nodup_cons] at hn
    by_cases hp : p.1 = k
    · rw [List.find?_cons_of_pos (by simpa using hp)]
      rcases List.mem_cons.mp h with h | h
      · rw [← h]; rfl
      · exact absurd (List.mem_map.mpr ⟨_, h, hp.symm⟩) hn.1
    · rw [List.find?_cons_of_neg (by simpa using hp)]
      rcases List.mem_cons.mp h with h | h
      · rw [← h] at hp; exact absurd rfl hp
      · exact ih hn.2 h
structure Sound (pre : List Off) (t : Tab) : Prop where
  nd : NdK t
  snd : ∀ p ∈ t, ∃ S : List Off, S.Sublist pre ∧ p.2.2 = S.map (·.1) ∧ p.1 = costS S ∧ p.2.1 = gainS S
structure TabOk (goal : Int) (pre : List Off) (t : Tab) : Prop extends Sound pre t where
  cmp : ∀ S : List Off, S.Sublist pre → ∃ p ∈ t, p.1 ≤ costS S ∧ (gainS S ≤ p.2.1 ∨ goal ≤ p.2.1)
theorem Sound.len {pre : List Off} {t : Tab} (h : Sound pre t) (hp : ∀ o ∈ pre, 0 ≤ o.2.1) : (t.length : Int) ≤ costS pre + 1 := by
  have h0 := costS_nonneg hp
  have := nodup_bound (costS pre + 1).toNat (t.map (fun p => p.1)) (show (t.map (fun p => p.1)).Nodup from h.nd) fun k hk => by
    obtain ⟨p, hp2, rfl⟩ := List.mem_map.mp hk
    obtain ⟨S, h1, h2, h3, h4⟩ := h.snd p hp2
    have h5 := costS_le h1 hp
    have h6 := costS_nonneg (S := S) fun o ho => hp o (h1.subset ho)
    omega
  rw [List.length_map] at this
  omega
theorem sub_snoc {α : Type} {S xs : List α} {x : α} (h : S.Sublist (xs ++ [x])) : S.Sublist xs ∨ ∃ S', S = S' ++ [x] ∧ S'.Sublist xs := by
  rw [List.sublist_append_iff] at h
  obtain ⟨S1, S2, rfl, h1, h2⟩ := h
  cases S2 with
  | nil => rw [List.append_nil]; exact .inl h1
  | cons y ys =>
    have := h2.length_le
    cases ys with
    | nil =>
      have : y = x := by
        have := h2.subset List.mem_cons_self
        simpa using this
      subst this
      exact .inr ⟨S1, rfl, h1⟩
    | cons _ _ => simp at this
theorem better_eq (t : Tab) (c g : Int) : t_better t c g = .ok (match dget t c with
    | none => true
    | some v => decide (v.1 < g)) := by
  unfold t_better
  cases h : dget t c with
  | none => simp only [Option.isSome_none, Bool.not_false, if_true]
  | some v => simp only [Option.isSome_some, Bool.not_true, Bool.false_eq_true, if_false, ofO_some']
theorem grow_spec {goal : Int} {pre : List Off} {o : Off} {t : Tab} (h : TabOk goal pre t) (hp : ∀ q ∈ pre ++ [o], 0 ≤ q.2.1) (hB : costS (pre ++ [o]) ≤ 900000) (hL : pre.length ≤ 1000) :
    (T.forM t (t : Tab) (fun (i4 : (Int × (Int × (List Int)))) grown6 => ((if (decide (goal ≤ i4.2.1)) = true then (.ok grown6) else ((t_better grown6 ((i4.1 + o.2.1) : Int) ((i4.2.1 + o.2.2) : Int)).bind fun r7 =>
  if r7 = true then ((T.ofO (catT i4.2.2 (([o.1] : List Int) : (List Int)))).bind fun x8 =>
  T.gd (grown6.length < sizeLine) <|
  .ok (dput grown6 (i4.1 + o.2.1) ((i4.2.1 + o.2.2), x8))) else (.ok grown6))) : T Empty Tab))).Post fun t' => TabOk goal (pre ++ [o]) t' := by
  have hpre : ∀ q ∈ pre, 0 ≤ q.2.1 := fun q hq => hp q (List.mem_append_left _ hq)
  have ho : 0 ≤ o.2.1 := hp o (by simp)
  have sub1 : pre.Sublist (pre ++ [o]) := List.sublist_append_left ..
  have key : (T.forM t (t : Tab) (fun (i4 : (Int × (Int × (List Int)))) grown6 => ((if (decide (goal ≤ i4.2.1)) = true then (.ok grown6) else ((t_better grown6 ((i4.1 + o.2.1) : Int) ((i4.2.1 + o.2.2) : Int)).bind fun r7 =>
    if r7 = true then ((T.ofO (catT i4.2.2 (([o.1] : List Int) : (List Int)))).bind fun x8 =>
    T.gd (grown6.length < sizeLine) <|
    .ok (dput grown6 (i4.1 + o.2.1) ((i4.2.1 + o.2.2), x8))) else (.ok grown6))) : T Empty Tab))).Post fun t' =>
      Sound (pre ++ [o]) t' ∧ (∀ p ∈ t, ∃ v, dget t' p.1 = some v ∧ p.2.1 ≤ v.1) ∧ ∀ p ∈ t, p.2.1 < goal → ∃ v, dget t' (p.1 + o.2.1) = some v ∧ p.2.1 + o.2.2 ≤ v.1 := by
    refine forM_post (fun done t' => Sound (pre ++ [o]) t' ∧ (∀ p ∈ t, ∃ v, dget t' p.1 = some v ∧ p.2.1 ≤ v.1) ∧ ∀ p : Int × (Int × List Int), p ∈ done → p.2.1 < goal → ∃ v, dget t' (p.1 + o.2.1) = some v ∧ p.2.1 + o.2.2 ≤ v.1) ?_ ?_
    · refine ⟨⟨h.nd, fun p hp2 => ?_⟩, fun p hp2 => ⟨p.2, mem_dget' h.nd hp2, Int.le_refl _⟩, by simp⟩
      obtain ⟨S, h1, h2⟩ := h.snd p hp2
      exact ⟨S, h1.trans sub1, h2⟩
    · rintro done p more t' et ⟨g1, g2, g3⟩
      have hpm : p ∈ t := by rw [et]; simp
      by_cases hg : goal ≤ p.2.1
      · rw [if_pos (by simpa using hg)]
        refine post_ok ⟨g1, g2, fun q hq hlt => ?_⟩
        rcases List.mem_append.mp hq with hq | hq
        · exact g3 q hq hlt
        · rw [List.mem_singleton] at hq
          subst hq
          omega
      · rw [if_neg (by simpa using hg), better_eq, T.ok_bind]
        have stay : ∀ v, dget t' (p.1 + o.2.1) = some v → p.2.1 + o.2.2 ≤ v.1 → (T.ok t' : T Empty Tab).Post fun t' => Sound (pre ++ [o]) t' ∧ (∀ p ∈ t, ∃ v, dget t' p.1 = some v ∧ p.2.1 ≤ v.1) ∧ ∀ q : Int × (Int × List Int), q ∈ done ++ [p] → q.2.1 < goal → ∃ v, dget t' (q.1 + o.2.1) = some v ∧ q.2.1 + o.2.2 ≤ v.1 := fun v hv hle =>
          post_ok ⟨g1, g2, fun q hq hlt => by
            rcases List.mem_append.mp hq with hq | hq
            · exact g3 q hq hlt
            · rw [List.mem_singleton] at hq
              subst hq
              exact ⟨v, hv, hle⟩⟩
        have put : (∀ v, dget t' (p.1 + o.2.1) = some v → v.1 < p.2.1 + o.2.2) → (((T.ofO (catT p.2.2 (([o.1] : List Int) : (List Int)))).bind fun x8 =>
            T.gd (t'.length < sizeLine) <| .ok (dput t' (p.1 + o.2.1) ((p.2.1 + o.2.2), x8)) : T Empty Tab)).Post fun t' => Sound (pre ++ [o]) t' ∧ (∀ p ∈ t, ∃ v, dget t' p.1 = some v ∧ p.2.1 ≤ v.1) ∧ ∀ q : Int × (Int × List Int), q ∈ done ++ [p] → q.2.1 < goal → ∃ v, dget t' (q.1 + o.2.1) = some v ∧ q.2.1 + o.2.2 ≤ v.1 := fun hlt => by
          obtain ⟨S, s1, s2, s3, s4⟩ := h.snd p hpm
          have hSl := s1.length_le
          have hl1 : p.2.2.length ≤ 1000 := by rw [s2, List.length_map]; omega
          have htl := g1.len hp
          refine post_ofO (catT_ok (by rw [List.length_singleton]; omega)) (post_gd (szl _ (by omega)) (post_ok ⟨⟨ndk_put g1.nd _ _, fun q hq => ?_⟩, fun q hq => ?_, fun q hq hl => ?_⟩))
          · have hd := mem_dget' (ndk_put g1.nd _ _) hq
            rw [dget_put] at hd
            by_cases e : p.1 + o.2.1 = q.1
            · rw [if_pos e] at hd
              have e2 := Option.some.inj hd
              refine ⟨S ++ [o], s1.append (List.Sublist.refl _), ?_, ?_, ?_⟩
              · rw [← e2, List.map_append, ← s2]
                rfl
              · rw [← e, costS_app, costS_one, s3]
              · rw [← e2, gainS_app, gainS_one, ← s4]
            · rw [if_neg e] at hd
              exact g1.snd q (dget_mem' hd)
          · rw [dget_put]
            by_cases e : p.1 + o.2.1 = q.1
            · obtain ⟨v, hv, hle⟩ := g2 q hq
              rw [if_pos e]
              rw [← e] at hv
              have := hlt v hv
              exact ⟨_, rfl, by dsimp only; omega⟩
            · rw [if_neg e]
              exact g2 q hq
          · rw [dget_put]
            rcases List.mem_append.mp hq with hq | hq
            · obtain ⟨v, hv, hle⟩ := g3 q hq hl
              by_cases e : p.1 + o.2.1 = q.1 + o.2.1
              · rw [if_pos e]
                rw [← e] at hv
                have := hlt v hv
                exact ⟨_, rfl, by dsimp only; omega⟩
              · rw [if_neg e]
                exact ⟨v, hv, hle⟩
            · rw [List.mem_singleton] at hq
              subst hq
              rw [if_pos rfl]
              exact ⟨_, rfl, Int.le_refl _⟩
        cases hd : dget t' (p.1 + o.2.1) with
        | none =>
          simp only [if_true]
          exact put fun v hv => by rw [hd] at hv; cases hv
        | some v =>
          dsimp only
          by_cases hlt : v.1 < p.2.1 + o.2.2
          · rw [if_pos (by simpa using hlt)]
            exact put fun v' hv' => by rw [hd] at hv'; cases hv'; exact hlt
          · rw [if_neg (by simpa using hlt)]
            exact stay v hd (by omega)
  refine post_imp key fun t' ⟨g1, g2, g3⟩ => ⟨g1, fun S hS => ?_⟩
  rcases sub_snoc hS with hS | ⟨S', rfl, hS2⟩
  · obtain ⟨p, h1, h2, h3⟩ := h.cmp S hS
    obtain ⟨v, hv, hle⟩ := g2 p h1
    exact ⟨(p.1, v), dget_mem' hv, h2, by dsimp only; omega⟩
  · obtain ⟨p, h1, h2, h3⟩ := h.cmp S' hS2
    rw [costS_app, costS_one, gainS_app, gainS_one]
    by_cases hg : goal ≤ p.2.1
    · obtain ⟨v, hv, hle⟩ := g2 p h1
      exact ⟨(p.1, v), dget_mem' hv, by dsimp only; omega, .inr (by dsimp only; omega)⟩
    · obtain ⟨v, hv, hle⟩ := g3 p h1 (by omega)
      exact ⟨(p.1 + o.2.1, v), dget_mem' hv, by dsimp only; omega, .inl (by dsimp only; omega)⟩
def CheapOk (xs : List (Int × Int)) (goal : Int) (r : Option (List Int)) : Prop := match r with
  | some ps => ∃ S : List Off, S.Sublist (enT 0 xs) ∧ ps = S.map (·.1) ∧ goal ≤ gainS S ∧ ∀ S' : List Off, S'.Sublist (enT 0 xs) → goal ≤ gainS S' → costS S ≤ costS S'
  | none => ∀ S' : List Off, S'.Sublist (enT 0 xs) → gainS S' < goal
theorem enT_mem {α : Type} {xs : List α} {p : Int × α} (h : p ∈ enT 0 xs) : ∃ j : Nat, p.1 = (j : Int) ∧ xs[j]? = some p.2 := by
  obtain ⟨j, hj, e⟩ := List.getElem_of_mem h
  have e' := List.getElem?_eq_some_iff.mpr ⟨hj, e⟩
  rw [enT_get] at e'
  obtain ⟨x, hx, rfl⟩ := Option.map_eq_some_iff.mp e'
  exact ⟨j, by simp, hx⟩
theorem cheapest_spec {xs : List (Int × Int)} {goal : Int} (hl : xs.length ≤ 1000) (hc : ∀ x ∈ xs, 0 ≤ x.1) (hB : costS (enT 0 xs) ≤ 900000) : (t_cheapest xs goal).Post (CheapOk xs goal) := by
  have hpos : ∀ o ∈ enT 0 xs, 0 ≤ o.2.1 := fun o ho => by
    obtain ⟨j, _, h⟩ := enT_mem ho
    exact hc _ (List.mem_of_getElem? h)
  unfold t_cheapest
  by_cases hg : goal < 1
  · rw [if_pos (by simpa using hg)]
    refine post_ok ⟨[], List.nil_sublist _, rfl, ?_, fun S' hS' _ => ?_⟩
    · show goal ≤ 0
      omega
    · have := costS_nonneg (S := S') fun o ho => hpos o (hS'.subset ho)
      show 0 ≤ costS S'
      omega
  rw [if_neg (by simpa using hg)]
  refine post_bind (forM_post (fun pre t => TabOk goal pre t) ?_ ?_) ?_
  · refine ⟨⟨by unfold NdK; simp, fun p hp => ?_⟩, fun S hS => ?_⟩
    · rw [List.mem_singleton] at hp
      subst hp
      exact ⟨[], List.Sublist.refl _, rfl, rfl, rfl⟩
    · have : S = [] := List.sublist_nil.mp hS
      subst this
      exact ⟨_, List.mem_singleton.mpr rfl, Int.le_refl _, .inl (Int.le_refl _)⟩
  · rintro pre o post t ee ht
    have hsub : (pre ++ [o]).Sublist (enT 0 xs) := by
      rw [ee, show pre ++ o :: post = (pre ++ [o]) ++ post by simp]
      exact List.sublist_append_left ..
    have hlen : pre.length ≤ 1000 := by
      have := hsub.length_le
      rw [enT_len, List.length_append] at this
      omega
    refine post_bind (grow_spec ht (fun q hq => hpos q (hsub.subset hq)) (Int.le_trans (costS_le hsub hpos) (by omega)) hlen) ?_
    intro t' ht'
    exact post_ok ht'
  · intro t ht
    have htl := ht.toSound.len hpos
    have hz := sortT_ok (xs := List.map (fun p => p.1) t) (by rw [List.length_map]; omega)
    refine post_ofO hz ?_
    have hperm := sortT_perm hz
    have hsort := sortT_sorted hz
    generalize (List.map (fun p => p.1) t).mergeSort (PySem.W.dataLe false Enc.enc) = ks at hperm hsort
    have hk : ∀ k ∈ ks, ∃ v, dget t k = some v := fun k hk => by
      have := hperm.mem_iff.mp hk
      obtain ⟨p, hp, rfl⟩ := List.mem_map.mp this
      exact ⟨p.2, mem_dget' ht.nd hp⟩
    have hup : ks.Pairwise fun a b => a ≤ b := hsort.imp fun {a b} h => by
      rw [le_int] at h
      exact of_decide_eq_true h
    have hall : ∀ p ∈ t, p.1 ∈ ks := fun p hp => hperm.mem_iff.mpr (List.mem_map.mpr ⟨p, hp, rfl⟩)
    have go : ∀ ks : List Int, (∀ k ∈ ks, ∃ v, dget t k = some v) → ks.Pairwise (fun a b => a ≤ b) →
        (∃ k v, k ∈ ks ∧ dget t k = some v ∧ goal ≤ v.1 ∧ (∀ k' ∈ ks, ∀ v', dget t k' = some v' → goal ≤ v'.1 → k ≤ k') ∧ T.forL ks (() : Unit) (fun (i10 : Int) _ => (((T.ofO (dget t i10)).bind fun v11 =>
          if (decide (goal ≤ v11.1)) = true then ((T.ofO (dget t i10)).bind fun v12 =>
          .ok (.rt v12.2)) else (.ok (.nx ()))) : T Empty (T.Lp (Unit) ((List Int))))) = .ok (.rt v.2)) ∨
        ((∀ k' ∈ ks, ∀ v', dget t k' = some v' → v'.1 < goal) ∧ T.forL ks (() : Unit) (fun (i10 : Int) _ => (((T.ofO (dget t i10)).bind fun v11 =>
          if (decide (goal ≤ v11.1)) = true then ((T.ofO (dget t i10)).bind fun v12 =>
          .ok (.rt v12.2)) else (.ok (.nx ()))) : T Empty (T.Lp (Unit) ((List Int))))) = .ok (.nx ())) := by
      intro ks
      induction ks with
      | nil => intro _ _; exact .inr ⟨by simp, rfl⟩
      | cons k ks ih =>
        intro h1 h2
        obtain ⟨v, hv⟩ := h1 k List.mem_cons_self
        have hp := List.pairwise_cons.mp h2
        by_cases hgo : goal ≤ v.1
        · refine .inl ⟨k, v, List.mem_cons_self, hv, hgo, fun k' hk' v' _ _ => ?_, ?_⟩
          · rcases List.mem_cons.mp hk' with rfl | hk'
            · exact Int.le_refl _
            · exact hp.1 k' hk'
          · show (((T.ofO (dget t k)).bind fun v11 => if (decide (goal ≤ v11.1)) = true then ((T.ofO (dget t k)).bind fun v12 => .ok (.rt v12.2)) else (.ok (.nx ())) : T Empty (T.Lp Unit (List Int)))).bind _ = _
            rw [hv, ofO_some', if_pos (by simpa using hgo)]
            rfl
        · have e : ∀ {X : T Empty (T.Le Unit (List Int))}, T.forL ks (() : Unit) (fun (i10 : Int) _ => (((T.ofO (dget t i10)).bind fun v11 =>
              if (decide (goal ≤ v11.1)) = true then ((T.ofO (dget t i10)).bind fun v12 =>
              .ok (.rt v12.2)) else (.ok (.nx ()))) : T Empty (T.Lp (Unit) ((List Int))))) = X → T.forL (k :: ks) (() : Unit) (fun (i10 : Int) _ => (((T.ofO (dget t i10)).bind fun v11 =>
              if (decide (goal ≤ v11.1)) = true then ((T.ofO (dget t i10)).bind fun v12 =>
              .ok (.rt v12.2)) else (.ok (.nx ()))) : T Empty (T.Lp (Unit) ((List Int))))) = X := fun {X} hX => by
            show (((T.ofO (dget t k)).bind fun v11 => if (decide (goal ≤ v11.1)) = true then ((T.ofO (dget t k)).bind fun v12 => .ok (.rt v12.2)) else (.ok (.nx ())) : T Empty (T.Lp Unit (List Int)))).bind _ = _
            rw [hv, ofO_some', if_neg (by simpa using hgo)]
            exact hX
          rcases ih (fun k' hk' => h1 k' (List.mem_cons_of_mem _ hk')) hp.2 with ⟨k2, v2, a1, a2, a3, a4, a5⟩ | ⟨a1, a2⟩
          · refine .inl ⟨k2, v2, List.mem_cons_of_mem _ a1, a2, a3, fun k' hk' v' hv' hg' => ?_, e a5⟩
            rcases List.mem_cons.mp hk' with rfl | hk'
            · rw [hv] at hv'
              cases hv'
              exact absurd hg' hgo
            · exact a4 k' hk' v' hv' hg'
          · refine .inr ⟨fun k' hk' v' hv' => ?_, e a2⟩
            rcases List.mem_cons.mp hk' with rfl | hk'
            · rw [hv] at hv'
              cases hv'
              omega
            · exact a1 k' hk' v' hv'
    rcases go ks hk hup with ⟨k, v, a1, a2, a3, a4, a5⟩ | ⟨a1, a2⟩
    · rw [a5, T.bindL_rt]
      obtain ⟨S, s1, s2, s3, s4⟩ := ht.snd _ (dget_mem' a2)
      refine post_ok ⟨S, s1, s2, by rw [← s4]; exact a3, fun S' hS' hg' => ?_⟩
      obtain ⟨p, p1, p2, p3⟩ := ht.cmp S' hS'
      have := a4 p.1 (hall p p1) p.2 (mem_dget' ht.nd p1) (by omega)
      dsimp only at s3
      omega
    · rw [a2, T.bindL_nx]
      refine post_ok fun S' hS' => ?_
      obtain ⟨p, p1, p2, p3⟩ := ht.cmp S' hS'
      have := a1 p.1 (hall p p1) p.2 (mem_dget' ht.nd p1)
      omega
end Ty

namespace Ty
open PySem VS L2
abbrev Oa := Int × Tx
def inS (us : List Suit) (c k : Nat) : Bool := decide (k = c) || memT (c : Int) (ch us k)
theorem inS_self (us : List Suit) (c : Nat) : inS us c c = true := by unfold inS; simp
theorem inS_le {us : List Suit} (hs : SOk us) {c k : Nat} (h : inS us c k = true) : c ≤ k := by
  unfold inS at h
  rw [Bool.or_eq_true, decide_eq_true_eq, memT_iff] at h
  rcases h with h | h
  · omega
  · obtain ⟨j, e, hj, _⟩ := (ch_dec hs k).2 _ h
    omega
theorem inS_par {us : List Suit} (hs : SOk us) {j p : Nat} {w : Suit} {n : Tx} (hw : us[j]? = some w) (hd : w.d = some ((p : Int), n)) (c : Nat) : inS us c j = (decide (j = c) || inS us c p) := by
  unfold inS
  rw [ch_eq hs hw, hd]
  show (decide (j = c) || memT (c : Int) ((p : Int) :: ch us ((p : Int)).toNat)) = _
  rw [Int.toNat_natCast]
  congr 1
  rw [Bool.eq_iff_iff, memT_iff, List.mem_cons, Bool.or_eq_true, decide_eq_true_eq, memT_iff]
  constructor
  · rintro (h | h)
    · exact .inl (by omega)
    · exact .inr h
  · rintro (h | h)
    · exact .inl (by omega)
    · exact .inr h
theorem inS_no {us : List Suit} (hs : SOk us) {c k : Nat} (h : inS us c k = true) (hne : k ≠ c) : ∃ (w : Suit) (p : Nat) (n : Tx), us[k]? = some w ∧ w.d = some ((p : Int), n) ∧ p < k ∧ inS us c p = true := by
  unfold inS at h
  rw [Bool.or_eq_true, decide_eq_true_eq, memT_iff] at h
  rcases h with h | h
  · exact absurd h hne
  · cases hu : us[k]? with
    | none =>
      have : ch us k = [] := by unfold ch chF; rw [hu]
      rw [this] at h; cases h
    | some w =>
      rw [ch_eq hs hu] at h
      cases hd : w.d with
      | none => rw [hd] at h; cases h
      | some q =>
        obtain ⟨p, v, e1, e2, e3, _⟩ := hs.named k w q hu hd
        rw [hd] at h
        have h : (c : Int) ∈ q.1 :: ch us q.1.toNat := h
        rw [e1, Int.toNat_natCast] at h
        refine ⟨w, p, q.2, rfl, by rw [hd, ← e1], e2, ?_⟩
        unfold inS
        rw [Bool.or_eq_true, decide_eq_true_eq, memT_iff]
        rcases List.mem_cons.mp h with h | h
        · exact .inl (by omega)
        · exact .inr h
theorem inS_trans {us : List Suit} (hs : SOk us) {a b : Nat} (hab : inS us a b = true) : ∀ {k : Nat}, inS us b k = true → inS us a k = true := by
  intro k
  induction k using Nat.strongRecOn with
  | _ k ih =>
    intro h
    by_cases e : k = b
    · rw [e]; exact hab
    · obtain ⟨w, p, n, h1, h2, h3, h4⟩ := inS_no hs h e
      rw [inS_par hs h1 h2, ih p h3 h4, Bool.or_true]
theorem inS_tot {us : List Suit} (hs : SOk us) {a b : Nat} : ∀ {k : Nat}, inS us a k = true → inS us b k = true → inS us a b = true ∨ inS us b a = true := by
  intro k
  induction k using Nat.strongRecOn with
  | _ k ih =>
    intro ha hb
    by_cases e1 : k = a
    · rw [← e1]; exact .inr hb
    by_cases e2 : k = b
    · rw [← e2]; exact .inl ha
    obtain ⟨w, p, n, h1, h2, h3, h4⟩ := inS_no hs ha e1
    obtain ⟨w', p', n', h1', h2', h3', h4'⟩ := inS_no hs hb e2
    rw [h1] at h1'
    cases h1'
    rw [h2] at h2'
    have : p = p' := by
      have := congrArg (fun o : Option (Int × Tx) => o.map (·.1)) h2'
      have : (p : Int) = (p' : Int) := by simpa using this
      omega
    subst this
    exact ih p h3 h4 h4'
theorem inS_sib {us : List Suit} (hs : SOk us) {j j' c : Nat} {w w' : Suit} {n n' : Tx} (hw : us[j]? = some w) (hw' : us[j']? = some w') (hd : w.d = some ((c : Int), n)) (hd' : w'.d = some ((c : Int), n')) {k : Nat} (h : inS us j k = true) (h' : inS us j' k = true) : j = j' := by
  have key : ∀ {j j' : Nat} {w w' : Suit} {n n' : Tx}, us[j]? = some w → us[j']? = some w' → w.d = some ((c : Int), n) → w'.d = some ((c : Int), n') → inS us j j' = true → j = j' := by
    intro j j' w w' n n' hw hw' hd hd' h
    refine Classical.byContradiction fun hne => ?_
    rw [inS_par hs hw' hd', Bool.or_eq_true, decide_eq_true_eq] at h
    rcases h with h | h
    · exact hne h.symm
    · have h1 := inS_le hs h
      obtain ⟨p, v, e1, e2, _⟩ := hs.named j w _ hw hd
      have e1 : (c : Int) = (p : Int) := e1
      omega
  rcases inS_tot hs h h' with q | q
  · exact key hw hw' hd hd' q
  · exact (key hw' hw hd' hd q).symm
theorem sib_lt {us : List Suit} (hs : SOk us) {j c : Nat} {w : Suit} {n : Tx} (hw : us[j]? = some w) (hd : w.d = some ((c : Int), n)) : c < j := by
  obtain ⟨p, v, e1, e2, _⟩ := hs.named j w _ hw hd
  have e1 : (c : Int) = (p : Int) := e1
  omega
theorem local_ {us : List Suit} (hs : SOk us) {b b' : Oa → Bool} {t t' : List Bool} (h : Settles us b t) (h' : Settles us b' t') : ∀ (m c : Nat), us.length ≤ c + m → (∀ (k : Nat) (n : Tx), inS us c k = true → b ((k : Int), n) = b' ((k : Int), n)) → t[c]? = t'[c]? := by
  intro m
  induction m with
  | zero =>
    intro c hc _
    rw [List.getElem?_eq_none (by rw [h.len]; omega), List.getElem?_eq_none (by rw [h'.len]; omega)]
  | succ m ih =>
    intro c hc hb
    cases hu : us[c]? with
    | none =>
      have := List.getElem?_eq_none_iff.mp hu
      rw [List.getElem?_eq_none (by rw [h.len]; omega), List.getElem?_eq_none (by rw [h'.len]; omega)]
    | some u =>
      rw [h.at_ c u hu, h'.at_ c u hu]
      congr 2
      refine propext ?_
      have e : (margB u c fun k => b k || brkB us t k) = margB u c fun k => b' k || brkB us t' k := margB_congr fun n => by
        rw [hb c n (inS_self us c)]
        congr 1
        have hj : ∀ (j : Nat) (w : Suit), us[j]? = some w → w.d = some ((c : Int), n) → t[j]? = t'[j]? := fun j w hw hd => by
          have hlt := sib_lt hs hw hd
          refine ih j (by omega) fun k n' hk => hb k n' (inS_trans hs ?_ hk)
          rw [inS_par hs hw hd, inS_self, Bool.or_true]
        rw [Bool.eq_iff_iff, brk_iff, brk_iff]
        constructor
        · rintro ⟨j, w, h1, h2, h3⟩
          exact ⟨j, w, h1, by rw [← hj j w h1 h3]; exact h2, h3⟩
        · rintro ⟨j, w, h1, h2, h3⟩
          exact ⟨j, w, h1, by rw [hj j w h1 h3]; exact h2, h3⟩
      rw [e]
abbrev Brk (us : List Suit) (M : List Oa) (t : List Bool) : Prop := Settles us (fun k => memT k M) t
theorem law_settle_spec {us : List Suit} (hs : SOk us) (M : List Oa) : (t_law_settle us M).Post fun t => Brk us M t := by
  have hlen := hs.len
  unfold t_law_settle
  refine post_ofO (repT_one false us.length (by omega)) (post_gd (inR_s (by omega) (by omega)) ?_)
  rw [Int.toNat_natCast]
  refine post_bind (rev_post (fun i (t : List Bool) => t.length = us.length ∧ (∀ j, j < i → t[j]? = some false) ∧ ∀ (c : Nat) (u : Suit), i ≤ c → us[c]? = some u → t[c]? = some (decide (0 ≤ margB u c fun k => memT k M || brkB us t k))) ?_ ?_) ?_
  · refine ⟨List.length_replicate, fun j hj => ?_, fun c u hc hu => ?_⟩
    · rw [List.getElem?_replicate, if_pos hj]
    · have := (List.getElem?_eq_some_iff.mp hu).1
      omega
  · rintro i t hi ⟨h1, h2, h3⟩
    have hu : us[i]? = some us[i] := List.getElem?_eq_getElem hi
    rw [law_margin2_eq hs h1 hu, T.ok_bind, setT_nat (by omega), ofO_some']
    refine post_ok ⟨by rw [List.length_set]; exact h1, fun j hj => ?_, fun c u hc hcu => ?_⟩
    · rw [List.getElem?_set_ne (by omega)]
      exact h2 j (by omega)
    · have hbrk : ∀ (x : Bool) (n : Tx), brkB us (t.set i x) ((c : Int), n) = brkB us t ((c : Int), n) := fun x n => by
        rw [brk_set hu (h2 i (by omega))]
        cases x with
        | false => simp
        | true =>
          have : us[i].d ≠ some ((c : Int), n) := fun z => by
            have := sib_lt hs hu z
            omega
          simp [this]
      have em : ∀ x, (margB u c fun k => memT k M || brkB us (t.set i x) k) = margB u c fun k => memT k M || brkB us t k := fun x => margB_congr fun n => by rw [hbrk]
      rw [em]
      by_cases e : c = i
      · subst e
        rw [hu] at hcu
        cases hcu
        rw [List.getElem?_set_self (by omega)]
      · rw [List.getElem?_set_ne (by omega)]
        exact h3 c u (by omega) hcu
  · rintro t ⟨h1, h2, h3⟩
    exact post_ok ⟨h1, fun c u hu => h3 c u (Nat.zero_le _) hu⟩
theorem brk_ex {us : List Suit} (hs : SOk us) (M : List Oa) : ∃ t, Brk us M t := by
  obtain ⟨t, _, h⟩ := law_settle_spec hs M
  exact ⟨t, h⟩
def turns (us : List Suit) (told : List Bool) (M : List Oa) (c : Nat) : Prop := ∀ t, Brk us M t → t[c]? ≠ told[c]?
def zone (us : List Suit) (c : Nat) (p : Oa) : Bool := decide (0 ≤ p.1) && inS us c p.1.toNat
theorem zone_nat (us : List Suit) (c k : Nat) (n : Tx) : zone us c ((k : Int), n) = inS us c k := by
  unfold zone
  rw [decide_eq_true (by omega), Bool.true_and, Int.toNat_natCast]
theorem same_zone {us : List Suit} (hs : SOk us) {M M' : List Oa} {t t' : List Bool} (h : Brk us M t) (h' : Brk us M' t') {c : Nat} (he : ∀ p, zone us c p = true → (p ∈ M ↔ p ∈ M')) : t[c]? = t'[c]? := by
  refine local_ hs h h' us.length c (by omega) fun k n hk => ?_
  rw [Bool.eq_iff_iff, memT_iff, memT_iff]
  exact he _ (by rw [zone_nat]; exact hk)
theorem no_zone {us : List Suit} (hs : SOk us) {told : List Bool} (ht : Settles us no0 told) {M : List Oa} {t : List Bool} (h : Brk us M t) {c : Nat} (he : ∀ p ∈ M, zone us c p = false) : t[c]? = told[c]? := by
  have h0 : Brk us [] told := by
    refine ⟨ht.len, fun c u hu => ?_⟩
    rw [ht.at_ c u hu]
    rfl
  refine same_zone hs h h0 fun p hp => ⟨fun hm => ?_, fun hm => by cases hm⟩
  rw [he p hm] at hp
  cases hp
theorem filter_sub : ∀ {C zs : List Oath}, C.Sublist zs → (zs.map (·.1)).Nodup → zs.filter (fun o => memT o.1 (C.map (·.1))) = C
  | _, _, .slnil, _ => rfl
  | C, _, .cons (l₂ := zs) a h, hn => by
    rw [List.map_cons, List.nodup_cons] at hn
    rw [List.filter_cons_of_neg, filter_sub h hn.2]
    intro z
    rw [memT_iff] at z
    exact hn.1 ((h.map _).subset z)
  | _, _, .cons₂ (l₁ := C) (l₂ := zs) a h, hn => by
    rw [List.map_cons, List.nodup_cons] at hn
    rw [List.filter_cons_of_pos (by rw [memT_iff]; exact List.mem_cons_self)]
    congr 1
    refine (List.filter_congr fun o ho => ?_).trans (filter_sub h hn.2)
    rw [Bool.eq_iff_iff, memT_iff, memT_iff, List.map_cons, List.mem_cons]
    constructor
    · rintro (e | e)
      · exact absurd (List.mem_map.mpr ⟨o, ho, e⟩) hn.1
      · exact e
    · exact .inr
theorem sum_disj {α : Type} {M : List Oa} {z : α → Oa → Bool} : ∀ {xs : List α} {Q : Oa → Bool}, xs.Pairwise (fun x y => ∀ p, z x p = true → z y p = true → False) → (∀ x ∈ xs, ∀ p, z x p = true → Q p = true) → (xs.map fun x => (M.filter (z x)).length).sum ≤ (M.filter Q).length
  | [], Q, _, _ => Nat.zero_le _
  | x :: xs, Q, hd, hq => by
    have h := List.pairwise_cons.mp hd
    have ih := sum_disj (M := M) (z := z) (xs := xs) (Q := fun p => Q p && !z x p) h.2 fun y hy p hp => by
      rw [hq y (List.mem_cons_of_mem _ hy) p hp]
      cases hx : z x p with
      | false => rfl
      | true => exact (h.1 y hy p hx hp).elim
    rw [List.map_cons, List.sum_cons]
    have e : (M.filter Q).length = (M.filter (z x)).length + (M.filter fun p => Q p && !z x p).length := by
      have hsub := hq x List.mem_cons_self
      clear ih
      induction M with
      | nil => rfl
      | cons p M ihM =>
        rw [List.filter_cons, List.filter_cons, List.filter_cons]
        cases hz : z x p with
        | true =>
          rw [hsub p hz]
          simp only [if_true, Bool.not_true, Bool.and_false, Bool.false_eq_true, if_false, List.length_cons]
          omega
        | false =>
          cases hQ : Q p with
          | true =>
            simp only [if_true, Bool.not_false, Bool.and_true, Bool.false_eq_true, if_false, List.length_cons]
            omega
          | false =>
            simp only [Bool.false_and, Bool.false_eq_true, if_false]
            omega
    omega
end Ty

namespace Ty
open PySem VS L2
theorem margin_flip {u : Suit} {c : Int} {b b' : Oa → Bool} {st : Bool} {C : List Oath} (hs : SideOk (u.a ++ u.b)) (hC : C.Sublist (trueB b u c st)) (hb : ∀ n ∈ namesOf u, b' (c, n) = (b (c, n) ^^ memT n (C.map (·.1)))) :
    margB u c b' = if st = true then margB u c b - sumW C else margB u c b + sumW C := by
  have hsub : C.Sublist (u.a ++ u.b) := hC.trans (trueB_sub b u c st)
  have hf := filter_sub hsub hs.nd
  have hsum : sumW C = sumW (u.a.filter fun o => memT o.1 (C.map (·.1))) + sumW (u.b.filter fun o => memT o.1 (C.map (·.1))) := by
    rw [← sumW_app, ← List.filter_append, hf]
  have hnd := hs.nd
  rw [List.map_append, List.nodup_append] at hnd
  have hcl : ∀ n ∈ C.map (·.1), b (c, n) = !decide (memT n (u.a.map (·.1)) = st) := fun n hn => few_claims hs ((hC.map _).subset hn)
  have hA : ∀ o ∈ u.a, memT o.1 (u.a.map (·.1)) = true := fun o ho => (memT_iff _ _).mpr (List.mem_map.mpr ⟨o, ho, rfl⟩)
  have hB : ∀ o ∈ u.b, memT o.1 (u.a.map (·.1)) = false := fun o ho => by
    rw [Bool.eq_false_iff]
    intro z
    exact hnd.2.2 _ ((memT_iff _ _).mp z) _ (List.mem_map.mpr ⟨o, ho, rfl⟩) rfl
  have ha' : ∀ o ∈ u.a, b' (c, o.1) = (b (c, o.1) ^^ memT o.1 (C.map (·.1))) := fun o ho => hb _ (List.mem_map.mpr ⟨o, List.mem_append_left _ ho, rfl⟩)
  have hb' : ∀ o ∈ u.b, b' (c, o.1) = (b (c, o.1) ^^ memT o.1 (C.map (·.1))) := fun o ho => hb _ (List.mem_map.mpr ⟨o, List.mem_append_right _ ho, rfl⟩)
  have sa := sumW_filter_split (fun o => !b (c, o.1)) (fun o => memT o.1 (C.map (·.1))) u.a
  have sa' := sumW_filter_split (fun o => !b' (c, o.1)) (fun o => memT o.1 (C.map (·.1))) u.a
  have sb := sumW_filter_split (fun o => !b (c, o.1)) (fun o => memT o.1 (C.map (·.1))) u.b
  have sb' := sumW_filter_split (fun o => !b' (c, o.1)) (fun o => memT o.1 (C.map (·.1))) u.b
  unfold margB keptW
  -- the parts that are in C, and not
  have ea1 : (u.a.filter fun o => !b' (c, o.1) && !memT o.1 (C.map (·.1))) = u.a.filter fun o => !b (c, o.1) && !memT o.1 (C.map (·.1)) := List.filter_congr fun o ho => by
    rw [ha' o ho]
    cases b (c, o.1) <;> cases memT o.1 (C.map (·.1)) <;> rfl
  have eb1 : (u.b.filter fun o => !b' (c, o.1) && !memT o.1 (C.map (·.1))) = u.b.filter fun o => !b (c, o.1) && !memT o.1 (C.map (·.1)) := List.filter_congr fun o ho => by
    rw [hb' o ho]
    cases b (c, o.1) <;> cases memT o.1 (C.map (·.1)) <;> rfl
  have bo : ∀ o : Oath, memT o.1 (C.map (·.1)) = true → b (c, o.1) = !decide (memT o.1 (u.a.map (·.1)) = st) := fun o h => hcl _ ((memT_iff _ _).mp h)
  cases st with
  | true =>
    rw [if_pos rfl]
    have e1 : (u.a.filter fun o => !b (c, o.1) && memT o.1 (C.map (·.1))) = u.a.filter fun o => memT o.1 (C.map (·.1)) := List.filter_congr fun o ho => by
      cases hm : memT o.1 (C.map (·.1)) with
      | false => rw [Bool.and_false]
      | true => rw [bo o hm, hA o ho]; rfl
    have e2 : (u.a.filter fun o => !b' (c, o.1) && memT o.1 (C.map (·.1))) = [] := List.filter_eq_nil_iff.mpr fun o ho => by
      rw [ha' o ho]
      cases hm : memT o.1 (C.map (·.1)) with
      | false => simp
      | true => rw [bo o hm, hA o ho]; simp
    have e3 : (u.b.filter fun o => !b (c, o.1) && memT o.1 (C.map (·.1))) = [] := List.filter_eq_nil_iff.mpr fun o ho => by
      cases hm : memT o.1 (C.map (·.1)) with
      | false => simp
      | true => rw [bo o hm, hB o ho]; simp
    have e4 : (u.b.filter fun o => !b' (c, o.1) && memT o.1 (C.map (·.1))) = u.b.filter fun o => memT o.1 (C.map (·.1)) := List.filter_congr fun o ho => by
      rw [hb' o ho]
      cases hm : memT o.1 (C.map (·.1)) with
      | false => rw [Bool.and_false]
      | true => rw [bo o hm, hB o ho]; rfl
    rw [e1] at sa
    rw [e2, ea1] at sa'
    rw [e3] at sb
    rw [e4, eb1] at sb'
    have z : sumW ([] : List Oath) = 0 := rfl
    rw [z] at sa' sb
    omega
  | false =>
    rw [if_neg (by simp)]
    have e1 : (u.a.filter fun o => !b (c, o.1) && memT o.1 (C.map (·.1))) = [] := List.filter_eq_nil_iff.mpr fun o ho => by
      cases hm : memT o.1 (C.map (·.1)) with
      | false => simp
      | true => rw [bo o hm, hA o ho]; simp
    have e2 : (u.a.filter fun o => !b' (c, o.1) && memT o.1 (C.map (·.1))) = u.a.filter fun o => memT o.1 (C.map (·.1)) := List.filter_congr fun o ho => by
      rw [ha' o ho]
      cases hm : memT o.1 (C.map (·.1)) with
      | false => rw [Bool.and_false]
      | true => rw [bo o hm, hA o ho]; rfl
    have e3 : (u.b.filter fun o => !b (c, o.1) && memT o.1 (C.map (·.1))) = u.b.filter fun o => memT o.1 (C.map (·.1)) := List.filter_congr fun o ho => by
      cases hm : memT o.1 (C.map (·.1)) with
      | false => rw [Bool.and_false]
      | true => rw [bo o hm, hB o ho]; rfl
    have e4 : (u.b.filter fun o => !b' (c, o.1) && memT o.1 (C.map (·.1))) = [] := List.filter_eq_nil_iff.mpr fun o ho => by
      rw [hb' o ho]
      cases hm : memT o.1 (C.map (·.1)) with
      | false => simp
      | true => rw [bo o hm, hB o ho]; simp
    rw [e1] at sa
    rw [e2, ea1] at sa'
    rw [e3] at sb
    rw [e4, eb1] at sb'
    have z : sumW ([] : List Oath) = 0 := rfl
    rw [z] at sa sb'
    omega
theorem margin_change {u : Suit} {c : Int} {b b' : Oa → Bool} {st : Bool} (hs : SideOk (u.a ++ u.b)) :
    if st = true then margB u c b - sumW ((trueB b u c st).filter fun o => b' (c, o.1) != b (c, o.1)) ≤ margB u c b' else margB u c b' ≤ margB u c b + sumW ((trueB b u c st).filter fun o => b' (c, o.1) != b (c, o.1)) := by
  have w1 : ∀ z ∈ u.a, 0 ≤ z.2 := fun z hz => by have := (hs.wt z (List.mem_append_left _ hz)).1; omega
  have w2 : ∀ z ∈ u.b, 0 ≤ z.2 := fun z hz => by have := (hs.wt z (List.mem_append_right _ hz)).1; omega
  unfold trueB
  rw [List.filter_append, sumW_app, List.filter_filter, List.filter_filter]
  unfold margB keptW
  have sa := sumW_filter_split (fun o => !b (c, o.1)) (fun o => b' (c, o.1)) u.a
  have sa' := sumW_filter_split (fun o => !b' (c, o.1)) (fun o => b (c, o.1)) u.a
  have sb := sumW_filter_split (fun o => !b (c, o.1)) (fun o => b' (c, o.1)) u.b
  have sb' := sumW_filter_split (fun o => !b' (c, o.1)) (fun o => b (c, o.1)) u.b
  have qa : (u.a.filter fun o => !b' (c, o.1) && !b (c, o.1)) = u.a.filter fun o => !b (c, o.1) && !b' (c, o.1) := List.filter_congr fun o _ => Bool.and_comm _ _
  have qb : (u.b.filter fun o => !b' (c, o.1) && !b (c, o.1)) = u.b.filter fun o => !b (c, o.1) && !b' (c, o.1) := List.filter_congr fun o _ => Bool.and_comm _ _
  rw [qa] at sa'
  rw [qb] at sb'
  have n1 := sumW_nonneg (zs := u.a.filter fun o => !b' (c, o.1) && b (c, o.1)) fun z hz => w1 z (List.mem_filter.mp hz).1
  have n2 := sumW_nonneg (zs := u.b.filter fun o => !b (c, o.1) && b' (c, o.1)) fun z hz => w2 z (List.mem_filter.mp hz).1
  have n3 := sumW_nonneg (zs := u.a.filter fun o => !b (c, o.1) && b' (c, o.1)) fun z hz => w1 z (List.mem_filter.mp hz).1
  have n4 := sumW_nonneg (zs := u.b.filter fun o => !b' (c, o.1) && b (c, o.1)) fun z hz => w2 z (List.mem_filter.mp hz).1
  cases st with
  | true =>
    rw [if_pos rfl]
    have e1 : (u.a.filter fun o => (b' (c, o.1) != b (c, o.1)) && decide ((!b (c, o.1)) = true)) = u.a.filter fun o => !b (c, o.1) && b' (c, o.1) := List.filter_congr fun o _ => by
      cases b (c, o.1) <;> cases b' (c, o.1) <;> rfl
    have e2 : (u.b.filter fun o => (b' (c, o.1) != b (c, o.1)) && decide (b (c, o.1) = true)) = u.b.filter fun o => !b' (c, o.1) && b (c, o.1) := List.filter_congr fun o _ => by
      cases b (c, o.1) <;> cases b' (c, o.1) <;> rfl
    rw [e1, e2]
    omega
  | false =>
    rw [if_neg (by simp)]
    have e1 : (u.a.filter fun o => (b' (c, o.1) != b (c, o.1)) && decide ((!b (c, o.1)) = false)) = u.a.filter fun o => !b' (c, o.1) && b (c, o.1) := List.filter_congr fun o _ => by
      cases b (c, o.1) <;> cases b' (c, o.1) <;> rfl
    have e2 : (u.b.filter fun o => (b' (c, o.1) != b (c, o.1)) && decide (b (c, o.1) = false)) = u.b.filter fun o => !b (c, o.1) && b' (c, o.1) := List.filter_congr fun o _ => by
      cases b (c, o.1) <;> cases b' (c, o.1) <;> rfl
    rw [e1, e2]
    omega
theorem true_sum (b : Oa → Bool) (u : Suit) (c : Int) (st : Bool) : sumW (trueB b u c st) = if st = true then margB u c b + u.c + sumW u.b else sumW u.a - margB u c b - u.c := by
  unfold trueB margB keptW
  rw [sumW_app]
  have sa : sumW (u.a.filter fun o => !b (c, o.1)) = sumW u.a - sumW (u.a.filter fun o => b (c, o.1)) := filter_not_sum _ _
  have sb : sumW (u.b.filter fun o => !b (c, o.1)) = sumW u.b - sumW (u.b.filter fun o => b (c, o.1)) := filter_not_sum _ _
  cases st with
  | true =>
    have e1 : (u.a.filter fun o => decide ((!b (c, o.1)) = true)) = u.a.filter fun o => !b (c, o.1) := List.filter_congr fun o _ => by cases b (c, o.1) <;> rfl
    have e2 : (u.b.filter fun o => decide (b (c, o.1) = true)) = u.b.filter fun o => b (c, o.1) := List.filter_congr fun o _ => by cases b (c, o.1) <;> rfl
    rw [e1, e2, if_pos rfl]
    omega
  | false =>
    have e1 : (u.a.filter fun o => decide ((!b (c, o.1)) = false)) = u.a.filter fun o => b (c, o.1) := List.filter_congr fun o _ => by cases b (c, o.1) <;> rfl
    have e2 : (u.b.filter fun o => decide (b (c, o.1) = false)) = u.b.filter fun o => !b (c, o.1) := List.filter_congr fun o _ => by cases b (c, o.1) <;> rfl
    rw [e1, e2, if_neg (by simp)]
    omega
end Ty

namespace Ty
open PySem VS L2
theorem nodup_len {α : Type} [DecidableEq α] : ∀ {xs ys : List α}, xs.Nodup → (∀ x ∈ xs, x ∈ ys) → xs.length ≤ ys.length
  | [], ys, _, _ => Nat.zero_le _
  | x :: xs, ys, hn, hs => by
    have hn' := List.nodup_cons.mp hn
    have hp := List.perm_cons_erase (hs x List.mem_cons_self)
    have := nodup_len (xs := xs) (ys := ys.erase x) hn'.2 fun z hz => by
      refine (List.mem_erase_of_ne fun q => ?_).mpr (hs z (List.mem_cons_of_mem _ hz))
      subst q
      exact hn'.1 hz
    rw [hp.length_eq, List.length_cons, List.length_cons]
    omega
def PlanOk (us : List Suit) (told : List Bool) (c : Nat) (u : Suit) (r : Option (List Oa)) : Prop := match r with
  | some row => row.Nodup ∧ (∀ p ∈ row, zone us c p = true ∧ p ∈ oathsOf us) ∧ turns us told row c ∧ (∀ M : List Oa, M.Nodup → turns us told M c → row.length ≤ (M.filter (zone us c)).length) ∧ u.c ≤ sumW u.a
  | none => told[c]? = some false ∧ sumW u.a < u.c ∧ ∀ M : List Oa, M.Nodup → ¬ turns us told M c
def planRow (plans : List (Option (List Oa))) (i : Int) : List Oa := match plans[i.toNat]? with
  | some (some r) => r
  | _ => []
def stN (us : List Suit) (told : List Bool) (c : Int) (n : Tx) : List Int := (namersOf us c n).filter fun i => decide (told[i.toNat]? = some true)
def oaRow (us : List Suit) (told : List Bool) (plans : List (Option (List Oa))) (c : Int) (n : Tx) : List Oa := if brkB us told (c, n) = true then (stN us told c n).flatMap (planRow plans) else [(c, n)]
def zoneN (us : List Suit) (c : Int) (n : Tx) (p : Oa) : Bool := decide (p = (c, n)) || (namersOf us c n).any fun i => zone us i.toNat p
structure LaterOk (us : List Suit) (told : List Bool) (c : Nat) (plans : List (Option (List Oa))) : Prop where
  len : plans.length = us.length
  ok : ∀ (j : Nat) (w : Suit), c < j → us[j]? = some w → ∃ r, plans[j]? = some r ∧ PlanOk us told j w r
section
variable {us : List Suit} {told : List Bool} {plans : List (Option (List Oa))} {c : Nat} {u : Suit}
theorem plan_at (hs : SOk us) (hp : LaterOk us told c plans) {n : Tx} {j : Nat} {w : Suit} (hw : us[j]? = some w) (hd : w.d = some ((c : Int), n)) (ht : told[j]? = some true) : plans[j]? = some (some (planRow plans (j : Int))) ∧ PlanOk us told j w (some (planRow plans (j : Int))) := by
  obtain ⟨r, h1, h2⟩ := hp.ok j w (sib_lt hs hw hd) hw
  cases r with
  | none =>
    have h3 := h2.1
    rw [ht] at h3
    cases h3
  | some row =>
    have e : planRow plans (j : Int) = row := by
      unfold planRow
      rw [Int.toNat_natCast, h1]
    rw [e]
    exact ⟨h1, h2⟩
theorem mem_stN {c : Int} {n : Tx} {i : Int} : i ∈ stN us told c n ↔ ∃ (j : Nat) (w : Suit), i = (j : Int) ∧ us[j]? = some w ∧ w.d = some (c, n) ∧ told[j]? = some true := by
  unfold stN
  rw [List.mem_filter, mem_namers, decide_eq_true_eq]
  constructor
  · rintro ⟨⟨j, w, rfl, h1, h2⟩, h3⟩
    rw [Int.toNat_natCast] at h3
    exact ⟨j, w, rfl, h1, h2, h3⟩
  · rintro ⟨j, w, rfl, h1, h2, h3⟩
    exact ⟨⟨j, w, rfl, h1, h2⟩, by rw [Int.toNat_natCast]; exact h3⟩
theorem mem_oaRow_b {c : Int} {n : Tx} (h : brkB us told (c, n) = true) {p : Oa} : p ∈ oaRow us told plans c n ↔ ∃ (j : Nat) (w : Suit), us[j]? = some w ∧ w.d = some (c, n) ∧ told[j]? = some true ∧ p ∈ planRow plans (j : Int) := by
  unfold oaRow
  rw [if_pos h, List.mem_flatMap]
  constructor
  · rintro ⟨i, hi, hp⟩
    obtain ⟨j, w, rfl, h1, h2, h3⟩ := mem_stN.mp hi
    exact ⟨j, w, h1, h2, h3, hp⟩
  · rintro ⟨j, w, h1, h2, h3, hp⟩
    exact ⟨(j : Int), mem_stN.mpr ⟨j, w, rfl, h1, h2, h3⟩, hp⟩
theorem oaRow_n {c : Int} {n : Tx} (h : brkB us told (c, n) = false) : oaRow us told plans c n = [(c, n)] := by
  unfold oaRow
  rw [if_neg (by rw [h]; simp)]
theorem zoneN_iff {n : Tx} {p : Oa} {c : Int} : zoneN us c n p = true ↔ p = (c, n) ∨ ∃ (j : Nat) (w : Suit), us[j]? = some w ∧ w.d = some (c, n) ∧ zone us j p = true := by
  unfold zoneN
  rw [Bool.or_eq_true, decide_eq_true_eq, List.any_eq_true]
  refine or_congr_right ⟨?_, ?_⟩
  · rintro ⟨i, hi, h⟩
    obtain ⟨j, w, rfl, h1, h2⟩ := mem_namers.mp hi
    rw [Int.toNat_natCast] at h
    exact ⟨j, w, h1, h2, h⟩
  · rintro ⟨j, w, h1, h2, h⟩
    exact ⟨(j : Int), mem_namers.mpr ⟨j, w, rfl, h1, h2⟩, by rw [Int.toNat_natCast]; exact h⟩
theorem zone_up (hs : SOk us) {n : Tx} {j : Nat} {w : Suit} (hw : us[j]? = some w) (hd : w.d = some ((c : Int), n)) {p : Oa} (h : zone us j p = true) : zone us c p = true := by
  unfold zone at *
  rw [Bool.and_eq_true] at *
  refine ⟨h.1, inS_trans hs ?_ h.2⟩
  rw [inS_par hs hw hd, inS_self, Bool.or_true]
theorem zoneN_zone (hs : SOk us) {n : Tx} {p : Oa} (h : zoneN us (c : Int) n p = true) : zone us c p = true := by
  rcases zoneN_iff.mp h with rfl | ⟨j, w, h1, h2, h3⟩
  · rw [zone_nat]; exact inS_self us c
  · exact zone_up hs h1 h2 h3
theorem zone_not_own (hs : SOk us) {n n' : Tx} {j : Nat} {w : Suit} (hw : us[j]? = some w) (hd : w.d = some ((c : Int), n)) : zone us j ((c : Int), n') = false := by
  rw [Bool.eq_false_iff, zone_nat]
  intro h
  have h1 := inS_le hs h
  have h2 := sib_lt hs hw hd
  omega
theorem zone_sib (hs : SOk us) {n n' : Tx} {j j' : Nat} {w w' : Suit} (hw : us[j]? = some w) (hd : w.d = some ((c : Int), n)) (hw' : us[j']? = some w') (hd' : w'.d = some ((c : Int), n')) {p : Oa} (h : zone us j p = true) (h' : zone us j' p = true) : j = j' := by
  unfold zone at *
  rw [Bool.and_eq_true] at *
  exact inS_sib hs hw hw' hd hd' h.2 h'.2
theorem zoneN_disj (hs : SOk us) {n n' : Tx} {p : Oa} (h : zoneN us (c : Int) n p = true) (h' : zoneN us (c : Int) n' p = true) : n = n' := by
  rcases zoneN_iff.mp h with rfl | ⟨j, w, h1, h2, h3⟩
  · rcases zoneN_iff.mp h' with e | ⟨j, w, h1, h2, h3⟩
    · cases e; rfl
    · rw [zone_not_own hs h1 h2] at h3; cases h3
  · rcases zoneN_iff.mp h' with rfl | ⟨j', w', h1', h2', h3'⟩
    · rw [zone_not_own hs h1 h2] at h3; cases h3
    · have := zone_sib hs h1 h2 h1' h2' h3 h3'
      subst this
      rw [h1] at h1'
      cases h1'
      rw [h2] at h2'
      cases h2'
      rfl
theorem row_zone (hs : SOk us) (hp : LaterOk us told c plans) {n : Tx} {p : Oa} (h : p ∈ oaRow us told plans (c : Int) n) : zoneN us (c : Int) n p = true := by
  cases hb : brkB us told ((c : Int), n) with
  | false =>
    rw [oaRow_n hb, List.mem_singleton] at h
    exact zoneN_iff.mpr (.inl h)
  | true =>
    obtain ⟨j, w, h1, h2, h3, h4⟩ := (mem_oaRow_b hb).mp h
    exact zoneN_iff.mpr (.inr ⟨j, w, h1, h2, ((plan_at hs hp h1 h2 h3).2.2.1 p h4).1⟩)
theorem row_oaths (hs : SOk us) (hu : us[c]? = some u) (hp : LaterOk us told c plans) {n : Tx} (hn : n ∈ namesOf u) {p : Oa} (h : p ∈ oaRow us told plans (c : Int) n) : p ∈ oathsOf us := by
  cases hb : brkB us told ((c : Int), n) with
  | false =>
    rw [oaRow_n hb, List.mem_singleton] at h
    subst h
    exact mem_oaths.mpr ⟨c, u, rfl, hu, hn⟩
  | true =>
    obtain ⟨j, w, h1, h2, h3, h4⟩ := (mem_oaRow_b hb).mp h
    exact ((plan_at hs hp h1 h2 h3).2.2.1 p h4).2
theorem nodup_flat {α β : Type} {f : α → List β} {xs : List α} (h1 : ∀ x ∈ xs, (f x).Nodup) (h2 : xs.Pairwise fun x y => ∀ z, z ∈ f x → z ∈ f y → False) : (xs.flatMap f).Nodup := by
  unfold List.Nodup
  rw [List.pairwise_flatMap]
  refine ⟨fun x hx => h1 x hx, h2.imp ?_⟩
  intro x y h a ha b hb e
  subst e
  exact h a ha hb
theorem row_nodup (hs : SOk us) (hp : LaterOk us told c plans) (n : Tx) : (oaRow us told plans (c : Int) n).Nodup := by
  cases hb : brkB us told ((c : Int), n) with
  | false => rw [oaRow_n hb]; simp
  | true =>
    unfold oaRow
    rw [if_pos hb]
    refine nodup_flat (fun i hi => ?_) ?_
    · obtain ⟨j, w, rfl, h1, h2, h3⟩ := mem_stN.mp hi
      exact (plan_at hs hp h1 h2 h3).2.1
    · have hn : (stN us told (c : Int) n).Nodup := (namers_nodup us _ n).sublist List.filter_sublist
      have hmem : ∀ i ∈ stN us told (c : Int) n, ∃ (j : Nat) (w : Suit), i = (j : Int) ∧ us[j]? = some w ∧ w.d = some ((c : Int), n) ∧ told[j]? = some true := fun i hi => mem_stN.mp hi
      refine List.Pairwise.imp_of_mem ?_ hn
      intro i i' hi hi' hne z hz hz'
      obtain ⟨j, w, rfl, h1, h2, h3⟩ := hmem i hi
      obtain ⟨j', w', rfl, h1', h2', h3'⟩ := hmem i' hi'
      have q := ((plan_at hs hp h1 h2 h3).2.2.1 z hz).1
      have q' := ((plan_at hs hp h1' h2' h3').2.2.1 z hz').1
      have := zone_sib hs h1 h2 h1' h2' q q'
      exact hne (by omega)
theorem row_len (hs : SOk us) (hu : us[c]? = some u) (hp : LaterOk us told c plans) {n : Tx} (hn : n ∈ namesOf u) : (oaRow us told plans (c : Int) n).length ≤ 1440 :=
  Nat.le_trans (nodup_len (row_nodup hs hp n) fun p hpm => row_oaths hs hu hp hn hpm) (oaths_len hs)
theorem oath_plan_eq (hs : SOk us) (hl : told.length = us.length) {ms : Marks} (hm : ∀ k, (dget ms k).isSome = brkB us told k) (hp : LaterOk us told c plans) (n : Tx) : t_oath_plan us (c : Int) n ms told plans = .ok (oaRow us told plans (c : Int) n) := by
  have hlen := hs.len
  unfold t_oath_plan
  rw [hm]
  cases hb : brkB us told ((c : Int), n) with
  | false =>
    simp only [Bool.not_false, if_true]
    rw [oaRow_n hb]
  | true =>
    simp only [Bool.not_true, Bool.false_eq_true, if_false]
    have h1 : t_naming us (c : Int) n = .ok (namersOf us (c : Int) n) := naming_eq (by omega) _ _
    rw [h1, T.ok_bind]
    have hrow : oaRow us told plans (c : Int) n = ((namersOf us (c : Int) n).filter fun i => decide (told[i.toNat]? = some true)).flatMap (planRow plans) := by
      unfold oaRow stN
      rw [if_pos hb]
    suffices h : (T.forM (namersOf us (c : Int) n) (([] : List Oa) : (List Oa)) (fun (i2 : Int) row4 => (((T.ofO (atI told i2)).bind fun x5 =>
        if x5 = true then ((T.ofO (atI plans i2)).bind fun x6 =>
        (T.ofO x6).bind fun u7 =>
        (T.ofO (catT row4 u7)).bind fun x8 =>
        .ok x8) else (.ok row4)) : T Empty (List Oa)))).Post fun row => row = oaRow us told plans (c : Int) n by
      obtain ⟨r, e, rfl⟩ := h
      rw [e, T.ok_bind]
    rw [hrow]
    have hnl := namers_len us (c : Int) n
    refine post_imp (forM_post (fun pre row => row = (pre.filter fun i => decide (told[i.toNat]? = some true)).flatMap (planRow plans) ∧ row.length ≤ 1440 * pre.length) ⟨rfl, by simp⟩ ?_) fun r hr => hr.1
    rintro pre i post row ex ⟨rfl, hrl⟩
    have hi : i ∈ namersOf us (c : Int) n := by rw [ex]; simp
    have hpl : pre.length ≤ 60 := by
      have := congrArg List.length ex
      rw [List.length_append] at this
      omega
    obtain ⟨j, w, rfl, hw, hd⟩ := mem_namers.mp hi
    have hj := (List.getElem?_eq_some_iff.mp hw).1
    have htj : told[j]? = some told[j] := List.getElem?_eq_getElem (by omega)
    rw [atI_n, htj, ofO_some']
    by_cases hb2 : told[j] = true
    · rw [if_pos hb2]
      rw [hb2] at htj
      obtain ⟨q1, q2⟩ := plan_at hs hp hw hd htj
      have hlr : (planRow plans (j : Int)).length ≤ 1440 := Nat.le_trans (nodup_len q2.1 fun p hpm => (q2.2.1 p hpm).2) (oaths_len hs)
      rw [atI_n, q1, ofO_some', ofO_some', catT_ok (by omega), ofO_some']
      refine post_ok ⟨?_, ?_⟩
      · rw [List.filter_append, List.flatMap_append]
        congr 1
        rw [List.filter_cons_of_pos (by rw [Int.toNat_natCast, htj]; simp)]
        simp
      · rw [List.length_append, List.length_append, List.length_singleton]
        omega
    · rw [if_neg hb2]
      refine post_ok ⟨?_, ?_⟩
      · rw [List.filter_append, List.flatMap_append, List.filter_cons_of_neg (by rw [Int.toNat_natCast, htj]; simpa using hb2)]
        simp
      · rw [List.length_append, List.length_singleton]
        omega
end
end Ty

namespace Ty
open PySem VS L2
theorem bne_f {x : Bool} (h : (x != false) = true) : x = true := by
  cases x
  · cases h
  · rfl
theorem bne_t {x : Bool} (h : (x != true) = true) : x = false := by
  cases x
  · rfl
  · cases h
section
variable {us : List Suit} {told : List Bool} {plans : List (Option (List Oa))} {c : Nat} {u : Suit}
def rowOf (us : List Suit) (told : List Bool) (plans : List (Option (List Oa))) (c : Nat) (D : List Oath) : List Oa := D.flatMap fun o => oaRow us told plans (c : Int) o.1
theorem mem_rowOf {D : List Oath} {p : Oa} : p ∈ rowOf us told plans c D ↔ ∃ o ∈ D, p ∈ oaRow us told plans (c : Int) o.1 := List.mem_flatMap
theorem true_names (hs : SOk us) (hu : us[c]? = some u) {b : Oa → Bool} {st : Bool} {D : List Oath} (hD : D.Sublist (trueB b u (c : Int) st)) : (D.map (·.1)).Nodup ∧ ∀ n ∈ D.map (·.1), n ∈ namesOf u := by
  obtain ⟨so, _, _⟩ := hs.side u (List.mem_of_getElem? hu)
  have h := (hD.trans (trueB_sub b u (c : Int) st)).map (·.1)
  exact ⟨so.nd.sublist h, fun n hn => h.subset hn⟩
theorem rowOf_nodup (hs : SOk us) (hp : LaterOk us told c plans) {D : List Oath} (hn : (D.map (·.1)).Nodup) : (rowOf us told plans c D).Nodup := by
  refine nodup_flat (fun o _ => row_nodup hs hp o.1) ?_
  rw [List.Nodup, List.pairwise_map] at hn
  exact hn.imp fun {o o'} hne p h h' => hne (zoneN_disj hs (row_zone hs hp h) (row_zone hs hp h'))
theorem row_turns (hs : SOk us) (ht : Settles us no0 told) (hu : us[c]? = some u) (hp : LaterOk us told c plans) {D : List Oath} (hD : D.Sublist (trueB (brkB us told) u (c : Int) (decide (0 ≤ margB u c (brkB us told)))))
    (hg : (if (decide (0 ≤ margB u c (brkB us told))) = true then margB u c (brkB us told) + 1 else 0 - margB u c (brkB us told)) ≤ sumW D) : turns us told (rowOf us told plans c D) c := by
  obtain ⟨so, _, _⟩ := hs.side u (List.mem_of_getElem? hu)
  obtain ⟨hdn, hdm⟩ := true_names hs hu hD
  intro t hb
  have hnot : ∀ {n : Tx} {p : Oa}, p ∈ rowOf us told plans c D → zoneN us (c : Int) n p = true → n ∈ D.map (·.1) ∧ p ∈ oaRow us told plans (c : Int) n := fun {n p} h hz => by
    obtain ⟨o, ho, hpo⟩ := mem_rowOf.mp h
    have := zoneN_disj hs hz (row_zone hs hp hpo)
    subst this
    exact ⟨List.mem_map.mpr ⟨o, ho, rfl⟩, hpo⟩
  have hin : ∀ {n : Tx} {p : Oa}, n ∈ D.map (·.1) → p ∈ oaRow us told plans (c : Int) n → p ∈ rowOf us told plans c D := fun {n p} h hpo => by
    obtain ⟨o, ho, rfl⟩ := List.mem_map.mp h
    exact mem_rowOf.mpr ⟨o, ho, hpo⟩
  have hnz : ∀ {n : Tx} {j : Nat} {w : Suit} {p : Oa}, us[j]? = some w → w.d = some ((c : Int), n) → zone us j p = true → zoneN us (c : Int) n p = true := fun {n j w p} h1 h2 h3 => zoneN_iff.mpr (.inr ⟨j, w, h1, h2, h3⟩)
  have hown : ∀ n, zoneN us (c : Int) n ((c : Int), n) = true := fun n => zoneN_iff.mpr (.inl rfl)
  have status : ∀ n ∈ namesOf u, (memT ((c : Int), n) (rowOf us told plans c D) || brkB us t ((c : Int), n)) = (brkB us told ((c : Int), n) ^^ memT n (D.map (·.1))) := by
    intro n _
    by_cases hmem : n ∈ D.map (·.1)
    · rw [(memT_iff _ _).mpr hmem, Bool.xor_true]
      cases hbr : brkB us told ((c : Int), n) with
      | false =>
        have : ((c : Int), n) ∈ rowOf us told plans c D := hin hmem (by rw [oaRow_n hbr]; exact List.mem_singleton.mpr rfl)
        rw [(memT_iff _ _).mpr this]
        rfl
      | true =>
        have h1 : memT ((c : Int), n) (rowOf us told plans c D) = false := by
          rw [Bool.eq_false_iff]
          intro z
          obtain ⟨_, hz⟩ := hnot ((memT_iff _ _).mp z) (hown n)
          obtain ⟨j, w, q1, q2, q3, q4⟩ := (mem_oaRow_b hbr).mp hz
          have q5 := ((plan_at hs hp q1 q2 q3).2.2.1 _ q4).1
          rw [zone_not_own hs q1 q2] at q5
          cases q5
        have h2 : brkB us t ((c : Int), n) = false := by
          rw [Bool.eq_false_iff]
          intro z
          obtain ⟨j, w, q1, q2, q3⟩ := brk_iff.mp z
          have hjl := (List.getElem?_eq_some_iff.mp q1).1
          have hjt : j < told.length := by rw [ht.len]; exact hjl
          have htj : told[j]? = some told[j] := List.getElem?_eq_getElem hjt
          by_cases hst : told[j] = true
          · rw [hst] at htj
            obtain ⟨p1, p2⟩ := plan_at hs hp q1 q3 htj
            obtain ⟨tj, hj⟩ := brk_ex hs (planRow plans (j : Int))
            have e : t[j]? = tj[j]? := same_zone hs hb hj fun p hz => ⟨fun hpr => by
              obtain ⟨_, hz2⟩ := hnot hpr (hnz q1 q3 hz)
              obtain ⟨j', w', r1, r2, r3, r4⟩ := (mem_oaRow_b hbr).mp hz2
              have r5 := ((plan_at hs hp r1 r2 r3).2.2.1 _ r4).1
              have := zone_sib hs r1 r2 q1 q3 r5 hz
              subst this
              exact r4, fun hpr => hin hmem ((mem_oaRow_b hbr).mpr ⟨j, w, q1, q3, htj, hpr⟩)⟩
            have := p2.2.2.1 tj hj
            rw [← e, q2, htj] at this
            exact this rfl
          · have e : t[j]? = told[j]? := no_zone hs ht hb fun p hpr => by
              rw [Bool.eq_false_iff]
              intro hz
              obtain ⟨_, hz2⟩ := hnot hpr (hnz q1 q3 hz)
              obtain ⟨j', w', r1, r2, r3, r4⟩ := (mem_oaRow_b hbr).mp hz2
              have r5 := ((plan_at hs hp r1 r2 r3).2.2.1 _ r4).1
              have := zone_sib hs r1 r2 q1 q3 r5 hz
              subst this
              rw [htj] at r3
              exact hst (Option.some.inj r3)
            rw [q2, htj] at e
            exact hst (Option.some.inj e.symm)
        rw [h1, h2]
        rfl
    · have hm0 : memT n (D.map (·.1)) = false := by
        rw [Bool.eq_false_iff]
        exact fun z => hmem ((memT_iff _ _).mp z)
      have h1 : memT ((c : Int), n) (rowOf us told plans c D) = false := by
        rw [Bool.eq_false_iff]
        intro z
        exact hmem (hnot ((memT_iff _ _).mp z) (hown n)).1
      rw [hm0, h1, Bool.xor_false, Bool.false_or]
      have hj : ∀ (j : Nat) (w : Suit), us[j]? = some w → w.d = some ((c : Int), n) → t[j]? = told[j]? := fun j w q1 q3 => no_zone hs ht hb fun p hpr => by
        rw [Bool.eq_false_iff]
        intro hz
        exact hmem (hnot hpr (hnz q1 q3 hz)).1
      rw [Bool.eq_iff_iff, brk_iff, brk_iff]
      constructor
      · rintro ⟨j, w, q1, q2, q3⟩
        exact ⟨j, w, q1, by rw [← hj j w q1 q3]; exact q2, q3⟩
      · rintro ⟨j, w, q1, q2, q3⟩
        exact ⟨j, w, q1, by rw [hj j w q1 q3]; exact q2, q3⟩
  have hflip := margin_flip (c := (c : Int)) (b := brkB us told) (b' := fun k => memT k (rowOf us told plans c D) || brkB us t k) so hD status
  have e2 : (margB u c fun k => no0 k || brkB us told k) = margB u c (brkB us told) := margB_congr fun n => rfl
  rw [hb.at_ c u hu, ht.at_ c u hu, e2, hflip]
  cases hst : decide (0 ≤ margB u c (brkB us told)) with
  | true =>
    rw [hst, if_pos rfl] at hg
    rw [if_pos rfl]
    intro z
    have := of_decide_eq_true (Option.some.inj z)
    omega
  | false =>
    rw [hst, if_neg (by simp)] at hg
    rw [if_neg (by simp)]
    intro z
    have := of_decide_eq_false (Option.some.inj z)
    omega
theorem rowOf_len (D : List Oath) : (rowOf us told plans c D).length = (D.map fun o => (oaRow us told plans (c : Int) o.1).length).sum := by
  unfold rowOf
  rw [List.length_flatMap]
theorem turn_cost (hs : SOk us) (ht : Settles us no0 told) (hu : us[c]? = some u) (hp : LaterOk us told c plans) {M : List Oa} (hM : M.Nodup) (hT : turns us told M c) :
    ∃ D : List Oath, D.Sublist (trueB (brkB us told) u (c : Int) (decide (0 ≤ margB u c (brkB us told)))) ∧ (if (decide (0 ≤ margB u c (brkB us told))) = true then margB u c (brkB us told) + 1 else 0 - margB u c (brkB us told)) ≤ sumW D ∧
      (D.map fun o => (oaRow us told plans (c : Int) o.1).length).sum ≤ (M.filter (zone us c)).length := by
  obtain ⟨so, _, _⟩ := hs.side u (List.mem_of_getElem? hu)
  obtain ⟨t, hb⟩ := brk_ex hs M
  have hne := hT t hb
  have e2 : (margB u c fun k => no0 k || brkB us told k) = margB u c (brkB us told) := margB_congr fun n => rfl
  have hat := hb.at_ c u hu
  rw [hat, ht.at_ c u hu, e2] at hne
  have gen : ∃ b' : Oa → Bool, some (decide (0 ≤ margB u (c : Int) b')) ≠ some (decide (0 ≤ margB u (c : Int) (brkB us told))) ∧ ∀ n, b' ((c : Int), n) = (memT ((c : Int), n) M || brkB us t ((c : Int), n)) := ⟨_, hne, fun _ => rfl⟩
  clear hne hat
  obtain ⟨b', hne, hb'⟩ := gen
  have hch := margin_change (c := (c : Int)) (b := brkB us told) (b' := b') (st := decide (0 ≤ margB u c (brkB us told))) so
  generalize hDd : ((trueB (brkB us told) u (c : Int) (decide (0 ≤ margB u c (brkB us told)))).filter fun o => b' ((c : Int), o.1) != brkB us told ((c : Int), o.1)) = D at hch
  have hD : D.Sublist (trueB (brkB us told) u (c : Int) (decide (0 ≤ margB u c (brkB us told)))) := by rw [← hDd]; exact List.filter_sublist
  refine ⟨D, hD, ?_, ?_⟩
  · cases hst : decide (0 ≤ margB u c (brkB us told)) with
    | true =>
      rw [hst, if_pos rfl] at hch
      rw [if_pos rfl]
      rw [hst] at hne
      have : ¬ 0 ≤ margB u (c : Int) b' := fun z => hne (by rw [decide_eq_true z])
      omega
    | false =>
      rw [hst, if_neg (by simp)] at hch
      rw [if_neg (by simp)]
      rw [hst] at hne
      have : 0 ≤ margB u (c : Int) b' := Classical.byContradiction fun z => hne (by rw [decide_eq_false z])
      omega
  · obtain ⟨hdn, hdm⟩ := true_names hs hu hD
    refine Nat.le_trans (m := (D.map fun o => (M.filter (zoneN us (c : Int) o.1)).length).sum) ?_ (sum_disj ?_ fun o _ p hz => zoneN_zone hs hz)
    · have each : ∀ o ∈ D, (oaRow us told plans (c : Int) o.1).length ≤ (M.filter (zoneN us (c : Int) o.1)).length := by
        intro o ho
        rw [← hDd] at ho
        have hch2 := (List.mem_filter.mp ho).2
        rw [hb'] at hch2
        cases hbr : brkB us told ((c : Int), o.1) with
        | false =>
          rw [hbr] at hch2
          have hch2 := bne_f hch2
          rw [Bool.or_eq_true] at hch2
          rw [oaRow_n hbr, List.length_singleton]
          have : ∃ p ∈ M, zoneN us (c : Int) o.1 p = true := by
            rcases hch2 with h | h
            · exact ⟨_, (memT_iff _ _).mp h, zoneN_iff.mpr (.inl rfl)⟩
            · obtain ⟨j, w, q1, q2, q3⟩ := brk_iff.mp h
              refine Classical.byContradiction fun z => ?_
              have e : t[j]? = told[j]? := no_zone hs ht hb fun p hpr => by
                rw [Bool.eq_false_iff]
                intro hz
                exact z ⟨p, hpr, zoneN_iff.mpr (.inr ⟨j, w, q1, q3, hz⟩)⟩
              rw [q2] at e
              have := brk_iff.mpr ⟨j, w, q1, e.symm, q3⟩
              rw [hbr] at this
              cases this
          obtain ⟨p, hp1, hp2⟩ := this
          exact List.length_pos_of_mem (List.mem_filter.mpr ⟨hp1, hp2⟩)
        | true =>
          rw [hbr] at hch2
          have hch2 := bne_t hch2
          rw [Bool.or_eq_false_iff] at hch2
          have hrow : oaRow us told plans (c : Int) o.1 = (stN us told (c : Int) o.1).flatMap (planRow plans) := by
            unfold oaRow
            rw [if_pos hbr]
          rw [hrow, List.length_flatMap]
          have hmem : ∀ i ∈ stN us told (c : Int) o.1, ∃ (j : Nat) (w : Suit), i = (j : Int) ∧ us[j]? = some w ∧ w.d = some ((c : Int), o.1) ∧ told[j]? = some true := fun i hi => mem_stN.mp hi
          refine Nat.le_trans (m := ((stN us told (c : Int) o.1).map fun i => (M.filter (zone us i.toNat)).length).sum) ?_ (sum_disj ?_ fun i hi p hz => ?_)
          · have : ∀ i ∈ stN us told (c : Int) o.1, (planRow plans i).length ≤ (M.filter (zone us i.toNat)).length := by
              intro i hi
              obtain ⟨j, w, rfl, q1, q2, q3⟩ := hmem i hi
              rw [Int.toNat_natCast]
              refine (plan_at hs hp q1 q2 q3).2.2.2.2.1 M hM fun t' ht' => ?_
              have e := settles_one hs ht' hb
              rw [e, q3]
              intro z
              have := brk_iff.mpr ⟨j, w, q1, z, q2⟩
              rw [hch2.2] at this
              cases this
            generalize stN us told (c : Int) o.1 = l at this
            clear hrow hmem
            induction l with
            | nil => exact Nat.le_refl _
            | cons i l ih =>
              rw [List.map_cons, List.map_cons, List.sum_cons, List.sum_cons]
              exact Nat.add_le_add (this i List.mem_cons_self) (ih fun i hi => this i (List.mem_cons_of_mem _ hi))
          · have hn : (stN us told (c : Int) o.1).Nodup := (namers_nodup us _ _).sublist List.filter_sublist
            refine List.Pairwise.imp_of_mem ?_ hn
            intro i i' hi hi' hne p hz hz'
            obtain ⟨j, w, rfl, q1, q2, q3⟩ := hmem i hi
            obtain ⟨j', w', rfl, q1', q2', q3'⟩ := hmem i' hi'
            rw [Int.toNat_natCast] at hz hz'
            have := zone_sib hs q1 q2 q1' q2' hz hz'
            exact hne (by omega)
          · obtain ⟨j, w, rfl, q1, q2, q3⟩ := hmem i hi
            rw [Int.toNat_natCast] at hz
            exact zoneN_iff.mpr (.inr ⟨j, w, q1, q2, hz⟩)
      clear hDd hD hdn hdm hch
      induction D with
      | nil => exact Nat.le_refl _
      | cons o D ih =>
        rw [List.map_cons, List.map_cons, List.sum_cons, List.sum_cons]
        exact Nat.add_le_add (each o List.mem_cons_self) (ih fun o ho => each o (List.mem_cons_of_mem _ ho))
    · rw [List.Nodup, List.pairwise_map] at hdn
      exact hdn.imp fun {o o'} hne p h h' => hne (zoneN_disj hs h h')
end
end Ty

namespace Ty
open PySem VS L2
section
variable {us : List Suit} {told : List Bool} {plans : List (Option (List Oa))} {c : Nat} {u : Suit}
theorem enT_map {α β : Type} (f : α → β) : ∀ (xs : List α) (i : Nat), enT i (xs.map f) = (enT i xs).map fun q => (q.1, f q.2)
  | [], _ => rfl
  | x :: xs, i => by
    show (((i : Nat) : Int), f x) :: enT (i + 1) (xs.map f) = _
    rw [enT_map f xs (i + 1)]
    rfl
theorem enT_snd {α : Type} : ∀ (xs : List α) (i : Nat), (enT i xs).map (·.2) = xs
  | [], _ => rfl
  | x :: xs, i => by
    show x :: (enT (i + 1) xs).map (·.2) = _
    rw [enT_snd xs (i + 1)]
theorem sum_le_len {xs : List Int} {K : Nat} (h : ∀ x ∈ xs, x ≤ K) : xs.sum ≤ ((K * xs.length : Nat) : Int) := by
  induction xs with
  | nil => simp
  | cons x xs ih =>
    rw [List.sum_cons, List.length_cons, Nat.mul_succ]
    have := ih fun y hy => h y (List.mem_cons_of_mem _ hy)
    have := h x List.mem_cons_self
    omega
theorem natsum_cast {α : Type} (f : α → Nat) : ∀ xs : List α, (xs.map fun x => ((f x : Nat) : Int)).sum = (((xs.map f).sum : Nat) : Int)
  | [] => rfl
  | x :: xs => by
    rw [List.map_cons, List.sum_cons, List.map_cons, List.sum_cons, natsum_cast f xs]
    omega
theorem case_plan_spec (hs : SOk us) (ht : Settles us no0 told) {ms : Marks} (hm : ∀ k, (dget ms k).isSome = brkB us told k) (hu : us[c]? = some u) (hp : LaterOk us told c plans) : (t_case_plan us (c : Int) ms told plans).Post (PlanOk us told c u) := by
  have hlen := hs.len
  have htl := ht.len
  obtain ⟨so, hz24, hc1, hc2⟩ := hs.side u (List.mem_of_getElem? hu)
  have hz := hs.sz (List.mem_of_getElem? hu)
  have hcl := (List.getElem?_eq_some_iff.mp hu).1
  have e2 : (margB u c fun k => no0 k || brkB us told k) = margB u c (brkB us told) := margB_congr fun n => rfl
  have hat := ht.at_ c u hu
  rw [e2] at hat
  have e1 : (fun k => (dget ms k).isSome) = brkB us told := funext hm
  unfold t_case_plan
  rw [atI_n, hat, ofO_some', claims_eq (u := u) (by rw [atI_n, hu]) (by omega) (by omega), T.ok_bind, e1]
  generalize hst : decide (0 ≤ margB u c (brkB us told)) = st
  have hcll := trueB_len (brkB us told) u (c : Int) st
  have hnm : ∀ o ∈ trueB (brkB us told) u (c : Int) st, o.1 ∈ namesOf u := fun o ho => List.mem_map.mpr ⟨o, (trueB_sub _ _ _ _).subset ho, rfl⟩
  refine post_bind (P := fun v : List (List Oa) × List (Int × Int) => v.1 = (trueB (brkB us told) u (c : Int) st).map (fun o => oaRow us told plans (c : Int) o.1) ∧ v.2 = (trueB (brkB us told) u (c : Int) st).map (fun o : Oath => ((((oaRow us told plans (c : Int) o.1).length : Nat) : Int), o.2))) ?_ ?_
  · refine forM_post (fun pre (v : List (List Oa) × List (Int × Int)) => v.1 = pre.map (fun o : Oath => oaRow us told plans (c : Int) o.1) ∧ v.2 = pre.map (fun o : Oath => ((((oaRow us told plans (c : Int) o.1).length : Nat) : Int), o.2))) ⟨rfl, rfl⟩ ?_
    rintro pre o post ⟨rows, offs⟩ ex ⟨h1, h2⟩
    dsimp only at h1 h2 ⊢
    subst h1
    subst h2
    have hpl : pre.length ≤ 48 := by
      have := congrArg List.length ex
      rw [List.length_append] at this
      omega
    rw [oath_plan_eq hs htl hm hp, T.ok_bind]
    refine post_gd (szl _ (by rw [List.length_map]; omega)) ?_
    refine post_ofO (a := oaRow us told plans (c : Int) o.1) ?_ (post_gd (szl _ (by rw [List.length_map]; omega)) (post_ok ⟨?_, ?_⟩))
    · exact L2.atI_last _ _
    · dsimp only
      rw [List.map_append]
      rfl
    · dsimp only
      rw [List.map_append]
      rfl
  · rintro ⟨rows, offs⟩ ⟨h1, h2⟩
    dsimp only at h1 h2 ⊢
    subst h1
    subst h2
    rw [atI_n, hu, ofO_some', margin_by_eq _ _ _ (by omega) (by omega), T.ok_bind, e1]
    have hgoal : (((T.ofO (some st)).bind fun x13 => if x13 = true then (.ok (margB u c (brkB us told) + (1 : Int))) else (.ok ((0 : Int) - margB u c (brkB us told))) : T Empty Int)) = .ok (if st = true then margB u c (brkB us told) + 1 else 0 - margB u c (brkB us told)) := by
      rw [ofO_some']
      cases st <;> rfl
    rw [hgoal, T.ok_bind]
    generalize hgl : (if st = true then margB u c (brkB us told) + 1 else 0 - margB u c (brkB us told)) = goal
    have hen : enT 0 ((trueB (brkB us told) u (c : Int) st).map (fun o => ((((oaRow us told plans (c : Int) o.1).length : Nat) : Int), o.2))) = (enT 0 (trueB (brkB us told) u (c : Int) st)).map fun q => (q.1, ((((oaRow us told plans (c : Int) q.2.1).length : Nat) : Int), q.2.2)) := enT_map _ _ _
    have hcost : ∀ C : List (Int × Oath), costS (C.map fun q => (q.1, ((((oaRow us told plans (c : Int) q.2.1).length : Nat) : Int), q.2.2))) = ((((C.map (·.2)).map fun o => (oaRow us told plans (c : Int) o.1).length).sum : Nat) : Int) := fun C => by
      rw [← natsum_cast]
      unfold costS
      rw [List.map_map, List.map_map]
      rfl
    have hgain : ∀ C : List (Int × Oath), gainS (C.map fun q => (q.1, ((((oaRow us told plans (c : Int) q.2.1).length : Nat) : Int), q.2.2))) = sumW (C.map (·.2)) := fun C => by
      unfold gainS sumW
      rw [List.map_map, List.map_map]
      rfl
    refine post_bind (cheapest_spec (by rw [List.length_map]; omega) (fun x hx => ?_) ?_) ?_
    · obtain ⟨o, _, rfl⟩ := List.mem_map.mp hx
      dsimp only
      omega
    · rw [hen]
      have := sum_le_len (xs := ((enT 0 (trueB (brkB us told) u (c : Int) st)).map fun q => (q.1, ((((oaRow us told plans (c : Int) q.2.1).length : Nat) : Int), q.2.2))).map (·.2.1)) (K := 1440) fun x hx => by
        obtain ⟨q, hq, rfl⟩ := List.mem_map.mp hx
        obtain ⟨q', hq', rfl⟩ := List.mem_map.mp hq
        obtain ⟨j, _, hj⟩ := enT_mem hq'
        have := row_len hs hu hp (hnm _ (List.mem_of_getElem? hj))
        dsimp only
        omega
      rw [List.length_map, List.length_map, enT_len] at this
      unfold costS
      exact Int.le_trans this (by omega)
    · intro r hr
      have turnD : ∀ M : List Oa, M.Nodup → turns us told M c → ∃ S' : List Off, S'.Sublist (enT 0 ((trueB (brkB us told) u (c : Int) st).map (fun o => ((((oaRow us told plans (c : Int) o.1).length : Nat) : Int), o.2)))) ∧ goal ≤ gainS S' ∧ costS S' ≤ ((M.filter (zone us c)).length : Int) := fun M hM hT => by
        obtain ⟨D, d1, d2, d3⟩ := turn_cost hs ht hu hp hM hT
        rw [hst] at d1 d2
        rw [hgl] at d2
        rw [← enT_snd (trueB (brkB us told) u (c : Int) st) 0, List.sublist_map_iff] at d1
        obtain ⟨C, hC, rfl⟩ := d1
        refine ⟨C.map fun q => (q.1, ((((oaRow us told plans (c : Int) q.2.1).length : Nat) : Int), q.2.2)), by rw [hen]; exact hC.map _, by rw [hgain]; exact d2, ?_⟩
        rw [hcost]
        exact Int.ofNat_le.mpr d3
      have hall : ∀ g : Int, g ≤ sumW (trueB (brkB us told) u (c : Int) st) → ∃ S' : List Off, S'.Sublist (enT 0 ((trueB (brkB us told) u (c : Int) st).map (fun o => ((((oaRow us told plans (c : Int) o.1).length : Nat) : Int), o.2)))) ∧ g ≤ gainS S' := fun g hg => by
        refine ⟨_, List.Sublist.refl _, ?_⟩
        rw [hen, hgain, enT_snd]
        exact hg
      have hts := true_sum (brkB us told) u (c : Int) st
      have hbn : 0 ≤ sumW u.b := sumW_nonneg fun z hz => by have := (so.wt z (List.mem_append_right _ hz)).1; omega
      cases r with
      | none =>
        simp only [Option.isNone_none, if_true]
        have hr : ∀ S' : List Off, S'.Sublist _ → gainS S' < goal := hr
        have hlt : sumW (trueB (brkB us told) u (c : Int) st) < goal := Classical.byContradiction fun z => by
          obtain ⟨S', q1, q2⟩ := hall goal (by omega)
          have := hr S' q1
          omega
        rw [hts] at hlt
        refine post_ok ⟨?_, ?_, fun M hM hT => ?_⟩
        · cases st with
          | true =>
            rw [if_pos rfl] at hlt hgl
            omega
          | false => rw [hat, hst]
        · cases st with
          | true =>
            rw [if_pos rfl] at hlt hgl
            omega
          | false =>
            rw [if_neg (by simp)] at hlt hgl
            omega
        · obtain ⟨S', q1, q2, _⟩ := turnD M hM hT
          have := hr S' q1
          omega
      | some ps =>
        simp only [Option.isNone_some, Bool.false_eq_true, if_false, ofO_some']
        obtain ⟨S, s1, s2, s3, s4⟩ := hr
        rw [hen, List.sublist_map_iff] at s1
        obtain ⟨C, hC, rfl⟩ := s1
        rw [hgain] at s3
        have hD : (C.map (·.2)).Sublist (trueB (brkB us told) u (c : Int) st) := by
          have := hC.map (·.2)
          rw [enT_snd] at this
          exact this
        have hDl := hD.length_le
        rw [List.length_map] at hDl
        have hps : ps = C.map (·.1) := by
          rw [s2, List.map_map]
          rfl
        subst hps
        refine post_bind (P := fun row => row = rowOf us told plans c (C.map (·.2))) ?_ ?_
        · have hrow : rowOf us told plans c (C.map (·.2)) = C.flatMap fun q => oaRow us told plans (c : Int) q.2.1 := by
            unfold rowOf
            rw [List.flatMap_map]
          rw [hrow]
          have hfm : ∀ (C : List (Int × Oath)), C.Sublist (enT 0 (trueB (brkB us told) u (c : Int) st)) → (T.forM (C.map (·.1)) (([] : List Oa) : (List Oa)) (fun (i16 : Int) row18 => (((T.ofO (atI ((trueB (brkB us told) u (c : Int) st).map fun o => oaRow us told plans (c : Int) o.1) i16)).bind fun x19 =>
              (T.ofO (catT row18 x19)).bind fun x20 => .ok x20) : T Empty (List Oa)))).Post fun row => row = C.flatMap fun q => oaRow us told plans (c : Int) q.2.1 := by
            intro C hC
            have hCl := hC.length_le
            rw [enT_len] at hCl
            refine post_imp (forM_post (fun pre row => ∃ C1 : List (Int × Oath), ∃ C2, C = C1 ++ C2 ∧ C1.map (·.1) = pre ∧ row = (C1.flatMap fun q => oaRow us told plans (c : Int) q.2.1) ∧ row.length ≤ 1440 * pre.length) ⟨[], C, rfl, rfl, rfl, by simp⟩ ?_) ?_
            · rintro pre i post row ex ⟨C1, C2, hcc, hpre, hrow, hrl⟩
              cases C2 with
              | nil =>
                rw [List.append_nil] at hcc
                subst hcc
                rw [hpre] at ex
                have := congrArg List.length ex
                rw [List.length_append, List.length_cons] at this
                omega
              | cons q C2 =>
                subst hcc
                rw [List.map_append, hpre, List.map_cons] at ex
                have ex2 := (List.append_cancel_left ex)
                have hq : i = q.1 := by
                  have := List.head_eq_of_cons_eq ex2
                  exact this.symm
                have hqm : q ∈ enT 0 (trueB (brkB us told) u (c : Int) st) := hC.subset (by simp)
                obtain ⟨j, hj1, hj2⟩ := enT_mem hqm
                have hplen : pre.length ≤ 48 := by
                  rw [← hpre, List.length_map]
                  rw [List.length_append] at hCl
                  omega
                have hrlen := row_len hs hu hp (hnm _ (List.mem_of_getElem? hj2))
                rw [hq, hj1, atI_n, List.getElem?_map, hj2]
                refine post_ofO (a := oaRow us told plans (c : Int) q.2.1) rfl (post_ofO (catT_ok (by omega)) (post_ok ⟨C1 ++ [q], C2, by simp, ?_, ?_, ?_⟩))
                · rw [List.map_append, hpre]
                  show pre ++ [q.1] = _
                  rw [hj1]
                · rw [List.flatMap_append, ← hrow]
                  simp
                · rw [List.length_append, List.length_append, List.length_singleton]
                  omega
            · rintro row ⟨C1, C2, hcc, hpre, hrow, _⟩
              have : C2 = [] := by
                have := congrArg List.length hpre
                rw [hcc, List.length_map, List.length_map, List.length_append] at this
                exact List.length_eq_zero_iff.mp (by omega)
              subst this
              rw [List.append_nil] at hcc
              rw [hcc]
              exact hrow
          exact hfm C hC
        · intro row hrow
          subst hrow
          obtain ⟨hdn, hdm⟩ := true_names hs hu hD
          refine post_ok ⟨rowOf_nodup hs hp hdn, fun p hpm => ?_, ?_, fun M hM hT => ?_, ?_⟩
          · obtain ⟨o, ho, hpo⟩ := mem_rowOf.mp hpm
            exact ⟨zoneN_zone hs (row_zone hs hp hpo), row_oaths hs hu hp (hdm _ (List.mem_map.mpr ⟨o, ho, rfl⟩)) hpo⟩
          · refine row_turns hs ht hu hp (by rw [hst]; exact hD) ?_
            rw [hst, hgl]
            exact s3
          · obtain ⟨S', q1, q2, q3⟩ := turnD M hM hT
            have := s4 S' q1 q2
            rw [hcost, ← rowOf_len] at this
            omega
          · have h1 : sumW (C.map (·.2)) ≤ sumW (trueB (brkB us told) u (c : Int) st) := by
              unfold sumW
              exact sum_le_of_sub (hD.map _) fun y hy => by
                obtain ⟨o, ho, rfl⟩ := List.mem_map.mp hy
                have := (so.wt o ((trueB_sub _ _ _ _).subset ho)).1
                omega
            cases st with
            | true =>
              have h0 := of_decide_eq_true hst
              unfold margB at h0
              have k1 : keptW u.a c (brkB us told) ≤ sumW u.a := by
                unfold keptW sumW
                exact sum_le_of_sub (List.filter_sublist.map _) fun y hy => by
                  obtain ⟨o, ho, rfl⟩ := List.mem_map.mp hy
                  have := (so.wt o (List.mem_append_left _ ho)).1
                  omega
              have k2 : 0 ≤ keptW u.b c (brkB us told) := sumW_nonneg fun z hz => by have := (so.wt z (List.mem_append_right _ (List.mem_filter.mp hz).1)).1; omega
              omega
            | false =>
              rw [hts, if_neg (by simp)] at h1
              rw [if_neg (by simp)] at hgl
              omega
end
end Ty

namespace Ty
open PySem VS L2
open PySem.W (dataLe)
section
variable {us : List Suit} {told : List Bool} {c : Nat} {u : Suit}
theorem turns_congr (hs : SOk us) {M M' : List Oa} (h : ∀ p, p ∈ M ↔ p ∈ M') (ht : turns us told M c) : turns us told M' c := by
  intro t hb
  obtain ⟨t', hb'⟩ := brk_ex hs M
  have e : t = t' := by
    refine settles_one hs hb ⟨hb'.len, fun c u hu => ?_⟩
    rw [hb'.at_ c u hu]
    have : (margB u c fun k => (fun k => memT k M) k || brkB us t' k) = margB u c fun k => memT k M' || brkB us t' k := margB_congr fun n => by
      have : memT ((c : Int), n) M = memT ((c : Int), n) M' := by
        rw [Bool.eq_iff_iff, memT_iff, memT_iff, h]
      show (memT ((c : Int), n) M || _) = _
      rw [this]
    rw [this]
  rw [e]
  exact ht t' hb'
theorem planOk_perm (hs : SOk us) {row row' : List Oa} (hp : row'.Perm row) (h : PlanOk us told c u (some row)) : PlanOk us told c u (some row') := by
  obtain ⟨h1, h2, h3, h4, h5⟩ := h
  exact ⟨hp.nodup_iff.mpr h1, fun p hpm => h2 p (hp.mem_iff.mp hpm), turns_congr hs (fun p => hp.mem_iff.symm) h3, fun M hM hT => by rw [hp.length_eq]; exact h4 M hM hT, h5⟩
def FewOk (us : List Suit) (told : List Bool) (c : Nat) (u : Suit) (r : Option (List Oa)) : Prop := PlanOk us told c u r ∧ ∀ row, r = some row → row.Pairwise fun a b => dataLe false (Enc.enc : Oa → D) a b = true
theorem fewest_spec (hs : SOk us) (ht : Settles us no0 told) (hu : us[c]? = some u) : (t_fewest us (c : Int)).Post (FewOk us told c u) := by
  have hlen := hs.len
  have hc := (List.getElem?_eq_some_iff.mp hu).1
  unfold t_fewest
  obtain ⟨⟨t2, ms⟩, e2, g1, g2, g3⟩ := settle_spec hs [] (by simp)
  have : t2 = told := settles_one hs g1 ht
  subst this
  have hm : ∀ k, (dget ms k).isSome = brkB us t2 k := fun k => by
    have := g2 k
    rw [this]
    simp [dget_nil]
  rw [there_eq hu, T.ok_bind, e2, T.ok_bind]
  dsimp only
  refine post_ofO (repT_one none us.length (by omega)) (post_gd (inR_s (by omega) (by omega)) ?_)
  rw [Int.toNat_natCast]
  refine post_bind (rev_post (fun i (plans : List (Option (List Oa))) => plans.length = us.length ∧ ∀ (j : Nat) (w : Suit), i ≤ j → c ≤ j → us[j]? = some w → ∃ r, plans[j]? = some r ∧ PlanOk us t2 j w r) ?_ ?_) ?_
  · refine ⟨List.length_replicate, fun j w hj _ hw => ?_⟩
    have := (List.getElem?_eq_some_iff.mp hw).1
    omega
  · rintro i plans hi ⟨h1, h2⟩
    by_cases hci : c ≤ i
    · rw [if_pos (by simp only [decide_eq_true_eq]; omega)]
      have hui : us[i]? = some us[i] := List.getElem?_eq_getElem hi
      have hp : LaterOk us t2 i plans := ⟨h1, fun j w hj hw => h2 j w (by omega) (by omega) hw⟩
      refine post_bind (case_plan_spec hs ht hm hui hp) ?_
      intro r hr
      refine post_ofO (setT_nat (by omega)) (post_ok ⟨by rw [List.length_set]; exact h1, fun j w hj hcj hw => ?_⟩)
      by_cases e : j = i
      · subst e
        rw [hui] at hw
        cases hw
        exact ⟨r, by rw [List.getElem?_set_self (by omega)], hr⟩
      · rw [List.getElem?_set_ne (by omega)]
        exact h2 j w (by omega) hcj hw
    · rw [if_neg (by simp only [decide_eq_true_eq]; omega)]
      exact post_ok ⟨h1, fun j w hj hcj hw => h2 j w (by omega) hcj hw⟩
  · rintro plans ⟨h1, h2⟩
    obtain ⟨r, hr, hpo⟩ := h2 c u (Nat.zero_le _) (Nat.le_refl _) hu
    rw [atI_n, hr, ofO_some']
    cases r with
    | none =>
      simp only [Option.isNone_none, if_true]
      exact post_ok ⟨hpo, fun row h => by cases h⟩
    | some row =>
      simp only [Option.isNone_some, Bool.false_eq_true, if_false, ofO_some']
      have hrl : row.length ≤ 1440 := Nat.le_trans (nodup_len hpo.1 fun p hpm => (hpo.2.1 p hpm).2) (oaths_len hs)
      have hz := sortT_ok (xs := row) (by omega)
      refine post_ofO hz (post_ok ⟨planOk_perm hs (sortT_perm hz) hpo, fun row' e => ?_⟩)
      cases e
      exact sortT_sorted hz
end
end Ty

namespace Ty
open PySem VS L2
open PySem.W (dataLe)
structure Subs (pre : List Oa) (rows : List (List Oa)) : Prop where
  len : rows.length = 2 ^ pre.length
  mem : ∀ S, S ∈ rows ↔ S.Sublist pre
end Ty
namespace Lw
open VS Ty
end Lw

noncomputable section
namespace Ty
open PySem VS Lw L2
def t_law_light (suits : (List Suit)) : T Empty ((List Suit)) :=
  (T.forM suits (([] : List Suit) : (List Suit)) (fun (i1 : Suit) found3 => (((T.lcp i1.a (fun (i4 : Oath) => true) (fun i4 => ((i4.1, ((1 : Int) + (i4.2 % (9 : Int)))) : Oath))).bind fun l5 =>
  (T.lcp i1.b (fun (i6 : Oath) => true) (fun i6 => ((i6.1, ((1 : Int) + (i6.2 % (9 : Int)))) : Oath))).bind fun l7 =>
  T.gd (found3.length < sizeLine) <|
  .ok (found3 ++ [(Tp4.mk l5 l7 ((1 : Int) + (i1.c % (12 : Int))) i1.d)])) : T Empty ((List Suit))))).bind fun found3 =>
  .ok found3
theorem r_law_light (suits : (List Suit)) : SK [dv suits] Lw.m_law_light (t_law_light suits) (fun r => (S.ol (List.map Enc.enc r))) (fun r => [none]) XV := by
  unfold Lw.m_law_light Lw.g_law_light t_law_light
  refine f_def (X' := XV) ?_ xe_no
  show SK [dv suits, none, none, none, none, none, none, none, none] _ _ _ _ _
  refine s_seq ?_
  refine s_asg ?_
  refine e_pu (pu_lst pu_nil (ln (n := 0) rfl)) ?_
  refine s_set rfl ?_
  refine s_then ?_
  refine s_seq ?_
  refine s_forE ?_
  refine e_items ?_
  refine e_pu (pu_var (by rfl)) ?_
  refine e_ok ?_
  refine c_for (e := Enc.enc) (xs := suits) (v := ([] : List Suit)) (fun v => [dv suits, lv v, none, none, none, none, none, none, none]) (fun i1 v => [dv suits, lv v, dv i1.a, dv i1.b, dv i1.c, dv i1.d, none, none, none]) (mt_k (mt_k (mt_w (mt_w (mt_w (mt_w (mt_w (mt_w (mt_w mt_nil))))))))) (fun i1 v => (tg_tup (tgs_cons tg_name (tgs_cons tg_name (tgs_cons tg_name (tgs_cons tg_name tgs_nil)))) rfl)) (fun i1 v => ?_) (fun v => ?_)
  · revert v; intro found3
    show SK [dv suits, lv found3, dv i1.a, dv i1.b, dv i1.c, dv i1.d, none, none, none] _ _ _ _ _
    refine s_seq ?_
    refine s_asg ?_
    refine e_lcE ?_
    refine e_items ?_
    refine e_pu (pu_var (by rfl)) ?_
    refine e_ok ?_
    refine c_lcp (e := Enc.enc) (xs := i1.a) (p := fun (i4 : Oath) => true) (h := fun i4 => ((i4.1, ((1 : Int) + (i4.2 % (9 : Int)))) : Oath)) [dv suits, lv found3, dv i1.a, dv i1.b, dv i1.c, dv i1.d, none, none, none] (fun i4 => [dv suits, lv found3, dv i1.a, dv i1.b, dv i1.c, dv i1.d, none, dv i4.1, dv i4.2]) (mt_k (mt_k (mt_k (mt_k (mt_k (mt_k (mt_w (mt_w (mt_w mt_nil))))))))) (fun i4 => (tg_tup (tgs_cons tg_name (tgs_cons tg_name tgs_nil)) rfl)) (fun i4 => pu_yes) (fun i4 => (pu_tup (pu_cons (pu_var (by rfl)) (pu_cons (pu_fz (pu_op (z := (S.d (Enc.enc ((1 : Int) + (i4.2 % (9 : Int)) : Int)))) (pu_c (d := Enc.enc (1 : Int))) (pu_op (z := (Enc.enc ((i4.2 % (9 : Int)) : Int))) (pu_var (by rfl)) (pu_c (d := Enc.enc (9 : Int))) (mod_lit (by decide))) rfl)) pu_nil)) (ln (n := 2) rfl))) (fun i4 => (mt_k (mt_k (mt_k (mt_k (mt_k (mt_k (mt_w (mt_w (mt_w mt_nil)))))))))) (fun l5 => ?_)
    refine s_set rfl ?_
    refine s_then ?_
    refine s_drop ?_
    refine e_app (by rfl) ?_
    refine e_tup ?_
    refine e_cons ?_
    refine e_varF (by rfl) ?_
    refine e_cons ?_
    refine e_fz ?_
    refine e_lcE ?_
    refine e_items ?_
    refine e_pu (pu_var (by rfl)) ?_
    refine e_ok ?_
    refine c_lcp (e := Enc.enc) (xs := i1.b) (p := fun (i6 : Oath) => true) (h := fun i6 => ((i6.1, ((1 : Int) + (i6.2 % (9 : Int)))) : Oath)) [dv suits, lv found3, dv i1.a, dv i1.b, dv i1.c, dv i1.d, dv l5, none, none] (fun i6 => [dv suits, lv found3, dv i1.a, dv i1.b, dv i1.c, dv i1.d, dv l5, dv i6.1, dv i6.2]) (mt_k (mt_k (mt_k (mt_k (mt_k (mt_k (mt_k (mt_w (mt_w mt_nil))))))))) (fun i6 => (tg_tup (tgs_cons tg_name (tgs_cons tg_name tgs_nil)) rfl)) (fun i6 => pu_yes) (fun i6 => (pu_tup (pu_cons (pu_var (by rfl)) (pu_cons (pu_fz (pu_op (z := (S.d (Enc.enc ((1 : Int) + (i6.2 % (9 : Int)) : Int)))) (pu_c (d := Enc.enc (1 : Int))) (pu_op (z := (Enc.enc ((i6.2 % (9 : Int)) : Int))) (pu_var (by rfl)) (pu_c (d := Enc.enc (9 : Int))) (mod_lit (by decide))) rfl)) pu_nil)) (ln (n := 2) rfl))) (fun i6 => (mt_k (mt_k (mt_k (mt_k (mt_k (mt_k (mt_k (mt_w (mt_w mt_nil)))))))))) (fun l7 => ?_)
    refine e_ok ?_
    refine e_pu (pu_cons (pu_fz (pu_op (z := (S.d (Enc.enc ((1 : Int) + (i1.c % (12 : Int)) : Int)))) (pu_c (d := Enc.enc (1 : Int))) (pu_op (z := (Enc.enc ((i1.c % (12 : Int)) : Int))) (pu_var (by rfl)) (pu_c (d := Enc.enc (12 : Int))) (mod_lit (by decide))) rfl)) (pu_cons (pu_var (by rfl)) pu_nil)) ?_
    refine e_iteP (lnS (n := 4) rfl) ?_
    refine e_ok ?_
    refine c_app (xs := found3) (x := ((Tp4.mk l5 l7 ((1 : Int) + (i1.c % (12 : Int))) i1.d) : Suit)) (by rfl) rfl ?_
    exact k_ok rfl (mt_k (mt_k (mt_w (mt_w (mt_w (mt_w (mt_w (mt_w (mt_w mt_nil)))))))))
  revert v; intro found3
  show SK [dv suits, lv found3, none, none, none, none, none, none, none] _ _ _ _ _
  refine s_then ?_
  refine s_ret ?_
  refine e_move (by rfl) (by intro _ h; cases h) ?_
  exact f_rt rfl (mt_w mt_nil)
theorem r_law_is_broken_5 (suits : (List Suit)) (told : (List Bool)) (case_ : Int) (name : Tx) (more : (List (Int × Tx))) : SK [dv suits, dv told, dv case_, dv name, lv more] Lw.m_law_is_broken (t_law_is_broken suits told case_ name more) (fun r => (S.d (Enc.enc r))) (fun r => [dv suits, dv told, none, none, lv more]) XV := by
  unfold Lw.m_law_is_broken Lw.g_law_is_broken t_law_is_broken
  refine f_def (X' := XV) ?_ xe_no
  show SK [dv suits, dv told, dv case_, dv name, lv more, none] _ _ _ _ _
  refine s_seq ?_
  refine s_if (x := (memT ((case_, name) : (Int × Tx)) more)) (pu_B (pu_op (z := (Enc.enc ((memT ((case_, name) : (Int × Tx)) more) : Bool))) (pu_tup (pu_cons (pu_var (by rfl)) (pu_cons (pu_var (by rfl)) pu_nil)) (ln (n := 2) rfl)) (pu_peekL (by rfl)) (in_l ((case_, name) : (Int × Tx)) more (by decide)))) ?_ ?_
  · refine s_ret ?_
    refine e_pu (pu_d (pu_c (d := Enc.enc true))) ?_
    exact f_rt rfl (mt_k (mt_k (mt_w (mt_w (mt_k mt_nil)))))
  · refine s_next ?_
    refine s_then ?_
    refine s_seq ?_
    refine s_forE ?_
    refine e_rng2 ?_
    refine e_pu (pu_cons (pu_fz (pu_op (z := (S.d (Enc.enc (case_ + (1 : Int))))) (pu_var (by rfl)) (pu_c (d := Enc.enc (1 : Int))) rfl)) (pu_cons (pu_un (z := (Enc.enc ((List.length suits : Nat) : Int))) (pu_peek (by rfl)) (len_l _)) pu_nil)) ?_
    refine c_rng2 (m := (case_ + (1 : Int))) (n := ((List.length suits : Nat) : Int)) ?_
    refine c_forL (e := Enc.enc) (xs := ((rangeT2 (case_ + (1 : Int)) (Int.toNat (((List.length suits : Nat) : Int) - (case_ + (1 : Int))))) : (List Int))) (v := (() : Unit)) (fun v => [dv suits, dv told, dv case_, dv name, lv more, none]) (fun r => [dv suits, dv told, none, none, lv more, none]) (fun (r : Bool) => (S.d (Enc.enc r))) (fun i1 v => [dv suits, dv told, dv case_, dv name, lv more, dv i1]) (mt_k (mt_k (mt_k (mt_k (mt_k (mt_w mt_nil)))))) (fun i1 v => tg_name) (fun i1 v => ?_) (fun v => ?_) (fun r => ?_)
    · show SK [dv suits, dv told, dv case_, dv name, lv more, dv i1] _ _ _ _ _
      refine s_ifE ?_
      refine e_andL ?_
      refine e_B ?_
      refine e_ixP (by rfl) ?_
      refine e_pu (pu_var (by rfl)) ?_
      refine e_pu (pu_peek (by rfl)) ?_
      refine e_oO (p := atI told i1) (f := Enc.enc) (ix_l told i1) (fun x2 => ?_)
      refine e_ok ?_
      refine c_and (x := x2) ?_ ?_
      · refine e_B ?_
        refine e_op ?_
        refine e_op ?_
        refine e_ixP (by rfl) ?_
        refine e_pu (pu_var (by rfl)) ?_
        refine e_pu (pu_peek (by rfl)) ?_
        refine e_oO (p := atI suits i1) (f := Enc.enc) (ix_l suits i1) (fun x3 => ?_)
        refine e_pu (pu_c (d := Enc.enc (3 : Int))) ?_
        refine e_o (z := (Enc.enc x3.d)) rfl ?_
        refine e_pu (pu_tup (pu_cons (pu_var (by rfl)) (pu_cons (pu_var (by rfl)) pu_nil)) (ln (n := 2) rfl)) ?_
        refine e_o (z := (Enc.enc ((decide (x3.d = (some (case_, name)))) : Bool))) (eq_opt x3.d ((some (case_, name)) : (Option (Int × Tx)))) ?_
        refine e_ok ?_
        refine s_ite (x := (decide (x3.d = (some (case_, name))))) ?_ ?_
        · refine s_ret ?_
          refine e_pu (pu_d (pu_c (d := Enc.enc true))) ?_
          exact k_ok rfl (mt_k (mt_k (mt_w (mt_w (mt_k (mt_w mt_nil))))))
        · refine s_next ?_
          exact k_ok rfl (mt_k (mt_k (mt_k (mt_k (mt_k (mt_w mt_nil))))))
      · refine s_iteF ?_
        refine s_next ?_
        exact k_ok rfl (mt_k (mt_k (mt_k (mt_k (mt_k (mt_w mt_nil))))))
    · show SK [dv suits, dv told, dv case_, dv name, lv more, none] _ _ _ _ _
      refine s_then ?_
      refine s_ret ?_
      refine e_pu (pu_d (pu_c (d := Enc.enc false))) ?_
      exact f_rt rfl (mt_k (mt_k (mt_w (mt_w (mt_k mt_nil)))))
    · revert r; intro r_
      show SK [dv suits, dv told, none, none, lv more, none] _ _ _ _ _
      exact f_rt rfl (mt_k (mt_k (mt_w (mt_w (mt_k mt_nil)))))
theorem r_law_margin_v2_4 (suits : (List Suit)) (told : (List Bool)) (case_ : Int) (more : (List (Int × Tx))) : SK [dv suits, dv told, dv case_, lv more] Lw.m_law_margin_v2 (t_law_margin_v2 suits told case_ more) (fun r => (S.d (Enc.enc r))) (fun r => [dv suits, dv told, none, lv more]) XV := by
  unfold Lw.m_law_margin_v2 Lw.g_law_margin_v2 t_law_margin_v2
  refine f_def (X' := XV) ?_ xe_no
  show SK [dv suits, dv told, dv case_, lv more, none, none, none, none, none, none, none] _ _ _ _ _
  refine s_seq ?_
  refine s_asgTE ?_
  refine e_ixP (by rfl) ?_
  refine e_pu (pu_var (by rfl)) ?_
  refine e_pu (pu_peek (by rfl)) ?_
  refine e_oO (p := atI suits case_) (f := Enc.enc) (ix_l suits case_) (fun x1 => ?_)
  refine s_asgTQ (tg_tup (tgs_cons tg_name (tgs_cons tg_name (tgs_cons tg_name (tgs_cons tg_name tgs_nil)))) rfl) ?_
  refine s_then ?_
  refine s_seq ?_
  refine s_asg ?_
  refine e_pu (pu_d (pu_op (z := (Enc.enc (((0 : Int) - x1.c) : Int))) (pu_c (d := Enc.enc (0 : Int))) (pu_var (by rfl)) rfl)) ?_
  refine s_set rfl ?_
  refine s_then ?_
  refine s_seq ?_
  refine s_forE ?_
  refine e_items ?_
  refine e_pu (pu_var (by rfl)) ?_
  refine e_ok ?_
  refine c_for (e := Enc.enc) (xs := x1.a) (v := ((0 : Int) - x1.c)) (fun v => [dv suits, dv told, dv case_, lv more, dv x1.a, dv x1.b, dv x1.c, dv x1.d, dv v, none, none]) (fun i2 v => [dv suits, dv told, dv case_, lv more, dv x1.a, dv x1.b, dv x1.c, dv x1.d, dv v, dv i2.1, dv i2.2]) (mt_k (mt_k (mt_k (mt_k (mt_k (mt_k (mt_k (mt_k (mt_k (mt_w (mt_w mt_nil))))))))))) (fun i2 v => (tg_tup (tgs_cons tg_name (tgs_cons tg_name tgs_nil)) rfl)) (fun i2 v => ?_) (fun v => ?_)
  · revert v; intro found4
    show SK [dv suits, dv told, dv case_, lv more, dv x1.a, dv x1.b, dv x1.c, dv x1.d, dv found4, dv i2.1, dv i2.2] _ _ _ _ _
    refine s_ifE ?_
    refine e_not ?_
    refine e_B ?_
    refine e_fz ?_
    refine e_call ?_
    refine a_r (by rfl) ?_
    refine a_r (by rfl) ?_
    refine a_d ?_
    refine e_pu (pu_var (by rfl)) ?_
    refine a_d ?_
    refine e_pu (pu_var (by rfl)) ?_
    refine a_r (by rfl) ?_
    refine a_nil ?_
    refine c_call (by show List.Nodup [0, 1, 3]; decide) rfl (r_law_is_broken_5 suits told case_ i2.1 more) xe_no ?_
    rintro r5
    show SK [dv suits, dv told, dv case_, lv more, dv x1.a, dv x1.b, dv x1.c, dv x1.d, dv found4, dv i2.1, dv i2.2] _ _ _ _ _
    refine e_ok ?_
    refine e_ok ?_
    refine s_ite (x := (!r5)) ?_ ?_
    · refine s_asg ?_
      refine e_pu (pu_op (z := (S.d (Enc.enc (found4 + i2.2 : Int)))) (pu_var (by rfl)) (pu_var (by rfl)) rfl) ?_
      refine s_set rfl ?_
      exact k_ok rfl (mt_k (mt_k (mt_k (mt_k (mt_k (mt_k (mt_k (mt_k (mt_k (mt_w (mt_w mt_nil)))))))))))
    · refine s_next ?_
      exact k_ok rfl (mt_k (mt_k (mt_k (mt_k (mt_k (mt_k (mt_k (mt_k (mt_k (mt_w (mt_w mt_nil)))))))))))
  revert v; intro found4
  show SK [dv suits, dv told, dv case_, lv more, dv x1.a, dv x1.b, dv x1.c, dv x1.d, dv found4, none, none] _ _ _ _ _
  refine s_then ?_
  refine s_seq ?_
  refine s_forE ?_
  refine e_items ?_
  refine e_pu (pu_var (by rfl)) ?_
  refine e_ok ?_
  refine c_for (e := Enc.enc) (xs := x1.b) (v := found4) (fun v => [dv suits, dv told, dv case_, lv more, dv x1.a, dv x1.b, dv x1.c, dv x1.d, dv v, none, none]) (fun i6 v => [dv suits, dv told, dv case_, lv more, dv x1.a, dv x1.b, dv x1.c, dv x1.d, dv v, dv i6.1, dv i6.2]) (mt_k (mt_k (mt_k (mt_k (mt_k (mt_k (mt_k (mt_k (mt_k (mt_w (mt_w mt_nil))))))))))) (fun i6 v => (tg_tup (tgs_cons tg_name (tgs_cons tg_name tgs_nil)) rfl)) (fun i6 v => ?_) (fun v => ?_)
  · revert v; intro found8
    show SK [dv suits, dv told, dv case_, lv more, dv x1.a, dv x1.b, dv x1.c, dv x1.d, dv found8, dv i6.1, dv i6.2] _ _ _ _ _
    refine s_ifE ?_
    refine e_not ?_
    refine e_B ?_
    refine e_fz ?_
    refine e_call ?_
    refine a_r (by rfl) ?_
    refine a_r (by rfl) ?_
    refine a_d ?_
    refine e_pu (pu_var (by rfl)) ?_
    refine a_d ?_
    refine e_pu (pu_var (by rfl)) ?_
    refine a_r (by rfl) ?_
    refine a_nil ?_
    refine c_call (by show List.Nodup [0, 1, 3]; decide) rfl (r_law_is_broken_5 suits told case_ i6.1 more) xe_no ?_
    rintro r9
    show SK [dv suits, dv told, dv case_, lv more, dv x1.a, dv x1.b, dv x1.c, dv x1.d, dv found8, dv i6.1, dv i6.2] _ _ _ _ _
    refine e_ok ?_
    refine e_ok ?_
    refine s_ite (x := (!r9)) ?_ ?_
    · refine s_asg ?_
      refine e_pu (pu_d (pu_op (z := (Enc.enc ((found8 - i6.2) : Int))) (pu_var (by rfl)) (pu_var (by rfl)) rfl)) ?_
      refine s_set rfl ?_
      exact k_ok rfl (mt_k (mt_k (mt_k (mt_k (mt_k (mt_k (mt_k (mt_k (mt_k (mt_w (mt_w mt_nil)))))))))))
    · refine s_next ?_
      exact k_ok rfl (mt_k (mt_k (mt_k (mt_k (mt_k (mt_k (mt_k (mt_k (mt_k (mt_w (mt_w mt_nil)))))))))))
  revert v; intro found8
  show SK [dv suits, dv told, dv case_, lv more, dv x1.a, dv x1.b, dv x1.c, dv x1.d, dv found8, none, none] _ _ _ _ _
  refine s_then ?_
  refine s_ret ?_
  refine e_move (by rfl) (by intro _ h; cases h) ?_
  exact f_rt rfl (mt_k (mt_k (mt_w (mt_k mt_nil))))
def t_law_least (offers : (List (Int × Int))) (goal : Int) : T Empty ((Option Int) × (List (Int × Int))) :=
  (T.ofO (repT (([(none : (Option Int))] : List (Option Int)) : (List (Option Int))) goal)).bind fun x1 =>
  (T.ofO (catT (([(some (0 : Int))] : List (Option Int)) : (List (Option Int))) x1)).bind fun x2 =>
  (T.forM offers (x2 : (List (Option Int))) (fun (i3 : (Int × Int)) table5 => ((T.gd (inR (1 : Int) ∧ inR (goal + (1 : Int))) <|
  (T.forM ((rangeT2 (1 : Int) (Int.toNat ((goal + (1 : Int)) - (1 : Int)))).reverse) (table5 : (List (Option Int))) (fun (i6 : Int) table8 => (((T.ofO (atI table8 (maxT (0 : Int) (i6 - i3.2)))).bind fun x9 =>
  if (Option.isSome x9) = true then ((T.ofO (atI table8 i6)).bind fun x10 =>
  if (Option.isNone x10) = true then ((T.ofO x9).bind fun u11 =>
  (T.ofO (setT table8 i6 (some (u11 + i3.1)))).bind fun table12 =>
  .ok table12) else ((T.ofO x9).bind fun u13 =>
  (T.ofO (atI table8 i6)).bind fun x14 =>
  (T.ofO x14).bind fun u15 =>
  if (decide ((u13 + i3.1) < u15)) = true then ((T.ofO (setT table8 i6 (some (u13 + i3.1)))).bind fun table16 =>
  .ok table16) else (.ok table8))) else (.ok table8)) : T Empty ((List (Option Int)))))).bind fun table8 =>
  .ok table8) : T Empty ((List (Option Int)))))).bind fun table5 =>
  (T.ofO (atI table5 goal)).bind fun x17 =>
  .ok (x17, offers)
theorem r_law_least (offers : (List (Int × Int))) (goal : Int) : SK [lv offers, dv goal] Lw.m_law_least (t_law_least offers goal) (fun r => (S.d (Enc.enc r.1))) (fun r => [dv r.2, none]) XV := by
  unfold Lw.m_law_least Lw.g_law_least t_law_least
  refine f_def (X' := XV) ?_ xe_no
  show SK [lv offers, dv goal, none, none, none, none, none] _ _ _ _ _
  refine s_seq ?_
  refine s_asg ?_
  refine e_op ?_
  refine e_pu (pu_fzL (pu_lst (pu_cons (pu_c (d := Enc.enc (0 : Int))) pu_nil) (ln (n := 1) rfl))) ?_
  refine e_fz ?_
  refine e_op ?_
  refine e_pu (pu_fzL (pu_lst (pu_cons pu_c pu_nil) (ln (n := 1) rfl))) ?_
  refine e_pu (pu_var (by rfl)) ?_
  refine e_oO (p := repT (([(none : (Option Int))] : List (Option Int)) : (List (Option Int))) goal) (f := (fun z => S.ol (List.map Enc.enc z))) (rep_l (([(none : (Option Int))] : List (Option Int)) : (List (Option Int))) goal) (fun x1 => ?_)
  refine e_ok ?_
  refine e_oO (p := catT (([(some (0 : Int))] : List (Option Int)) : (List (Option Int))) x1) (f := (fun z => S.ol (List.map Enc.enc z))) (cat_l (([(some (0 : Int))] : List (Option Int)) : (List (Option Int))) x1) (fun x2 => ?_)
  refine s_set rfl ?_
  refine s_then ?_
  refine s_seq ?_
  refine s_forE ?_
  refine e_items ?_
  refine e_varF (by rfl) ?_
  refine e_ok ?_
  refine c_for (e := Enc.enc) (xs := offers) (v := x2) (fun v => [dv offers, dv goal, lv v, none, none, none, none]) (fun i3 v => [dv offers, dv goal, lv v, dv i3.1, dv i3.2, none, none]) (mt_k (mt_k (mt_k (mt_w (mt_w (mt_w (mt_w mt_nil))))))) (fun i3 v => (tg_tup (tgs_cons tg_name (tgs_cons tg_name tgs_nil)) rfl)) (fun i3 v => ?_) (fun v => ?_)
  · revert v; intro table5
    show SK [dv offers, dv goal, lv table5, dv i3.1, dv i3.2, none, none] _ _ _ _ _
    refine s_forE ?_
    refine e_rvr2 ?_
    refine e_pu (pu_cons (pu_c (d := Enc.enc (1 : Int))) (pu_cons (pu_fz (pu_op (z := (S.d (Enc.enc (goal + (1 : Int))))) (pu_var (by rfl)) (pu_c (d := Enc.enc (1 : Int))) rfl)) pu_nil)) ?_
    refine c_rvr2 (m := (1 : Int)) (n := (goal + (1 : Int))) ?_
    refine c_for (e := Enc.enc) (xs := (((rangeT2 (1 : Int) (Int.toNat ((goal + (1 : Int)) - (1 : Int)))).reverse) : (List Int))) (v := table5) (fun v => [dv offers, dv goal, lv v, dv i3.1, dv i3.2, none, none]) (fun i6 v => [dv offers, dv goal, lv v, dv i3.1, dv i3.2, dv i6, none]) (mt_k (mt_k (mt_k (mt_k (mt_k (mt_w (mt_w mt_nil))))))) (fun i6 v => tg_name) (fun i6 v => ?_) (fun v => ?_)
    · revert v; intro table8
      show SK [dv offers, dv goal, lv table8, dv i3.1, dv i3.2, dv i6, none] _ _ _ _ _
      refine s_seq ?_
      refine s_asg ?_
      refine e_d ?_
      refine e_ixP (by rfl) ?_
      refine e_pu (pu_ga (z := (Enc.enc ((maxT (0 : Int) (i6 - i3.2)) : Int))) (pu_cons (pu_c (d := Enc.enc (0 : Int))) (pu_cons (pu_op (z := (Enc.enc ((i6 - i3.2) : Int))) (pu_var (by rfl)) (pu_var (by rfl)) rfl) pu_nil)) rfl) ?_
      refine e_pu (pu_peekL (by rfl)) ?_
      refine e_oO (p := atI table8 (maxT (0 : Int) (i6 - i3.2))) (f := Enc.enc) (ix_l table8 (maxT (0 : Int) (i6 - i3.2))) (fun x9 => ?_)
      refine s_set rfl ?_
      refine s_then ?_
      refine s_ifE ?_
      refine e_andL ?_
      refine e_pu (pu_B (pu_op (z := (Enc.enc ((Option.isSome x9) : Bool))) (pu_peek (by rfl)) pu_c (isN_non x9))) ?_
      refine c_and (x := (Option.isSome x9)) ?_ ?_
      · refine e_orL ?_
        refine e_B ?_
        refine e_op ?_
        refine e_ixP (by rfl) ?_
        refine e_pu (pu_var (by rfl)) ?_
        refine e_pu (pu_peekL (by rfl)) ?_
        refine e_oO (p := atI table8 i6) (f := Enc.enc) (ix_l table8 i6) (fun x10 => ?_)
        refine e_pu pu_c ?_
        refine e_o (z := (Enc.enc ((Option.isNone x10) : Bool))) (is_non x10) ?_
        refine e_ok ?_
        refine c_or (x := (Option.isNone x10)) ?_ ?_
        · refine s_iteT ?_
          refine s_setIx ?_
          refine e_fz ?_
          refine e_op ?_
          refine e_pu (pu_var (by rfl)) ?_
          refine e_pu (pu_var (by rfl)) ?_
          rcases hhu11 : x9 with _ | u11
          · exact k_no
          show SK [dv offers, dv goal, lv table8, dv i3.1, dv i3.2, dv i6, dv u11] _ _ _ _ _
          refine k_some ?_
          refine e_o (z := (S.d (Enc.enc (u11 + i3.1 : Int)))) rfl ?_
          refine e_ok ?_
          refine c_setIx (xs := table8) (x := ((some (u11 + i3.1)) : (Option Int))) (by rfl) (pu_var (by rfl)) (fun table12 => ?_)
          exact k_ok rfl (mt_k (mt_k (mt_k (mt_k (mt_k (mt_w (mt_w mt_nil)))))))
        · refine e_B ?_
          refine e_op ?_
          refine e_fz ?_
          refine e_op ?_
          refine e_pu (pu_var (by rfl)) ?_
          refine e_pu (pu_var (by rfl)) ?_
          rcases hhu13 : x9 with _ | u13
          · exact k_no
          show SK [dv offers, dv goal, lv table8, dv i3.1, dv i3.2, dv i6, dv u13] _ _ _ _ _
          refine k_some ?_
          refine e_o (z := (S.d (Enc.enc (u13 + i3.1 : Int)))) rfl ?_
          refine e_ok ?_
          refine e_ixP (by rfl) ?_
          refine e_pu (pu_var (by rfl)) ?_
          refine e_pu (pu_peekL (by rfl)) ?_
          refine e_oO (p := atI table8 i6) (f := Enc.enc) (ix_l table8 i6) (fun x14 => ?_)
          rcases hhu15 : x14 with _ | u15
          · exact k_no
          refine k_some ?_
          refine e_o (z := (Enc.enc ((decide ((u13 + i3.1) < u15)) : Bool))) rfl ?_
          refine e_ok ?_
          refine s_ite (x := (decide ((u13 + i3.1) < u15))) ?_ ?_
          · refine s_setIx ?_
            refine e_pu (pu_fz (pu_op (z := (S.d (Enc.enc (u13 + i3.1 : Int)))) (pu_var (by rfl)) (pu_var (by rfl)) rfl)) ?_
            refine c_setIx (xs := table8) (x := ((some (u13 + i3.1)) : (Option Int))) (by rfl) (pu_var (by rfl)) (fun table16 => ?_)
            exact k_ok rfl (mt_k (mt_k (mt_k (mt_k (mt_k (mt_w (mt_w mt_nil)))))))
          · refine s_next ?_
            exact k_ok rfl (mt_k (mt_k (mt_k (mt_k (mt_k (mt_w (mt_w mt_nil)))))))
      · refine s_iteF ?_
        refine s_next ?_
        exact k_ok rfl (mt_k (mt_k (mt_k (mt_k (mt_k (mt_w (mt_w mt_nil)))))))
    revert v; intro table8
    show SK [dv offers, dv goal, lv table8, dv i3.1, dv i3.2, none, none] _ _ _ _ _
    exact k_ok rfl (mt_k (mt_k (mt_k (mt_w (mt_w (mt_w (mt_w mt_nil)))))))
  revert v; intro table5
  show SK [dv offers, dv goal, lv table5, none, none, none, none] _ _ _ _ _
  refine s_then ?_
  refine s_ret ?_
  refine e_d ?_
  refine e_ixP (by rfl) ?_
  refine e_pu (pu_var (by rfl)) ?_
  refine e_pu (pu_peekL (by rfl)) ?_
  refine e_oO (p := atI table5 goal) (f := Enc.enc) (ix_l table5 goal) (fun x17 => ?_)
  exact f_rt rfl (mt_k (mt_w mt_nil))
def t_law_price (suits : (List Suit)) (told : (List Bool)) (prices : (List (Option Int))) (case_ : Int) : T Empty ((Option Int)) :=
  (T.ofO (atI suits case_)).bind fun x1 =>
  (T.ofO (catT x1.a x1.b)).bind fun x2 =>
  (T.forM x2 (([] : List (Int × Int)) : (List (Int × Int))) (fun (i3 : Oath) offers5 => (((T.lcp x1.a (fun (i6 : Oath) => true) (fun i6 => i6.1)).bind fun l7 =>
  (T.ofO (atI told case_)).bind fun x8 =>
  (t_law_is_broken suits told case_ i3.1 (([] : List (Int × Tx)) : (List (Int × Tx)))).bind fun r9 =>
  if (((decide (((memT i3.1 l7) : Bool) = x8)) && (!r9)) || ((!(decide (((memT i3.1 l7) : Bool) = x8))) && r9)) = true then (((if r9 = true then (T.gd (inR (case_ + (1 : Int)) ∧ inR ((List.length suits : Nat) : Int)) <|
  (T.forM (rangeT2 (case_ + (1 : Int)) (Int.toNat (((List.length suits : Nat) : Int) - (case_ + (1 : Int))))) ((0 : Int)) (fun (i11 : Int) cost13 => (((T.ofO (atI told i11)).bind fun x14 =>
  if x14 = true then ((T.ofO (atI suits i11)).bind fun x15 =>
  if (decide (x15.d = (some (case_, i3.1)))) = true then ((T.ofO (atI prices i11)).bind fun x16 =>
  (T.ofO x16).bind fun u17 =>
  .ok (cost13 + u17)) else (.ok cost13)) else (.ok cost13)) : T Empty (Int)))).bind fun cost13 =>
  .ok cost13) else (.ok (1 : Int)) : T Empty (Int))).bind fun cost10 =>
  T.gd (offers5.length < sizeLine) <|
  .ok (offers5 ++ [(cost10, i3.2)])) else (.ok offers5)) : T Empty ((List (Int × Int)))))).bind fun offers5 =>
  (t_law_margin_v2 suits told case_ (([] : List (Int × Tx)) : (List (Int × Tx)))).bind fun r18 =>
  (T.ofO (atI told case_)).bind fun x19 =>
  if x19 = true then ((t_law_least offers5 ((r18 + (1 : Int)) : Int)).bind fun (r20, offers21) =>
  .ok r20) else ((t_law_least offers5 (((0 : Int) - r18) : Int)).bind fun (r22, offers23) =>
  .ok r22)
def t_law_pairs_fit (found : (Option (List (Int × Tx)))) (oaths : (List (Int × Tx))) : T Empty (Bool) :=
  if (!(Option.isSome found)) = true then (.ok false) else ((T.ofO found).bind fun u1 =>
  (T.ofO (sortT u1)).bind fun x2 =>
  if (!(decide (u1 = x2))) = true then (.ok false) else (T.bindL (T.forL u1 (() : Unit) (fun (i3 : (Int × Tx)) _ => ((if (!true) = true then (.ok (.rt false)) else (if (!(memT i3 oaths)) = true then (.ok (.rt false)) else (if (!(decide (((cntE u1 i3) : Int) = (1 : Int)))) = true then (.ok (.rt false)) else (.ok (.nx ()))))) : T Empty (T.Lp (Unit) (Bool))))) (fun _ =>
  .ok true) (fun r_ => .ok r_)))
theorem r_law_pairs_fit (found : (Option (List (Int × Tx)))) (oaths : (List (Int × Tx))) : SK [dv found, dv oaths] Lw.m_law_pairs_fit (t_law_pairs_fit found oaths) (fun r => (S.d (Enc.enc r))) (fun r => [none, none]) XV := by
  unfold Lw.m_law_pairs_fit Lw.g_law_pairs_fit t_law_pairs_fit
  refine f_def (X' := XV) ?_ xe_no
  show SK [dv found, dv oaths, none] _ _ _ _ _
  refine s_seq ?_
  refine s_ifE ?_
  refine e_orL ?_
  refine e_pu (pu_not (pu_B (pu_isiL (o := found) (pu_peek (by rfl))))) ?_
  refine c_or (x := (!(Option.isSome found))) ?_ ?_
  · refine s_iteT ?_
    refine s_ret ?_
    refine e_pu (pu_d (pu_c (d := Enc.enc false))) ?_
    exact f_rt rfl (mt_w (mt_w mt_nil))
  · refine e_B ?_
    refine e_op ?_
    refine e_pu (pu_peek (by rfl)) ?_
    refine e_fz ?_
    refine e_un ?_
    refine e_pu (pu_peek (by rfl)) ?_
    rcases hhu1 : found with _ | u1
    · exact k_no
    show SK [dv u1, dv oaths, none] _ _ _ _ _
    refine k_some ?_
    refine e_oO (p := sortT u1) (f := (fun z => S.ol (List.map Enc.enc z))) (sort_l _) (fun x2 => ?_)
    refine e_ok ?_
    refine e_o (z := (Enc.enc ((!(decide (u1 = x2))) : Bool))) (ne_enc u1 x2) ?_
    refine e_ok ?_
    refine s_ite (x := (!(decide (u1 = x2)))) ?_ ?_
    · refine s_ret ?_
      refine e_pu (pu_d (pu_c (d := Enc.enc false))) ?_
      exact f_rt rfl (mt_w (mt_w mt_nil))
    · refine s_next ?_
      refine s_then ?_
      refine s_seq ?_
      refine s_forE ?_
      refine e_items ?_
      refine e_pu (pu_var (by rfl)) ?_
      refine e_ok ?_
      refine c_forL (e := Enc.enc) (xs := u1) (v := (() : Unit)) (fun v => [dv u1, dv oaths, none]) (fun r => [none, none, none]) (fun (r : Bool) => (S.d (Enc.enc r))) (fun i3 v => [dv u1, dv oaths, dv i3]) (mt_k (mt_k (mt_w mt_nil))) (fun i3 v => tg_name) (fun i3 v => ?_) (fun v => ?_) (fun r => ?_)
      · show SK [dv u1, dv oaths, dv i3] _ _ _ _ _
        refine s_ifE ?_
        refine e_orL ?_
        refine e_pu (pu_not (pu_B (pu_isi (d := Enc.enc i3) (b := true) (pu_peek (by rfl)) (show kitB "tuple" "tuple" = some true by decide +kernel)))) ?_
        refine c_or (x := (!true)) ?_ ?_
        · refine s_iteT ?_
          refine s_ret ?_
          refine e_pu (pu_d (pu_c (d := Enc.enc false))) ?_
          exact k_ok rfl (mt_w (mt_w (mt_w mt_nil)))
        · refine e_orL ?_
          refine e_pu (pu_B (pu_op (z := (Enc.enc ((!(memT i3 oaths)) : Bool))) (pu_peek (by rfl)) (pu_peek (by rfl)) (notIn_l i3 oaths (by decide)))) ?_
          refine c_or (x := (!(memT i3 oaths))) ?_ ?_
          · refine s_iteT ?_
            refine s_ret ?_
            refine e_pu (pu_d (pu_c (d := Enc.enc false))) ?_
            exact k_ok rfl (mt_w (mt_w (mt_w mt_nil)))
          · refine e_B ?_
            refine e_op ?_
            refine e_countD (pu_peek (by rfl)) ?_
            refine e_pu (pu_var (by rfl)) ?_
            refine e_o (z := Enc.enc (cntE u1 i3)) (cnt_l _ _ (by decide)) ?_
            refine e_pu (pu_c (d := Enc.enc (1 : Int))) ?_
            refine e_o (z := (Enc.enc ((!(decide (((cntE u1 i3) : Int) = (1 : Int)))) : Bool))) (ne_enc ((cntE u1 i3) : Int) ((1 : Int))) ?_
            refine e_ok ?_
            refine s_ite (x := (!(decide (((cntE u1 i3) : Int) = (1 : Int))))) ?_ ?_
            · refine s_ret ?_
              refine e_pu (pu_d (pu_c (d := Enc.enc false))) ?_
              exact k_ok rfl (mt_w (mt_w (mt_w mt_nil)))
            · refine s_next ?_
              exact k_ok rfl (mt_k (mt_k (mt_w mt_nil)))
      · show SK [dv u1, dv oaths, none] _ _ _ _ _
        refine s_then ?_
        refine s_ret ?_
        refine e_pu (pu_d (pu_c (d := Enc.enc true))) ?_
        exact f_rt rfl (mt_w (mt_w mt_nil))
      · revert r; intro r_
        show SK [none, none, none] _ _ _ _ _
        exact f_rt rfl (mt_w (mt_w mt_nil))
theorem r_law_price_2 (suits : (List Suit)) (told : (List Bool)) (prices : (List (Option Int))) (case_ : Int) : SK [dv suits, dv told, lv prices, dv case_] Lw.m_law_price (t_law_price suits told prices case_) (fun r => (S.d (Enc.enc r))) (fun r => [dv suits, dv told, lv prices, none]) XV := by
  unfold Lw.m_law_price Lw.g_law_price t_law_price
  refine f_def (X' := XV) ?_ xe_no
  show SK [dv suits, dv told, lv prices, dv case_, none, none, none, none, none, none, none, none, none, none, none, none, none, none] _ _ _ _ _
  refine s_seq ?_
  refine s_asgTE ?_
  refine e_ixP (by rfl) ?_
  refine e_pu (pu_var (by rfl)) ?_
  refine e_pu (pu_peek (by rfl)) ?_
  refine e_oO (p := atI suits case_) (f := Enc.enc) (ix_l suits case_) (fun x1 => ?_)
  refine s_asgTQ (tg_tup (tgs_cons tg_name (tgs_cons tg_name (tgs_cons tg_name (tgs_cons tg_name tgs_nil)))) rfl) ?_
  refine s_then ?_
  refine s_seq ?_
  refine s_asg ?_
  refine e_pu (pu_lst pu_nil (ln (n := 0) rfl)) ?_
  refine s_set rfl ?_
  refine s_then ?_
  refine s_seq ?_
  refine s_forE ?_
  refine e_items ?_
  refine e_fz ?_
  refine e_op ?_
  refine e_pu (pu_var (by rfl)) ?_
  refine e_pu (pu_var (by rfl)) ?_
  refine e_oO (p := catT x1.a x1.b) (f := (fun z => S.ol (List.map Enc.enc z))) (cat_l x1.a x1.b) (fun x2 => ?_)
  refine e_ok ?_
  refine e_ok ?_
  refine c_for (e := Enc.enc) (xs := x2) (v := ([] : List (Int × Int))) (fun v => [dv suits, dv told, lv prices, dv case_, dv x1.a, dv x1.b, dv x1.c, dv x1.d, lv v, none, none, none, none, none, none, none, none, none]) (fun i3 v => [dv suits, dv told, lv prices, dv case_, dv x1.a, dv x1.b, dv x1.c, dv x1.d, lv v, dv i3.1, dv i3.2, none, none, none, none, none, none, none]) (mt_k (mt_k (mt_k (mt_k (mt_k (mt_k (mt_k (mt_k (mt_k (mt_w (mt_w (mt_w (mt_w (mt_w (mt_w (mt_w (mt_w (mt_w mt_nil)))))))))))))))))) (fun i3 v => (tg_tup (tgs_cons tg_name (tgs_cons tg_name tgs_nil)) rfl)) (fun i3 v => ?_) (fun v => ?_)
  · revert v; intro offers5
    show SK [dv suits, dv told, lv prices, dv case_, dv x1.a, dv x1.b, dv x1.c, dv x1.d, lv offers5, dv i3.1, dv i3.2, none, none, none, none, none, none, none] _ _ _ _ _
    refine s_seq ?_
    refine s_asg ?_
    refine e_d ?_
    refine e_op ?_
    refine e_op ?_
    refine e_pu (pu_peek (by rfl)) ?_
    refine e_fz ?_
    refine e_lcE ?_
    refine e_items ?_
    refine e_pu (pu_var (by rfl)) ?_
    refine e_ok ?_
    refine c_lcp (e := Enc.enc) (xs := x1.a) (p := fun (i6 : Oath) => true) (h := fun i6 => i6.1) [dv suits, dv told, lv prices, dv case_, dv x1.a, dv x1.b, dv x1.c, dv x1.d, lv offers5, dv i3.1, dv i3.2, none, none, none, none, none, none, none] (fun i6 => [dv suits, dv told, lv prices, dv case_, dv x1.a, dv x1.b, dv x1.c, dv x1.d, lv offers5, dv i3.1, dv i3.2, none, none, none, none, none, dv i6.1, dv i6.2]) (mt_k (mt_k (mt_k (mt_k (mt_k (mt_k (mt_k (mt_k (mt_k (mt_k (mt_k (mt_w (mt_w (mt_w (mt_w (mt_w (mt_w (mt_w mt_nil)))))))))))))))))) (fun i6 => (tg_tup (tgs_cons tg_name (tgs_cons tg_name tgs_nil)) rfl)) (fun i6 => pu_yes) (fun i6 => (pu_var (by rfl))) (fun i6 => (mt_k (mt_k (mt_k (mt_k (mt_k (mt_k (mt_k (mt_k (mt_k (mt_k (mt_k (mt_w (mt_w (mt_w (mt_w (mt_w (mt_w (mt_w mt_nil))))))))))))))))))) (fun l7 => ?_)
    refine e_ok ?_
    refine e_o (z := (Enc.enc ((memT i3.1 l7) : Bool))) (in_l i3.1 l7 (by decide)) ?_
    refine e_ixP (by rfl) ?_
    refine e_pu (pu_var (by rfl)) ?_
    refine e_pu (pu_peek (by rfl)) ?_
    refine e_oO (p := atI told case_) (f := Enc.enc) (ix_l told case_) (fun x8 => ?_)
    refine e_o (z := (Enc.enc ((decide (((memT i3.1 l7) : Bool) = x8)) : Bool))) (eq_enc ((memT i3.1 l7) : Bool) x8) ?_
    refine s_set rfl ?_
    refine s_then ?_
    refine s_seq ?_
    refine s_asg ?_
    refine e_callT ?_
    refine a_r (by rfl) ?_
    refine a_r (by rfl) ?_
    refine a_d ?_
    refine e_pu (pu_var (by rfl)) ?_
    refine a_d ?_
    refine e_pu (pu_var (by rfl)) ?_
    refine a_nil ?_
    refine e_pu (pu_lst pu_nil (ln (n := 0) rfl)) ?_
    refine c_callT (by show List.Nodup [0, 1]; decide) (by rfl) rfl (r_law_is_broken_5 suits told case_ i3.1 (([] : List (Int × Tx)))) xe_no ?_
    rintro r9
    show SK [dv suits, dv told, lv prices, dv case_, dv x1.a, dv x1.b, dv x1.c, dv x1.d, lv offers5, dv i3.1, dv i3.2, dv ((decide (((memT i3.1 l7) : Bool) = x8)) : Bool), none, none, none, none, none, none] _ _ _ _ _
    refine s_set rfl ?_
    refine s_then ?_
    refine s_if (x := (((decide (((memT i3.1 l7) : Bool) = x8)) && (!r9)) || ((!(decide (((memT i3.1 l7) : Bool) = x8))) && r9))) (pu_or (pu_and (pu_B (pu_var (by rfl))) (pu_not (pu_B (pu_var (by rfl))))) (pu_and (pu_not (pu_B (pu_var (by rfl)))) (pu_B (pu_var (by rfl))))) ?_ ?_
    · refine s_seq ?_
      refine s_asg ?_
      refine e_pu (pu_d (pu_c (d := Enc.enc (1 : Int)))) ?_
      refine s_set rfl ?_
      refine s_then ?_
      refine s_seq ?_
      refine s_cut (B1 := fun v => [dv suits, dv told, lv prices, dv case_, dv x1.a, dv x1.b, dv x1.c, dv x1.d, lv offers5, dv i3.1, dv i3.2, dv ((decide (((memT i3.1 l7) : Bool) = x8)) : Bool), dv r9, dv v, none, none, none, none]) ?_ ?_
      · refine s_if (x := r9) (pu_B (pu_var (by rfl))) ?_ ?_
        · refine s_seq ?_
          refine s_asg ?_
          refine e_pu (pu_d (pu_c (d := Enc.enc (0 : Int)))) ?_
          refine s_set rfl ?_
          refine s_then ?_
          refine s_forE ?_
          refine e_rng2 ?_
          refine e_pu (pu_cons (pu_fz (pu_op (z := (S.d (Enc.enc (case_ + (1 : Int))))) (pu_var (by rfl)) (pu_c (d := Enc.enc (1 : Int))) rfl)) (pu_cons (pu_un (z := (Enc.enc ((List.length suits : Nat) : Int))) (pu_peek (by rfl)) (len_l _)) pu_nil)) ?_
          refine c_rng2 (m := (case_ + (1 : Int))) (n := ((List.length suits : Nat) : Int)) ?_
          refine c_for (e := Enc.enc) (xs := ((rangeT2 (case_ + (1 : Int)) (Int.toNat (((List.length suits : Nat) : Int) - (case_ + (1 : Int))))) : (List Int))) (v := (0 : Int)) (fun v => [dv suits, dv told, lv prices, dv case_, dv x1.a, dv x1.b, dv x1.c, dv x1.d, lv offers5, dv i3.1, dv i3.2, dv ((decide (((memT i3.1 l7) : Bool) = x8)) : Bool), dv r9, dv v, none, none, none, none]) (fun i11 v => [dv suits, dv told, lv prices, dv case_, dv x1.a, dv x1.b, dv x1.c, dv x1.d, lv offers5, dv i3.1, dv i3.2, dv ((decide (((memT i3.1 l7) : Bool) = x8)) : Bool), dv r9, dv v, dv i11, none, none, none]) (mt_k (mt_k (mt_k (mt_k (mt_k (mt_k (mt_k (mt_k (mt_k (mt_k (mt_k (mt_k (mt_k (mt_k (mt_w (mt_w (mt_w (mt_w mt_nil)))))))))))))))))) (fun i11 v => tg_name) (fun i11 v => ?_) (fun v => ?_)
          · revert v; intro cost13
            show SK [dv suits, dv told, lv prices, dv case_, dv x1.a, dv x1.b, dv x1.c, dv x1.d, lv offers5, dv i3.1, dv i3.2, dv ((decide (((memT i3.1 l7) : Bool) = x8)) : Bool), dv r9, dv cost13, dv i11, none, none, none] _ _ _ _ _
            refine s_ifE ?_
            refine e_andL ?_
            refine e_B ?_
            refine e_ixP (by rfl) ?_
            refine e_pu (pu_var (by rfl)) ?_
            refine e_pu (pu_peek (by rfl)) ?_
            refine e_oO (p := atI told i11) (f := Enc.enc) (ix_l told i11) (fun x14 => ?_)
            refine e_ok ?_
            refine c_and (x := x14) ?_ ?_
            · refine e_B ?_
              refine e_op ?_
              refine e_op ?_
              refine e_ixP (by rfl) ?_
              refine e_pu (pu_var (by rfl)) ?_
              refine e_pu (pu_peek (by rfl)) ?_
              refine e_oO (p := atI suits i11) (f := Enc.enc) (ix_l suits i11) (fun x15 => ?_)
              refine e_pu (pu_c (d := Enc.enc (3 : Int))) ?_
              refine e_o (z := (Enc.enc x15.d)) rfl ?_
              refine e_pu (pu_tup (pu_cons (pu_var (by rfl)) (pu_cons (pu_var (by rfl)) pu_nil)) (ln (n := 2) rfl)) ?_
              refine e_o (z := (Enc.enc ((decide (x15.d = (some (case_, i3.1)))) : Bool))) (eq_opt x15.d ((some (case_, i3.1)) : (Option (Int × Tx)))) ?_
              refine e_ok ?_
              refine s_ite (x := (decide (x15.d = (some (case_, i3.1))))) ?_ ?_
              · refine s_asg ?_
                refine e_op ?_
                refine e_pu (pu_var (by rfl)) ?_
                refine e_ixP (by rfl) ?_
                refine e_pu (pu_var (by rfl)) ?_
                refine e_pu (pu_peekL (by rfl)) ?_
                refine e_oO (p := atI prices i11) (f := Enc.enc) (ix_l prices i11) (fun x16 => ?_)
                rcases hhu17 : x16 with _ | u17
                · exact k_no
                refine k_some ?_
                refine e_o (z := (S.d (Enc.enc (cost13 + u17 : Int)))) rfl ?_
                refine s_set rfl ?_
                exact k_ok rfl (mt_k (mt_k (mt_k (mt_k (mt_k (mt_k (mt_k (mt_k (mt_k (mt_k (mt_k (mt_k (mt_k (mt_k (mt_w (mt_w (mt_w (mt_w mt_nil))))))))))))))))))
              · refine s_next ?_
                exact k_ok rfl (mt_k (mt_k (mt_k (mt_k (mt_k (mt_k (mt_k (mt_k (mt_k (mt_k (mt_k (mt_k (mt_k (mt_k (mt_w (mt_w (mt_w (mt_w mt_nil))))))))))))))))))
            · refine s_iteF ?_
              refine s_next ?_
              exact k_ok rfl (mt_k (mt_k (mt_k (mt_k (mt_k (mt_k (mt_k (mt_k (mt_k (mt_k (mt_k (mt_k (mt_k (mt_k (mt_w (mt_w (mt_w (mt_w mt_nil))))))))))))))))))
          revert v; intro cost13
          show SK [dv suits, dv told, lv prices, dv case_, dv x1.a, dv x1.b, dv x1.c, dv x1.d, lv offers5, dv i3.1, dv i3.2, dv ((decide (((memT i3.1 l7) : Bool) = x8)) : Bool), dv r9, dv cost13, none, none, none, none] _ _ _ _ _
          exact k_ok rfl (mt_k (mt_k (mt_k (mt_k (mt_k (mt_k (mt_k (mt_k (mt_k (mt_k (mt_k (mt_k (mt_k (mt_k (mt_w (mt_w (mt_w (mt_w mt_nil))))))))))))))))))
        · refine s_next ?_
          exact k_ok rfl (mt_k (mt_k (mt_k (mt_k (mt_k (mt_k (mt_k (mt_k (mt_k (mt_k (mt_k (mt_k (mt_k (mt_k (mt_w (mt_w (mt_w (mt_w mt_nil))))))))))))))))))
      rintro cost10
      show SK [dv suits, dv told, lv prices, dv case_, dv x1.a, dv x1.b, dv x1.c, dv x1.d, lv offers5, dv i3.1, dv i3.2, dv ((decide (((memT i3.1 l7) : Bool) = x8)) : Bool), dv r9, dv cost10, none, none, none, none] _ _ _ _ _
      refine s_then ?_
      refine s_drop ?_
      refine e_app (by rfl) ?_
      refine e_pu (pu_tup (pu_cons (pu_var (by rfl)) (pu_cons (pu_var (by rfl)) pu_nil)) (ln (n := 2) rfl)) ?_
      refine c_app (xs := offers5) (x := ((cost10, i3.2) : (Int × Int))) (by rfl) rfl ?_
      exact k_ok rfl (mt_k (mt_k (mt_k (mt_k (mt_k (mt_k (mt_k (mt_k (mt_k (mt_w (mt_w (mt_w (mt_w (mt_w (mt_w (mt_w (mt_w (mt_w mt_nil))))))))))))))))))
    · refine s_next ?_
      exact k_ok rfl (mt_k (mt_k (mt_k (mt_k (mt_k (mt_k (mt_k (mt_k (mt_k (mt_w (mt_w (mt_w (mt_w (mt_w (mt_w (mt_w (mt_w (mt_w mt_nil))))))))))))))))))
  revert v; intro offers5
  show SK [dv suits, dv told, lv prices, dv case_, dv x1.a, dv x1.b, dv x1.c, dv x1.d, lv offers5, none, none, none, none, none, none, none, none, none] _ _ _ _ _
  refine s_then ?_
  refine s_seq ?_
  refine s_asg ?_
  refine e_callT ?_
  refine a_r (by rfl) ?_
  refine a_r (by rfl) ?_
  refine a_d ?_
  refine e_pu (pu_var (by rfl)) ?_
  refine a_nil ?_
  refine e_pu (pu_lst pu_nil (ln (n := 0) rfl)) ?_
  refine c_callT (by show List.Nodup [0, 1]; decide) (by rfl) rfl (r_law_margin_v2_4 suits told case_ (([] : List (Int × Tx)))) xe_no ?_
  rintro r18
  show SK [dv suits, dv told, lv prices, dv case_, dv x1.a, dv x1.b, dv x1.c, dv x1.d, lv offers5, none, none, none, none, none, none, none, none, none] _ _ _ _ _
  refine s_set rfl ?_
  refine s_then ?_
  refine s_seq ?_
  refine s_ifE ?_
  refine e_B ?_
  refine e_ixP (by rfl) ?_
  refine e_pu (pu_var (by rfl)) ?_
  refine e_pu (pu_peek (by rfl)) ?_
  refine e_oO (p := atI told case_) (f := Enc.enc) (ix_l told case_) (fun x19 => ?_)
  refine e_ok ?_
  refine s_ite (x := x19) ?_ ?_
  · refine s_ret ?_
    refine e_call ?_
    refine a_r (by rfl) ?_
    refine a_d ?_
    refine e_pu (pu_fz (pu_op (z := (S.d (Enc.enc (r18 + (1 : Int))))) (pu_var (by rfl)) (pu_c (d := Enc.enc (1 : Int))) rfl)) ?_
    refine a_nil ?_
    refine c_call (by show List.Nodup [8]; decide) rfl (r_law_least offers5 ((r18 + (1 : Int)))) xe_no ?_
    rintro ⟨r20, offers21⟩
    show SK [dv suits, dv told, lv prices, dv case_, dv x1.a, dv x1.b, dv x1.c, dv x1.d, dv offers21, none, none, none, none, none, none, dv r18, none, none] _ _ _ _ _
    exact f_rt rfl (mt_k (mt_k (mt_k (mt_w mt_nil))))
  · refine s_next ?_
    refine s_then ?_
    refine s_ret ?_
    refine e_call ?_
    refine a_r (by rfl) ?_
    refine a_d ?_
    refine e_pu (pu_op (z := (Enc.enc (((0 : Int) - r18) : Int))) (pu_c (d := Enc.enc (0 : Int))) (pu_var (by rfl)) rfl) ?_
    refine a_nil ?_
    refine c_call (by show List.Nodup [8]; decide) rfl (r_law_least offers5 (((0 : Int) - r18))) xe_no ?_
    rintro ⟨r22, offers23⟩
    show SK [dv suits, dv told, lv prices, dv case_, dv x1.a, dv x1.b, dv x1.c, dv x1.d, dv offers23, none, none, none, none, none, none, dv r18, none, none] _ _ _ _ _
    exact f_rt rfl (mt_k (mt_k (mt_k (mt_w mt_nil))))
def t_main_k19 (script : List Int) : T Empty (Bool) :=
  (t_src script).bind fun r1 =>
  (t_next r1 ((12 : Int))).bind fun (r2, src3) =>
  (t_law_suits src3 (((1 : Int) + r2) : Int) ((8 : Int))).bind fun (r4, src5) =>
  (t_law_light r4).bind fun r6 =>
  (t_law_settle r6 (([] : List (Int × Tx)) : (List (Int × Tx)))).bind fun r7 =>
  (t_law_oaths_2 r6).bind fun (r8, suits9) =>
  (T.ofO (repT (([(none : (Option Int))] : List (Option Int)) : (List (Option Int))) ((List.length suits9 : Nat) : Int))).bind fun x10 =>
  T.gd (inR ((List.length suits9 : Nat) : Int)) <|
  T.bindL (T.forL ((rangeT (Int.toNat ((List.length suits9 : Nat) : Int))).reverse) (x10 : (List (Option Int))) (fun (i11 : Int) prices13 => (((t_law_price suits9 r7 prices13 i11).bind fun r14 =>
  (T.ofO (setT prices13 i11 r14)).bind fun prices15 =>
  (t_fewest suits9 i11).bind fun r16 =>
  (T.ofO (atI prices15 i11)).bind fun x17 =>
  if (Option.isNone x17) = true then ((T.ofO (atI prices15 i11)).bind fun x18 =>
  if (Option.isSome x18) = true then (.ok (.rt false)) else (if (Option.isSome r16) = true then (.ok (.rt false)) else (.ok (.nx prices15)))) else (if (Option.isNone r16) = true then ((T.ofO (atI prices15 i11)).bind fun x19 =>
  if (Option.isSome x19) = true then (.ok (.rt false)) else (if (Option.isSome r16) = true then (.ok (.rt false)) else (.ok (.nx prices15)))) else ((t_law_pairs_fit r16 r8).bind fun r20 =>
  if (!r20) = true then (.ok (.rt false)) else ((T.ofO r16).bind fun u21 =>
  (T.ofO (atI prices15 i11)).bind fun x22 =>
  if (!(decide (((some ((List.length u21 : Nat) : Int)) : (Option Int)) = x22))) = true then (.ok (.rt false)) else ((t_law_settle suits9 u21).bind fun r23 =>
  (T.ofO (atI r23 i11)).bind fun x24 =>
  (T.ofO (atI r7 i11)).bind fun x25 =>
  if (decide (x24 = x25)) = true then (.ok (.rt false)) else (.ok (.nx prices15))))))) : T Empty (T.Lp ((List (Option Int))) (Bool))))) (fun prices13 =>
  .ok true) (fun r_ => .ok r_)
theorem r_main_k19 (script : List Int) : SK [some (.scr script)] Lw.m_main_k19 (t_main_k19 script) (fun r => (S.d (Enc.enc r))) (fun r => [some (.scr script)]) XV := by
  unfold Lw.m_main_k19 Lw.g_main_k19 t_main_k19
  refine f_def (X' := XV) ?_ xe_no
  show SK [some (.scr script), none, none, none, none, none, none, none] _ _ _ _ _
  refine s_seq ?_
  refine s_asg ?_
  refine e_call ?_
  refine a_r (by rfl) ?_
  refine a_nil ?_
  refine c_call (by show List.Nodup [0]; decide) rfl (r_src script) xe_no ?_
  rintro r1
  show SK [some (.scr script), none, none, none, none, none, none, none] _ _ _ _ _
  refine s_set rfl ?_
  refine s_then ?_
  refine s_seq ?_
  refine s_asg ?_
  refine e_call ?_
  refine a_d ?_
  refine e_fz ?_
  refine e_call ?_
  refine a_r (by rfl) ?_
  refine a_d ?_
  refine e_fz ?_
  refine e_op ?_
  refine e_pu (pu_c (d := Enc.enc (1 : Int))) ?_
  refine e_fz ?_
  refine e_call ?_
  refine a_r (by rfl) ?_
  refine a_d ?_
  refine e_pu (pu_c (d := Enc.enc (12 : Int))) ?_
  refine a_nil ?_
  refine c_call (by show List.Nodup [1]; decide) rfl (r_next r1 ((12 : Int))) xe_no ?_
  rintro ⟨r2, src3⟩
  show SK [some (.scr script), some src3.1, none, none, none, none, none, none] _ _ _ _ _
  refine e_ok ?_
  refine e_o (z := (S.d (Enc.enc ((1 : Int) + r2 : Int)))) rfl ?_
  refine e_ok ?_
  refine a_d ?_
  refine e_pu (pu_c (d := Enc.enc (8 : Int))) ?_
  refine a_nil ?_
  refine c_call (by show List.Nodup [1]; decide) rfl (r_law_suits src3 (((1 : Int) + r2)) ((8 : Int))) xe_no ?_
  rintro ⟨r4, src5⟩
  show SK [some (.scr script), some src5.1, none, none, none, none, none, none] _ _ _ _ _
  refine e_ok ?_
  refine a_nil ?_
  refine c_call List.nodup_nil rfl (r_law_light r4) xe_no ?_
  rintro r6
  show SK [some (.scr script), some src5.1, none, none, none, none, none, none] _ _ _ _ _
  refine s_set rfl ?_
  refine s_then ?_
  refine s_seq ?_
  refine s_asg ?_
  refine e_d ?_
  refine e_fz ?_
  refine e_call ?_
  refine a_r (by rfl) ?_
  refine a_d ?_
  refine e_pu (pu_fzL (pu_lst pu_nil (ln (n := 0) rfl))) ?_
  refine a_nil ?_
  refine c_call (by show List.Nodup [2]; decide) rfl (r_law_settle r6 (([] : List (Int × Tx)))) xe_no ?_
  rintro r7
  show SK [some (.scr script), some src5.1, lv r6, none, none, none, none, none] _ _ _ _ _
  refine e_ok ?_
  refine s_set rfl ?_
  refine s_then ?_
  refine s_seq ?_
  refine s_asg ?_
  refine e_d ?_
  refine e_fz ?_
  refine e_call ?_
  refine a_r (by rfl) ?_
  refine a_nil ?_
  refine c_call (by show List.Nodup [2]; decide) rfl (r_law_oaths_2 r6) xe_no ?_
  rintro ⟨r8, suits9⟩
  show SK [some (.scr script), some src5.1, dv suits9, dv r7, none, none, none, none] _ _ _ _ _
  refine e_ok ?_
  refine s_set rfl ?_
  refine s_then ?_
  refine s_seq ?_
  refine s_asg ?_
  refine e_op ?_
  refine e_pu (pu_fzL (pu_lst (pu_cons pu_c pu_nil) (ln (n := 1) rfl))) ?_
  refine e_pu (pu_un (z := (Enc.enc ((List.length suits9 : Nat) : Int))) (pu_peek (by rfl)) (len_l _)) ?_
  refine e_oO (p := repT (([(none : (Option Int))] : List (Option Int)) : (List (Option Int))) ((List.length suits9 : Nat) : Int)) (f := (fun z => S.ol (List.map Enc.enc z))) (rep_l (([(none : (Option Int))] : List (Option Int)) : (List (Option Int))) ((List.length suits9 : Nat) : Int)) (fun x10 => ?_)
  refine s_set rfl ?_
  refine s_then ?_
  refine s_seq ?_
  refine s_forE ?_
  refine e_rvr1 ?_
  refine e_pu (pu_un (z := (Enc.enc ((List.length suits9 : Nat) : Int))) (pu_peek (by rfl)) (len_l _)) ?_
  refine c_rvr1 (n := ((List.length suits9 : Nat) : Int)) ?_
  refine c_forL (e := Enc.enc) (xs := (((rangeT (Int.toNat ((List.length suits9 : Nat) : Int))).reverse) : (List Int))) (v := (x10 : (List (Option Int)))) (fun v => [some (.scr script), some src5.1, dv suits9, dv r7, dv r8, lv v, none, none]) (fun r => [some (.scr script), none, none, none, none, none, none, none]) (fun (r : Bool) => (S.d (Enc.enc r))) (fun i11 v => [some (.scr script), some src5.1, dv suits9, dv r7, dv r8, lv v, dv i11, none]) (mt_k (mt_k (mt_k (mt_k (mt_k (mt_k (mt_w (mt_w mt_nil)))))))) (fun i11 v => tg_name) (fun i11 v => ?_) (fun v => ?_) (fun r => ?_)
  · revert v; intro prices13
    show SK [some (.scr script), some src5.1, dv suits9, dv r7, dv r8, lv prices13, dv i11, none] _ _ _ _ _
    refine s_seq ?_
    refine s_setIx ?_
    refine e_fz ?_
    refine e_call ?_
    refine a_r (by rfl) ?_
    refine a_r (by rfl) ?_
    refine a_r (by rfl) ?_
    refine a_d ?_
    refine e_pu (pu_var (by rfl)) ?_
    refine a_nil ?_
    refine c_call (by show List.Nodup [2, 3, 5]; decide) rfl (r_law_price_2 suits9 r7 prices13 i11) xe_no ?_
    rintro r14
    show SK [some (.scr script), some src5.1, dv suits9, dv r7, dv r8, lv prices13, dv i11, none] _ _ _ _ _
    refine e_ok ?_
    refine c_setIx (xs := prices13) (x := r14) (by rfl) (pu_var (by rfl)) (fun prices15 => ?_)
    refine s_then ?_
    refine s_seq ?_
    refine s_asg ?_
    refine e_call ?_
    refine a_r (by rfl) ?_
    refine a_d ?_
    refine e_pu (pu_var (by rfl)) ?_
    refine a_nil ?_
    refine c_call (by show List.Nodup [2]; decide) rfl (r_fewest suits9 i11) xe_no ?_
    rintro r16
    show SK [some (.scr script), some src5.1, dv suits9, dv r7, dv r8, lv prices15, dv i11, none] _ _ _ _ _
    refine s_set rfl ?_
    refine s_then ?_
    refine s_ifE ?_
    refine e_orL ?_
    refine e_B ?_
    refine e_op ?_
    refine e_ixP (by rfl) ?_
    refine e_pu (pu_var (by rfl)) ?_
    refine e_pu (pu_peekL (by rfl)) ?_
    refine e_oO (p := atI prices15 i11) (f := Enc.enc) (ix_l prices15 i11) (fun x17 => ?_)
    refine e_pu pu_c ?_
    refine e_o (z := (Enc.enc ((Option.isNone x17) : Bool))) (is_non x17) ?_
    refine e_ok ?_
    refine c_or (x := (Option.isNone x17)) ?_ ?_
    · refine s_iteT ?_
      refine s_ifE ?_
      refine e_orL ?_
      refine e_B ?_
      refine e_op ?_
      refine e_ixP (by rfl) ?_
      refine e_pu (pu_var (by rfl)) ?_
      refine e_pu (pu_peekL (by rfl)) ?_
      refine e_oO (p := atI prices15 i11) (f := Enc.enc) (ix_l prices15 i11) (fun x18 => ?_)
      refine e_pu pu_c ?_
      refine e_o (z := (Enc.enc ((Option.isSome x18) : Bool))) (isN_non x18) ?_
      refine e_ok ?_
      refine c_or (x := (Option.isSome x18)) ?_ ?_
      · refine s_iteT ?_
        refine s_ret ?_
        refine e_pu (pu_d (pu_c (d := Enc.enc false))) ?_
        exact k_ok rfl (mt_k (mt_w (mt_w (mt_w (mt_w (mt_w (mt_w (mt_w mt_nil))))))))
      · refine e_pu (pu_B (pu_isNO (o := r16) (by rfl))) ?_
        refine s_ite (x := (Option.isSome r16)) ?_ ?_
        · refine s_ret ?_
          refine e_pu (pu_d (pu_c (d := Enc.enc false))) ?_
          exact k_ok rfl (mt_k (mt_w (mt_w (mt_w (mt_w (mt_w (mt_w (mt_w mt_nil))))))))
        · refine s_next ?_
          exact k_ok rfl (mt_k (mt_k (mt_k (mt_k (mt_k (mt_k (mt_w (mt_w mt_nil))))))))
    · refine e_pu (pu_B (pu_isO (o := r16) (by rfl))) ?_
      refine s_ite (x := (Option.isNone r16)) ?_ ?_
      · refine s_ifE ?_
        refine e_orL ?_
        refine e_B ?_
        refine e_op ?_
        refine e_ixP (by rfl) ?_
        refine e_pu (pu_var (by rfl)) ?_
        refine e_pu (pu_peekL (by rfl)) ?_
        refine e_oO (p := atI prices15 i11) (f := Enc.enc) (ix_l prices15 i11) (fun x19 => ?_)
        refine e_pu pu_c ?_
        refine e_o (z := (Enc.enc ((Option.isSome x19) : Bool))) (isN_non x19) ?_
        refine e_ok ?_
        refine c_or (x := (Option.isSome x19)) ?_ ?_
        · refine s_iteT ?_
          refine s_ret ?_
          refine e_pu (pu_d (pu_c (d := Enc.enc false))) ?_
          exact k_ok rfl (mt_k (mt_w (mt_w (mt_w (mt_w (mt_w (mt_w (mt_w mt_nil))))))))
        · refine e_pu (pu_B (pu_isNO (o := r16) (by rfl))) ?_
          refine s_ite (x := (Option.isSome r16)) ?_ ?_
          · refine s_ret ?_
            refine e_pu (pu_d (pu_c (d := Enc.enc false))) ?_
            exact k_ok rfl (mt_k (mt_w (mt_w (mt_w (mt_w (mt_w (mt_w (mt_w mt_nil))))))))
          · refine s_next ?_
            exact k_ok rfl (mt_k (mt_k (mt_k (mt_k (mt_k (mt_k (mt_w (mt_w mt_nil))))))))
      · refine s_ifE ?_
        refine e_orL ?_
        refine e_not ?_
        refine e_B ?_
        refine e_fz ?_
        refine e_call ?_
        refine a_d ?_
        refine e_varO (o := r16) (by rfl) ?_
        refine a_d ?_
        refine e_pu (pu_var (by rfl)) ?_
        refine a_nil ?_
        refine c_call List.nodup_nil rfl (r_law_pairs_fit r16 r8) xe_no ?_
        rintro r20
        show SK [some (.scr script), some src5.1, dv suits9, dv r7, dv r8, lv prices15, dv i11, dv r16] _ _ _ _ _
        refine e_ok ?_
        refine e_ok ?_
        refine c_or (x := (!r20)) ?_ ?_
        · refine s_iteT ?_
          refine s_ret ?_
          refine e_pu (pu_d (pu_c (d := Enc.enc false))) ?_
          exact k_ok rfl (mt_k (mt_w (mt_w (mt_w (mt_w (mt_w (mt_w (mt_w mt_nil))))))))
        · refine e_B ?_
          refine e_op ?_
          refine e_un ?_
          refine e_pu (pu_peek (by rfl)) ?_
          rcases hhu21 : r16 with _ | u21
          · exact k_no
          show SK [some (.scr script), some src5.1, dv suits9, dv r7, dv r8, lv prices15, dv i11, dv u21] _ _ _ _ _
          refine k_some ?_
          refine e_o (z := (Enc.enc ((List.length u21 : Nat) : Int))) (len_l _) ?_
          refine e_ixP (by rfl) ?_
          refine e_pu (pu_var (by rfl)) ?_
          refine e_pu (pu_peekL (by rfl)) ?_
          refine e_oO (p := atI prices15 i11) (f := Enc.enc) (ix_l prices15 i11) (fun x22 => ?_)
          refine e_o (z := (Enc.enc ((!(decide (((some ((List.length u21 : Nat) : Int)) : (Option Int)) = x22))) : Bool))) (ne_opt ((some ((List.length u21 : Nat) : Int)) : (Option Int)) x22) ?_
          refine e_ok ?_
          refine s_ite (x := (!(decide (((some ((List.length u21 : Nat) : Int)) : (Option Int)) = x22)))) ?_ ?_
          · refine s_ret ?_
            refine e_pu (pu_d (pu_c (d := Enc.enc false))) ?_
            exact k_ok rfl (mt_k (mt_w (mt_w (mt_w (mt_w (mt_w (mt_w (mt_w mt_nil))))))))
          · refine s_ifE ?_
            refine e_B ?_
            refine e_op ?_
            refine e_op ?_
            refine e_fz ?_
            refine e_call ?_
            refine a_r (by rfl) ?_
            refine a_d ?_
            refine e_pu (pu_var (by rfl)) ?_
            refine a_nil ?_
            refine c_call (by show List.Nodup [2]; decide) rfl (r_law_settle_2 suits9 u21) xe_no ?_
            rintro r23
            show SK [some (.scr script), some src5.1, dv suits9, dv r7, dv r8, lv prices15, dv i11, dv u21] _ _ _ _ _
            refine e_ok ?_
            refine e_pu (pu_var (by rfl)) ?_
            refine e_oO (p := atI r23 i11) (f := Enc.enc) (ix_l r23 i11) (fun x24 => ?_)
            refine e_ixP (by rfl) ?_
            refine e_pu (pu_var (by rfl)) ?_
            refine e_pu (pu_peek (by rfl)) ?_
            refine e_oO (p := atI r7 i11) (f := Enc.enc) (ix_l r7 i11) (fun x25 => ?_)
            refine e_o (z := (Enc.enc ((decide (x24 = x25)) : Bool))) (eq_enc x24 x25) ?_
            refine e_ok ?_
            refine s_ite (x := (decide (x24 = x25))) ?_ ?_
            · refine s_ret ?_
              refine e_pu (pu_d (pu_c (d := Enc.enc false))) ?_
              exact k_ok rfl (mt_k (mt_w (mt_w (mt_w (mt_w (mt_w (mt_w (mt_w mt_nil))))))))
            · refine s_next ?_
              exact k_ok rfl (mt_k (mt_k (mt_k (mt_k (mt_k (mt_k (mt_w (mt_w mt_nil))))))))
  · revert v; intro prices13
    show SK [some (.scr script), some src5.1, dv suits9, dv r7, dv r8, lv prices13, none, none] _ _ _ _ _
    refine s_then ?_
    refine s_ret ?_
    refine e_pu (pu_d (pu_c (d := Enc.enc true))) ?_
    exact f_rt rfl (mt_k mt_nil)
  · revert r; intro r_
    show SK [some (.scr script), none, none, none, none, none, none, none] _ _ _ _ _
    exact f_rt rfl (mt_k mt_nil)
end Ty

namespace VS
open PySem L2
theorem rangeT2_succ (lo : Int) (n : Nat) : rangeT2 lo (n + 1) = rangeT2 lo n ++ [lo + (n : Int)] := by
  unfold rangeT2
  rw [List.range_succ, List.map_append]
  rfl
theorem rev2_post {ε ν : Type} {f : Int → ν → T ε ν} (Inv : Nat → ν → Prop) {lo n : Nat} {v : ν} (h0 : Inv (lo + n) v) (hs : ∀ (i : Nat) v, lo ≤ i → i < lo + n → Inv (i + 1) v → (f (i : Int) v).Post (Inv i)) : (T.forM (rangeT2 (lo : Int) n).reverse v f).Post (Inv lo) := by
  induction n generalizing v with
  | zero => exact post_ok h0
  | succ n ih =>
    rw [rangeT2_succ, List.reverse_append]
    have := hs (lo + n) v (by omega) (by omega) h0
    rw [show ((lo + n : Nat) : Int) = (lo : Int) + (n : Int) by omega] at this
    exact post_bind this fun v' h' => ih h' fun i v h1 h2 => hs i v h1 (by omega)
end VS
namespace Ty
open PySem VS L2
abbrev Of := Int × Int
def cS (S : List Of) : Int := (S.map (·.1)).sum
def gS (S : List Of) : Int := (S.map (·.2)).sum
theorem cS_app (S T : List Of) : cS (S ++ T) = cS S + cS T := by unfold cS; rw [List.map_append, List.sum_append]
theorem gS_app (S T : List Of) : gS (S ++ T) = gS S + gS T := by unfold gS; rw [List.map_append, List.sum_append]
theorem cS_one (o : Of) : cS [o] = o.1 := by unfold cS; simp
theorem gS_one (o : Of) : gS [o] = o.2 := by unfold gS; simp
theorem cS_nonneg {S : List Of} (h : ∀ o ∈ S, 0 ≤ o.1) : 0 ≤ cS S := sum_nonneg fun x hx => by
  obtain ⟨o, ho, rfl⟩ := List.mem_map.mp hx
  exact h o ho
def MinC (pre : List Of) (r : Int) (o : Option Int) : Prop := match o with
  | none => ∀ S : List Of, S.Sublist pre → gS S < r
  | some m => (∃ S : List Of, S.Sublist pre ∧ r ≤ gS S ∧ m = cS S) ∧ ∀ S : List Of, S.Sublist pre → r ≤ gS S → m ≤ cS S
theorem minC_nil {r : Int} (h : 1 ≤ r) : MinC [] r none := fun S hS => by
  have : S = [] := List.sublist_nil.mp hS
  subst this
  show (0 : Int) < r
  omega
theorem minC_zero {pre : List Of} (h : ∀ o ∈ pre, 0 ≤ o.1) {r : Int} (hr : r ≤ 0) : MinC pre r (some 0) := ⟨⟨[], List.nil_sublist _, hr, rfl⟩, fun S hS _ => cS_nonneg fun o ho => h o (hS.subset ho)⟩
theorem minC_step {pre : List Of} {q : Of} {r : Int} {o b : Option Int} (ho : MinC pre r o) (hb : MinC pre (r - q.2) b) : MinC (pre ++ [q]) r (match b with
    | none => o
    | some x => (match o with
      | none => some (x + q.1)
      | some y => if x + q.1 < y then some (x + q.1) else some y)) := by
  have sub1 : pre.Sublist (pre ++ [q]) := List.sublist_append_left ..
  cases b with
  | none =>
    cases o with
    | none =>
      intro S hS
      rcases sub_snoc hS with hS | ⟨S', rfl, hS'⟩
      · exact ho S hS
      · have := hb S' hS'
        rw [gS_app, gS_one]
        omega
    | some y =>
      obtain ⟨⟨Y, y1, y2, y3⟩, y4⟩ := ho
      refine ⟨⟨Y, y1.trans sub1, y2, y3⟩, fun S hS hg => ?_⟩
      rcases sub_snoc hS with hS | ⟨S', rfl, hS'⟩
      · exact y4 S hS hg
      · have := hb S' hS'
        rw [gS_app, gS_one] at hg
        omega
  | some x =>
    obtain ⟨⟨X, x1, x2, x3⟩, x4⟩ := hb
    have hX : (X ++ [q]).Sublist (pre ++ [q]) ∧ r ≤ gS (X ++ [q]) ∧ x + q.1 = cS (X ++ [q]) := ⟨x1.append (List.Sublist.refl _), by rw [gS_app, gS_one]; omega, by rw [cS_app, cS_one, x3]⟩
    cases o with
    | none =>
      refine ⟨⟨_, hX⟩, fun S hS hg => ?_⟩
      rcases sub_snoc hS with hS | ⟨S', rfl, hS'⟩
      · have := ho S hS
        omega
      · rw [gS_app, gS_one] at hg
        have := x4 S' hS' (by omega)
        rw [cS_app, cS_one]
        omega
    | some y =>
      obtain ⟨⟨Y, y1, y2, y3⟩, y4⟩ := ho
      by_cases hlt : x + q.1 < y
      · simp only [hlt, if_true]
        refine ⟨⟨_, hX⟩, fun S hS hg => ?_⟩
        rcases sub_snoc hS with hS | ⟨S', rfl, hS'⟩
        · have := y4 S hS hg
          omega
        · rw [gS_app, gS_one] at hg
          have := x4 S' hS' (by omega)
          rw [cS_app, cS_one]
          omega
      · simp only [hlt, if_false]
        refine ⟨⟨Y, y1.trans sub1, y2, y3⟩, fun S hS hg => ?_⟩
        rcases sub_snoc hS with hS | ⟨S', rfl, hS'⟩
        · exact y4 S hS hg
        · rw [gS_app, gS_one] at hg
          have := x4 S' hS' (by omega)
          rw [cS_app, cS_one]
          omega
def TabL (g : Nat) (pre : List Of) (t : List (Option Int)) : Prop := t.length = g + 1 ∧ ∀ r : Nat, r ≤ g → ∃ o, t[r]? = some o ∧ MinC pre (r : Int) o
theorem least_spec {xs : List Of} {g : Nat} (h1 : 1 ≤ g) (h2 : g ≤ 900000) (hc : ∀ x ∈ xs, 0 ≤ x.1) (hg : ∀ x ∈ xs, 1 ≤ x.2) : (t_law_least xs (g : Int)).Post fun p => p.2 = xs ∧ MinC xs (g : Int) p.1 := by
  unfold t_law_least
  refine post_ofO (repT_one none g (by omega)) (post_ofO (catT_ok (by rw [List.length_replicate, List.length_singleton]; omega)) ?_)
  refine post_bind (forM_post (fun pre t => TabL g pre t) ?_ ?_) ?_
  · refine ⟨by rw [List.length_append, List.length_replicate, List.length_singleton]; omega, fun r hr => ?_⟩
    by_cases hr0 : r = 0
    · subst hr0
      exact ⟨some 0, rfl, minC_zero (by simp) (by omega)⟩
    · refine ⟨none, ?_, minC_nil (by omega)⟩
      rw [List.getElem?_append_right (by simp; omega), List.length_singleton, List.getElem?_replicate, if_pos (by omega)]
  · rintro pre q post t ex ⟨t1, t2⟩
    have hq : q ∈ xs := by rw [ex]; simp
    have hqc := hc q hq
    have hqg := hg q hq
    have hpre : ∀ o ∈ pre, 0 ≤ o.1 := fun o ho => hc o (by rw [ex]; exact List.mem_append_left _ ho)
    refine post_gd ⟨inR_s (by omega) (by omega), inR_s (by omega) (by omega)⟩ ?_
    rw [show ((g : Int) + 1 - 1).toNat = g by omega]
    refine post_bind (rev2_post (lo := 1) (n := g) (fun i (t : List (Option Int)) => t.length = g + 1 ∧ (∀ r : Nat, r < i → r ≤ g → ∃ o, t[r]? = some o ∧ MinC pre (r : Int) o) ∧ ∀ r : Nat, i ≤ r → r ≤ g → ∃ o, t[r]? = some o ∧ MinC (pre ++ [q]) (r : Int) o) ⟨t1, fun r _ hr => t2 r hr, fun r hr hr2 => by omega⟩ ?_) ?_
    · rintro i t hi1 hi2 ⟨g1, g2, g3⟩
      obtain ⟨o, ho1, ho2⟩ := g2 i (by omega) (by omega)
      -- what stands before
      obtain ⟨b, hb1, hb2⟩ : ∃ b, atI t (maxT (0 : Int) ((i : Int) - q.2)) = some b ∧ MinC pre ((i : Int) - q.2) b := by
        by_cases hle : (i : Int) - q.2 ≤ 0
        · have e : maxT (0 : Int) ((i : Int) - q.2) = ((0 : Nat) : Int) := by
            unfold maxT
            rw [if_neg (by omega)]
            rfl
          obtain ⟨b, hb1, hb2⟩ := g2 0 (by omega) (by omega)
          have hb : b = some 0 := by
            cases b with
            | none =>
              have := hb2 [] (List.nil_sublist _)
              exact absurd this (by show ¬ (0 : Int) < 0; omega)
            | some m =>
              obtain ⟨⟨S, s1, s2, s3⟩, s4⟩ := hb2
              have k1 := s4 [] (List.nil_sublist _) (by show (0 : Int) ≤ 0; omega)
              have k2 := cS_nonneg (S := S) fun o ho => hpre o (s1.subset ho)
              have k1 : m ≤ 0 := k1
              have : m = 0 := by omega
              rw [this]
          rw [e, atI_n, hb1, hb]
          exact ⟨some 0, rfl, minC_zero hpre hle⟩
        · have e : maxT (0 : Int) ((i : Int) - q.2) = (((i : Int) - q.2).toNat : Int) := by
            unfold maxT
            rw [if_pos (by omega)]
            omega
          obtain ⟨b, hb1, hb2⟩ := g2 ((i : Int) - q.2).toNat (by omega) (by omega)
          rw [e, atI_n, hb1]
          refine ⟨b, rfl, ?_⟩
          rw [show ((((i : Int) - q.2).toNat : Nat) : Int) = (i : Int) - q.2 by omega] at hb2
          exact hb2
      have hstep := minC_step ho2 hb2
      rw [hb1, ofO_some', atI_n, ho1, ofO_some']
      have keep : MinC (pre ++ [q]) (i : Int) o → (T.ok t : T Empty (List (Option Int))).Post fun t => t.length = g + 1 ∧ (∀ r : Nat, r < i → r ≤ g → ∃ o, t[r]? = some o ∧ MinC pre (r : Int) o) ∧ ∀ r : Nat, i ≤ r → r ≤ g → ∃ o, t[r]? = some o ∧ MinC (pre ++ [q]) (r : Int) o := fun hk =>
        post_ok ⟨g1, fun r hr hr2 => g2 r (by omega) hr2, fun r hr hr2 => by
          by_cases e : r = i
          · subst e
            exact ⟨o, ho1, hk⟩
          · exact g3 r (by omega) hr2⟩
      have put : ∀ z : Int, MinC (pre ++ [q]) (i : Int) (some z) → ((T.ofO (setT t (i : Int) (some z))).bind fun table12 => .ok table12 : T Empty (List (Option Int))).Post fun t => t.length = g + 1 ∧ (∀ r : Nat, r < i → r ≤ g → ∃ o, t[r]? = some o ∧ MinC pre (r : Int) o) ∧ ∀ r : Nat, i ≤ r → r ≤ g → ∃ o, t[r]? = some o ∧ MinC (pre ++ [q]) (r : Int) o := fun z hk => by
        rw [setT_nat (by omega), ofO_some']
        refine post_ok ⟨by rw [List.length_set]; exact g1, fun r hr hr2 => ?_, fun r hr hr2 => ?_⟩
        · rw [List.getElem?_set_ne (by omega)]
          exact g2 r (by omega) hr2
        · by_cases e : r = i
          · subst e
            exact ⟨some z, by rw [List.getElem?_set_self (by omega)], hk⟩
          · rw [List.getElem?_set_ne (by omega)]
            exact g3 r (by omega) hr2
      cases b with
      | none =>
        simp only [Option.isSome_none, Bool.false_eq_true, if_false]
        exact keep hstep
      | some x =>
        simp only [Option.isSome_some, if_true, ofO_some']
        cases o with
        | none =>
          simp only [Option.isNone_none, if_true]
          exact put _ hstep
        | some y =>
          simp only [Option.isNone_some, Bool.false_eq_true, if_false, ofO_some']
          by_cases hlt : x + q.1 < y
          · rw [if_pos (by simpa using hlt)]
            simp only [hlt, if_true] at hstep
            exact put _ hstep
          · rw [if_neg (by simpa using hlt)]
            simp only [hlt, if_false] at hstep
            exact keep hstep
    · rintro t ⟨g1, g2, g3⟩
      refine post_ok ⟨g1, fun r hr => ?_⟩
      by_cases hr0 : r = 0
      · subst hr0
        obtain ⟨o, ho1, ho2⟩ := g2 0 (by omega) (by omega)
        refine ⟨o, ho1, ?_⟩
        cases o with
        | none =>
          have := ho2 [] (List.nil_sublist _)
          exact absurd this (by show ¬ (0 : Int) < 0; omega)
        | some m =>
          obtain ⟨⟨S, s1, s2, s3⟩, s4⟩ := ho2
          have k1 := s4 [] (List.nil_sublist _) (by show (0 : Int) ≤ 0; omega)
          have k2 := cS_nonneg (S := S) fun o ho => hpre o (s1.subset ho)
          have k1 : m ≤ 0 := k1
          have : m = 0 := by omega
          rw [this]
          refine minC_zero (fun o ho => ?_) (by omega)
          rcases List.mem_append.mp ho with ho | ho
          · exact hpre o ho
          · rw [List.mem_singleton] at ho
            subst ho
            exact hqc
      · exact g3 r (by omega) hr
  · rintro t ⟨t1, t2⟩
    obtain ⟨o, ho1, ho2⟩ := t2 g (Nat.le_refl _)
    rw [atI_n, ho1, ofO_some']
    exact post_ok ⟨rfl, ho2⟩
end Ty

namespace VS
open PySem L2
theorem rangeT_add (a b : Nat) : rangeT (a + b) = rangeT a ++ rangeT2 (a : Int) b := by
  induction b with
  | zero => simp [rangeT2]
  | succ b ih =>
    rw [show a + (b + 1) = (a + b) + 1 by omega, rangeT_succ, ih, rangeT2_succ, List.append_assoc]
    congr 2
theorem revL_post {ε ν ρ : Type} {f : Int → ν → T ε (T.Lp ν ρ)} (Inv : Nat → ν → Prop) {n : Nat} {v : ν} (h0 : Inv n v) (hs : ∀ (i : Nat) v, i < n → Inv (i + 1) v → (f (i : Int) v).Post fun z => ∃ v', z = .nx v' ∧ Inv i v') : (T.forL (rangeT n).reverse v f).Post fun z => ∃ v', z = .nx v' ∧ Inv 0 v' := by
  induction n generalizing v with
  | zero => exact post_ok ⟨v, rfl, h0⟩
  | succ n ih =>
    rw [rangeT_succ, List.reverse_append]
    obtain ⟨z, e, v', rfl, h'⟩ := hs n v (Nat.lt_succ_self n) h0
    have e2 : T.forL ([(n : Int)].reverse ++ (rangeT n).reverse) v f = T.forL (rangeT n).reverse v' f := by
      show (f (n : Int) v).bind _ = _
      rw [e]
      rfl
    rw [e2]
    exact ih h' fun i v hi => hs i v (Nat.lt_succ_of_lt hi)
end VS
namespace Ty
open PySem VS L2
open PySem.W (dataLe)
theorem countP_one {xs : List Oa} (hn : xs.Nodup) {x : Oa} (hx : x ∈ xs) : xs.countP (fun z => decide (z = x)) = 1 := by
  induction xs with
  | nil => cases hx
  | cons y ys ih =>
    have hn' := List.nodup_cons.mp hn
    rw [List.countP_cons]
    by_cases e : y = x
    · subst e
      have : ys.countP (fun z => decide (z = y)) = 0 := List.countP_eq_zero.mpr fun z hz h => by
        have := of_decide_eq_true h
        subst this
        exact hn'.1 hz
      rw [this]
      simp
    · rcases List.mem_cons.mp hx with rfl | hx
      · exact absurd rfl e
      · rw [ih hn'.2 hx]
        simp [e]
theorem pairs_fit_eq {us : List Suit} (hs : SOk us) {ol : List Oa} (ho : Oaths us ol) {row : List Oa} (hn : row.Nodup) (hm : ∀ p ∈ row, p ∈ oathsOf us) (hr : row.Pairwise fun a b => dataLe false (Enc.enc : Oa → D) a b = true) : t_law_pairs_fit (some row) ol = .ok true := by
  have hrl : row.length ≤ 1440 := Nat.le_trans (nodup_len hn hm) (oaths_len hs)
  unfold t_law_pairs_fit
  simp only [Option.isSome_some, Bool.not_true, Bool.false_eq_true, if_false, ofO_some']
  rw [sortT_of (List.Perm.refl row) hr (by omega), ofO_some', if_neg (by simp)]
  rw [forL_nx fun p hp => by
    have h1 : memT p ol = true := (memT_iff _ _).mpr (ho.mem.mpr (hm p hp))
    have h2 : cntE row p = 1 := by
      unfold cntE
      rw [countP_one hn hp]
      rfl
    rw [h1, h2]
    rfl, T.bindL_nx]
theorem law_light_spec {us : List Suit} (hs : SOk us) : (t_law_light us).Post fun r => SOk r ∧ r.length = us.length := by
  have hlen := hs.len
  unfold t_law_light
  have hf : T.forM us (([] : List Suit) : (List Suit)) (fun (i1 : Suit) found3 => (((T.lcp i1.a (fun (i4 : Oath) => true) (fun i4 => ((i4.1, ((1 : Int) + (i4.2 % (9 : Int)))) : Oath))).bind fun l5 =>
      (T.lcp i1.b (fun (i6 : Oath) => true) (fun i6 => ((i6.1, ((1 : Int) + (i6.2 % (9 : Int)))) : Oath))).bind fun l7 =>
      T.gd (found3.length < sizeLine) <|
      .ok (found3 ++ [(Tp4.mk l5 l7 ((1 : Int) + (i1.c % (12 : Int))) i1.d)])) : T Empty ((List Suit)))) = .ok (us.map fun u => Tp4.mk (u.a.map fun o => (o.1, 1 + o.2 % 9)) (u.b.map fun o => (o.1, 1 + o.2 % 9)) (1 + u.c % 12) u.d) := by
    suffices h : (T.forM us (([] : List Suit) : (List Suit)) (fun (i1 : Suit) found3 => (((T.lcp i1.a (fun (i4 : Oath) => true) (fun i4 => ((i4.1, ((1 : Int) + (i4.2 % (9 : Int)))) : Oath))).bind fun l5 =>
        (T.lcp i1.b (fun (i6 : Oath) => true) (fun i6 => ((i6.1, ((1 : Int) + (i6.2 % (9 : Int)))) : Oath))).bind fun l7 =>
        T.gd (found3.length < sizeLine) <|
        .ok (found3 ++ [(Tp4.mk l5 l7 ((1 : Int) + (i1.c % (12 : Int))) i1.d)])) : T Empty ((List Suit))))).Post fun r => r = us.map fun u : Suit => Tp4.mk (u.a.map fun o => (o.1, 1 + o.2 % 9)) (u.b.map fun o => (o.1, 1 + o.2 % 9)) (1 + u.c % 12) u.d by
      obtain ⟨r, e, rfl⟩ := h
      exact e
    refine forM_post (fun pre r => r = pre.map fun u : Suit => Tp4.mk (u.a.map fun o => (o.1, 1 + o.2 % 9)) (u.b.map fun o => (o.1, 1 + o.2 % 9)) (1 + u.c % 12) u.d) rfl ?_
    rintro pre u post r ex rfl
    have hu : u ∈ us := by rw [ex]; simp
    have hz := hs.sz hu
    have hpl : pre.length ≤ 60 := by
      have := congrArg List.length ex
      rw [List.length_append] at this
      omega
    rw [lcp_ok (by omega), T.ok_bind, lcp_ok (by omega), T.ok_bind, List.filter_eq_self.mpr fun _ _ => rfl, List.filter_eq_self.mpr fun _ _ => rfl]
    exact post_gd (szl _ (by rw [List.length_map]; omega)) (post_ok (by rw [List.map_append]; rfl))
  rw [hf, T.ok_bind]
  have names_eq : ∀ u : Suit, namesOf (Tp4.mk (u.a.map fun o => (o.1, 1 + o.2 % 9)) (u.b.map fun o => (o.1, 1 + o.2 % 9)) (1 + u.c % 12) u.d) = namesOf u := fun u => by
    unfold namesOf
    dsimp only
    rw [← List.map_append, List.map_map]
    rfl
  refine post_ok ⟨⟨by rw [List.length_map]; exact hlen, fun w hw => ?_, fun i w k hw hk => ?_⟩, by rw [List.length_map]⟩
  · obtain ⟨u, hu, rfl⟩ := List.mem_map.mp hw
    obtain ⟨so, s24, sc1, sc2⟩ := hs.side u hu
    dsimp only
    rw [← List.map_append]
    refine ⟨⟨?_, fun z hz => ?_⟩, by rw [List.length_map]; exact s24, by omega, by omega⟩
    · rw [List.map_map]
      exact so.nd
    · obtain ⟨o, ho, rfl⟩ := List.mem_map.mp hz
      exact ⟨by dsimp only; omega, by dsimp only; omega, (so.wt o ho).2.2⟩
  · rw [List.getElem?_map] at hw
    obtain ⟨u, hu, rfl⟩ := Option.map_eq_some_iff.mp hw
    obtain ⟨j, v, e1, e2, e3, e4⟩ := hs.named i u k hu hk
    exact ⟨j, _, e1, e2, by rw [List.getElem?_map, e3]; rfl, by rw [names_eq]; exact e4⟩
section
variable {us : List Suit} {told : List Bool} {plans : List (Option (List Oa))} {c : Nat} {u : Suit}
def offsOf (us : List Suit) (told : List Bool) (plans : List (Option (List Oa))) (c : Nat) (D : List Oath) : List Of := D.map fun o => ((((oaRow us told plans (c : Int) o.1).length : Nat) : Int), o.2)
theorem offs_c (D : List Oath) : cS (offsOf us told plans c D) = (((rowOf us told plans c D).length : Nat) : Int) := by
  rw [rowOf_len, ← natsum_cast]
  unfold cS offsOf
  rw [List.map_map]
  rfl
theorem offs_g (D : List Oath) : gS (offsOf us told plans c D) = sumW D := by
  unfold gS offsOf sumW
  rw [List.map_map]
  rfl
theorem price_plan (hs : SOk us) (ht : Settles us no0 told) (hu : us[c]? = some u) (hp : LaterOk us told c plans) {r : Option Int} {q : Option (List Oa)}
    (hr : MinC (offsOf us told plans c (trueB (brkB us told) u (c : Int) (decide (0 ≤ margB u c (brkB us told))))) (if (decide (0 ≤ margB u c (brkB us told))) = true then margB u c (brkB us told) + 1 else 0 - margB u c (brkB us told)) r) (hq : PlanOk us told c u q) : r = q.map fun row => (row.length : Int) := by
  have up : ∀ {D : List Oath}, D.Sublist (trueB (brkB us told) u (c : Int) (decide (0 ≤ margB u c (brkB us told)))) → (offsOf us told plans c D).Sublist (offsOf us told plans c (trueB (brkB us told) u (c : Int) (decide (0 ≤ margB u c (brkB us told))))) := fun h => h.map _
  have down : ∀ {S : List Of}, S.Sublist (offsOf us told plans c (trueB (brkB us told) u (c : Int) (decide (0 ≤ margB u c (brkB us told))))) → ∃ D : List Oath, D.Sublist (trueB (brkB us told) u (c : Int) (decide (0 ≤ margB u c (brkB us told)))) ∧ S = offsOf us told plans c D := fun h => by
    unfold offsOf at h
    rw [List.sublist_map_iff] at h
    obtain ⟨D, h1, h2⟩ := h
    exact ⟨D, h1, h2⟩
  have tr : ∀ {S : List Of}, S.Sublist (offsOf us told plans c (trueB (brkB us told) u (c : Int) (decide (0 ≤ margB u c (brkB us told))))) → (if (decide (0 ≤ margB u c (brkB us told))) = true then margB u c (brkB us told) + 1 else 0 - margB u c (brkB us told)) ≤ gS S → ∃ M : List Oa, M.Nodup ∧ turns us told M c ∧ cS S = (M.length : Int) := fun h hg => by
    obtain ⟨D, d1, rfl⟩ := down h
    rw [offs_g] at hg
    obtain ⟨hdn, _⟩ := true_names hs hu d1
    exact ⟨_, rowOf_nodup hs hp hdn, row_turns hs ht hu hp d1 hg, offs_c D⟩
  cases q with
  | none =>
    cases r with
    | none => rfl
    | some m =>
      obtain ⟨⟨S, s1, s2, s3⟩, _⟩ := hr
      obtain ⟨M, m1, m2, _⟩ := tr s1 s2
      exact absurd m2 (hq.2.2 M m1)
  | some row =>
    obtain ⟨p1, p2, p3, p4, p5⟩ := hq
    obtain ⟨D, d1, d2, d3⟩ := turn_cost hs ht hu hp p1 p3
    cases r with
    | none =>
      have := hr _ (up d1)
      rw [offs_g] at this
      omega
    | some m =>
      obtain ⟨⟨S, s1, s2, s3⟩, s4⟩ := hr
      have k1 := s4 _ (up d1) (by rw [offs_g]; exact d2)
      rw [offs_c, rowOf_len] at k1
      have k2 := List.length_filter_le (zone us c) row
      obtain ⟨M, m1, m2, m3⟩ := tr s1 s2
      have k3 := p4 M m1 m2
      have k4 := List.length_filter_le (zone us c) M
      have : m = (row.length : Int) := by omega
      rw [this]
      rfl
theorem law_price_spec (hs : SOk us) (ht : Settles us no0 told) (hu : us[c]? = some u) (hp : LaterOk us told c plans) {prices : List (Option Int)} (hpr : ∀ (j : Nat) (w : Suit), c < j → us[j]? = some w → ∃ r, plans[j]? = some r ∧ prices[j]? = some (r.map fun row => (row.length : Int))) :
    (t_law_price us told prices (c : Int)).Post fun r => MinC (offsOf us told plans c (trueB (brkB us told) u (c : Int) (decide (0 ≤ margB u c (brkB us told))))) (if (decide (0 ≤ margB u c (brkB us told))) = true then margB u c (brkB us told) + 1 else 0 - margB u c (brkB us told)) r := by
  have hlen := hs.len
  have htl := ht.len
  have hcl := (List.getElem?_eq_some_iff.mp hu).1
  obtain ⟨so, s24, sc1, sc2⟩ := hs.side u (List.mem_of_getElem? hu)
  rw [List.length_append] at s24
  have e2 : (margB u c fun k => no0 k || brkB us told k) = margB u c (brkB us told) := margB_congr fun n => rfl
  have hat := ht.at_ c u hu
  rw [e2] at hat
  have hnd := so.nd
  rw [List.map_append, List.nodup_append] at hnd
  unfold t_law_price
  rw [atI_n, hu, ofO_some', catT_ok (by omega), ofO_some']
  have hgoal : ∀ st, decide (0 ≤ margB u c (brkB us told)) = st → 1 ≤ (if st = true then margB u c (brkB us told) + 1 else 0 - margB u c (brkB us told)) ∧ (if st = true then margB u c (brkB us told) + 1 else 0 - margB u c (brkB us told)) ≤ 900000 := fun st hst => by
    have wa : ∀ zs : List Oath, zs.length ≤ 24 → (∀ z ∈ zs, 1 ≤ z.2 ∧ z.2 ≤ 1000) → ∀ p : Oath → Bool, 0 ≤ sumW (zs.filter p) ∧ sumW (zs.filter p) ≤ 24000 := fun zs hl hz p => by
      refine ⟨sumW_nonneg fun z h => by have := (hz z (List.mem_filter.mp h).1).1; omega, ?_⟩
      have h1 : (zs.filter p).length ≤ zs.length := List.length_filter_le ..
      have h2 := sum_le_len (xs := (zs.filter p).map (·.2)) (K := 1000) fun x hx => by
        obtain ⟨z, hz', rfl⟩ := List.mem_map.mp hx
        have := (hz z (List.mem_filter.mp hz').1).2
        omega
      rw [List.length_map] at h2
      unfold sumW
      omega
    have ka := wa u.a (by omega) (fun z hz => ⟨(so.wt z (List.mem_append_left _ hz)).1, (so.wt z (List.mem_append_left _ hz)).2.1⟩) fun o => !brkB us told ((c : Int), o.1)
    have kb := wa u.b (by omega) (fun z hz => ⟨(so.wt z (List.mem_append_right _ hz)).1, (so.wt z (List.mem_append_right _ hz)).2.1⟩) fun o => !brkB us told ((c : Int), o.1)
    unfold margB keptW at hst ⊢
    cases st with
    | true =>
      have := of_decide_eq_true hst
      rw [if_pos rfl]
      omega
    | false =>
      have := of_decide_eq_false hst
      rw [if_neg (by simp)]
      omega
  generalize hst : decide (0 ≤ margB u c (brkB us told)) = st at hat
  obtain ⟨hg1, hg2⟩ := hgoal st hst
  -- what is claimed
  obtain ⟨P, hP⟩ : ∃ P : Oath → Bool, ∀ o : Oath, P o = ((decide (memT o.1 (u.a.map (·.1)) = st) && !brkB us told ((c : Int), o.1)) || (!decide (memT o.1 (u.a.map (·.1)) = st) && brkB us told ((c : Int), o.1))) := ⟨_, fun _ => rfl⟩
  have hclaim : ((u.a ++ u.b).filter P) = trueB (brkB us told) u (c : Int) st := by
    unfold trueB
    rw [List.filter_append]
    congr 1
    · refine List.filter_congr fun o ho => ?_
      rw [hP, (memT_iff _ _).mpr (List.mem_map.mpr ⟨o, ho, rfl⟩)]
      cases st <;> cases brkB us told ((c : Int), o.1) <;> rfl
    · refine List.filter_congr fun o ho => ?_
      rw [hP]
      have : memT o.1 (u.a.map (·.1)) = false := by
        rw [Bool.eq_false_iff]
        intro z
        exact hnd.2.2 _ ((memT_iff _ _).mp z) _ (List.mem_map.mpr ⟨o, ho, rfl⟩) rfl
      rw [this]
      cases st <;> cases brkB us told ((c : Int), o.1) <;> rfl
  refine post_bind (P := fun offs => offs = offsOf us told plans c (trueB (brkB us told) u (c : Int) st)) ?_ ?_
  · rw [← hclaim]
    refine forM_post (fun pre offs => offs = offsOf us told plans c (pre.filter P)) rfl ?_
    rintro pre o post offs ex rfl
    have hpl : pre.length ≤ 24 := by
      have := congrArg List.length ex
      rw [List.length_append, List.length_append] at this
      omega
    have hfl := List.length_filter_le P pre
    rw [lcp_names (by omega), T.ok_bind, atI_n, hat, ofO_some', is_broken_eq hs htl hcl, T.ok_bind]
    have em : memT ((c : Int), o.1) ([] : List (Int × Tx)) = false := rfl
    rw [em, Bool.false_or, List.filter_append, ← hP o]
    by_cases hcl2 : P o = true
    · rw [if_pos hcl2, List.filter_cons_of_pos (l := []) hcl2, List.filter_nil]
      have hcost : (((if brkB us told ((c : Int), o.1) = true then (T.gd (inR ((c : Int) + (1 : Int)) ∧ inR ((List.length us : Nat) : Int)) <|
          (T.forM (rangeT2 ((c : Int) + (1 : Int)) (Int.toNat (((List.length us : Nat) : Int) - ((c : Int) + (1 : Int))))) ((0 : Int)) (fun (i11 : Int) cost13 => (((T.ofO (atI told i11)).bind fun x14 =>
          if x14 = true then ((T.ofO (atI us i11)).bind fun x15 =>
          if (decide (x15.d = (some ((c : Int), o.1)))) = true then ((T.ofO (atI prices i11)).bind fun x16 =>
          (T.ofO x16).bind fun u17 =>
          .ok (cost13 + u17)) else (.ok cost13)) else (.ok cost13)) : T Empty (Int)))).bind fun cost13 =>
          .ok cost13) else (.ok (1 : Int)) : T Empty (Int)))) = .ok (((oaRow us told plans (c : Int) o.1).length : Nat) : Int) := by
        cases hbr : brkB us told ((c : Int), o.1) with
        | false =>
          rw [if_neg (by simp), oaRow_n hbr]
          rfl
        | true =>
          rw [if_pos rfl, T.gd_of ⟨inR_s (by omega) (by omega), inR_s (by omega) (by omega)⟩]
          suffices h : (T.forM (rangeT2 ((c : Int) + (1 : Int)) (Int.toNat (((List.length us : Nat) : Int) - ((c : Int) + (1 : Int))))) ((0 : Int)) (fun (i11 : Int) cost13 => (((T.ofO (atI told i11)).bind fun x14 =>
              if x14 = true then ((T.ofO (atI us i11)).bind fun x15 =>
              if (decide (x15.d = (some ((c : Int), o.1)))) = true then ((T.ofO (atI prices i11)).bind fun x16 =>
              (T.ofO x16).bind fun u17 =>
              .ok (cost13 + u17)) else (.ok cost13)) else (.ok cost13)) : T Empty (Int)))).Post fun r => r = (((oaRow us told plans (c : Int) o.1).length : Nat) : Int) by
            obtain ⟨r, e, rfl⟩ := h
            rw [e, T.ok_bind]
          have hlenr : (oaRow us told plans (c : Int) o.1).length = (((rangeT2 ((c : Int) + 1) (us.length - (c + 1))).filter fun i => decide (told[i.toNat]? = some true) && decide ((us[i.toNat]?).bind (·.d) = some ((c : Int), o.1))).map fun i => (planRow plans i).length).sum := by
            have h1 : oaRow us told plans (c : Int) o.1 = (stN us told (c : Int) o.1).flatMap (planRow plans) := by
              unfold oaRow
              rw [if_pos hbr]
            have h2 : stN us told (c : Int) o.1 = (rangeT2 ((c : Int) + 1) (us.length - (c + 1))).filter fun i => decide (told[i.toNat]? = some true) && decide ((us[i.toNat]?).bind (·.d) = some ((c : Int), o.1)) := by
              unfold stN namersOf
              rw [List.filter_filter]
              have h3 := rangeT_add (c + 1) (us.length - (c + 1))
              rw [show c + 1 + (us.length - (c + 1)) = us.length by omega] at h3
              rw [h3, List.filter_append]
              have h4 : ((rangeT (c + 1)).filter fun i => decide (told[i.toNat]? = some true) && decide ((us[i.toNat]?).bind (·.d) = some ((c : Int), o.1))) = [] := List.filter_eq_nil_iff.mpr fun i hi z => by
                rw [mem_rangeT] at hi
                rw [Bool.and_eq_true, decide_eq_true_eq, decide_eq_true_eq] at z
                obtain ⟨w, hw, hd⟩ := Option.bind_eq_some_iff.mp z.2
                have := sib_lt hs hw hd
                omega
              rw [h4, List.nil_append]
              rfl
            rw [h1, List.length_flatMap, h2]
          rw [hlenr]
          have := range2_post (ε := Empty) (lo := c + 1) (n := us.length - (c + 1)) (v := (0 : Int)) (f := fun (i11 : Int) cost13 => (((T.ofO (atI told i11)).bind fun x14 =>
              if x14 = true then ((T.ofO (atI us i11)).bind fun x15 =>
              if (decide (x15.d = (some ((c : Int), o.1)))) = true then ((T.ofO (atI prices i11)).bind fun x16 =>
              (T.ofO x16).bind fun u17 =>
              .ok (cost13 + u17)) else (.ok cost13)) else (.ok cost13)) : T Empty (Int))) (fun i cost => cost = (((((rangeT2 ((c : Int) + 1) (i - (c + 1))).filter fun i => decide (told[i.toNat]? = some true) && decide ((us[i.toNat]?).bind (·.d) = some ((c : Int), o.1))).map fun i => (planRow plans i).length).sum : Nat) : Int)) (by rw [Nat.sub_self]; rfl) ?_
          · rw [show (((List.length us : Nat) : Int) - ((c : Int) + 1)).toNat = us.length - (c + 1) by omega]
            rw [show ((c + 1 : Nat) : Int) = (c : Int) + 1 by omega] at this
            rw [show c + 1 + (us.length - (c + 1)) = us.length by omega] at this
            exact this
          · rintro i cost hi1 hi2 rfl
            have hil : i < us.length := by omega
            have hui : us[i]? = some us[i] := List.getElem?_eq_getElem hil
            have hti : told[i]? = some (told[i]'(by omega)) := List.getElem?_eq_getElem _
            generalize told[i]'(by omega) = ti at hti
            generalize us[i] = w at hui
            rw [show i + 1 - (c + 1) = (i - (c + 1)) + 1 by omega, rangeT2_succ, List.filter_append, List.map_append, List.sum_append]
            have ei : (c : Int) + 1 + ((i - (c + 1) : Nat) : Int) = (i : Int) := by omega
            rw [ei, atI_n, hti, ofO_some', atI_n, hui]
            cases ti with
            | false =>
              simp only [Bool.false_eq_true, if_false]
              rw [List.filter_cons_of_neg (by rw [Int.toNat_natCast, hti]; simp)]
              exact post_ok (by simp)
            | true =>
              simp only [if_true, ofO_some']
              by_cases hd : w.d = some ((c : Int), o.1)
              · rw [if_pos (by simpa using hd), List.filter_cons_of_pos (by rw [Int.toNat_natCast, hti, hui]; simp [hd])]
                obtain ⟨q1, q2⟩ := plan_at hs hp hui hd hti
                obtain ⟨r, r1, r2⟩ := hpr i w (by omega) hui
                rw [q1] at r1
                cases r1
                rw [atI_n, r2, ofO_some']
                refine post_ofO (a := (((planRow plans (i : Int)).length : Nat) : Int)) rfl (post_ok ?_)
                simp
              · rw [if_neg (by simpa using hd), List.filter_cons_of_neg (by rw [Int.toNat_natCast, hui]; simp [hd])]
                exact post_ok (by simp)
      rw [hcost, T.ok_bind]
      refine post_gd (szl _ (by unfold offsOf; rw [List.length_map]; omega)) (post_ok ?_)
      unfold offsOf
      rw [List.map_append]
      rfl
    · rw [if_neg hcl2, List.filter_cons_of_neg (l := []) hcl2, List.filter_nil, List.append_nil]
      exact post_ok rfl
  · rintro offs rfl
    have hm := law_margin2_eq hs htl hu ([] : List (Int × Tx))
    have e3 : (margB u c fun k => memT k ([] : List (Int × Tx)) || brkB us told k) = margB u c (brkB us told) := margB_congr fun n => rfl
    rw [hm, T.ok_bind, e3, atI_n, hat, ofO_some']
    have hcg : ∀ x ∈ offsOf us told plans c (trueB (brkB us told) u (c : Int) st), 0 ≤ x.1 ∧ 1 ≤ x.2 := fun x hx => by
      obtain ⟨o, ho, rfl⟩ := List.mem_map.mp hx
      have := (so.wt o ((trueB_sub _ _ _ _).subset ho)).1
      dsimp only
      omega
    cases st with
    | true =>
      rw [if_pos rfl] at hg1 hg2 ⊢
      rw [if_pos rfl]
      obtain ⟨⟨r, os⟩, e, h1, h2⟩ := least_spec (xs := offsOf us told plans c (trueB (brkB us told) u (c : Int) true)) (g := (margB u c (brkB us told) + 1).toNat) (by omega) (by omega) (fun x hx => (hcg x hx).1) fun x hx => (hcg x hx).2
      rw [show (((margB u c (brkB us told) + 1).toNat : Nat) : Int) = margB u c (brkB us told) + 1 by omega] at e h2
      rw [e, T.ok_bind]
      exact post_ok h2
    | false =>
      rw [if_neg (by simp)] at hg1 hg2 ⊢
      rw [if_neg (by simp)]
      obtain ⟨⟨r, os⟩, e, h1, h2⟩ := least_spec (xs := offsOf us told plans c (trueB (brkB us told) u (c : Int) false)) (g := (0 - margB u c (brkB us told)).toNat) (by omega) (by omega) (fun x hx => (hcg x hx).1) fun x hx => (hcg x hx).2
      rw [show (((0 - margB u c (brkB us told)).toNat : Nat) : Int) = 0 - margB u c (brkB us told) by omega] at e h2
      rw [e, T.ok_bind]
      exact post_ok h2
end
theorem main_k19 (ns : List Int) (hn : ns.length ≤ 63) : t_main_k19 ns = .ok true := by
  suffices h : (t_main_k19 ns).Post fun b => b = true by
    obtain ⟨b, e, rfl⟩ := h
    exact e
  unfold t_main_k19
  obtain ⟨s0, e0⟩ := src_spec hn
  rw [e0, T.ok_bind]
  obtain ⟨r, s1, e1, r0, r1⟩ := next_spec s0 (n := 12) (by omega)
  rw [e1, T.ok_bind]
  dsimp only
  refine post_bind (suits_spec s1 (by omega) (by omega) (by omega) (by omega)) ?_
  rintro ⟨us0, s4⟩ ⟨hs0, hl0⟩
  dsimp only at hs0 hl0 ⊢
  refine post_bind (law_light_spec hs0) ?_
  rintro us ⟨hs, hul⟩
  have hlen := hs.len
  obtain ⟨told, et, ht0⟩ := law_settle_spec hs []
  have ht : Settles us no0 told := ⟨ht0.len, fun c u hu => by rw [ht0.at_ c u hu]; rfl⟩
  have htl := ht.len
  rw [et, T.ok_bind]
  refine post_bind (law_oaths2_spec hs) ?_
  rintro ⟨ol, us2⟩ ⟨ho, e2⟩
  dsimp only at ho e2 ⊢
  have e2 := e2.symm
  subst e2
  refine post_ofO (repT_one none us.length (by omega)) (post_gd (inR_s (by omega) (by omega)) ?_)
  rw [Int.toNat_natCast]
  refine post_bindL (P := fun _ => True) (post_imp (revL_post (fun i (prices : List (Option Int)) => prices.length = us.length ∧ ∃ plans : List (Option (List Oa)), plans.length = us.length ∧ ∀ (j : Nat) (w : Suit), i ≤ j → us[j]? = some w → ∃ r, plans[j]? = some r ∧ PlanOk us told j w r ∧ prices[j]? = some (r.map fun row => (row.length : Int))) ?_ ?_) fun z ⟨v, h, _⟩ => ⟨v, h, trivial⟩) fun _ _ => post_ok rfl
  · refine ⟨List.length_replicate, List.replicate us.length none, List.length_replicate, fun j w hj hw => ?_⟩
    have := (List.getElem?_eq_some_iff.mp hw).1
    omega
  · rintro i prices hi ⟨h1, plans, h2, h3⟩
    have hu : us[i]? = some us[i] := List.getElem?_eq_getElem hi
    have hp : LaterOk us told i plans := ⟨h2, fun j w hj hw => by
      obtain ⟨r, a, b, _⟩ := h3 j w (by omega) hw
      exact ⟨r, a, b⟩⟩
    obtain ⟨r, er, hr⟩ := law_price_spec hs ht hu hp (prices := prices) fun j w hj hw => by
      obtain ⟨r, a, b, c⟩ := h3 j w (by omega) hw
      exact ⟨r, a, c⟩
    obtain ⟨q, eq, hq, hsrt⟩ := fewest_spec hs ht hu
    have hrq := price_plan hs ht hu hp hr hq
    subst hrq
    rw [er, T.ok_bind, setT_nat (by omega), ofO_some', eq, T.ok_bind, atI_n, List.getElem?_set_self (by omega), ofO_some']
    have fin : (T.ok (.nx (prices.set i (q.map fun row => (row.length : Int)))) : T Empty (T.Lp (List (Option Int)) Bool)).Post fun z => ∃ v', z = .nx v' ∧ (v'.length = us.length ∧ ∃ plans : List (Option (List Oa)), plans.length = us.length ∧ ∀ (j : Nat) (w : Suit), i ≤ j → us[j]? = some w → ∃ r, plans[j]? = some r ∧ PlanOk us told j w r ∧ v'[j]? = some (r.map fun row => (row.length : Int))) := by
      refine post_ok ⟨_, rfl, by rw [List.length_set]; exact h1, plans.set i q, by rw [List.length_set]; exact h2, fun j w hj hw => ?_⟩
      by_cases e : j = i
      · subst e
        rw [hu] at hw
        cases hw
        exact ⟨q, by rw [List.getElem?_set_self (by omega)], hq, by rw [List.getElem?_set_self (by omega)]⟩
      · rw [List.getElem?_set_ne (by omega), List.getElem?_set_ne (by omega)]
        exact h3 j w (by omega) hw
    cases q with
    | none => exact fin
    | some row =>
      obtain ⟨p1, p2, p3, p4, p5⟩ := hq
      simp only [Option.map_some, Option.isNone_some, Bool.false_eq_true, if_false]
      rw [pairs_fit_eq hs ho p1 (fun p hp => (p2 p hp).2) (hsrt row rfl), T.ok_bind]
      simp only [Bool.not_true, Bool.false_eq_true, if_false, ofO_some', decide_true]
      obtain ⟨t, ets, hb⟩ := law_settle_spec hs row
      have hne := p3 t hb
      have hti : t[i]? = some (t[i]'(by rw [hb.len]; exact hi)) := List.getElem?_eq_getElem _
      have hoi : told[i]? = some (told[i]'(by omega)) := List.getElem?_eq_getElem _
      rw [ets, T.ok_bind, atI_n, hti, ofO_some', atI_n, hoi, ofO_some', if_neg]
      · exact fin
      · intro z
        rw [decide_eq_true_eq] at z
        exact hne (by rw [hti, hoi, z])
end Ty
namespace Lw
open VS Ty
theorem true_k19 (ns : List Int) (hn : ns.length ≤ 63) : ∃ L, m_main_k19 [some (.scr ns)] = .ok (.d (.bool true)) L := law_end (Ty.r_main_k19 ns) rfl (Ty.main_k19 ns hn)
end Lw

namespace Tx
open PySem PySem.Spec PyProof.Rows L2 VS
def topS (i : Nat) : Stmt := PySem.Challenge.pw_forsworn_k19_turned_by_sums_of_costs.main.body.getD i (.Pass ⟨0, 0, 0, 0⟩)
abbrev s_total : Stmt := topS 1
abbrev N_total : List Str := ["side", "name", "weight"]
theorem sc_total : FnScope N_total ["side"] (defScope s_total) := ⟨rfl, rfl, rfl, by decide +kernel, rfl, by decide +kernel, by decide +kernel⟩
abbrev s_better : Stmt := topS 2
abbrev N_better : List Str := ["table", "cost", "gain"]
theorem sc_better : FnScope N_better ["table", "cost", "gain"] (defScope s_better) := ⟨rfl, rfl, rfl, by decide +kernel, rfl, by decide +kernel, by decide +kernel⟩
abbrev s_cheapest : Stmt := topS 3
abbrev N_cheapest : List Str := ["offers", "goal", "table", "place", "cost", "gain", "grown", "paid", "gained", "places"]
theorem sc_cheapest : FnScope N_cheapest ["offers", "goal"] (defScope s_cheapest) := ⟨rfl, rfl, rfl, by decide +kernel, rfl, by decide +kernel, by decide +kernel⟩
abbrev s_there : Stmt := topS 8
abbrev N_there : List Str := ["suits", "case"]
theorem sc_there : FnScope N_there ["suits", "case"] (defScope s_there) := ⟨rfl, rfl, rfl, by decide +kernel, rfl, by decide +kernel, by decide +kernel⟩
abbrev s_kept_weight : Stmt := topS 9
abbrev N_kept_weight : List Str := ["side", "case", "marks", "name", "weight"]
theorem sc_kept_weight : FnScope N_kept_weight ["side", "case", "marks"] (defScope s_kept_weight) := ⟨rfl, rfl, rfl, by decide +kernel, rfl, by decide +kernel, by decide +kernel⟩
abbrev s_margin_by : Stmt := topS 10
abbrev N_margin_by : List Str := ["suit", "case", "marks", "ones", "others", "need", "named"]
theorem sc_margin_by : FnScope N_margin_by ["suit", "case", "marks"] (defScope s_margin_by) := ⟨rfl, rfl, rfl, by decide +kernel, rfl, by decide +kernel, by decide +kernel⟩
abbrev s_settle : Stmt := topS 11
abbrev N_settle : List Str := ["suits", "marks", "told", "case", "suit"]
theorem sc_settle : FnScope N_settle ["suits", "marks"] (defScope s_settle) := ⟨rfl, rfl, rfl, by decide +kernel, rfl, by decide +kernel, by decide +kernel⟩
abbrev s_naming : Stmt := topS 12
abbrev N_naming : List Str := ["suits", "case", "name", "later", "suit"]
theorem sc_naming : FnScope N_naming ["suits", "case", "name"] (defScope s_naming) := ⟨rfl, rfl, rfl, by decide +kernel, rfl, by decide +kernel, by decide +kernel⟩
abbrev s_claims : Stmt := topS 14
abbrev N_claims : List Str := ["suits", "case", "stands", "marks", "ones", "others", "need", "named", "row", "oath"]
theorem sc_claims : FnScope N_claims ["suits", "case", "stands", "marks"] (defScope s_claims) := ⟨rfl, rfl, rfl, by decide +kernel, rfl, by decide +kernel, by decide +kernel⟩
abbrev s_oath_plan : Stmt := topS 16
abbrev N_oath_plan : List Str := ["suits", "case", "name", "marks", "told", "plans", "row", "later"]
theorem sc_oath_plan : FnScope N_oath_plan ["suits", "case", "name", "marks", "told", "plans"] (defScope s_oath_plan) := ⟨rfl, rfl, rfl, by decide +kernel, rfl, by decide +kernel, by decide +kernel⟩
abbrev s_case_plan : Stmt := topS 17
abbrev N_case_plan : List Str := ["suits", "case", "marks", "told", "plans", "rows", "offers", "name", "weight", "goal", "places", "row", "place"]
theorem sc_case_plan : FnScope N_case_plan ["suits", "case", "marks", "told", "plans"] (defScope s_case_plan) := ⟨rfl, rfl, rfl, by decide +kernel, rfl, by decide +kernel, by decide +kernel⟩
abbrev s_fewest : Stmt := topS 18
abbrev N_fewest : List Str := ["suits", "case", "marks", "told", "plans", "number"]
theorem sc_fewest : FnScope N_fewest ["suits", "case"] (defScope s_fewest) := ⟨rfl, rfl, rfl, by decide +kernel, rfl, by decide +kernel, by decide +kernel⟩
abbrev s_law_src : Stmt := topS 20
abbrev N_law_src : List Str := ["_law_script"]
theorem sc_law_src : FnScope N_law_src ["_law_script"] (defScope s_law_src) := ⟨rfl, rfl, rfl, by decide +kernel, rfl, by decide +kernel, by decide +kernel⟩
abbrev s_law_next : Stmt := topS 21
abbrev N_law_next : List Str := ["_law_src_here", "_law_base", "_law_cell", "_law_digit"]
theorem sc_law_next : FnScope N_law_next ["_law_src_here", "_law_base"] (defScope s_law_next) := ⟨rfl, rfl, rfl, by decide +kernel, rfl, by decide +kernel, by decide +kernel⟩
abbrev s_law_unlike : Stmt := topS 22
abbrev N_law_unlike : List Str := ["_law_names_here", "_law_name", "_law_letters", "_law_stem", "_law_tries"]
theorem sc_law_unlike : FnScope N_law_unlike ["_law_names_here", "_law_name"] (defScope s_law_unlike) := ⟨rfl, rfl, rfl, by decide +kernel, rfl, by decide +kernel, by decide +kernel⟩
abbrev s_law_word : Stmt := topS 23
abbrev N_law_word : List Str := ["_law_src_here", "_law_many", "_law_letters", "_law_k"]
theorem sc_law_word : FnScope N_law_word ["_law_src_here", "_law_many"] (defScope s_law_word) := ⟨rfl, rfl, rfl, by decide +kernel, rfl, by decide +kernel, by decide +kernel⟩
abbrev s_law_names : Stmt := topS 24
abbrev N_law_names : List Str := ["_law_src_here", "_law_many", "_law_style", "_law_stem", "_law_at", "_law_names_here", "_law_k", "_law_name"]
theorem sc_law_names : FnScope N_law_names ["_law_src_here", "_law_many"] (defScope s_law_names) := ⟨rfl, rfl, rfl, by decide +kernel, rfl, by decide +kernel, by decide +kernel⟩
abbrev s_law_weight : Stmt := topS 25
abbrev N_law_weight : List Str := ["_law_src_here", "_law_kind"]
theorem sc_law_weight : FnScope N_law_weight ["_law_src_here"] (defScope s_law_weight) := ⟨rfl, rfl, rfl, by decide +kernel, rfl, by decide +kernel, by decide +kernel⟩
abbrev s_law_total : Stmt := topS 26
abbrev N_law_total : List Str := ["_law_side_here", "_law_found", "_law_name", "_law_weight_here"]
theorem sc_law_total : FnScope N_law_total ["_law_side_here"] (defScope s_law_total) := ⟨rfl, rfl, rfl, by decide +kernel, rfl, by decide +kernel, by decide +kernel⟩
abbrev s_law_side : Stmt := topS 27
abbrev N_law_side : List Str := ["_law_src_here", "_law_names_here", "_law_many", "_law_left", "_law_side_here", "_law_k"]
theorem sc_law_side : FnScope N_law_side ["_law_src_here", "_law_names_here", "_law_many"] (defScope s_law_side) := ⟨rfl, rfl, rfl, by decide +kernel, rfl, by decide +kernel, by decide +kernel⟩
abbrev s_law_need : Stmt := topS 28
abbrev N_law_need : List Str := ["_law_src_here", "_law_ones", "_law_others", "_law_close"]
theorem sc_law_need : FnScope N_law_need ["_law_src_here", "_law_ones", "_law_others"] (defScope s_law_need) := ⟨rfl, rfl, rfl, by decide +kernel, rfl, by decide +kernel, by decide +kernel⟩
abbrev s_law_named : Stmt := topS 29
abbrev N_law_named : List Str := ["_law_src_here", "_law_suits_here", "_law_number", "_law_case", "_law_swearers", "_law_name", "_law_weight_here"]
theorem sc_law_named : FnScope N_law_named ["_law_src_here", "_law_suits_here"] (defScope s_law_named) := ⟨rfl, rfl, rfl, by decide +kernel, rfl, by decide +kernel, by decide +kernel⟩
abbrev s_law_suits : Stmt := topS 30
abbrev N_law_suits : List Str := ["_law_src_here", "_law_many", "_law_most", "_law_pool", "_law_suits_here", "_law_number", "_law_side_here", "_law_cut", "_law_named_here", "_law_need_here"]
theorem sc_law_suits : FnScope N_law_suits ["_law_src_here", "_law_many", "_law_most"] (defScope s_law_suits) := ⟨rfl, rfl, rfl, by decide +kernel, rfl, by decide +kernel, by decide +kernel⟩
abbrev s_law_is_broken : Stmt := topS 31
abbrev N_law_is_broken : List Str := ["_law_suits_here", "_law_told", "_law_case", "_law_name", "_law_more", "_law_later"]
theorem sc_law_is_broken : FnScope N_law_is_broken ["_law_suits_here", "_law_told", "_law_case", "_law_name", "_law_more"] (defScope s_law_is_broken) := ⟨rfl, rfl, rfl, by decide +kernel, rfl, by decide +kernel, by decide +kernel⟩
abbrev s_law_margin : Stmt := topS 32
abbrev N_law_margin : List Str := ["_law_suits_here", "_law_told", "_law_case", "_law_more", "_law_ones", "_law_others", "_law_need_here", "_law_named_here", "_law_found", "_law_name", "_law_weight_here"]
theorem sc_law_margin : FnScope N_law_margin ["_law_suits_here", "_law_told", "_law_case", "_law_more"] (defScope s_law_margin) := ⟨rfl, rfl, rfl, by decide +kernel, rfl, by decide +kernel, by decide +kernel⟩
abbrev s_law_settle : Stmt := topS 33
abbrev N_law_settle : List Str := ["_law_suits_here", "_law_more", "_law_told", "_law_case"]
theorem sc_law_settle : FnScope N_law_settle ["_law_suits_here", "_law_more"] (defScope s_law_settle) := ⟨rfl, rfl, rfl, by decide +kernel, rfl, by decide +kernel, by decide +kernel⟩
abbrev s_law_oaths : Stmt := topS 34
abbrev N_law_oaths : List Str := ["_law_suits_here", "_law_found", "_law_case", "_law_ones", "_law_others", "_law_need_here", "_law_named_here", "_law_name", "_law_weight_here"]
theorem sc_law_oaths : FnScope N_law_oaths ["_law_suits_here"] (defScope s_law_oaths) := ⟨rfl, rfl, rfl, by decide +kernel, rfl, by decide +kernel, by decide +kernel⟩
abbrev s_law_pairs_fit : Stmt := topS 35
abbrev N_law_pairs_fit : List Str := ["_law_found", "_law_oaths_here", "_law_pair"]
theorem sc_law_pairs_fit : FnScope N_law_pairs_fit ["_law_found", "_law_oaths_here"] (defScope s_law_pairs_fit) := ⟨rfl, rfl, rfl, by decide +kernel, rfl, by decide +kernel, by decide +kernel⟩
abbrev s_law_light : Stmt := topS 36
abbrev N_law_light : List Str := ["_law_suits_here", "_law_found", "_law_ones", "_law_others", "_law_need_here", "_law_named_here", "_law_less", "_law_name", "_law_weight_here"]
theorem sc_law_light : FnScope N_law_light ["_law_suits_here"] (defScope s_law_light) := ⟨rfl, rfl, rfl, by decide +kernel, rfl, by decide +kernel, by decide +kernel⟩
abbrev s_law_least : Stmt := topS 37
abbrev N_law_least : List Str := ["_law_offers", "_law_goal", "_law_table", "_law_cost", "_law_gain", "_law_reached", "_law_before"]
theorem sc_law_least : FnScope N_law_least ["_law_offers", "_law_goal"] (defScope s_law_least) := ⟨rfl, rfl, rfl, by decide +kernel, rfl, by decide +kernel, by decide +kernel⟩
abbrev s_law_price : Stmt := topS 38
abbrev N_law_price : List Str := ["_law_suits_here", "_law_told", "_law_prices", "_law_case", "_law_ones", "_law_others", "_law_need_here", "_law_named_here", "_law_offers", "_law_name", "_law_weight_here", "_law_helps", "_law_marked", "_law_cost", "_law_later", "_law_goal", "_law_one", "_law_other"]
theorem sc_law_price : FnScope N_law_price ["_law_suits_here", "_law_told", "_law_prices", "_law_case"] (defScope s_law_price) := ⟨rfl, rfl, rfl, by decide +kernel, rfl, by decide +kernel, by decide +kernel⟩
abbrev s_law : Stmt := topS 39
abbrev N_law : List Str := ["_law_script", "_law_src_here", "_law_suits_here", "_law_told", "_law_oaths_here", "_law_prices", "_law_case", "_law_found"]
theorem sc_law : FnScope N_law ["_law_script"] (defScope s_law) := ⟨rfl, rfl, rfl, by decide +kernel, rfl, by decide +kernel, by decide +kernel⟩
end Tx
namespace Tx
open PySem PySem.Spec PyProof.Rows L2 VS
section
variable {P : Program} {w : World} {K : PySem.W.Frag} {mg : Str → Option Value} {base : Heap} {ca : Nat → Addr}
theorem ok_total {f : Addr} {fd : FuncData} (F : Fun K "total" "total" s_total f fd) (z_sum : mg "sum" = none) : FnOk P w K mg base (L2.CX P w) 1 f fd ["side"] (VSp K ca [false] Lw.m_total) := by
  refine vf_of (k := 0) F sc_total rfl (by decide) fun cdv A outer s H E vs hr B => ?_
  have tk : Takes (ctOf P w K mg base ca N_total "total" (defScope s_total) f cdv A outer s H E [false] vs B).X _ := takes_of rfl rfl rfl rfl
  exact (jb_one (js_ret (je_d (jd_sum rfl (by rfl) z_sum (jv_d (jd_fz (je_lc (own := [("name", 1), ("weight", 2)]) rfl sc_total.nd (ji_any (jd_var 0 (pv 0))) (blkOk_by (own := [("name", 1), ("weight", 2)]) (N := N_total) (sc := defScope s_total) (by decide +kernel)) (fun _ => (jg_tup rfl (jgs_cons (jg_name 1 (by intro h; cases h) (pg_name (i := 1) sc_total.nd rfl (by first | exact Or.inl rfl | exact Or.inr rfl))) (jgs_cons (jg_name 2 (by intro h; cases h) (pg_name (i := 2) sc_total.nd rfl (by first | exact Or.inl rfl | exact Or.inr rfl))) jgs_nil)))) (by decide) (by intro k hk; simp only [List.map_cons, List.map_nil, List.mem_cons, List.not_mem_nil, or_false] at hk; rcases hk with rfl | rfl <;> (intro h; cases h)) (fun _ => jts_nil) (fun _ => (jd_var 2 (pv 2))))))))))
theorem ok_better {f : Addr} {fd : FuncData} (F : Fun K "better" "better" s_better f fd)  : FnOk P w K mg base (L2.CX P w) 1 f fd ["table", "cost", "gain"] (VSp K ca [true, false, false] Lw.m_better) := by
  refine vf_of (k := 0) F sc_better rfl (by decide) fun cdv A outer s H E vs hr B => ?_
  have tk : Takes (ctOf P w K mg base ca N_better "better" (defScope s_better) f cdv A outer s H E [true, false, false] vs B).X _ := takes_of rfl rfl rfl rfl
  exact (jb_cons (js_if (jt_dnin 0 hr (pv 0) (jd_var 1 (pv 1))) (jb_one (js_ret (je_d jd_bl))) jb_nil)
    (jb_one (js_ret (je_d (jd_cmpN cv_lt (jv_d (jd_ix (jd_dget 0 hr (pv 0) (jd_var 1 (pv 1))) jd_int)) (jv_var 2 (pv 2)) (nomark _))))))
theorem ok_cheapest {f : Addr} {fd : FuncData} (F : Fun K "cheapest" "cheapest" s_cheapest f fd) (D_better : Dx P w K mg base ca "better" 1 ["table", "cost", "gain"] [true, false, false] Lw.m_better) (z_enumerate : mg "enumerate" = none) (z_dict : mg "dict" = none) (z_sorted : mg "sorted" = none) : FnOk P w K mg base (L2.CX P w) 2 f fd ["offers", "goal"] (VSp K ca [false, false] Lw.m_cheapest) := by
  refine vf_of (k := 1) F sc_cheapest rfl (by decide) fun cdv A outer s H E vs hr B => ?_
  have tk : Takes (ctOf P w K mg base ca N_cheapest "cheapest" (defScope s_cheapest) f cdv A outer s H E [false, false] vs B).X _ := takes_of rfl rfl rfl rfl
  exact (jb_cons (js_if (jt_cmpN cv_lt (jv_var 1 (pv 1)) (jv_d jd_int) (nomark _)) (jb_one (js_ret (je_d (jd_fz (je_lst ja_nil))))) jb_nil)
    (jb_cons (js_set 2 sc_cheapest.nd rfl (by first | exact Or.inl rfl | exact Or.inr rfl) (by intro h; cases h) (je_dlit jd_int (jd_tup (ja_cons jd_int (ja_cons (jd_fz (je_lst ja_nil)) ja_nil)))))
    (jb_cons (js_for PassesOwn.leaving rfl (ji_enum (by rfl) z_enumerate (ja_cons (jd_var 0 (pv 0)) ja_nil)) (jg_tup rfl (jgs_cons (jg_name 3 (by intro h; cases h) (pg_name (i := 3) sc_cheapest.nd rfl (by first | exact Or.inl rfl | exact Or.inr rfl))) (jgs_cons (jg_tup rfl (jgs_cons (jg_name 4 (by intro h; cases h) (pg_name (i := 4) sc_cheapest.nd rfl (by first | exact Or.inl rfl | exact Or.inr rfl))) (jgs_cons (jg_name 5 (by intro h; cases h) (pg_name (i := 5) sc_cheapest.nd rfl (by first | exact Or.inl rfl | exact Or.inr rfl))) jgs_nil))) jgs_nil))) (jb_cons (js_set 6 sc_cheapest.nd rfl (by first | exact Or.inl rfl | exact Or.inr rfl) (by intro h; cases h) (je_dcopy (by rfl) z_dict (jx_var 2 (pv 2))))
    (jb_cons (js_for PassesOwn.leaving rfl (ji_items (je_move 2 (pv 2))) (jg_tup rfl (jgs_cons (jg_name 7 (by intro h; cases h) (pg_name (i := 7) sc_cheapest.nd rfl (by first | exact Or.inl rfl | exact Or.inr rfl))) (jgs_cons (jg_tup rfl (jgs_cons (jg_name 8 (by intro h; cases h) (pg_name (i := 8) sc_cheapest.nd rfl (by first | exact Or.inl rfl | exact Or.inr rfl))) (jgs_cons (jg_name 9 (by intro h; cases h) (pg_name (i := 9) sc_cheapest.nd rfl (by first | exact Or.inl rfl | exact Or.inr rfl))) jgs_nil))) jgs_nil))) (jb_cons (js_if (jt_cmpN cv_ge (jv_var 8 (pv 8)) (jv_var 1 (pv 1)) (nomark _)) (jb_one js_continue) jb_nil)
    (jb_one (js_if (jt_val (jd_fz (je_dx D_better hr (by decide) tk (by rfl) (jar_r 6 (pv 6) (jar_d (jd_fz (je_add (jd_var 7 (pv 7)) (jd_var 4 (pv 4)))) (jar_d (jd_fz (je_add (jd_var 8 (pv 8)) (jd_var 5 (pv 5)))) jar_nil)))))) (jb_one (js_dput 6 hr (pv 6) (jd_fz (je_add (jd_var 7 (pv 7)) (jd_var 4 (pv 4)))) (jd_tup (ja_cons (jd_fz (je_add (jd_var 8 (pv 8)) (jd_var 5 (pv 5)))) (ja_cons (jd_fz (je_add (jd_var 9 (pv 9)) (jd_fz (je_lst (ja_cons (jd_var 3 (pv 3)) ja_nil))))) ja_nil))))) jb_nil))))
    (jb_one (js_set 2 sc_cheapest.nd rfl (by first | exact Or.inl rfl | exact Or.inr rfl) (by intro h; cases h) (je_move 6 (pv 6)))))))
    (jb_cons (js_for PassesOwn.leaving rfl (ji_any (jd_fz (je_sortedX rfl hr (by rfl) z_sorted (jx_var 2 (pv 2))))) (jg_name 7 (by intro h; cases h) (pg_name (i := 7) sc_cheapest.nd rfl (by first | exact Or.inl rfl | exact Or.inr rfl))) (jb_one (js_if (jt_cmpN cv_ge (jv_d (jd_ix (jd_dget 2 hr (pv 2) (jd_var 7 (pv 7))) jd_int)) (jv_var 1 (pv 1)) (nomark _)) (jb_one (js_ret (je_d (jd_ix (jd_dget 2 hr (pv 2) (jd_var 7 (pv 7))) jd_int)))) jb_nil)))
    (jb_one (js_ret (je_d jd_non)))))))
theorem ok_there {f : Addr} {fd : FuncData} (F : Fun K "there" "there" s_there f fd) (z_len : mg "len" = none) : FnOk P w K mg base (L2.CX P w) 1 f fd ["suits", "case"] (VSp K ca [true, false] Lw.m_there) := by
  refine vf_of (k := 0) F sc_there rfl (by decide) fun cdv A outer s H E vs hr B => ?_
  have tk : Takes (ctOf P w K mg base ca N_there "there" (defScope s_there) f cdv A outer s H E [true, false] vs B).X _ := takes_of rfl rfl rfl rfl
  exact (jb_cons (js_if (jt_w (jw_or (jt_cmpN cv_lt (jv_var 1 (pv 1)) (jv_d jd_int) (nomark _)) (jw_or1 (jt_cmpN cv_ge (jv_var 1 (pv 1)) (jv_d (jd_len (by rfl) z_len (jv_var 0 (pv 0)))) (nomark _))))) (jb_one js_neverR) jb_nil)
    (jb_one (js_ret (je_d (jd_ixP 0 (pv 0) (jd_var 1 (pv 1)))))))
theorem ok_kept_weight {f : Addr} {fd : FuncData} (F : Fun K "kept_weight" "kept_weight" s_kept_weight f fd) (D_total : Dx P w K mg base ca "total" 1 ["side"] [false] Lw.m_total) : FnOk P w K mg base (L2.CX P w) 2 f fd ["side", "case", "marks"] (VSp K ca [false, false, true] Lw.m_kept_weight) := by
  refine vf_of (k := 1) F sc_kept_weight rfl (by decide) fun cdv A outer s H E vs hr B => ?_
  have tk : Takes (ctOf P w K mg base ca N_kept_weight "kept_weight" (defScope s_kept_weight) f cdv A outer s H E [false, false, true] vs B).X _ := takes_of rfl rfl rfl rfl
  exact (jb_one (js_ret (je_dx D_total hr (by decide) tk (by rfl) (jar_d (jd_fz (je_lc (own := [("name", 3), ("weight", 4)]) rfl sc_kept_weight.nd (ji_any (jd_var 0 (pv 0))) (blkOk_by (own := [("name", 3), ("weight", 4)]) (N := N_kept_weight) (sc := defScope s_kept_weight) (by decide +kernel)) (fun _ => (jg_tup rfl (jgs_cons (jg_name 3 (by intro h; cases h) (pg_name (i := 3) sc_kept_weight.nd rfl (by first | exact Or.inl rfl | exact Or.inr rfl))) (jgs_cons (jg_name 4 (by intro h; cases h) (pg_name (i := 4) sc_kept_weight.nd rfl (by first | exact Or.inl rfl | exact Or.inr rfl))) jgs_nil)))) (by decide) (by intro k hk; simp only [List.map_cons, List.map_nil, List.mem_cons, List.not_mem_nil, or_false] at hk; rcases hk with rfl | rfl <;> (intro h; cases h)) (fun _ => (jts_one (jt_dnin 2 hr (pv 2) (jd_tup (ja_cons (jd_var 1 (pv 1)) (ja_cons (jd_var 3 (pv 3)) ja_nil)))))) (fun _ => (jd_tup (ja_cons (jd_var 3 (pv 3)) (ja_cons (jd_var 4 (pv 4)) ja_nil)))))) jar_nil))))
theorem ok_margin_by {f : Addr} {fd : FuncData} (F : Fun K "margin_by" "margin_by" s_margin_by f fd) (D_kept_weight : Dx P w K mg base ca "kept_weight" 2 ["side", "case", "marks"] [false, false, true] Lw.m_kept_weight) : FnOk P w K mg base (L2.CX P w) 3 f fd ["suit", "case", "marks"] (VSp K ca [false, false, true] Lw.m_margin_by) := by
  refine vf_of (k := 2) F sc_margin_by rfl (by decide) fun cdv A outer s H E vs hr B => ?_
  have tk : Takes (ctOf P w K mg base ca N_margin_by "margin_by" (defScope s_margin_by) f cdv A outer s H E [false, false, true] vs B).X _ := takes_of rfl rfl rfl rfl
  exact (jb_cons (js_asg (jg_tup rfl (jgs_cons (jg_name 3 (by intro h; cases h) (pg_name (i := 3) sc_margin_by.nd rfl (by first | exact Or.inl rfl | exact Or.inr rfl))) (jgs_cons (jg_name 4 (by intro h; cases h) (pg_name (i := 4) sc_margin_by.nd rfl (by first | exact Or.inl rfl | exact Or.inr rfl))) (jgs_cons (jg_name 5 (by intro h; cases h) (pg_name (i := 5) sc_margin_by.nd rfl (by first | exact Or.inl rfl | exact Or.inr rfl))) (jgs_cons (jg_name 6 (by intro h; cases h) (pg_name (i := 6) sc_margin_by.nd rfl (by first | exact Or.inl rfl | exact Or.inr rfl))) jgs_nil))))) (jd_var 0 (pv 0)))
    (jb_one (js_ret (je_d (jd_sub (jd_sub (jd_fz (je_dx D_kept_weight hr (by decide) tk (by rfl) (jar_d (jd_var 3 (pv 3)) (jar_d (jd_var 1 (pv 1)) (jar_r 2 (pv 2) jar_nil))))) (jd_fz (je_dx D_kept_weight hr (by decide) tk (by rfl) (jar_d (jd_var 4 (pv 4)) (jar_d (jd_var 1 (pv 1)) (jar_r 2 (pv 2) jar_nil)))))) (jd_var 5 (pv 5)))))))
theorem ok_settle {f : Addr} {fd : FuncData} (F : Fun K "settle" "settle" s_settle f fd) (D_margin_by : Dx P w K mg base ca "margin_by" 3 ["suit", "case", "marks"] [false, false, true] Lw.m_margin_by) (z_len : mg "len" = none) (z_reversed : mg "reversed" = none) (z_range : mg "range" = none) : FnOk P w K mg base (L2.CX P w) 4 f fd ["suits", "marks"] (VSp K ca [true, true] Lw.m_settle) := by
  refine vf_of (k := 3) F sc_settle rfl (by decide) fun cdv A outer s H E vs hr B => ?_
  have tk : Takes (ctOf P w K mg base ca N_settle "settle" (defScope s_settle) f cdv A outer s H E [true, true] vs B).X _ := takes_of rfl rfl rfl rfl
  exact (jb_cons (js_set 2 sc_settle.nd rfl (by first | exact Or.inl rfl | exact Or.inr rfl) (by intro h; cases h) (je_mul (jd_fz (je_lst (ja_cons jd_bl ja_nil))) (jd_len (by rfl) z_len (jv_var 0 (pv 0)))))
    (jb_cons (js_for PassesOwn.leaving rfl (ji_revrange (by rfl) z_reversed (by rfl) z_range (jd_len (by rfl) z_len (jv_var 0 (pv 0)))) (jg_name 3 (by intro h; cases h) (pg_name (i := 3) sc_settle.nd rfl (by first | exact Or.inl rfl | exact Or.inr rfl))) (jb_cons (js_set 4 sc_settle.nd rfl (by first | exact Or.inl rfl | exact Or.inr rfl) (by intro h; cases h) (je_d (jd_ixP 0 (pv 0) (jd_var 3 (pv 3)))))
    (jb_cons (js_setIx 2 (pv 2) (jd_var 3 (pv 3)) (jd_cmpN cv_ge (jv_d (jd_fz (je_dx D_margin_by hr (by decide) tk (by rfl) (jar_d (jd_var 4 (pv 4)) (jar_d (jd_var 3 (pv 3)) (jar_r 1 (pv 1) jar_nil)))))) (jv_d jd_int) (nomark _)))
    (jb_one (js_if (jt_w (jw_and (jt_val (jd_ixP 2 (pv 2) (jd_var 3 (pv 3)))) (jw_and1 (jt_cmpN cv_isN (jv_d (jd_ixP 4 (pv 4) jd_int)) (jv_d jd_non) (nomark _))))) (jb_one (js_dput 1 hr (pv 1) (jd_ixP 4 (pv 4) jd_int) jd_bl)) jb_nil)))))
    (jb_one (js_ret (je_move 2 (pv 2))))))
theorem ok_naming {f : Addr} {fd : FuncData} (F : Fun K "naming" "naming" s_naming f fd) (z_enumerate : mg "enumerate" = none) : FnOk P w K mg base (L2.CX P w) 1 f fd ["suits", "case", "name"] (VSp K ca [true, false, false] Lw.m_naming) := by
  refine vf_of (k := 0) F sc_naming rfl (by decide) fun cdv A outer s H E vs hr B => ?_
  have tk : Takes (ctOf P w K mg base ca N_naming "naming" (defScope s_naming) f cdv A outer s H E [true, false, false] vs B).X _ := takes_of rfl rfl rfl rfl
  exact (jb_one (js_ret (je_lc (own := [("later", 3), ("suit", 4)]) rfl sc_naming.nd (ji_enum (by rfl) z_enumerate (ja_cons (jd_var 0 (pv 0)) ja_nil)) (blkOk_by (own := [("later", 3), ("suit", 4)]) (N := N_naming) (sc := defScope s_naming) (by decide +kernel)) (fun _ => (jg_tup rfl (jgs_cons (jg_name 3 (by intro h; cases h) (pg_name (i := 3) sc_naming.nd rfl (by first | exact Or.inl rfl | exact Or.inr rfl))) (jgs_cons (jg_name 4 (by intro h; cases h) (pg_name (i := 4) sc_naming.nd rfl (by first | exact Or.inl rfl | exact Or.inr rfl))) jgs_nil)))) (by decide) (by intro k hk; simp only [List.map_cons, List.map_nil, List.mem_cons, List.not_mem_nil, or_false] at hk; rcases hk with rfl | rfl <;> (intro h; cases h)) (fun _ => (jts_one (jt_cmpN (cv_eq hr) (jv_d (jd_ixP 4 (pv 4) jd_int)) (jv_d (jd_tup (ja_cons (jd_var 1 (pv 1)) (ja_cons (jd_var 2 (pv 2)) ja_nil)))) (nomark _)))) (fun _ => (jd_var 3 (pv 3))))))
theorem ok_claims {f : Addr} {fd : FuncData} (F : Fun K "claims" "claims" s_claims f fd)  : FnOk P w K mg base (L2.CX P w) 1 f fd ["suits", "case", "stands", "marks"] (VSp K ca [true, false, false, true] Lw.m_claims) := by
  refine vf_of (k := 0) F sc_claims rfl (by decide) fun cdv A outer s H E vs hr B => ?_
  have tk : Takes (ctOf P w K mg base ca N_claims "claims" (defScope s_claims) f cdv A outer s H E [true, false, false, true] vs B).X _ := takes_of rfl rfl rfl rfl
  exact (jb_cons (js_asg (jg_tup rfl (jgs_cons (jg_name 4 (by intro h; cases h) (pg_name (i := 4) sc_claims.nd rfl (by first | exact Or.inl rfl | exact Or.inr rfl))) (jgs_cons (jg_name 5 (by intro h; cases h) (pg_name (i := 5) sc_claims.nd rfl (by first | exact Or.inl rfl | exact Or.inr rfl))) (jgs_cons (jg_name 6 (by intro h; cases h) (pg_name (i := 6) sc_claims.nd rfl (by first | exact Or.inl rfl | exact Or.inr rfl))) (jgs_cons (jg_name 7 (by intro h; cases h) (pg_name (i := 7) sc_claims.nd rfl (by first | exact Or.inl rfl | exact Or.inr rfl))) jgs_nil))))) (jd_ixP 0 (pv 0) (jd_var 1 (pv 1))))
    (jb_cons (js_setLc (own := [("oath", 9)]) (i := 8) rfl sc_claims.nd rfl rfl (by intro h; cases h) (sw_true rfl rfl rfl (by decide +kernel)) (ji_any (jd_var 4 (pv 4))) (blkOk_by (own := [("oath", 9)]) (N := N_claims) (sc := defScope s_claims) (by decide +kernel)) (fun _ => (jg_name 9 (by intro h; cases h) (pg_name (i := 9) sc_claims.nd rfl (by first | exact Or.inl rfl | exact Or.inr rfl)))) (by decide) (by intro k hk; simp only [List.map_cons, List.map_nil, List.mem_cons, List.not_mem_nil, or_false] at hk; rcases hk with rfl <;> (intro h; cases h)) (fun _ => (jts_one (jt_cmpN (cv_eq hr) (jv_d (jd_dnin 3 hr (pv 3) (jd_tup (ja_cons (jd_var 1 (pv 1)) (ja_cons (jd_ixP 9 (pv 9) jd_int) ja_nil))))) (jv_var 2 (pv 2)) (nomark _)))) (fun _ => (jd_var 9 (pv 9))))
    (jb_one (js_ret (je_add (jd_var 8 (pv 8)) (jd_fz (je_lc (own := [("oath", 9)]) rfl sc_claims.nd (ji_any (jd_var 5 (pv 5))) (blkOk_by (own := [("oath", 9)]) (N := N_claims) (sc := defScope s_claims) (by decide +kernel)) (fun _ => (jg_name 9 (by intro h; cases h) (pg_name (i := 9) sc_claims.nd rfl (by first | exact Or.inl rfl | exact Or.inr rfl)))) (by decide) (by intro k hk; simp only [List.map_cons, List.map_nil, List.mem_cons, List.not_mem_nil, or_false] at hk; rcases hk with rfl <;> (intro h; cases h)) (fun _ => (jts_one (jt_cmpN (cv_eq hr) (jv_d (jd_din 3 hr (pv 3) (jd_tup (ja_cons (jd_var 1 (pv 1)) (ja_cons (jd_ixP 9 (pv 9) jd_int) ja_nil))))) (jv_var 2 (pv 2)) (nomark _)))) (fun _ => (jd_var 9 (pv 9))))))))))
theorem ok_oath_plan {f : Addr} {fd : FuncData} (F : Fun K "oath_plan" "oath_plan" s_oath_plan f fd) (D_naming : Dx P w K mg base ca "naming" 1 ["suits", "case", "name"] [true, false, false] Lw.m_naming) : FnOk P w K mg base (L2.CX P w) 2 f fd ["suits", "case", "name", "marks", "told", "plans"] (VSp K ca [true, false, false, true, true, true] Lw.m_oath_plan) := by
  refine vf_of (k := 1) F sc_oath_plan rfl (by decide) fun cdv A outer s H E vs hr B => ?_
  have tk : Takes (ctOf P w K mg base ca N_oath_plan "oath_plan" (defScope s_oath_plan) f cdv A outer s H E [true, false, false, true, true, true] vs B).X _ := takes_of rfl rfl rfl rfl
  exact (jb_cons (js_if (jt_dnin 3 hr (pv 3) (jd_tup (ja_cons (jd_var 1 (pv 1)) (ja_cons (jd_var 2 (pv 2)) ja_nil)))) (jb_one (js_ret (je_lst (ja_cons (jd_tup (ja_cons (jd_var 1 (pv 1)) (ja_cons (jd_var 2 (pv 2)) ja_nil))) ja_nil)))) jb_nil)
    (jb_cons (js_set 6 sc_oath_plan.nd rfl (by first | exact Or.inl rfl | exact Or.inr rfl) (by intro h; cases h) (je_lst ja_nil))
    (jb_cons (js_for PassesOwn.leaving rfl (ji_any (jd_fz (je_dx D_naming hr (by decide) tk (by rfl) (jar_r 0 (pv 0) (jar_d (jd_var 1 (pv 1)) (jar_d (jd_var 2 (pv 2)) jar_nil)))))) (jg_name 7 (by intro h; cases h) (pg_name (i := 7) sc_oath_plan.nd rfl (by first | exact Or.inl rfl | exact Or.inr rfl))) (jb_one (js_if (jt_val (jd_ixP 4 (pv 4) (jd_var 7 (pv 7)))) (jb_one (js_set 6 sc_oath_plan.nd rfl (by first | exact Or.inl rfl | exact Or.inr rfl) (by intro h; cases h) (je_add (jd_var 6 (pv 6)) (jd_ixP 5 (pv 5) (jd_var 7 (pv 7)))))) jb_nil)))
    (jb_one (js_ret (je_move 6 (pv 6)))))))
theorem ok_case_plan {f : Addr} {fd : FuncData} (F : Fun K "case_plan" "case_plan" s_case_plan f fd) (D_claims : Dx P w K mg base ca "claims" 1 ["suits", "case", "stands", "marks"] [true, false, false, true] Lw.m_claims) (D_oath_plan : Dx P w K mg base ca "oath_plan" 2 ["suits", "case", "name", "marks", "told", "plans"] [true, false, false, true, true, true] Lw.m_oath_plan) (D_margin_by : Dx P w K mg base ca "margin_by" 3 ["suit", "case", "marks"] [false, false, true] Lw.m_margin_by) (D_cheapest : Dx P w K mg base ca "cheapest" 2 ["offers", "goal"] [false, false] Lw.m_cheapest) (z_len : mg "len" = none) : FnOk P w K mg base (L2.CX P w) 4 f fd ["suits", "case", "marks", "told", "plans"] (VSp K ca [true, false, true, true, true] Lw.m_case_plan) := by
  refine vf_of (k := 3) F sc_case_plan rfl (by decide) fun cdv A outer s H E vs hr B => ?_
  have tk : Takes (ctOf P w K mg base ca N_case_plan "case_plan" (defScope s_case_plan) f cdv A outer s H E [true, false, true, true, true] vs B).X _ := takes_of rfl rfl rfl rfl
  exact (jb_cons (js_set 5 sc_case_plan.nd rfl (by first | exact Or.inl rfl | exact Or.inr rfl) (by intro h; cases h) (je_lst ja_nil))
    (jb_cons (js_set 6 sc_case_plan.nd rfl (by first | exact Or.inl rfl | exact Or.inr rfl) (by intro h; cases h) (je_lst ja_nil))
    (jb_cons (js_for PassesOwn.leaving rfl (ji_any (jd_fz (je_dx D_claims hr (by decide) tk (by rfl) (jar_r 0 (pv 0) (jar_d (jd_var 1 (pv 1)) (jar_d (jd_ixP 3 (pv 3) (jd_var 1 (pv 1))) (jar_r 2 (pv 2) jar_nil))))))) (jg_tup rfl (jgs_cons (jg_name 7 (by intro h; cases h) (pg_name (i := 7) sc_case_plan.nd rfl (by first | exact Or.inl rfl | exact Or.inr rfl))) (jgs_cons (jg_name 8 (by intro h; cases h) (pg_name (i := 8) sc_case_plan.nd rfl (by first | exact Or.inl rfl | exact Or.inr rfl))) jgs_nil))) (jb_cons (js_expr (je_append 5 (pv 5) (jd_fz (je_dx D_oath_plan hr (by decide) tk (by rfl) (jar_r 0 (pv 0) (jar_d (jd_var 1 (pv 1)) (jar_d (jd_var 7 (pv 7)) (jar_r 2 (pv 2) (jar_r 3 (pv 3) (jar_r 4 (pv 4) jar_nil))))))))))
    (jb_one (js_expr (je_append 6 (pv 6) (jd_tup (ja_cons (jd_len (by rfl) z_len (jv_d (jd_ixP 5 (pv 5) (jd_neg jd_int)))) (ja_cons (jd_var 8 (pv 8)) ja_nil))))))))
    (jb_cons (js_set 9 sc_case_plan.nd rfl (by first | exact Or.inl rfl | exact Or.inr rfl) (by intro h; cases h) (je_dx D_margin_by hr (by decide) tk (by rfl) (jar_d (jd_ixP 0 (pv 0) (jd_var 1 (pv 1))) (jar_d (jd_var 1 (pv 1)) (jar_r 2 (pv 2) jar_nil)))))
    (jb_cons (js_if (jt_val (jd_ixP 3 (pv 3) (jd_var 1 (pv 1)))) (jb_one (js_set 9 sc_case_plan.nd rfl (by first | exact Or.inl rfl | exact Or.inr rfl) (by intro h; cases h) (je_add (jd_var 9 (pv 9)) jd_int))) (jb_one (js_set 9 sc_case_plan.nd rfl (by first | exact Or.inl rfl | exact Or.inr rfl) (by intro h; cases h) (je_d (jd_sub jd_int (jd_var 9 (pv 9)))))))
    (jb_cons (js_set 10 sc_case_plan.nd rfl (by first | exact Or.inl rfl | exact Or.inr rfl) (by intro h; cases h) (je_dx D_cheapest hr (by decide) tk (by rfl) (jar_d (jd_var 6 (pv 6)) (jar_d (jd_var 9 (pv 9)) jar_nil))))
    (jb_cons (js_if (jt_cmpN cv_is (jv_var 10 (pv 10)) (jv_d jd_non) (nomark _)) (jb_one (js_ret (je_d jd_non))) jb_nil)
    (jb_cons (js_set 11 sc_case_plan.nd rfl (by first | exact Or.inl rfl | exact Or.inr rfl) (by intro h; cases h) (je_lst ja_nil))
    (jb_cons (js_for PassesOwn.leaving rfl (ji_any (jd_var 10 (pv 10))) (jg_name 12 (by intro h; cases h) (pg_name (i := 12) sc_case_plan.nd rfl (by first | exact Or.inl rfl | exact Or.inr rfl))) (jb_one (js_set 11 sc_case_plan.nd rfl (by first | exact Or.inl rfl | exact Or.inr rfl) (by intro h; cases h) (je_add (jd_var 11 (pv 11)) (jd_ixP 5 (pv 5) (jd_var 12 (pv 12)))))))
    (jb_one (js_ret (je_move 11 (pv 11)))))))))))))
theorem ok_fewest {f : Addr} {fd : FuncData} (F : Fun K "fewest" "fewest" s_fewest f fd) (D_there : Dx P w K mg base ca "there" 1 ["suits", "case"] [true, false] Lw.m_there) (D_settle : Dx P w K mg base ca "settle" 4 ["suits", "marks"] [true, true] Lw.m_settle) (D_case_plan : Dx P w K mg base ca "case_plan" 4 ["suits", "case", "marks", "told", "plans"] [true, false, true, true, true] Lw.m_case_plan) (z_len : mg "len" = none) (z_reversed : mg "reversed" = none) (z_range : mg "range" = none) (z_sorted : mg "sorted" = none) : FnOk P w K mg base (L2.CX P w) 5 f fd ["suits", "case"] (VSp K ca [true, false] Lw.m_fewest) := by
  refine vf_of (k := 4) F sc_fewest rfl (by decide) fun cdv A outer s H E vs hr B => ?_
  have tk : Takes (ctOf P w K mg base ca N_fewest "fewest" (defScope s_fewest) f cdv A outer s H E [true, false] vs B).X _ := takes_of rfl rfl rfl rfl
  exact (jb_cons (js_expr (je_dx D_there hr (by decide) tk (by rfl) (jar_r 0 (pv 0) (jar_d (jd_var 1 (pv 1)) jar_nil))))
    (jb_cons (js_set 2 sc_fewest.nd rfl (by first | exact Or.inl rfl | exact Or.inr rfl) (by intro h; cases h) je_newT)
    (jb_cons (js_set 3 sc_fewest.nd rfl (by first | exact Or.inl rfl | exact Or.inr rfl) (by intro h; cases h) (je_dx D_settle hr (by decide) tk (by rfl) (jar_r 0 (pv 0) (jar_r 2 (pv 2) jar_nil))))
    (jb_cons (js_set 4 sc_fewest.nd rfl (by first | exact Or.inl rfl | exact Or.inr rfl) (by intro h; cases h) (je_mul (jd_fz (je_lst (ja_cons jd_non ja_nil))) (jd_len (by rfl) z_len (jv_var 0 (pv 0)))))
    (jb_cons (js_for PassesOwn.leaving rfl (ji_revrange (by rfl) z_reversed (by rfl) z_range (jd_len (by rfl) z_len (jv_var 0 (pv 0)))) (jg_name 5 (by intro h; cases h) (pg_name (i := 5) sc_fewest.nd rfl (by first | exact Or.inl rfl | exact Or.inr rfl))) (jb_one (js_if (jt_cmpN cv_ge (jv_var 5 (pv 5)) (jv_var 1 (pv 1)) (nomark _)) (jb_one (js_setIx 4 (pv 4) (jd_var 5 (pv 5)) (jd_fz (je_dx D_case_plan hr (by decide) tk (by rfl) (jar_r 0 (pv 0) (jar_d (jd_var 5 (pv 5)) (jar_r 2 (pv 2) (jar_r 3 (pv 3) (jar_r 4 (pv 4) jar_nil))))))))) jb_nil)))
    (jb_cons (js_if (jt_cmpN cv_is (jv_d (jd_ixP 4 (pv 4) (jd_var 1 (pv 1)))) (jv_d jd_non) (nomark _)) (jb_one (js_ret (je_d jd_non))) jb_nil)
    (jb_one (js_ret (je_sortedG hr (by rfl) z_sorted (jv_d (jd_ixP 4 (pv 4) (jd_var 1 (pv 1)))))))))))))
theorem ok_law_src {f : Addr} {fd : FuncData} (F : Fun K "_law_src" "_law_src" s_law_src f fd) (z_list : mg "list" = none) : FnOk P w K mg base (L2.CX P w) 1 f fd ["_law_script"] (VSp K ca [true] Lw.m_law_src) := by
  refine vf_of (k := 0) F sc_law_src rfl (by decide) fun cdv A outer s H E vs hr B => ?_
  have tk : Takes (ctOf P w K mg base ca N_law_src "_law_src" (defScope s_law_src) f cdv A outer s H E [true] vs B).X _ := takes_of rfl rfl rfl rfl
  exact (jb_one (js_ret (je_lst (ja_cons (jd_fz (je_list (by rfl) z_list (jv_d (jd_fz (je_slV (jv_var 0 (pv 0)) jo_no (jo_so jd_int)))))) (ja_cons jd_int (ja_cons jd_int (ja_cons jd_int (ja_cons jd_int ja_nil))))))))
theorem ok_law_next {f : Addr} {fd : FuncData} (F : Fun K "_law_next" "_law_next" s_law_next f fd) (z_len : mg "len" = none) : FnOk P w K mg base (L2.CX P w) 1 f fd ["_law_src_here", "_law_base"] (VSp K ca [true, false] Lw.m_law_next) := by
  refine vf_of (k := 0) F sc_law_next rfl (by decide) fun cdv A outer s H E vs hr B => ?_
  have tk : Takes (ctOf P w K mg base ca N_law_next "_law_next" (defScope s_law_next) f cdv A outer s H E [true, false] vs B).X _ := takes_of rfl rfl rfl rfl
  exact (jb_cons (js_setIx 0 (pv 0) jd_int (jd_fz (je_add (jd_ixP 0 (pv 0) jd_int) jd_int)))
    (jb_cons (js_if (jt_cmpN cv_le (jv_d (jd_ixP 0 (pv 0) jd_int)) (jv_d jd_int) (nomark _)) (jb_cons (js_set 2 sc_law_next.nd rfl (by first | exact Or.inl rfl | exact Or.inr rfl) (by intro h; cases h) (je_d jd_int))
    (jb_cons (js_if (jt_cmpN cv_lt (jv_d (jd_ixP 0 (pv 0) jd_int)) (jv_d (jd_len (by rfl) z_len (jv_d (jd_ixP 0 (pv 0) jd_int)))) (nomark _)) (jb_cons (js_set 2 sc_law_next.nd rfl (by first | exact Or.inl rfl | exact Or.inr rfl) (by intro h; cases h) (je_d (jd_ix (jd_ixP 0 (pv 0) jd_int) (jd_ixP 0 (pv 0) jd_int))))
    (jb_one (js_setIx 0 (pv 0) jd_int (jd_fz (je_add (jd_ixP 0 (pv 0) jd_int) jd_int))))) jb_nil)
    (jb_cons (js_setIx 0 (pv 0) jd_int (jd_mod (jd_fz (je_add (jd_fz (je_add (jd_fz (je_mul (jd_ixP 0 (pv 0) jd_int) jd_int)) (jd_mod (jd_var 2 (pv 2)) jd_int))) (jd_ixP 0 (pv 0) jd_int))) jd_int))
    (jb_one (js_if (jt_cmpN cv_ge (jv_var 2 (pv 2)) (jv_d (jd_pow jd_int jd_int)) (nomark _)) (jb_one (js_setIx 0 (pv 0) jd_int (jd_var 2 (pv 2)))) jb_nil))))) jb_nil)
    (jb_cons (js_if (jt_cmpN cv_gt (jv_d (jd_ixP 0 (pv 0) jd_int)) (jv_d jd_int) (nomark _)) (jb_cons (js_set 3 sc_law_next.nd rfl (by first | exact Or.inl rfl | exact Or.inr rfl) (by intro h; cases h) (je_d (jd_mod (jd_ixP 0 (pv 0) jd_int) (jd_var 1 (pv 1)))))
    (jb_cons (js_setIx 0 (pv 0) jd_int (jd_div (jd_ixP 0 (pv 0) jd_int) (jd_var 1 (pv 1))))
    (jb_one (js_ret (je_move 3 (pv 3)))))) jb_nil)
    (jb_one (js_ret (je_d (jd_mod (jd_div (jd_mod (jd_fz (je_mul (jd_ixP 0 (pv 0) jd_int) jd_int)) jd_int) jd_int) (jd_var 1 (pv 1)))))))))
theorem ok_law_unlike {f : Addr} {fd : FuncData} (F : Fun K "_law_unlike" "_law_unlike" s_law_unlike f fd) (z_range : mg "range" = none) (z_len : mg "len" = none) : FnOk P w K mg base (L2.CX P w) 1 f fd ["_law_names_here", "_law_name"] (VSp K ca [true, false] Lw.m_law_unlike) := by
  refine vf_of (k := 0) F sc_law_unlike rfl (by decide) fun cdv A outer s H E vs hr B => ?_
  have tk : Takes (ctOf P w K mg base ca N_law_unlike "_law_unlike" (defScope s_law_unlike) f cdv A outer s H E [true, false] vs B).X _ := takes_of rfl rfl rfl rfl
  exact (jb_cons (js_set 2 sc_law_unlike.nd rfl (by first | exact Or.inl rfl | exact Or.inr rfl) (by intro h; cases h) (je_d jd_str))
    (jb_cons (js_set 3 sc_law_unlike.nd rfl (by first | exact Or.inl rfl | exact Or.inr rfl) (by intro h; cases h) (je_slV (jv_var 1 (pv 1)) jo_no (jo_so jd_int)))
    (jb_cons (js_for PassesOwn.leaving rfl (ji_range1 (by rfl) z_range (ja_cons (jd_fz (je_add (jd_len (by rfl) z_len (jv_var 0 (pv 0))) jd_int)) ja_nil)) (jg_name 4 (by intro h; cases h) (pg_name (i := 4) sc_law_unlike.nd rfl (by first | exact Or.inl rfl | exact Or.inr rfl))) (jb_cons (js_if (jt_cmpN (cv_notIn hr) (jv_var 1 (pv 1)) (jv_var 0 (pv 0)) rfl) (jb_one (js_ret (je_move 1 (pv 1)))) jb_nil)
    (jb_one (js_set 1 sc_law_unlike.nd rfl (by first | exact Or.inl rfl | exact Or.inr rfl) (by intro h; cases h) (je_add (jd_fz (je_add (jd_var 3 (pv 3)) (jd_ixP 2 (pv 2) (jd_mod (jd_var 4 (pv 4)) jd_int)))) (jd_ixP 2 (pv 2) (jd_div (jd_var 4 (pv 4)) jd_int)))))))
    (jb_one (js_ret (je_move 1 (pv 1)))))))
theorem ok_law_word {f : Addr} {fd : FuncData} (F : Fun K "_law_word" "_law_word" s_law_word f fd) (D_law_next : Dx P w K mg base ca "_law_next" 1 ["_law_src_here", "_law_base"] [true, false] Lw.m_law_next) (z_range : mg "range" = none) : FnOk P w K mg base (L2.CX P w) 2 f fd ["_law_src_here", "_law_many"] (VSp K ca [true, false] Lw.m_law_word) := by
  refine vf_of (k := 1) F sc_law_word rfl (by decide) fun cdv A outer s H E vs hr B => ?_
  have tk : Takes (ctOf P w K mg base ca N_law_word "_law_word" (defScope s_law_word) f cdv A outer s H E [true, false] vs B).X _ := takes_of rfl rfl rfl rfl
  exact (jb_cons (js_set 2 sc_law_word.nd rfl (by first | exact Or.inl rfl | exact Or.inr rfl) (by intro h; cases h) (je_d jd_str))
    (jb_one (js_ret (je_d (jd_join jd_str (jv_d (jd_fz (je_lc (own := [("_law_k", 3)]) rfl sc_law_word.nd (ji_range1 (by rfl) z_range (ja_cons (jd_var 1 (pv 1)) ja_nil)) (blkOk_by (own := [("_law_k", 3)]) (N := N_law_word) (sc := defScope s_law_word) (by decide +kernel)) (fun _ => (jg_name 3 (by intro h; cases h) (pg_name (i := 3) sc_law_word.nd rfl (by first | exact Or.inl rfl | exact Or.inr rfl)))) (by decide) (by intro k hk; simp only [List.map_cons, List.map_nil, List.mem_cons, List.not_mem_nil, or_false] at hk; rcases hk with rfl <;> (intro h; cases h)) (fun _ => jts_nil) (fun _ => (jd_ixP 2 (pv 2) (jd_fz (je_dx D_law_next hr (by decide) takes0 (by rfl) (jar_r 0 (pv 0) (jar_d jd_int jar_nil))))))))))))))
theorem ok_law_names {f : Addr} {fd : FuncData} (F : Fun K "_law_names" "_law_names" s_law_names f fd) (D_law_next : Dx P w K mg base ca "_law_next" 1 ["_law_src_here", "_law_base"] [true, false] Lw.m_law_next) (D_law_word : Dx P w K mg base ca "_law_word" 2 ["_law_src_here", "_law_many"] [true, false] Lw.m_law_word) (D_law_unlike : Dx P w K mg base ca "_law_unlike" 1 ["_law_names_here", "_law_name"] [true, false] Lw.m_law_unlike) (z_len : mg "len" = none) (z_range : mg "range" = none) : FnOk P w K mg base (L2.CX P w) 3 f fd ["_law_src_here", "_law_many"] (VSp K ca [true, false] Lw.m_law_names) := by
  refine vf_of (k := 2) F sc_law_names rfl (by decide) fun cdv A outer s H E vs hr B => ?_
  have tk : Takes (ctOf P w K mg base ca N_law_names "_law_names" (defScope s_law_names) f cdv A outer s H E [true, false] vs B).X _ := takes_of rfl rfl rfl rfl
  exact (jb_cons (js_set 2 sc_law_names.nd rfl (by first | exact Or.inl rfl | exact Or.inr rfl) (by intro h; cases h) (je_dx D_law_next hr (by decide) tk (by rfl) (jar_r 0 (pv 0) (jar_d jd_int jar_nil))))
    (jb_cons (js_set 3 sc_law_names.nd rfl (by first | exact Or.inl rfl | exact Or.inr rfl) (by intro h; cases h) (je_dx D_law_word hr (by decide) tk (by rfl) (jar_r 0 (pv 0) (jar_d (jd_fz (je_add jd_int (jd_fz (je_dx D_law_next hr (by decide) tk (by rfl) (jar_r 0 (pv 0) (jar_d jd_int jar_nil)))))) jar_nil))))
    (jb_cons (js_set 4 sc_law_names.nd rfl (by first | exact Or.inl rfl | exact Or.inr rfl) (by intro h; cases h) (je_dx D_law_next hr (by decide) tk (by rfl) (jar_r 0 (pv 0) (jar_d (jd_len (by rfl) z_len (jv_var 3 (pv 3))) jar_nil))))
    (jb_cons (js_set 5 sc_law_names.nd rfl (by first | exact Or.inl rfl | exact Or.inr rfl) (by intro h; cases h) (je_lst ja_nil))
    (jb_cons (js_for PassesOwn.leaving rfl (ji_range1 (by rfl) z_range (ja_cons (jd_var 1 (pv 1)) ja_nil)) (jg_name 6 (by intro h; cases h) (pg_name (i := 6) sc_law_names.nd rfl (by first | exact Or.inl rfl | exact Or.inr rfl))) (jb_cons (js_set 7 sc_law_names.nd rfl (by first | exact Or.inl rfl | exact Or.inr rfl) (by intro h; cases h) (je_add (jd_fz (je_add (jd_fz (je_slV (jv_var 3 (pv 3)) jo_no (jo_so (jd_var 4 (pv 4))))) (jd_fz (je_dx D_law_word hr (by decide) tk (by rfl) (jar_r 0 (pv 0) (jar_d jd_int jar_nil)))))) (jd_fz (je_slV (jv_var 3 (pv 3)) (jo_so (jd_fz (je_add (jd_var 4 (pv 4)) jd_int))) jo_no))))
    (jb_cons (js_if (jt_cmpN (cv_eq hr) (jv_var 2 (pv 2)) (jv_d jd_int) (nomark _)) (jb_one (js_set 7 sc_law_names.nd rfl (by first | exact Or.inl rfl | exact Or.inr rfl) (by intro h; cases h) (je_sl (jd_var 3 (pv 3)) jo_no (jo_so (jd_fz (je_add jd_int (jd_fz (je_dx D_law_next hr (by decide) tk (by rfl) (jar_r 0 (pv 0) (jar_d (jd_len (by rfl) z_len (jv_var 3 (pv 3))) jar_nil)))))))))) jb_nil)
    (jb_cons (js_if (jt_cmpN (cv_eq hr) (jv_var 2 (pv 2)) (jv_d jd_int) (nomark _)) (jb_one (js_set 7 sc_law_names.nd rfl (by first | exact Or.inl rfl | exact Or.inr rfl) (by intro h; cases h) (je_dx D_law_word hr (by decide) tk (by rfl) (jar_r 0 (pv 0) (jar_d (jd_fz (je_add jd_int (jd_fz (je_dx D_law_next hr (by decide) tk (by rfl) (jar_r 0 (pv 0) (jar_d jd_int jar_nil)))))) jar_nil))))) jb_nil)
    (jb_one (js_expr (je_append 5 (pv 5) (jd_fz (je_dx D_law_unlike hr (by decide) tk (by rfl) (jar_r 5 (pv 5) (jar_d (jd_var 7 (pv 7)) jar_nil)))))))))))
    (jb_one (js_ret (je_move 5 (pv 5)))))))))
theorem ok_law_weight {f : Addr} {fd : FuncData} (F : Fun K "_law_weight" "_law_weight" s_law_weight f fd) (D_law_next : Dx P w K mg base ca "_law_next" 1 ["_law_src_here", "_law_base"] [true, false] Lw.m_law_next) : FnOk P w K mg base (L2.CX P w) 2 f fd ["_law_src_here"] (VSp K ca [true] Lw.m_law_weight) := by
  refine vf_of (k := 1) F sc_law_weight rfl (by decide) fun cdv A outer s H E vs hr B => ?_
  have tk : Takes (ctOf P w K mg base ca N_law_weight "_law_weight" (defScope s_law_weight) f cdv A outer s H E [true] vs B).X _ := takes_of rfl rfl rfl rfl
  exact (jb_cons (js_set 1 sc_law_weight.nd rfl (by first | exact Or.inl rfl | exact Or.inr rfl) (by intro h; cases h) (je_dx D_law_next hr (by decide) tk (by rfl) (jar_r 0 (pv 0) (jar_d jd_int jar_nil))))
    (jb_cons (js_if (jt_cmpN (cv_eq hr) (jv_var 1 (pv 1)) (jv_d jd_int) (nomark _)) (jb_one (js_ret (je_add jd_int (jd_fz (je_dx D_law_next hr (by decide) tk (by rfl) (jar_r 0 (pv 0) (jar_d jd_int jar_nil))))))) jb_nil)
    (jb_cons (js_if (jt_cmpN (cv_eq hr) (jv_var 1 (pv 1)) (jv_d jd_int) (nomark _)) (jb_one (js_ret (je_d (jd_sub jd_int (jd_fz (je_dx D_law_next hr (by decide) tk (by rfl) (jar_r 0 (pv 0) (jar_d jd_int jar_nil)))))))) jb_nil)
    (jb_one (js_ret (je_add jd_int (jd_fz (je_dx D_law_next hr (by decide) tk (by rfl) (jar_r 0 (pv 0) (jar_d jd_int jar_nil))))))))))
theorem ok_law_total {f : Addr} {fd : FuncData} (F : Fun K "_law_total" "_law_total" s_law_total f fd)  : FnOk P w K mg base (L2.CX P w) 1 f fd ["_law_side_here"] (VSp K ca [false] Lw.m_law_total) := by
  refine vf_of (k := 0) F sc_law_total rfl (by decide) fun cdv A outer s H E vs hr B => ?_
  have tk : Takes (ctOf P w K mg base ca N_law_total "_law_total" (defScope s_law_total) f cdv A outer s H E [false] vs B).X _ := takes_of rfl rfl rfl rfl
  exact (jb_cons (js_set 1 sc_law_total.nd rfl (by first | exact Or.inl rfl | exact Or.inr rfl) (by intro h; cases h) (je_d jd_int))
    (jb_cons (js_for PassesOwn.leaving rfl (ji_any (jd_var 0 (pv 0))) (jg_tup rfl (jgs_cons (jg_name 2 (by intro h; cases h) (pg_name (i := 2) sc_law_total.nd rfl (by first | exact Or.inl rfl | exact Or.inr rfl))) (jgs_cons (jg_name 3 (by intro h; cases h) (pg_name (i := 3) sc_law_total.nd rfl (by first | exact Or.inl rfl | exact Or.inr rfl))) jgs_nil))) (jb_one (js_set 1 sc_law_total.nd rfl (by first | exact Or.inl rfl | exact Or.inr rfl) (by intro h; cases h) (je_add (jd_var 1 (pv 1)) (jd_var 3 (pv 3))))))
    (jb_one (js_ret (je_move 1 (pv 1))))))
theorem ok_law_side {f : Addr} {fd : FuncData} (F : Fun K "_law_side" "_law_side" s_law_side f fd) (D_law_weight : Dx P w K mg base ca "_law_weight" 2 ["_law_src_here"] [true] Lw.m_law_weight) (D_law_next : Dx P w K mg base ca "_law_next" 1 ["_law_src_here", "_law_base"] [true, false] Lw.m_law_next) (z_list : mg "list" = none) (z_range : mg "range" = none) (z_min : mg "min" = none) (z_len : mg "len" = none) : FnOk P w K mg base (L2.CX P w) 3 f fd ["_law_src_here", "_law_names_here", "_law_many"] (VSp K ca [true, true, false] Lw.m_law_side_v2) := by
  refine vf_of (k := 2) F sc_law_side rfl (by decide) fun cdv A outer s H E vs hr B => ?_
  have tk : Takes (ctOf P w K mg base ca N_law_side "_law_side" (defScope s_law_side) f cdv A outer s H E [true, true, false] vs B).X _ := takes_of rfl rfl rfl rfl
  exact (jb_cons (js_set 3 sc_law_side.nd rfl (by first | exact Or.inl rfl | exact Or.inr rfl) (by intro h; cases h) (je_list (by rfl) z_list (jv_var 1 (pv 1))))
    (jb_cons (js_set 4 sc_law_side.nd rfl (by first | exact Or.inl rfl | exact Or.inr rfl) (by intro h; cases h) (je_lst ja_nil))
    (jb_cons (js_for PassesOwn.leaving rfl (ji_range1 (by rfl) z_range (ja_cons (jd_min rfl (by rfl) z_min (ja_cons (jd_var 2 (pv 2)) (ja_cons (jd_len (by rfl) z_len (jv_var 1 (pv 1))) ja_nil))) ja_nil)) (jg_name 5 (by intro h; cases h) (pg_name (i := 5) sc_law_side.nd rfl (by first | exact Or.inl rfl | exact Or.inr rfl))) (jb_one (js_expr (je_append 4 (pv 4) (jd_tup (ja_cons (jd_popAt 3 (pv 3) (jd_fz (je_dx D_law_next hr (by decide) tk (by rfl) (jar_r 0 (pv 0) (jar_d (jd_len (by rfl) z_len (jv_var 3 (pv 3))) jar_nil))))) (ja_cons (jd_fz (je_dx D_law_weight hr (by decide) tk (by rfl) (jar_r 0 (pv 0) jar_nil))) ja_nil)))))))
    (jb_one (js_ret (je_move 4 (pv 4)))))))
theorem ok_law_need {f : Addr} {fd : FuncData} (F : Fun K "_law_need" "_law_need" s_law_need f fd) (D_law_total : Dx P w K mg base ca "_law_total" 1 ["_law_side_here"] [false] Lw.m_law_total) (D_law_next : Dx P w K mg base ca "_law_next" 1 ["_law_src_here", "_law_base"] [true, false] Lw.m_law_next) (z_max : mg "max" = none) (z_min : mg "min" = none) : FnOk P w K mg base (L2.CX P w) 2 f fd ["_law_src_here", "_law_ones", "_law_others"] (VSp K ca [true, false, false] Lw.m_law_need) := by
  refine vf_of (k := 1) F sc_law_need rfl (by decide) fun cdv A outer s H E vs hr B => ?_
  have tk : Takes (ctOf P w K mg base ca N_law_need "_law_need" (defScope s_law_need) f cdv A outer s H E [true, false, false] vs B).X _ := takes_of rfl rfl rfl rfl
  exact (jb_cons (js_set 3 sc_law_need.nd rfl (by first | exact Or.inl rfl | exact Or.inr rfl) (by intro h; cases h) (je_add (jd_sub (jd_sub (jd_fz (je_dx D_law_total hr (by decide) tk (by rfl) (jar_d (jd_var 1 (pv 1)) jar_nil))) (jd_fz (je_dx D_law_total hr (by decide) tk (by rfl) (jar_d (jd_var 2 (pv 2)) jar_nil)))) jd_int) (jd_fz (je_dx D_law_next hr (by decide) tk (by rfl) (jar_r 0 (pv 0) (jar_d jd_int jar_nil))))))
    (jb_cons (js_if (jt_cmpN (cv_eq hr) (jv_d (jd_fz (je_dx D_law_next hr (by decide) tk (by rfl) (jar_r 0 (pv 0) (jar_d jd_int jar_nil))))) (jv_d jd_int) (nomark _)) (jb_one (js_set 3 sc_law_need.nd rfl (by first | exact Or.inl rfl | exact Or.inr rfl) (by intro h; cases h) (je_add jd_int (jd_fz (je_dx D_law_next hr (by decide) tk (by rfl) (jar_r 0 (pv 0) (jar_d jd_int jar_nil))))))) jb_nil)
    (jb_one (js_ret (je_d (jd_max rfl (by rfl) z_max (ja_cons jd_int (ja_cons (jd_min rfl (by rfl) z_min (ja_cons jd_int (ja_cons (jd_var 3 (pv 3)) ja_nil))) ja_nil))))))))
theorem ok_law_named {f : Addr} {fd : FuncData} (F : Fun K "_law_named" "_law_named" s_law_named f fd) (D_law_next : Dx P w K mg base ca "_law_next" 1 ["_law_src_here", "_law_base"] [true, false] Lw.m_law_next) (z_len : mg "len" = none) : FnOk P w K mg base (L2.CX P w) 2 f fd ["_law_src_here", "_law_suits_here"] (VSp K ca [true, true] Lw.m_law_named) := by
  refine vf_of (k := 1) F sc_law_named rfl (by decide) fun cdv A outer s H E vs hr B => ?_
  have tk : Takes (ctOf P w K mg base ca N_law_named "_law_named" (defScope s_law_named) f cdv A outer s H E [true, true] vs B).X _ := takes_of rfl rfl rfl rfl
  exact (jb_cons (js_set 2 sc_law_named.nd rfl (by first | exact Or.inl rfl | exact Or.inr rfl) (by intro h; cases h) (je_d (jd_len (by rfl) z_len (jv_var 1 (pv 1)))))
    (jb_cons (js_if (jt_w (jw_or (jt_cmpN (cv_eq hr) (jv_var 2 (pv 2)) (jv_d jd_int) (nomark _)) (jw_or1 (jt_cmpN (cv_eq hr) (jv_d (jd_fz (je_dx D_law_next hr (by decide) tk (by rfl) (jar_r 0 (pv 0) (jar_d jd_int jar_nil))))) (jv_d jd_int) (nomark _))))) (jb_one (js_ret (je_d jd_non))) jb_nil)
    (jb_cons (js_set 3 sc_law_named.nd rfl (by first | exact Or.inl rfl | exact Or.inr rfl) (by intro h; cases h) (je_dx D_law_next hr (by decide) tk (by rfl) (jar_r 0 (pv 0) (jar_d (jd_var 2 (pv 2)) jar_nil))))
    (jb_cons (js_if (jt_cmpN (cv_eq hr) (jv_d (jd_fz (je_dx D_law_next hr (by decide) tk (by rfl) (jar_r 0 (pv 0) (jar_d jd_int jar_nil))))) (jv_d jd_int) (nomark _)) (jb_one (js_set 3 sc_law_named.nd rfl (by first | exact Or.inl rfl | exact Or.inr rfl) (by intro h; cases h) (je_d (jd_sub (jd_var 2 (pv 2)) jd_int)))) jb_nil)
    (jb_cons (js_setLc (own := [("_law_name", 5), ("_law_weight_here", 6)]) (i := 4) rfl sc_law_named.nd rfl rfl (by intro h; cases h) (sw_true rfl rfl rfl (by decide +kernel)) (ji_any (jd_fz (je_add (jd_ix (jd_ixP 1 (pv 1) (jd_var 3 (pv 3))) jd_int) (jd_ix (jd_ixP 1 (pv 1) (jd_var 3 (pv 3))) jd_int)))) (blkOk_by (own := [("_law_name", 5), ("_law_weight_here", 6)]) (N := N_law_named) (sc := defScope s_law_named) (by decide +kernel)) (fun _ => (jg_tup rfl (jgs_cons (jg_name 5 (by intro h; cases h) (pg_name (i := 5) sc_law_named.nd rfl (by first | exact Or.inl rfl | exact Or.inr rfl))) (jgs_cons (jg_name 6 (by intro h; cases h) (pg_name (i := 6) sc_law_named.nd rfl (by first | exact Or.inl rfl | exact Or.inr rfl))) jgs_nil)))) (by decide) (by intro k hk; simp only [List.map_cons, List.map_nil, List.mem_cons, List.not_mem_nil, or_false] at hk; rcases hk with rfl | rfl <;> (intro h; cases h)) (fun _ => jts_nil) (fun _ => (jd_var 5 (pv 5))))
    (jb_cons (js_if (jt_cmpN (cv_eq hr) (jv_d (jd_len (by rfl) z_len (jv_var 4 (pv 4)))) (jv_d jd_int) (nomark _)) (jb_one (js_ret (je_d jd_non))) jb_nil)
    (jb_one (js_ret (je_d (jd_tup (ja_cons (jd_var 3 (pv 3)) (ja_cons (jd_ixP 4 (pv 4) (jd_fz (je_dx D_law_next hr (by decide) tk (by rfl) (jar_r 0 (pv 0) (jar_d (jd_len (by rfl) z_len (jv_var 4 (pv 4))) jar_nil))))) ja_nil))))))))))))
theorem ok_law_suits {f : Addr} {fd : FuncData} (F : Fun K "_law_suits" "_law_suits" s_law_suits f fd) (D_law_names : Dx P w K mg base ca "_law_names" 3 ["_law_src_here", "_law_many"] [true, false] Lw.m_law_names) (D_law_side : Dx P w K mg base ca "_law_side" 3 ["_law_src_here", "_law_names_here", "_law_many"] [true, true, false] Lw.m_law_side_v2) (D_law_next : Dx P w K mg base ca "_law_next" 1 ["_law_src_here", "_law_base"] [true, false] Lw.m_law_next) (D_law_named : Dx P w K mg base ca "_law_named" 2 ["_law_src_here", "_law_suits_here"] [true, true] Lw.m_law_named) (D_law_need : Dx P w K mg base ca "_law_need" 2 ["_law_src_here", "_law_ones", "_law_others"] [true, false, false] Lw.m_law_need) (z_range : mg "range" = none) (z_len : mg "len" = none) : FnOk P w K mg base (L2.CX P w) 4 f fd ["_law_src_here", "_law_many", "_law_most"] (VSp K ca [true, false, false] Lw.m_law_suits) := by
  refine vf_of (k := 3) F sc_law_suits rfl (by decide) fun cdv A outer s H E vs hr B => ?_
  have tk : Takes (ctOf P w K mg base ca N_law_suits "_law_suits" (defScope s_law_suits) f cdv A outer s H E [true, false, false] vs B).X _ := takes_of rfl rfl rfl rfl
  exact (jb_cons (js_set 3 sc_law_suits.nd rfl (by first | exact Or.inl rfl | exact Or.inr rfl) (by intro h; cases h) (je_dx D_law_names hr (by decide) tk (by rfl) (jar_r 0 (pv 0) (jar_d (jd_fz (je_add (jd_var 2 (pv 2)) jd_int)) jar_nil))))
    (jb_cons (js_set 4 sc_law_suits.nd rfl (by first | exact Or.inl rfl | exact Or.inr rfl) (by intro h; cases h) (je_lst ja_nil))
    (jb_cons (js_for PassesOwn.leaving rfl (ji_range1 (by rfl) z_range (ja_cons (jd_var 1 (pv 1)) ja_nil)) (jg_name 5 (by intro h; cases h) (pg_name (i := 5) sc_law_suits.nd rfl (by first | exact Or.inl rfl | exact Or.inr rfl))) (jb_cons (js_set 6 sc_law_suits.nd rfl (by first | exact Or.inl rfl | exact Or.inr rfl) (by intro h; cases h) (je_dx D_law_side hr (by decide) tk (by rfl) (jar_r 0 (pv 0) (jar_r 3 (pv 3) (jar_d (jd_fz (je_dx D_law_next hr (by decide) tk (by rfl) (jar_r 0 (pv 0) (jar_d (jd_fz (je_add (jd_var 2 (pv 2)) jd_int)) jar_nil)))) jar_nil)))))
    (jb_cons (js_set 7 sc_law_suits.nd rfl (by first | exact Or.inl rfl | exact Or.inr rfl) (by intro h; cases h) (je_d (jd_div (jd_fz (je_add (jd_fz (je_add (jd_len (by rfl) z_len (jv_var 6 (pv 6))) jd_int)) (jd_fz (je_dx D_law_next hr (by decide) tk (by rfl) (jar_r 0 (pv 0) (jar_d jd_int jar_nil)))))) jd_int)))
    (jb_cons (js_if (jt_cmpN (cv_eq hr) (jv_d (jd_fz (je_dx D_law_next hr (by decide) tk (by rfl) (jar_r 0 (pv 0) (jar_d jd_int jar_nil))))) (jv_d jd_int) (nomark _)) (jb_one (js_set 7 sc_law_suits.nd rfl (by first | exact Or.inl rfl | exact Or.inr rfl) (by intro h; cases h) (je_dx D_law_next hr (by decide) tk (by rfl) (jar_r 0 (pv 0) (jar_d (jd_fz (je_add (jd_len (by rfl) z_len (jv_var 6 (pv 6))) jd_int)) jar_nil))))) jb_nil)
    (jb_cons (js_set 8 sc_law_suits.nd rfl (by first | exact Or.inl rfl | exact Or.inr rfl) (by intro h; cases h) (je_dx D_law_named hr (by decide) tk (by rfl) (jar_r 0 (pv 0) (jar_r 4 (pv 4) jar_nil))))
    (jb_cons (js_set 9 sc_law_suits.nd rfl (by first | exact Or.inl rfl | exact Or.inr rfl) (by intro h; cases h) (je_dx D_law_need hr (by decide) tk (by rfl) (jar_r 0 (pv 0) (jar_d (jd_fz (je_slV (jv_var 6 (pv 6)) jo_no (jo_so (jd_var 7 (pv 7))))) (jar_d (jd_fz (je_slV (jv_var 6 (pv 6)) (jo_so (jd_var 7 (pv 7))) jo_no)) jar_nil)))))
    (jb_one (js_expr (je_append 4 (pv 4) (jd_tup (ja_cons (jd_fz (je_slV (jv_var 6 (pv 6)) jo_no (jo_so (jd_var 7 (pv 7))))) (ja_cons (jd_fz (je_slV (jv_var 6 (pv 6)) (jo_so (jd_var 7 (pv 7))) jo_no)) (ja_cons (jd_var 9 (pv 9)) (ja_cons (jd_var 8 (pv 8)) ja_nil))))))))))))))
    (jb_one (js_ret (je_move 4 (pv 4)))))))
theorem ok_law_is_broken {f : Addr} {fd : FuncData} (F : Fun K "_law_is_broken" "_law_is_broken" s_law_is_broken f fd) (z_range : mg "range" = none) (z_len : mg "len" = none) : FnOk P w K mg base (L2.CX P w) 1 f fd ["_law_suits_here", "_law_told", "_law_case", "_law_name", "_law_more"] (VSp K ca [true, true, false, false, true] Lw.m_law_is_broken) := by
  refine vf_of (k := 0) F sc_law_is_broken rfl (by decide) fun cdv A outer s H E vs hr B => ?_
  have tk : Takes (ctOf P w K mg base ca N_law_is_broken "_law_is_broken" (defScope s_law_is_broken) f cdv A outer s H E [true, true, false, false, true] vs B).X _ := takes_of rfl rfl rfl rfl
  exact (jb_cons (js_if (jt_cmpN (cv_in hr) (jv_d (jd_tup (ja_cons (jd_var 2 (pv 2)) (ja_cons (jd_var 3 (pv 3)) ja_nil)))) (jv_var 4 (pv 4)) rfl) (jb_one (js_ret (je_d jd_bl))) jb_nil)
    (jb_cons (js_for PassesOwn.leaving rfl (ji_range2 (by rfl) z_range (ja_cons (jd_fz (je_add (jd_var 2 (pv 2)) jd_int)) (ja_cons (jd_len (by rfl) z_len (jv_var 0 (pv 0))) ja_nil))) (jg_name 5 (by intro h; cases h) (pg_name (i := 5) sc_law_is_broken.nd rfl (by first | exact Or.inl rfl | exact Or.inr rfl))) (jb_one (js_if (jt_w (jw_and (jt_val (jd_ixP 1 (pv 1) (jd_var 5 (pv 5)))) (jw_and1 (jt_cmpN (cv_eq hr) (jv_d (jd_ix (jd_ixP 0 (pv 0) (jd_var 5 (pv 5))) jd_int)) (jv_d (jd_tup (ja_cons (jd_var 2 (pv 2)) (ja_cons (jd_var 3 (pv 3)) ja_nil)))) (nomark _))))) (jb_one (js_ret (je_d jd_bl))) jb_nil)))
    (jb_one (js_ret (je_d jd_bl)))))
theorem ok_law_margin {f : Addr} {fd : FuncData} (F : Fun K "_law_margin" "_law_margin" s_law_margin f fd) (D_law_is_broken : Dx P w K mg base ca "_law_is_broken" 1 ["_law_suits_here", "_law_told", "_law_case", "_law_name", "_law_more"] [true, true, false, false, true] Lw.m_law_is_broken) : FnOk P w K mg base (L2.CX P w) 2 f fd ["_law_suits_here", "_law_told", "_law_case", "_law_more"] (VSp K ca [true, true, false, true] Lw.m_law_margin_v2) := by
  refine vf_of (k := 1) F sc_law_margin rfl (by decide) fun cdv A outer s H E vs hr B => ?_
  have tk : Takes (ctOf P w K mg base ca N_law_margin "_law_margin" (defScope s_law_margin) f cdv A outer s H E [true, true, false, true] vs B).X _ := takes_of rfl rfl rfl rfl
  exact (jb_cons (js_asg (jg_tup rfl (jgs_cons (jg_name 4 (by intro h; cases h) (pg_name (i := 4) sc_law_margin.nd rfl (by first | exact Or.inl rfl | exact Or.inr rfl))) (jgs_cons (jg_name 5 (by intro h; cases h) (pg_name (i := 5) sc_law_margin.nd rfl (by first | exact Or.inl rfl | exact Or.inr rfl))) (jgs_cons (jg_name 6 (by intro h; cases h) (pg_name (i := 6) sc_law_margin.nd rfl (by first | exact Or.inl rfl | exact Or.inr rfl))) (jgs_cons (jg_name 7 (by intro h; cases h) (pg_name (i := 7) sc_law_margin.nd rfl (by first | exact Or.inl rfl | exact Or.inr rfl))) jgs_nil))))) (jd_ixP 0 (pv 0) (jd_var 2 (pv 2))))
    (jb_cons (js_set 8 sc_law_margin.nd rfl (by first | exact Or.inl rfl | exact Or.inr rfl) (by intro h; cases h) (je_d (jd_sub jd_int (jd_var 6 (pv 6)))))
    (jb_cons (js_for PassesOwn.leaving rfl (ji_any (jd_var 4 (pv 4))) (jg_tup rfl (jgs_cons (jg_name 9 (by intro h; cases h) (pg_name (i := 9) sc_law_margin.nd rfl (by first | exact Or.inl rfl | exact Or.inr rfl))) (jgs_cons (jg_name 10 (by intro h; cases h) (pg_name (i := 10) sc_law_margin.nd rfl (by first | exact Or.inl rfl | exact Or.inr rfl))) jgs_nil))) (jb_one (js_if (jt_not (jt_val (jd_fz (je_dx D_law_is_broken hr (by decide) tk (by rfl) (jar_r 0 (pv 0) (jar_r 1 (pv 1) (jar_d (jd_var 2 (pv 2)) (jar_d (jd_var 9 (pv 9)) (jar_r 3 (pv 3) jar_nil))))))))) (jb_one (js_set 8 sc_law_margin.nd rfl (by first | exact Or.inl rfl | exact Or.inr rfl) (by intro h; cases h) (je_add (jd_var 8 (pv 8)) (jd_var 10 (pv 10))))) jb_nil)))
    (jb_cons (js_for PassesOwn.leaving rfl (ji_any (jd_var 5 (pv 5))) (jg_tup rfl (jgs_cons (jg_name 9 (by intro h; cases h) (pg_name (i := 9) sc_law_margin.nd rfl (by first | exact Or.inl rfl | exact Or.inr rfl))) (jgs_cons (jg_name 10 (by intro h; cases h) (pg_name (i := 10) sc_law_margin.nd rfl (by first | exact Or.inl rfl | exact Or.inr rfl))) jgs_nil))) (jb_one (js_if (jt_not (jt_val (jd_fz (je_dx D_law_is_broken hr (by decide) tk (by rfl) (jar_r 0 (pv 0) (jar_r 1 (pv 1) (jar_d (jd_var 2 (pv 2)) (jar_d (jd_var 9 (pv 9)) (jar_r 3 (pv 3) jar_nil))))))))) (jb_one (js_set 8 sc_law_margin.nd rfl (by first | exact Or.inl rfl | exact Or.inr rfl) (by intro h; cases h) (je_d (jd_sub (jd_var 8 (pv 8)) (jd_var 10 (pv 10)))))) jb_nil)))
    (jb_one (js_ret (je_move 8 (pv 8))))))))
theorem ok_law_settle {f : Addr} {fd : FuncData} (F : Fun K "_law_settle" "_law_settle" s_law_settle f fd) (D_law_margin : Dx P w K mg base ca "_law_margin" 2 ["_law_suits_here", "_law_told", "_law_case", "_law_more"] [true, true, false, true] Lw.m_law_margin_v2) (z_len : mg "len" = none) (z_reversed : mg "reversed" = none) (z_range : mg "range" = none) : FnOk P w K mg base (L2.CX P w) 3 f fd ["_law_suits_here", "_law_more"] (VSp K ca [true, false] Lw.m_law_settle) := by
  refine vf_of (k := 2) F sc_law_settle rfl (by decide) fun cdv A outer s H E vs hr B => ?_
  have tk : Takes (ctOf P w K mg base ca N_law_settle "_law_settle" (defScope s_law_settle) f cdv A outer s H E [true, false] vs B).X _ := takes_of rfl rfl rfl rfl
  exact (jb_cons (js_set 2 sc_law_settle.nd rfl (by first | exact Or.inl rfl | exact Or.inr rfl) (by intro h; cases h) (je_mul (jd_fz (je_lst (ja_cons jd_bl ja_nil))) (jd_len (by rfl) z_len (jv_var 0 (pv 0)))))
    (jb_cons (js_for PassesOwn.leaving rfl (ji_revrange (by rfl) z_reversed (by rfl) z_range (jd_len (by rfl) z_len (jv_var 0 (pv 0)))) (jg_name 3 (by intro h; cases h) (pg_name (i := 3) sc_law_settle.nd rfl (by first | exact Or.inl rfl | exact Or.inr rfl))) (jb_one (js_setIx 2 (pv 2) (jd_var 3 (pv 3)) (jd_cmpN cv_ge (jv_d (jd_fz (je_dx D_law_margin hr (by decide) tk (by rfl) (jar_r 0 (pv 0) (jar_r 2 (pv 2) (jar_d (jd_var 3 (pv 3)) (jar_r 1 (pv 1) jar_nil))))))) (jv_d jd_int) (nomark _)))))
    (jb_one (js_ret (je_move 2 (pv 2))))))
theorem ok_law_oaths {f : Addr} {fd : FuncData} (F : Fun K "_law_oaths" "_law_oaths" s_law_oaths f fd) (z_enumerate : mg "enumerate" = none) (z_sorted : mg "sorted" = none) : FnOk P w K mg base (L2.CX P w) 1 f fd ["_law_suits_here"] (VSp K ca [true] Lw.m_law_oaths) := by
  refine vf_of (k := 0) F sc_law_oaths rfl (by decide) fun cdv A outer s H E vs hr B => ?_
  have tk : Takes (ctOf P w K mg base ca N_law_oaths "_law_oaths" (defScope s_law_oaths) f cdv A outer s H E [true] vs B).X _ := takes_of rfl rfl rfl rfl
  exact (jb_cons (js_set 1 sc_law_oaths.nd rfl (by first | exact Or.inl rfl | exact Or.inr rfl) (by intro h; cases h) (je_lst ja_nil))
    (jb_cons (js_for PassesOwn.leaving rfl (ji_enum (by rfl) z_enumerate (ja_cons (jd_var 0 (pv 0)) ja_nil)) (jg_tup rfl (jgs_cons (jg_name 2 (by intro h; cases h) (pg_name (i := 2) sc_law_oaths.nd rfl (by first | exact Or.inl rfl | exact Or.inr rfl))) (jgs_cons (jg_tup rfl (jgs_cons (jg_name 3 (by intro h; cases h) (pg_name (i := 3) sc_law_oaths.nd rfl (by first | exact Or.inl rfl | exact Or.inr rfl))) (jgs_cons (jg_name 4 (by intro h; cases h) (pg_name (i := 4) sc_law_oaths.nd rfl (by first | exact Or.inl rfl | exact Or.inr rfl))) (jgs_cons (jg_name 5 (by intro h; cases h) (pg_name (i := 5) sc_law_oaths.nd rfl (by first | exact Or.inl rfl | exact Or.inr rfl))) (jgs_cons (jg_name 6 (by intro h; cases h) (pg_name (i := 6) sc_law_oaths.nd rfl (by first | exact Or.inl rfl | exact Or.inr rfl))) jgs_nil))))) jgs_nil))) (jb_one (js_for PassesOwn.leaving rfl (ji_any (jd_fz (je_add (jd_var 3 (pv 3)) (jd_var 4 (pv 4))))) (jg_tup rfl (jgs_cons (jg_name 7 (by intro h; cases h) (pg_name (i := 7) sc_law_oaths.nd rfl (by first | exact Or.inl rfl | exact Or.inr rfl))) (jgs_cons (jg_name 8 (by intro h; cases h) (pg_name (i := 8) sc_law_oaths.nd rfl (by first | exact Or.inl rfl | exact Or.inr rfl))) jgs_nil))) (jb_one (js_expr (je_append 1 (pv 1) (jd_tup (ja_cons (jd_var 2 (pv 2)) (ja_cons (jd_var 7 (pv 7)) ja_nil)))))))))
    (jb_one (js_ret (je_sortedG hr (by rfl) z_sorted (jv_var 1 (pv 1)))))))
theorem ok_law_pairs_fit {f : Addr} {fd : FuncData} (F : Fun K "_law_pairs_fit" "_law_pairs_fit" s_law_pairs_fit f fd) (z_isinstance : mg "isinstance" = none) (z_list : mg "list" = none) (z_sorted : mg "sorted" = none) (z_tuple : mg "tuple" = none) : FnOk P w K mg base (L2.CX P w) 1 f fd ["_law_found", "_law_oaths_here"] (VSp K ca [false, false] Lw.m_law_pairs_fit) := by
  refine vf_of (k := 0) F sc_law_pairs_fit rfl (by decide) fun cdv A outer s H E vs hr B => ?_
  have tk : Takes (ctOf P w K mg base ca N_law_pairs_fit "_law_pairs_fit" (defScope s_law_pairs_fit) f cdv A outer s H E [false, false] vs B).X _ := takes_of rfl rfl rfl rfl
  exact (jb_cons (js_if (jt_w (jw_or (jt_not (jt_val (jd_isi (T := "list") (by rfl) z_isinstance (by rfl) z_list (by decide +kernel) (jv_var 0 (pv 0))))) (jw_or1 (jt_cmpN (cv_ne hr) (jv_var 0 (pv 0)) (jv_d (jd_fz (je_sortedG hr (by rfl) z_sorted (jv_var 0 (pv 0))))) (nomark _))))) (jb_one (js_ret (je_d jd_bl))) jb_nil)
    (jb_cons (js_for PassesOwn.leaving rfl (ji_any (jd_var 0 (pv 0))) (jg_name 2 (by intro h; cases h) (pg_name (i := 2) sc_law_pairs_fit.nd rfl (by first | exact Or.inl rfl | exact Or.inr rfl))) (jb_one (js_if (jt_w (jw_or (jt_not (jt_val (jd_isi (T := "tuple") (by rfl) z_isinstance (by rfl) z_tuple (by decide +kernel) (jv_var 2 (pv 2))))) (jw_or (jt_cmpN (cv_notIn hr) (jv_var 2 (pv 2)) (jv_var 1 (pv 1)) rfl) (jw_or1 (jt_cmpN (cv_ne hr) (jv_d (jd_countD hr (jv_var 0 (pv 0)) (jd_var 2 (pv 2)))) (jv_d jd_int) (nomark _)))))) (jb_one (js_ret (je_d jd_bl))) jb_nil)))
    (jb_one (js_ret (je_d jd_bl)))))
theorem ok_law_light {f : Addr} {fd : FuncData} (F : Fun K "_law_light" "_law_light" s_law_light f fd)  : FnOk P w K mg base (L2.CX P w) 1 f fd ["_law_suits_here"] (VSp K ca [false] Lw.m_law_light) := by
  refine vf_of (k := 0) F sc_law_light rfl (by decide) fun cdv A outer s H E vs hr B => ?_
  have tk : Takes (ctOf P w K mg base ca N_law_light "_law_light" (defScope s_law_light) f cdv A outer s H E [false] vs B).X _ := takes_of rfl rfl rfl rfl
  exact (jb_cons (js_set 1 sc_law_light.nd rfl (by first | exact Or.inl rfl | exact Or.inr rfl) (by intro h; cases h) (je_lst ja_nil))
    (jb_cons (js_for PassesOwn.leaving rfl (ji_any (jd_var 0 (pv 0))) (jg_tup rfl (jgs_cons (jg_name 2 (by intro h; cases h) (pg_name (i := 2) sc_law_light.nd rfl (by first | exact Or.inl rfl | exact Or.inr rfl))) (jgs_cons (jg_name 3 (by intro h; cases h) (pg_name (i := 3) sc_law_light.nd rfl (by first | exact Or.inl rfl | exact Or.inr rfl))) (jgs_cons (jg_name 4 (by intro h; cases h) (pg_name (i := 4) sc_law_light.nd rfl (by first | exact Or.inl rfl | exact Or.inr rfl))) (jgs_cons (jg_name 5 (by intro h; cases h) (pg_name (i := 5) sc_law_light.nd rfl (by first | exact Or.inl rfl | exact Or.inr rfl))) jgs_nil))))) (jb_cons (js_setLc (own := [("_law_name", 7), ("_law_weight_here", 8)]) (i := 6) rfl sc_law_light.nd rfl rfl (by intro h; cases h) (sw_true rfl rfl rfl (by decide +kernel)) (ji_any (jd_var 2 (pv 2))) (blkOk_by (own := [("_law_name", 7), ("_law_weight_here", 8)]) (N := N_law_light) (sc := defScope s_law_light) (by decide +kernel)) (fun _ => (jg_tup rfl (jgs_cons (jg_name 7 (by intro h; cases h) (pg_name (i := 7) sc_law_light.nd rfl (by first | exact Or.inl rfl | exact Or.inr rfl))) (jgs_cons (jg_name 8 (by intro h; cases h) (pg_name (i := 8) sc_law_light.nd rfl (by first | exact Or.inl rfl | exact Or.inr rfl))) jgs_nil)))) (by decide) (by intro k hk; simp only [List.map_cons, List.map_nil, List.mem_cons, List.not_mem_nil, or_false] at hk; rcases hk with rfl | rfl <;> (intro h; cases h)) (fun _ => jts_nil) (fun _ => (jd_tup (ja_cons (jd_var 7 (pv 7)) (ja_cons (jd_fz (je_add jd_int (jd_mod (jd_var 8 (pv 8)) jd_int))) ja_nil)))))
    (jb_one (js_expr (je_append 1 (pv 1) (jd_tup (ja_cons (jd_var 6 (pv 6)) (ja_cons (jd_fz (je_lc (own := [("_law_name", 7), ("_law_weight_here", 8)]) rfl sc_law_light.nd (ji_any (jd_var 3 (pv 3))) (blkOk_by (own := [("_law_name", 7), ("_law_weight_here", 8)]) (N := N_law_light) (sc := defScope s_law_light) (by decide +kernel)) (fun _ => (jg_tup rfl (jgs_cons (jg_name 7 (by intro h; cases h) (pg_name (i := 7) sc_law_light.nd rfl (by first | exact Or.inl rfl | exact Or.inr rfl))) (jgs_cons (jg_name 8 (by intro h; cases h) (pg_name (i := 8) sc_law_light.nd rfl (by first | exact Or.inl rfl | exact Or.inr rfl))) jgs_nil)))) (by decide) (by intro k hk; simp only [List.map_cons, List.map_nil, List.mem_cons, List.not_mem_nil, or_false] at hk; rcases hk with rfl | rfl <;> (intro h; cases h)) (fun _ => jts_nil) (fun _ => (jd_tup (ja_cons (jd_var 7 (pv 7)) (ja_cons (jd_fz (je_add jd_int (jd_mod (jd_var 8 (pv 8)) jd_int))) ja_nil)))))) (ja_cons (jd_fz (je_add jd_int (jd_mod (jd_var 4 (pv 4)) jd_int))) (ja_cons (jd_var 5 (pv 5)) ja_nil))))))))))
    (jb_one (js_ret (je_move 1 (pv 1))))))
theorem ok_law_least {f : Addr} {fd : FuncData} (F : Fun K "_law_least" "_law_least" s_law_least f fd) (z_reversed : mg "reversed" = none) (z_range : mg "range" = none) (z_max : mg "max" = none) : FnOk P w K mg base (L2.CX P w) 1 f fd ["_law_offers", "_law_goal"] (VSp K ca [true, false] Lw.m_law_least) := by
  refine vf_of (k := 0) F sc_law_least rfl (by decide) fun cdv A outer s H E vs hr B => ?_
  have tk : Takes (ctOf P w K mg base ca N_law_least "_law_least" (defScope s_law_least) f cdv A outer s H E [true, false] vs B).X _ := takes_of rfl rfl rfl rfl
  exact (jb_cons (js_set 2 sc_law_least.nd rfl (by first | exact Or.inl rfl | exact Or.inr rfl) (by intro h; cases h) (je_add (jd_fz (je_lst (ja_cons jd_int ja_nil))) (jd_fz (je_mul (jd_fz (je_lst (ja_cons jd_non ja_nil))) (jd_var 1 (pv 1))))))
    (jb_cons (js_for PassesOwn.leaving rfl (ji_any (jd_var 0 (pv 0))) (jg_tup rfl (jgs_cons (jg_name 3 (by intro h; cases h) (pg_name (i := 3) sc_law_least.nd rfl (by first | exact Or.inl rfl | exact Or.inr rfl))) (jgs_cons (jg_name 4 (by intro h; cases h) (pg_name (i := 4) sc_law_least.nd rfl (by first | exact Or.inl rfl | exact Or.inr rfl))) jgs_nil))) (jb_one (js_for PassesOwn.leaving rfl (ji_revrange2 (by rfl) z_reversed (by rfl) z_range jd_int (jd_fz (je_add (jd_var 1 (pv 1)) jd_int))) (jg_name 5 (by intro h; cases h) (pg_name (i := 5) sc_law_least.nd rfl (by first | exact Or.inl rfl | exact Or.inr rfl))) (jb_cons (js_set 6 sc_law_least.nd rfl (by first | exact Or.inl rfl | exact Or.inr rfl) (by intro h; cases h) (je_d (jd_ixP 2 (pv 2) (jd_max rfl (by rfl) z_max (ja_cons jd_int (ja_cons (jd_sub (jd_var 5 (pv 5)) (jd_var 4 (pv 4))) ja_nil))))))
    (jb_one (js_if (jt_w (jw_and (jt_cmpN cv_isN (jv_var 6 (pv 6)) (jv_d jd_non) (nomark _)) (jw_and1 (jt_w (jw_or (jt_cmpN cv_is (jv_d (jd_ixP 2 (pv 2) (jd_var 5 (pv 5)))) (jv_d jd_non) (nomark _)) (jw_or1 (jt_cmpN cv_lt (jv_d (jd_fz (je_add (jd_var 6 (pv 6)) (jd_var 3 (pv 3))))) (jv_d (jd_ixP 2 (pv 2) (jd_var 5 (pv 5)))) (nomark _)))))))) (jb_one (js_setIx 2 (pv 2) (jd_var 5 (pv 5)) (jd_fz (je_add (jd_var 6 (pv 6)) (jd_var 3 (pv 3)))))) jb_nil))))))
    (jb_one (js_ret (je_d (jd_ixP 2 (pv 2) (jd_var 1 (pv 1))))))))
theorem ok_law_price {f : Addr} {fd : FuncData} (F : Fun K "_law_price" "_law_price" s_law_price f fd) (D_law_is_broken : Dx P w K mg base ca "_law_is_broken" 1 ["_law_suits_here", "_law_told", "_law_case", "_law_name", "_law_more"] [true, true, false, false, true] Lw.m_law_is_broken) (D_law_margin : Dx P w K mg base ca "_law_margin" 2 ["_law_suits_here", "_law_told", "_law_case", "_law_more"] [true, true, false, true] Lw.m_law_margin_v2) (D_law_least : Dx P w K mg base ca "_law_least" 1 ["_law_offers", "_law_goal"] [true, false] Lw.m_law_least) (z_range : mg "range" = none) (z_len : mg "len" = none) : FnOk P w K mg base (L2.CX P w) 3 f fd ["_law_suits_here", "_law_told", "_law_prices", "_law_case"] (VSp K ca [true, true, true, false] Lw.m_law_price) := by
  refine vf_of (k := 2) F sc_law_price rfl (by decide) fun cdv A outer s H E vs hr B => ?_
  have tk : Takes (ctOf P w K mg base ca N_law_price "_law_price" (defScope s_law_price) f cdv A outer s H E [true, true, true, false] vs B).X _ := takes_of rfl rfl rfl rfl
  exact (jb_cons (js_asg (jg_tup rfl (jgs_cons (jg_name 4 (by intro h; cases h) (pg_name (i := 4) sc_law_price.nd rfl (by first | exact Or.inl rfl | exact Or.inr rfl))) (jgs_cons (jg_name 5 (by intro h; cases h) (pg_name (i := 5) sc_law_price.nd rfl (by first | exact Or.inl rfl | exact Or.inr rfl))) (jgs_cons (jg_name 6 (by intro h; cases h) (pg_name (i := 6) sc_law_price.nd rfl (by first | exact Or.inl rfl | exact Or.inr rfl))) (jgs_cons (jg_name 7 (by intro h; cases h) (pg_name (i := 7) sc_law_price.nd rfl (by first | exact Or.inl rfl | exact Or.inr rfl))) jgs_nil))))) (jd_ixP 0 (pv 0) (jd_var 3 (pv 3))))
    (jb_cons (js_set 8 sc_law_price.nd rfl (by first | exact Or.inl rfl | exact Or.inr rfl) (by intro h; cases h) (je_lst ja_nil))
    (jb_cons (js_for PassesOwn.leaving rfl (ji_any (jd_fz (je_add (jd_var 4 (pv 4)) (jd_var 5 (pv 5))))) (jg_tup rfl (jgs_cons (jg_name 9 (by intro h; cases h) (pg_name (i := 9) sc_law_price.nd rfl (by first | exact Or.inl rfl | exact Or.inr rfl))) (jgs_cons (jg_name 10 (by intro h; cases h) (pg_name (i := 10) sc_law_price.nd rfl (by first | exact Or.inl rfl | exact Or.inr rfl))) jgs_nil))) (jb_cons (js_set 11 sc_law_price.nd rfl (by first | exact Or.inl rfl | exact Or.inr rfl) (by intro h; cases h) (je_d (jd_cmpN (cv_eq hr) (jv_d (jd_cmpN (cv_in hr) (jv_var 9 (pv 9)) (jv_d (jd_fz (je_lc (own := [("_law_one", 16), ("_law_other", 17)]) rfl sc_law_price.nd (ji_any (jd_var 4 (pv 4))) (blkOk_by (own := [("_law_one", 16), ("_law_other", 17)]) (N := N_law_price) (sc := defScope s_law_price) (by decide +kernel)) (fun _ => (jg_tup rfl (jgs_cons (jg_name 16 (by intro h; cases h) (pg_name (i := 16) sc_law_price.nd rfl (by first | exact Or.inl rfl | exact Or.inr rfl))) (jgs_cons (jg_name 17 (by intro h; cases h) (pg_name (i := 17) sc_law_price.nd rfl (by first | exact Or.inl rfl | exact Or.inr rfl))) jgs_nil)))) (by decide) (by intro k hk; simp only [List.map_cons, List.map_nil, List.mem_cons, List.not_mem_nil, or_false] at hk; rcases hk with rfl | rfl <;> (intro h; cases h)) (fun _ => jts_nil) (fun _ => (jd_var 16 (pv 16)))))) rfl)) (jv_d (jd_ixP 1 (pv 1) (jd_var 3 (pv 3)))) (nomark _))))
    (jb_cons (js_set 12 sc_law_price.nd rfl (by first | exact Or.inl rfl | exact Or.inr rfl) (by intro h; cases h) (je_dxT D_law_is_broken hr (by decide) tk (by rfl) (jart_r 0 (pv 0) (jart_r 1 (pv 1) (jart_d (jd_var 3 (pv 3)) (jart_d (jd_var 9 (pv 9)) (jart_one (je_lst ja_nil))))))))
    (jb_one (js_if (jt_w (jw_or (jt_w (jw_and (jt_val (jd_var 11 (pv 11))) (jw_and1 (jt_not (jt_val (jd_var 12 (pv 12))))))) (jw_or1 (jt_w (jw_and (jt_not (jt_val (jd_var 11 (pv 11)))) (jw_and1 (jt_val (jd_var 12 (pv 12))))))))) (jb_cons (js_set 13 sc_law_price.nd rfl (by first | exact Or.inl rfl | exact Or.inr rfl) (by intro h; cases h) (je_d jd_int))
    (jb_cons (js_if (jt_val (jd_var 12 (pv 12))) (jb_cons (js_set 13 sc_law_price.nd rfl (by first | exact Or.inl rfl | exact Or.inr rfl) (by intro h; cases h) (je_d jd_int))
    (jb_one (js_for PassesOwn.leaving rfl (ji_range2 (by rfl) z_range (ja_cons (jd_fz (je_add (jd_var 3 (pv 3)) jd_int)) (ja_cons (jd_len (by rfl) z_len (jv_var 0 (pv 0))) ja_nil))) (jg_name 14 (by intro h; cases h) (pg_name (i := 14) sc_law_price.nd rfl (by first | exact Or.inl rfl | exact Or.inr rfl))) (jb_one (js_if (jt_w (jw_and (jt_val (jd_ixP 1 (pv 1) (jd_var 14 (pv 14)))) (jw_and1 (jt_cmpN (cv_eq hr) (jv_d (jd_ix (jd_ixP 0 (pv 0) (jd_var 14 (pv 14))) jd_int)) (jv_d (jd_tup (ja_cons (jd_var 3 (pv 3)) (ja_cons (jd_var 9 (pv 9)) ja_nil)))) (nomark _))))) (jb_one (js_set 13 sc_law_price.nd rfl (by first | exact Or.inl rfl | exact Or.inr rfl) (by intro h; cases h) (je_add (jd_var 13 (pv 13)) (jd_ixP 2 (pv 2) (jd_var 14 (pv 14)))))) jb_nil))))) jb_nil)
    (jb_one (js_expr (je_append 8 (pv 8) (jd_tup (ja_cons (jd_var 13 (pv 13)) (ja_cons (jd_var 10 (pv 10)) ja_nil)))))))) jb_nil)))))
    (jb_cons (js_set 15 sc_law_price.nd rfl (by first | exact Or.inl rfl | exact Or.inr rfl) (by intro h; cases h) (je_dxT D_law_margin hr (by decide) tk (by rfl) (jart_r 0 (pv 0) (jart_r 1 (pv 1) (jart_d (jd_var 3 (pv 3)) (jart_one (je_lst ja_nil)))))))
    (jb_cons (js_if (jt_val (jd_ixP 1 (pv 1) (jd_var 3 (pv 3)))) (jb_one (js_ret (je_dx D_law_least hr (by decide) tk (by rfl) (jar_r 8 (pv 8) (jar_d (jd_fz (je_add (jd_var 15 (pv 15)) jd_int)) jar_nil))))) jb_nil)
    (jb_one (js_ret (je_dx D_law_least hr (by decide) tk (by rfl) (jar_r 8 (pv 8) (jar_d (jd_sub jd_int (jd_var 15 (pv 15))) jar_nil))))))))))
theorem ok_law {f : Addr} {fd : FuncData} (F : Fun K "law" "law" s_law f fd) (D_law_src : Dx P w K mg base ca "_law_src" 1 ["_law_script"] [true] Lw.m_law_src) (D_law_light : Dx P w K mg base ca "_law_light" 1 ["_law_suits_here"] [false] Lw.m_law_light) (D_law_suits : Dx P w K mg base ca "_law_suits" 4 ["_law_src_here", "_law_many", "_law_most"] [true, false, false] Lw.m_law_suits) (D_law_next : Dx P w K mg base ca "_law_next" 1 ["_law_src_here", "_law_base"] [true, false] Lw.m_law_next) (D_law_settle : Dx P w K mg base ca "_law_settle" 3 ["_law_suits_here", "_law_more"] [true, false] Lw.m_law_settle) (D_law_oaths : Dx P w K mg base ca "_law_oaths" 1 ["_law_suits_here"] [true] Lw.m_law_oaths) (D_law_price : Dx P w K mg base ca "_law_price" 3 ["_law_suits_here", "_law_told", "_law_prices", "_law_case"] [true, true, true, false] Lw.m_law_price) (D_fewest : Dx P w K mg base ca "fewest" 5 ["suits", "case"] [true, false] Lw.m_fewest) (D_law_pairs_fit : Dx P w K mg base ca "_law_pairs_fit" 1 ["_law_found", "_law_oaths_here"] [false, false] Lw.m_law_pairs_fit) (z_len : mg "len" = none) (z_reversed : mg "reversed" = none) (z_range : mg "range" = none) : FnOk P w K mg base (L2.CX P w) 6 f fd ["_law_script"] (VSp K ca [true] Lw.m_main_k19) := by
  refine vf_of (k := 5) F sc_law rfl (by decide) fun cdv A outer s H E vs hr B => ?_
  have tk : Takes (ctOf P w K mg base ca N_law "law" (defScope s_law) f cdv A outer s H E [true] vs B).X _ := takes_of rfl rfl rfl rfl
  exact (jb_cons (js_set 1 sc_law.nd rfl (by first | exact Or.inl rfl | exact Or.inr rfl) (by intro h; cases h) (je_dx D_law_src hr (by decide) tk (by rfl) (jar_r 0 (pv 0) jar_nil)))
    (jb_cons (js_set 2 sc_law.nd rfl (by first | exact Or.inl rfl | exact Or.inr rfl) (by intro h; cases h) (je_dx D_law_light hr (by decide) tk (by rfl) (jar_d (jd_fz (je_dx D_law_suits hr (by decide) tk (by rfl) (jar_r 1 (pv 1) (jar_d (jd_fz (je_add jd_int (jd_fz (je_dx D_law_next hr (by decide) tk (by rfl) (jar_r 1 (pv 1) (jar_d jd_int jar_nil)))))) (jar_d jd_int jar_nil))))) jar_nil)))
    (jb_cons (js_set 3 sc_law.nd rfl (by first | exact Or.inl rfl | exact Or.inr rfl) (by intro h; cases h) (je_d (jd_fz (je_dx D_law_settle hr (by decide) tk (by rfl) (jar_r 2 (pv 2) (jar_d (jd_fz (je_lst ja_nil)) jar_nil))))))
    (jb_cons (js_set 4 sc_law.nd rfl (by first | exact Or.inl rfl | exact Or.inr rfl) (by intro h; cases h) (je_d (jd_fz (je_dx D_law_oaths hr (by decide) tk (by rfl) (jar_r 2 (pv 2) jar_nil)))))
    (jb_cons (js_set 5 sc_law.nd rfl (by first | exact Or.inl rfl | exact Or.inr rfl) (by intro h; cases h) (je_mul (jd_fz (je_lst (ja_cons jd_non ja_nil))) (jd_len (by rfl) z_len (jv_var 2 (pv 2)))))
    (jb_cons (js_for PassesOwn.leaving rfl (ji_revrange (by rfl) z_reversed (by rfl) z_range (jd_len (by rfl) z_len (jv_var 2 (pv 2)))) (jg_name 6 (by intro h; cases h) (pg_name (i := 6) sc_law.nd rfl (by first | exact Or.inl rfl | exact Or.inr rfl))) (jb_cons (js_setIx 5 (pv 5) (jd_var 6 (pv 6)) (jd_fz (je_dx D_law_price hr (by decide) tk (by rfl) (jar_r 2 (pv 2) (jar_r 3 (pv 3) (jar_r 5 (pv 5) (jar_d (jd_var 6 (pv 6)) jar_nil)))))))
    (jb_cons (js_set 7 sc_law.nd rfl (by first | exact Or.inl rfl | exact Or.inr rfl) (by intro h; cases h) (je_dx D_fewest hr (by decide) tk (by rfl) (jar_r 2 (pv 2) (jar_d (jd_var 6 (pv 6)) jar_nil))))
    (jb_one (js_if (jt_w (jw_or (jt_cmpN cv_is (jv_d (jd_ixP 5 (pv 5) (jd_var 6 (pv 6)))) (jv_d jd_non) (nomark _)) (jw_or1 (jt_cmpN cv_is (jv_var 7 (pv 7)) (jv_d jd_non) (nomark _))))) (jb_one (js_if (jt_w (jw_or (jt_cmpN cv_isN (jv_d (jd_ixP 5 (pv 5) (jd_var 6 (pv 6)))) (jv_d jd_non) (nomark _)) (jw_or1 (jt_cmpN cv_isN (jv_var 7 (pv 7)) (jv_d jd_non) (nomark _))))) (jb_one (js_ret (je_d jd_bl))) jb_nil)) (jb_one (js_if (jt_w (jw_or (jt_not (jt_val (jd_fz (je_dx D_law_pairs_fit hr (by decide) tk (by rfl) (jar_d (jd_var 7 (pv 7)) (jar_d (jd_var 4 (pv 4)) jar_nil)))))) (jw_or1 (jt_cmpN (cv_ne hr) (jv_d (jd_len (by rfl) z_len (jv_var 7 (pv 7)))) (jv_d (jd_ixP 5 (pv 5) (jd_var 6 (pv 6)))) (nomark _))))) (jb_one (js_ret (je_d jd_bl))) (jb_one (js_if (jt_cmpN (cv_eq hr) (jv_d (jd_ix (jd_fz (je_dx D_law_settle hr (by decide) tk (by rfl) (jar_r 2 (pv 2) (jar_d (jd_var 7 (pv 7)) jar_nil)))) (jd_var 6 (pv 6)))) (jv_d (jd_ixP 3 (pv 3) (jd_var 6 (pv 6)))) (nomark _)) (jb_one (js_ret (je_d jd_bl))) jb_nil)))))))))
    (jb_one (js_ret (je_d jd_bl)))))))))
end
end Tx

namespace Tx
open PySem PySem.Spec PyProof.Rows L2 VS
theorem all_mk {l : PySem.W.OpenLaw} {w : World} {K : PySem.W.Frag} {h : Heap} {mg : Str → Option Value} {fa : Addr} (X : K.In h) (G : h.Ns mainGlobals mg) (hfa : mg "law" = some (.ref fa))
    {f0 : Addr} {od0 an0 : Option Addr} {sl0 : Array (Option Value)} {oc0 kV0 dc0 pm0 cd0 ct0 : Value}
    {f1 : Addr} {od1 an1 : Option Addr} {sl1 : Array (Option Value)} {oc1 kV1 dc1 pm1 cd1 ct1 : Value}
    {f2 : Addr} {od2 an2 : Option Addr} {sl2 : Array (Option Value)} {oc2 kV2 dc2 pm2 cd2 ct2 : Value}
    {f3 : Addr} {od3 an3 : Option Addr} {sl3 : Array (Option Value)} {oc3 kV3 dc3 pm3 cd3 ct3 : Value}
    {f4 : Addr} {od4 an4 : Option Addr} {sl4 : Array (Option Value)} {oc4 kV4 dc4 pm4 cd4 ct4 : Value}
    {f5 : Addr} {od5 an5 : Option Addr} {sl5 : Array (Option Value)} {oc5 kV5 dc5 pm5 cd5 ct5 : Value}
    {f6 : Addr} {od6 an6 : Option Addr} {sl6 : Array (Option Value)} {oc6 kV6 dc6 pm6 cd6 ct6 : Value}
    {f7 : Addr} {od7 an7 : Option Addr} {sl7 : Array (Option Value)} {oc7 kV7 dc7 pm7 cd7 ct7 : Value}
    {f8 : Addr} {od8 an8 : Option Addr} {sl8 : Array (Option Value)} {oc8 kV8 dc8 pm8 cd8 ct8 : Value}
    {f9 : Addr} {od9 an9 : Option Addr} {sl9 : Array (Option Value)} {oc9 kV9 dc9 pm9 cd9 ct9 : Value}
    {f10 : Addr} {od10 an10 : Option Addr} {sl10 : Array (Option Value)} {oc10 kV10 dc10 pm10 cd10 ct10 : Value}
    {f11 : Addr} {od11 an11 : Option Addr} {sl11 : Array (Option Value)} {oc11 kV11 dc11 pm11 cd11 ct11 : Value}
    {f12 : Addr} {od12 an12 : Option Addr} {sl12 : Array (Option Value)} {oc12 kV12 dc12 pm12 cd12 ct12 : Value}
    {f13 : Addr} {od13 an13 : Option Addr} {sl13 : Array (Option Value)} {oc13 kV13 dc13 pm13 cd13 ct13 : Value}
    {f14 : Addr} {od14 an14 : Option Addr} {sl14 : Array (Option Value)} {oc14 kV14 dc14 pm14 cd14 ct14 : Value}
    {f15 : Addr} {od15 an15 : Option Addr} {sl15 : Array (Option Value)} {oc15 kV15 dc15 pm15 cd15 ct15 : Value}
    {f16 : Addr} {od16 an16 : Option Addr} {sl16 : Array (Option Value)} {oc16 kV16 dc16 pm16 cd16 ct16 : Value}
    {f17 : Addr} {od17 an17 : Option Addr} {sl17 : Array (Option Value)} {oc17 kV17 dc17 pm17 cd17 ct17 : Value}
    {f18 : Addr} {od18 an18 : Option Addr} {sl18 : Array (Option Value)} {oc18 kV18 dc18 pm18 cd18 ct18 : Value}
    {f19 : Addr} {od19 an19 : Option Addr} {sl19 : Array (Option Value)} {oc19 kV19 dc19 pm19 cd19 ct19 : Value}
    {f20 : Addr} {od20 an20 : Option Addr} {sl20 : Array (Option Value)} {oc20 kV20 dc20 pm20 cd20 ct20 : Value}
    {f21 : Addr} {od21 an21 : Option Addr} {sl21 : Array (Option Value)} {oc21 kV21 dc21 pm21 cd21 ct21 : Value}
    {f22 : Addr} {od22 an22 : Option Addr} {sl22 : Array (Option Value)} {oc22 kV22 dc22 pm22 cd22 ct22 : Value}
    {f23 : Addr} {od23 an23 : Option Addr} {sl23 : Array (Option Value)} {oc23 kV23 dc23 pm23 cd23 ct23 : Value}
    {f24 : Addr} {od24 an24 : Option Addr} {sl24 : Array (Option Value)} {oc24 kV24 dc24 pm24 cd24 ct24 : Value}
    {f25 : Addr} {od25 an25 : Option Addr} {sl25 : Array (Option Value)} {oc25 kV25 dc25 pm25 cd25 ct25 : Value}
    {f26 : Addr} {od26 an26 : Option Addr} {sl26 : Array (Option Value)} {oc26 kV26 dc26 pm26 cd26 ct26 : Value}
    {f27 : Addr} {od27 an27 : Option Addr} {sl27 : Array (Option Value)} {oc27 kV27 dc27 pm27 cd27 ct27 : Value}
    {f28 : Addr} {od28 an28 : Option Addr} {sl28 : Array (Option Value)} {oc28 kV28 dc28 pm28 cd28 ct28 : Value}
    {f29 : Addr} {od29 an29 : Option Addr} {sl29 : Array (Option Value)} {oc29 kV29 dc29 pm29 cd29 ct29 : Value}
    {f30 : Addr} {od30 an30 : Option Addr} {sl30 : Array (Option Value)} {oc30 kV30 dc30 pm30 cd30 ct30 : Value}
    {f31 : Addr} {od31 an31 : Option Addr} {sl31 : Array (Option Value)} {oc31 kV31 dc31 pm31 cd31 ct31 : Value}
    (a0 : PySem.W.nsIn K mainGlobals "total" = some (some (.ref f0))) (l0 : K.lookup f0 = some ⟨oc0, od0, .func (PySem.W.fnOf "total" "total" (defArgs s_total) (defBody s_total) (defScope s_total) .none kV0 dc0 pm0 an0 cd0 ct0), sl0⟩) (c0 : PySem.W.codeIn K cd0 "total" = true) (k0 : PySem.W.keepIn K (.ref f0) = true)
    (a1 : PySem.W.nsIn K mainGlobals "better" = some (some (.ref f1))) (l1 : K.lookup f1 = some ⟨oc1, od1, .func (PySem.W.fnOf "better" "better" (defArgs s_better) (defBody s_better) (defScope s_better) .none kV1 dc1 pm1 an1 cd1 ct1), sl1⟩) (c1 : PySem.W.codeIn K cd1 "better" = true) (k1 : PySem.W.keepIn K (.ref f1) = true)
    (a2 : PySem.W.nsIn K mainGlobals "cheapest" = some (some (.ref f2))) (l2 : K.lookup f2 = some ⟨oc2, od2, .func (PySem.W.fnOf "cheapest" "cheapest" (defArgs s_cheapest) (defBody s_cheapest) (defScope s_cheapest) .none kV2 dc2 pm2 an2 cd2 ct2), sl2⟩) (c2 : PySem.W.codeIn K cd2 "cheapest" = true) (k2 : PySem.W.keepIn K (.ref f2) = true)
    (a3 : PySem.W.nsIn K mainGlobals "there" = some (some (.ref f3))) (l3 : K.lookup f3 = some ⟨oc3, od3, .func (PySem.W.fnOf "there" "there" (defArgs s_there) (defBody s_there) (defScope s_there) .none kV3 dc3 pm3 an3 cd3 ct3), sl3⟩) (c3 : PySem.W.codeIn K cd3 "there" = true) (k3 : PySem.W.keepIn K (.ref f3) = true)
    (a4 : PySem.W.nsIn K mainGlobals "kept_weight" = some (some (.ref f4))) (l4 : K.lookup f4 = some ⟨oc4, od4, .func (PySem.W.fnOf "kept_weight" "kept_weight" (defArgs s_kept_weight) (defBody s_kept_weight) (defScope s_kept_weight) .none kV4 dc4 pm4 an4 cd4 ct4), sl4⟩) (c4 : PySem.W.codeIn K cd4 "kept_weight" = true) (k4 : PySem.W.keepIn K (.ref f4) = true)
    (a5 : PySem.W.nsIn K mainGlobals "margin_by" = some (some (.ref f5))) (l5 : K.lookup f5 = some ⟨oc5, od5, .func (PySem.W.fnOf "margin_by" "margin_by" (defArgs s_margin_by) (defBody s_margin_by) (defScope s_margin_by) .none kV5 dc5 pm5 an5 cd5 ct5), sl5⟩) (c5 : PySem.W.codeIn K cd5 "margin_by" = true) (k5 : PySem.W.keepIn K (.ref f5) = true)
    (a6 : PySem.W.nsIn K mainGlobals "settle" = some (some (.ref f6))) (l6 : K.lookup f6 = some ⟨oc6, od6, .func (PySem.W.fnOf "settle" "settle" (defArgs s_settle) (defBody s_settle) (defScope s_settle) .none kV6 dc6 pm6 an6 cd6 ct6), sl6⟩) (c6 : PySem.W.codeIn K cd6 "settle" = true) (k6 : PySem.W.keepIn K (.ref f6) = true)
    (a7 : PySem.W.nsIn K mainGlobals "naming" = some (some (.ref f7))) (l7 : K.lookup f7 = some ⟨oc7, od7, .func (PySem.W.fnOf "naming" "naming" (defArgs s_naming) (defBody s_naming) (defScope s_naming) .none kV7 dc7 pm7 an7 cd7 ct7), sl7⟩) (c7 : PySem.W.codeIn K cd7 "naming" = true) (k7 : PySem.W.keepIn K (.ref f7) = true)
    (a8 : PySem.W.nsIn K mainGlobals "claims" = some (some (.ref f8))) (l8 : K.lookup f8 = some ⟨oc8, od8, .func (PySem.W.fnOf "claims" "claims" (defArgs s_claims) (defBody s_claims) (defScope s_claims) .none kV8 dc8 pm8 an8 cd8 ct8), sl8⟩) (c8 : PySem.W.codeIn K cd8 "claims" = true) (k8 : PySem.W.keepIn K (.ref f8) = true)
    (a9 : PySem.W.nsIn K mainGlobals "oath_plan" = some (some (.ref f9))) (l9 : K.lookup f9 = some ⟨oc9, od9, .func (PySem.W.fnOf "oath_plan" "oath_plan" (defArgs s_oath_plan) (defBody s_oath_plan) (defScope s_oath_plan) .none kV9 dc9 pm9 an9 cd9 ct9), sl9⟩) (c9 : PySem.W.codeIn K cd9 "oath_plan" = true) (k9 : PySem.W.keepIn K (.ref f9) = true)
    (a10 : PySem.W.nsIn K mainGlobals "case_plan" = some (some (.ref f10))) (l10 : K.lookup f10 = some ⟨oc10, od10, .func (PySem.W.fnOf "case_plan" "case_plan" (defArgs s_case_plan) (defBody s_case_plan) (defScope s_case_plan) .none kV10 dc10 pm10 an10 cd10 ct10), sl10⟩) (c10 : PySem.W.codeIn K cd10 "case_plan" = true) (k10 : PySem.W.keepIn K (.ref f10) = true)
    (a11 : PySem.W.nsIn K mainGlobals "fewest" = some (some (.ref f11))) (l11 : K.lookup f11 = some ⟨oc11, od11, .func (PySem.W.fnOf "fewest" "fewest" (defArgs s_fewest) (defBody s_fewest) (defScope s_fewest) .none kV11 dc11 pm11 an11 cd11 ct11), sl11⟩) (c11 : PySem.W.codeIn K cd11 "fewest" = true) (k11 : PySem.W.keepIn K (.ref f11) = true)
    (a12 : PySem.W.nsIn K mainGlobals "_law_src" = some (some (.ref f12))) (l12 : K.lookup f12 = some ⟨oc12, od12, .func (PySem.W.fnOf "_law_src" "_law_src" (defArgs s_law_src) (defBody s_law_src) (defScope s_law_src) .none kV12 dc12 pm12 an12 cd12 ct12), sl12⟩) (c12 : PySem.W.codeIn K cd12 "_law_src" = true) (k12 : PySem.W.keepIn K (.ref f12) = true)
    (a13 : PySem.W.nsIn K mainGlobals "_law_next" = some (some (.ref f13))) (l13 : K.lookup f13 = some ⟨oc13, od13, .func (PySem.W.fnOf "_law_next" "_law_next" (defArgs s_law_next) (defBody s_law_next) (defScope s_law_next) .none kV13 dc13 pm13 an13 cd13 ct13), sl13⟩) (c13 : PySem.W.codeIn K cd13 "_law_next" = true) (k13 : PySem.W.keepIn K (.ref f13) = true)
    (a14 : PySem.W.nsIn K mainGlobals "_law_unlike" = some (some (.ref f14))) (l14 : K.lookup f14 = some ⟨oc14, od14, .func (PySem.W.fnOf "_law_unlike" "_law_unlike" (defArgs s_law_unlike) (defBody s_law_unlike) (defScope s_law_unlike) .none kV14 dc14 pm14 an14 cd14 ct14), sl14⟩) (c14 : PySem.W.codeIn K cd14 "_law_unlike" = true) (k14 : PySem.W.keepIn K (.ref f14) = true)
    (a15 : PySem.W.nsIn K mainGlobals "_law_word" = some (some (.ref f15))) (l15 : K.lookup f15 = some ⟨oc15, od15, .func (PySem.W.fnOf "_law_word" "_law_word" (defArgs s_law_word) (defBody s_law_word) (defScope s_law_word) .none kV15 dc15 pm15 an15 cd15 ct15), sl15⟩) (c15 : PySem.W.codeIn K cd15 "_law_word" = true) (k15 : PySem.W.keepIn K (.ref f15) = true)
    (a16 : PySem.W.nsIn K mainGlobals "_law_names" = some (some (.ref f16))) (l16 : K.lookup f16 = some ⟨oc16, od16, .func (PySem.W.fnOf "_law_names" "_law_names" (defArgs s_law_names) (defBody s_law_names) (defScope s_law_names) .none kV16 dc16 pm16 an16 cd16 ct16), sl16⟩) (c16 : PySem.W.codeIn K cd16 "_law_names" = true) (k16 : PySem.W.keepIn K (.ref f16) = true)
    (a17 : PySem.W.nsIn K mainGlobals "_law_weight" = some (some (.ref f17))) (l17 : K.lookup f17 = some ⟨oc17, od17, .func (PySem.W.fnOf "_law_weight" "_law_weight" (defArgs s_law_weight) (defBody s_law_weight) (defScope s_law_weight) .none kV17 dc17 pm17 an17 cd17 ct17), sl17⟩) (c17 : PySem.W.codeIn K cd17 "_law_weight" = true) (k17 : PySem.W.keepIn K (.ref f17) = true)
    (a18 : PySem.W.nsIn K mainGlobals "_law_total" = some (some (.ref f18))) (l18 : K.lookup f18 = some ⟨oc18, od18, .func (PySem.W.fnOf "_law_total" "_law_total" (defArgs s_law_total) (defBody s_law_total) (defScope s_law_total) .none kV18 dc18 pm18 an18 cd18 ct18), sl18⟩) (c18 : PySem.W.codeIn K cd18 "_law_total" = true) (k18 : PySem.W.keepIn K (.ref f18) = true)
    (a19 : PySem.W.nsIn K mainGlobals "_law_side" = some (some (.ref f19))) (l19 : K.lookup f19 = some ⟨oc19, od19, .func (PySem.W.fnOf "_law_side" "_law_side" (defArgs s_law_side) (defBody s_law_side) (defScope s_law_side) .none kV19 dc19 pm19 an19 cd19 ct19), sl19⟩) (c19 : PySem.W.codeIn K cd19 "_law_side" = true) (k19 : PySem.W.keepIn K (.ref f19) = true)
    (a20 : PySem.W.nsIn K mainGlobals "_law_need" = some (some (.ref f20))) (l20 : K.lookup f20 = some ⟨oc20, od20, .func (PySem.W.fnOf "_law_need" "_law_need" (defArgs s_law_need) (defBody s_law_need) (defScope s_law_need) .none kV20 dc20 pm20 an20 cd20 ct20), sl20⟩) (c20 : PySem.W.codeIn K cd20 "_law_need" = true) (k20 : PySem.W.keepIn K (.ref f20) = true)
    (a21 : PySem.W.nsIn K mainGlobals "_law_named" = some (some (.ref f21))) (l21 : K.lookup f21 = some ⟨oc21, od21, .func (PySem.W.fnOf "_law_named" "_law_named" (defArgs s_law_named) (defBody s_law_named) (defScope s_law_named) .none kV21 dc21 pm21 an21 cd21 ct21), sl21⟩) (c21 : PySem.W.codeIn K cd21 "_law_named" = true) (k21 : PySem.W.keepIn K (.ref f21) = true)
    (a22 : PySem.W.nsIn K mainGlobals "_law_suits" = some (some (.ref f22))) (l22 : K.lookup f22 = some ⟨oc22, od22, .func (PySem.W.fnOf "_law_suits" "_law_suits" (defArgs s_law_suits) (defBody s_law_suits) (defScope s_law_suits) .none kV22 dc22 pm22 an22 cd22 ct22), sl22⟩) (c22 : PySem.W.codeIn K cd22 "_law_suits" = true) (k22 : PySem.W.keepIn K (.ref f22) = true)
    (a23 : PySem.W.nsIn K mainGlobals "_law_is_broken" = some (some (.ref f23))) (l23 : K.lookup f23 = some ⟨oc23, od23, .func (PySem.W.fnOf "_law_is_broken" "_law_is_broken" (defArgs s_law_is_broken) (defBody s_law_is_broken) (defScope s_law_is_broken) .none kV23 dc23 pm23 an23 cd23 ct23), sl23⟩) (c23 : PySem.W.codeIn K cd23 "_law_is_broken" = true) (k23 : PySem.W.keepIn K (.ref f23) = true)
    (a24 : PySem.W.nsIn K mainGlobals "_law_margin" = some (some (.ref f24))) (l24 : K.lookup f24 = some ⟨oc24, od24, .func (PySem.W.fnOf "_law_margin" "_law_margin" (defArgs s_law_margin) (defBody s_law_margin) (defScope s_law_margin) .none kV24 dc24 pm24 an24 cd24 ct24), sl24⟩) (c24 : PySem.W.codeIn K cd24 "_law_margin" = true) (k24 : PySem.W.keepIn K (.ref f24) = true)
    (a25 : PySem.W.nsIn K mainGlobals "_law_settle" = some (some (.ref f25))) (l25 : K.lookup f25 = some ⟨oc25, od25, .func (PySem.W.fnOf "_law_settle" "_law_settle" (defArgs s_law_settle) (defBody s_law_settle) (defScope s_law_settle) .none kV25 dc25 pm25 an25 cd25 ct25), sl25⟩) (c25 : PySem.W.codeIn K cd25 "_law_settle" = true) (k25 : PySem.W.keepIn K (.ref f25) = true)
    (a26 : PySem.W.nsIn K mainGlobals "_law_oaths" = some (some (.ref f26))) (l26 : K.lookup f26 = some ⟨oc26, od26, .func (PySem.W.fnOf "_law_oaths" "_law_oaths" (defArgs s_law_oaths) (defBody s_law_oaths) (defScope s_law_oaths) .none kV26 dc26 pm26 an26 cd26 ct26), sl26⟩) (c26 : PySem.W.codeIn K cd26 "_law_oaths" = true) (k26 : PySem.W.keepIn K (.ref f26) = true)
    (a27 : PySem.W.nsIn K mainGlobals "_law_pairs_fit" = some (some (.ref f27))) (l27 : K.lookup f27 = some ⟨oc27, od27, .func (PySem.W.fnOf "_law_pairs_fit" "_law_pairs_fit" (defArgs s_law_pairs_fit) (defBody s_law_pairs_fit) (defScope s_law_pairs_fit) .none kV27 dc27 pm27 an27 cd27 ct27), sl27⟩) (c27 : PySem.W.codeIn K cd27 "_law_pairs_fit" = true) (k27 : PySem.W.keepIn K (.ref f27) = true)
    (a28 : PySem.W.nsIn K mainGlobals "_law_light" = some (some (.ref f28))) (l28 : K.lookup f28 = some ⟨oc28, od28, .func (PySem.W.fnOf "_law_light" "_law_light" (defArgs s_law_light) (defBody s_law_light) (defScope s_law_light) .none kV28 dc28 pm28 an28 cd28 ct28), sl28⟩) (c28 : PySem.W.codeIn K cd28 "_law_light" = true) (k28 : PySem.W.keepIn K (.ref f28) = true)
    (a29 : PySem.W.nsIn K mainGlobals "_law_least" = some (some (.ref f29))) (l29 : K.lookup f29 = some ⟨oc29, od29, .func (PySem.W.fnOf "_law_least" "_law_least" (defArgs s_law_least) (defBody s_law_least) (defScope s_law_least) .none kV29 dc29 pm29 an29 cd29 ct29), sl29⟩) (c29 : PySem.W.codeIn K cd29 "_law_least" = true) (k29 : PySem.W.keepIn K (.ref f29) = true)
    (a30 : PySem.W.nsIn K mainGlobals "_law_price" = some (some (.ref f30))) (l30 : K.lookup f30 = some ⟨oc30, od30, .func (PySem.W.fnOf "_law_price" "_law_price" (defArgs s_law_price) (defBody s_law_price) (defScope s_law_price) .none kV30 dc30 pm30 an30 cd30 ct30), sl30⟩) (c30 : PySem.W.codeIn K cd30 "_law_price" = true) (k30 : PySem.W.keepIn K (.ref f30) = true)
    (a31 : PySem.W.nsIn K mainGlobals "law" = some (some (.ref f31))) (l31 : K.lookup f31 = some ⟨oc31, od31, .func (PySem.W.fnOf "law" "law" (defArgs s_law) (defBody s_law) (defScope s_law) .none kV31 dc31 pm31 an31 cd31 ct31), sl31⟩) (c31 : PySem.W.codeIn K cd31 "law" = true) (k31 : PySem.W.keepIn K (.ref f31) = true)
    (y_sum : PySem.W.nsIn K mainGlobals "sum" = some none)
    (y_enumerate : PySem.W.nsIn K mainGlobals "enumerate" = some none)
    (y_dict : PySem.W.nsIn K mainGlobals "dict" = some none)
    (y_sorted : PySem.W.nsIn K mainGlobals "sorted" = some none)
    (y_len : PySem.W.nsIn K mainGlobals "len" = some none)
    (y_reversed : PySem.W.nsIn K mainGlobals "reversed" = some none)
    (y_range : PySem.W.nsIn K mainGlobals "range" = some none)
    (y_list : PySem.W.nsIn K mainGlobals "list" = some none)
    (y_min : PySem.W.nsIn K mainGlobals "min" = some none)
    (y_max : PySem.W.nsIn K mainGlobals "max" = some none)
    (y_isinstance : PySem.W.nsIn K mainGlobals "isinstance" = some none)
    (y_tuple : PySem.W.nsIn K mainGlobals "tuple" = some none)
    : ∃ fd : FuncData, (∀ (s : Shared) (v : Value), BindsTo s fd ⟨[v], []⟩ [("_law_script", v)]) ∧ ∀ base : Heap, K.In base → base.Ns mainGlobals mg → FnOk l.prog w K mg base (L2.CX l.prog w) 6 fa fd ["_law_script"] (VSp K (fun _ => 0) [true] Lw.m_main_k19) := by
  have e := hfa.symm.trans (PySem.W.mg_of X G a31)
  cases e
  have z_sum := PySem.W.mg_none_of X G y_sum
  have z_enumerate := PySem.W.mg_none_of X G y_enumerate
  have z_dict := PySem.W.mg_none_of X G y_dict
  have z_sorted := PySem.W.mg_none_of X G y_sorted
  have z_len := PySem.W.mg_none_of X G y_len
  have z_reversed := PySem.W.mg_none_of X G y_reversed
  have z_range := PySem.W.mg_none_of X G y_range
  have z_list := PySem.W.mg_none_of X G y_list
  have z_min := PySem.W.mg_none_of X G y_min
  have z_max := PySem.W.mg_none_of X G y_max
  have z_isinstance := PySem.W.mg_none_of X G y_isinstance
  have z_tuple := PySem.W.mg_none_of X G y_tuple
  have F0 := fun_mk (st := s_total) l0 c0 k0
  have b0 := F0.binds (ps := ["side"]) fun _ _ _ _ _ _ us hl => match us, hl with | [_], _ => rfl
  have F1 := fun_mk (st := s_better) l1 c1 k1
  have b1 := F1.binds (ps := ["table", "cost", "gain"]) fun _ _ _ _ _ _ us hl => match us, hl with | [_, _, _], _ => rfl
  have F2 := fun_mk (st := s_cheapest) l2 c2 k2
  have b2 := F2.binds (ps := ["offers", "goal"]) fun _ _ _ _ _ _ us hl => match us, hl with | [_, _], _ => rfl
  have F3 := fun_mk (st := s_there) l3 c3 k3
  have b3 := F3.binds (ps := ["suits", "case"]) fun _ _ _ _ _ _ us hl => match us, hl with | [_, _], _ => rfl
  have F4 := fun_mk (st := s_kept_weight) l4 c4 k4
  have b4 := F4.binds (ps := ["side", "case", "marks"]) fun _ _ _ _ _ _ us hl => match us, hl with | [_, _, _], _ => rfl
  have F5 := fun_mk (st := s_margin_by) l5 c5 k5
  have b5 := F5.binds (ps := ["suit", "case", "marks"]) fun _ _ _ _ _ _ us hl => match us, hl with | [_, _, _], _ => rfl
  have F6 := fun_mk (st := s_settle) l6 c6 k6
  have b6 := F6.binds (ps := ["suits", "marks"]) fun _ _ _ _ _ _ us hl => match us, hl with | [_, _], _ => rfl
  have F7 := fun_mk (st := s_naming) l7 c7 k7
  have b7 := F7.binds (ps := ["suits", "case", "name"]) fun _ _ _ _ _ _ us hl => match us, hl with | [_, _, _], _ => rfl
  have F8 := fun_mk (st := s_claims) l8 c8 k8
  have b8 := F8.binds (ps := ["suits", "case", "stands", "marks"]) fun _ _ _ _ _ _ us hl => match us, hl with | [_, _, _, _], _ => rfl
  have F9 := fun_mk (st := s_oath_plan) l9 c9 k9
  have b9 := F9.binds (ps := ["suits", "case", "name", "marks", "told", "plans"]) fun _ _ _ _ _ _ us hl => match us, hl with | [_, _, _, _, _, _], _ => rfl
  have F10 := fun_mk (st := s_case_plan) l10 c10 k10
  have b10 := F10.binds (ps := ["suits", "case", "marks", "told", "plans"]) fun _ _ _ _ _ _ us hl => match us, hl with | [_, _, _, _, _], _ => rfl
  have F11 := fun_mk (st := s_fewest) l11 c11 k11
  have b11 := F11.binds (ps := ["suits", "case"]) fun _ _ _ _ _ _ us hl => match us, hl with | [_, _], _ => rfl
  have F12 := fun_mk (st := s_law_src) l12 c12 k12
  have b12 := F12.binds (ps := ["_law_script"]) fun _ _ _ _ _ _ us hl => match us, hl with | [_], _ => rfl
  have F13 := fun_mk (st := s_law_next) l13 c13 k13
  have b13 := F13.binds (ps := ["_law_src_here", "_law_base"]) fun _ _ _ _ _ _ us hl => match us, hl with | [_, _], _ => rfl
  have F14 := fun_mk (st := s_law_unlike) l14 c14 k14
  have b14 := F14.binds (ps := ["_law_names_here", "_law_name"]) fun _ _ _ _ _ _ us hl => match us, hl with | [_, _], _ => rfl
  have F15 := fun_mk (st := s_law_word) l15 c15 k15
  have b15 := F15.binds (ps := ["_law_src_here", "_law_many"]) fun _ _ _ _ _ _ us hl => match us, hl with | [_, _], _ => rfl
  have F16 := fun_mk (st := s_law_names) l16 c16 k16
  have b16 := F16.binds (ps := ["_law_src_here", "_law_many"]) fun _ _ _ _ _ _ us hl => match us, hl with | [_, _], _ => rfl
  have F17 := fun_mk (st := s_law_weight) l17 c17 k17
  have b17 := F17.binds (ps := ["_law_src_here"]) fun _ _ _ _ _ _ us hl => match us, hl with | [_], _ => rfl
  have F18 := fun_mk (st := s_law_total) l18 c18 k18
  have b18 := F18.binds (ps := ["_law_side_here"]) fun _ _ _ _ _ _ us hl => match us, hl with | [_], _ => rfl
  have F19 := fun_mk (st := s_law_side) l19 c19 k19
  have b19 := F19.binds (ps := ["_law_src_here", "_law_names_here", "_law_many"]) fun _ _ _ _ _ _ us hl => match us, hl with | [_, _, _], _ => rfl
  have F20 := fun_mk (st := s_law_need) l20 c20 k20
  have b20 := F20.binds (ps := ["_law_src_here", "_law_ones", "_law_others"]) fun _ _ _ _ _ _ us hl => match us, hl with | [_, _, _], _ => rfl
  have F21 := fun_mk (st := s_law_named) l21 c21 k21
  have b21 := F21.binds (ps := ["_law_src_here", "_law_suits_here"]) fun _ _ _ _ _ _ us hl => match us, hl with | [_, _], _ => rfl
  have F22 := fun_mk (st := s_law_suits) l22 c22 k22
  have b22 := F22.binds (ps := ["_law_src_here", "_law_many", "_law_most"]) fun _ _ _ _ _ _ us hl => match us, hl with | [_, _, _], _ => rfl
  have F23 := fun_mk (st := s_law_is_broken) l23 c23 k23
  have b23 := F23.binds (ps := ["_law_suits_here", "_law_told", "_law_case", "_law_name", "_law_more"]) fun _ _ _ _ _ _ us hl => match us, hl with | [_, _, _, _, _], _ => rfl
  have F24 := fun_mk (st := s_law_margin) l24 c24 k24
  have b24 := F24.binds (ps := ["_law_suits_here", "_law_told", "_law_case", "_law_more"]) fun _ _ _ _ _ _ us hl => match us, hl with | [_, _, _, _], _ => rfl
  have F25 := fun_mk (st := s_law_settle) l25 c25 k25
  have b25 := F25.binds (ps := ["_law_suits_here", "_law_more"]) fun _ _ _ _ _ _ us hl => match us, hl with | [_, _], _ => rfl
  have F26 := fun_mk (st := s_law_oaths) l26 c26 k26
  have b26 := F26.binds (ps := ["_law_suits_here"]) fun _ _ _ _ _ _ us hl => match us, hl with | [_], _ => rfl
  have F27 := fun_mk (st := s_law_pairs_fit) l27 c27 k27
  have b27 := F27.binds (ps := ["_law_found", "_law_oaths_here"]) fun _ _ _ _ _ _ us hl => match us, hl with | [_, _], _ => rfl
  have F28 := fun_mk (st := s_law_light) l28 c28 k28
  have b28 := F28.binds (ps := ["_law_suits_here"]) fun _ _ _ _ _ _ us hl => match us, hl with | [_], _ => rfl
  have F29 := fun_mk (st := s_law_least) l29 c29 k29
  have b29 := F29.binds (ps := ["_law_offers", "_law_goal"]) fun _ _ _ _ _ _ us hl => match us, hl with | [_, _], _ => rfl
  have F30 := fun_mk (st := s_law_price) l30 c30 k30
  have b30 := F30.binds (ps := ["_law_suits_here", "_law_told", "_law_prices", "_law_case"]) fun _ _ _ _ _ _ us hl => match us, hl with | [_, _, _, _], _ => rfl
  have F31 := fun_mk (st := s_law) l31 c31 k31
  refine ⟨PySem.W.fnOf "law" "law" (defArgs s_law) (defBody s_law) (defScope s_law) .none kV31 dc31 pm31 an31 cd31 ct31, fun s v => .of_eq rfl, fun base _ _ => ?_⟩
  have D_total := dx_of (ok_total (P := l.prog) (w := w) (base := base) (ca := fun _ => 0) F0 z_sum) (PySem.W.mg_of X G a0) k0 b0
  have D_better := dx_of (ok_better (P := l.prog) (w := w) (base := base) (ca := fun _ => 0) F1 ) (PySem.W.mg_of X G a1) k1 b1
  have D_cheapest := dx_of (ok_cheapest (P := l.prog) (w := w) (base := base) (ca := fun _ => 0) F2 D_better z_enumerate z_dict z_sorted) (PySem.W.mg_of X G a2) k2 b2
  have D_there := dx_of (ok_there (P := l.prog) (w := w) (base := base) (ca := fun _ => 0) F3 z_len) (PySem.W.mg_of X G a3) k3 b3
  have D_kept_weight := dx_of (ok_kept_weight (P := l.prog) (w := w) (base := base) (ca := fun _ => 0) F4 D_total) (PySem.W.mg_of X G a4) k4 b4
  have D_margin_by := dx_of (ok_margin_by (P := l.prog) (w := w) (base := base) (ca := fun _ => 0) F5 D_kept_weight) (PySem.W.mg_of X G a5) k5 b5
  have D_settle := dx_of (ok_settle (P := l.prog) (w := w) (base := base) (ca := fun _ => 0) F6 D_margin_by z_len z_reversed z_range) (PySem.W.mg_of X G a6) k6 b6
  have D_naming := dx_of (ok_naming (P := l.prog) (w := w) (base := base) (ca := fun _ => 0) F7 z_enumerate) (PySem.W.mg_of X G a7) k7 b7
  have D_claims := dx_of (ok_claims (P := l.prog) (w := w) (base := base) (ca := fun _ => 0) F8 ) (PySem.W.mg_of X G a8) k8 b8
  have D_oath_plan := dx_of (ok_oath_plan (P := l.prog) (w := w) (base := base) (ca := fun _ => 0) F9 D_naming) (PySem.W.mg_of X G a9) k9 b9
  have D_case_plan := dx_of (ok_case_plan (P := l.prog) (w := w) (base := base) (ca := fun _ => 0) F10 D_claims D_oath_plan D_margin_by D_cheapest z_len) (PySem.W.mg_of X G a10) k10 b10
  have D_fewest := dx_of (ok_fewest (P := l.prog) (w := w) (base := base) (ca := fun _ => 0) F11 D_there D_settle D_case_plan z_len z_reversed z_range z_sorted) (PySem.W.mg_of X G a11) k11 b11
  have D_law_src := dx_of (ok_law_src (P := l.prog) (w := w) (base := base) (ca := fun _ => 0) F12 z_list) (PySem.W.mg_of X G a12) k12 b12
  have D_law_next := dx_of (ok_law_next (P := l.prog) (w := w) (base := base) (ca := fun _ => 0) F13 z_len) (PySem.W.mg_of X G a13) k13 b13
  have D_law_unlike := dx_of (ok_law_unlike (P := l.prog) (w := w) (base := base) (ca := fun _ => 0) F14 z_range z_len) (PySem.W.mg_of X G a14) k14 b14
  have D_law_word := dx_of (ok_law_word (P := l.prog) (w := w) (base := base) (ca := fun _ => 0) F15 D_law_next z_range) (PySem.W.mg_of X G a15) k15 b15
  have D_law_names := dx_of (ok_law_names (P := l.prog) (w := w) (base := base) (ca := fun _ => 0) F16 D_law_next D_law_word D_law_unlike z_len z_range) (PySem.W.mg_of X G a16) k16 b16
  have D_law_weight := dx_of (ok_law_weight (P := l.prog) (w := w) (base := base) (ca := fun _ => 0) F17 D_law_next) (PySem.W.mg_of X G a17) k17 b17
  have D_law_total := dx_of (ok_law_total (P := l.prog) (w := w) (base := base) (ca := fun _ => 0) F18 ) (PySem.W.mg_of X G a18) k18 b18
  have D_law_side := dx_of (ok_law_side (P := l.prog) (w := w) (base := base) (ca := fun _ => 0) F19 D_law_weight D_law_next z_list z_range z_min z_len) (PySem.W.mg_of X G a19) k19 b19
  have D_law_need := dx_of (ok_law_need (P := l.prog) (w := w) (base := base) (ca := fun _ => 0) F20 D_law_total D_law_next z_max z_min) (PySem.W.mg_of X G a20) k20 b20
  have D_law_named := dx_of (ok_law_named (P := l.prog) (w := w) (base := base) (ca := fun _ => 0) F21 D_law_next z_len) (PySem.W.mg_of X G a21) k21 b21
  have D_law_suits := dx_of (ok_law_suits (P := l.prog) (w := w) (base := base) (ca := fun _ => 0) F22 D_law_names D_law_side D_law_next D_law_named D_law_need z_range z_len) (PySem.W.mg_of X G a22) k22 b22
  have D_law_is_broken := dx_of (ok_law_is_broken (P := l.prog) (w := w) (base := base) (ca := fun _ => 0) F23 z_range z_len) (PySem.W.mg_of X G a23) k23 b23
  have D_law_margin := dx_of (ok_law_margin (P := l.prog) (w := w) (base := base) (ca := fun _ => 0) F24 D_law_is_broken) (PySem.W.mg_of X G a24) k24 b24
  have D_law_settle := dx_of (ok_law_settle (P := l.prog) (w := w) (base := base) (ca := fun _ => 0) F25 D_law_margin z_len z_reversed z_range) (PySem.W.mg_of X G a25) k25 b25
  have D_law_oaths := dx_of (ok_law_oaths (P := l.prog) (w := w) (base := base) (ca := fun _ => 0) F26 z_enumerate z_sorted) (PySem.W.mg_of X G a26) k26 b26
  have D_law_pairs_fit := dx_of (ok_law_pairs_fit (P := l.prog) (w := w) (base := base) (ca := fun _ => 0) F27 z_isinstance z_list z_sorted z_tuple) (PySem.W.mg_of X G a27) k27 b27
  have D_law_light := dx_of (ok_law_light (P := l.prog) (w := w) (base := base) (ca := fun _ => 0) F28 ) (PySem.W.mg_of X G a28) k28 b28
  have D_law_least := dx_of (ok_law_least (P := l.prog) (w := w) (base := base) (ca := fun _ => 0) F29 z_reversed z_range z_max) (PySem.W.mg_of X G a29) k29 b29
  have D_law_price := dx_of (ok_law_price (P := l.prog) (w := w) (base := base) (ca := fun _ => 0) F30 D_law_is_broken D_law_margin D_law_least z_range z_len) (PySem.W.mg_of X G a30) k30 b30
  exact ok_law F31 D_law_src D_law_light D_law_suits D_law_next D_law_settle D_law_oaths D_law_price D_fewest D_law_pairs_fit z_len z_reversed z_range
end Tx
open PySem PySem.W PyProof.Rows
set_option maxHeartbeats 0 in
theorem PySem.Challenge.cw_forsworn_k19_turned_by_sums_of_costs_holds : PySem.Challenge.rw_forsworn_k19_turned_by_sums_of_costs.Holds := by
  w_on; o_law; k_head; (case hw => w_witness2)
  k_fill
  refine L2.walk_of (l := PySem.Challenge.rw_forsworn_k19_turned_by_sums_of_costs) (n := 63) (k := 6) (x := "_law_script") (CX := fun w => L2.CX PySem.Challenge.rw_forsworn_k19_turned_by_sums_of_costs.prog w) (sp := fun w => VS.VSp _ (fun _ => 0) [true] Lw.m_main_k19) rfl (by decide) rfl ⟨rfl, by decide, by decide⟩ (fun w h Y => PySem.W.kIn_of Y) ?F (fun _ _ a ns hl _ hS => (Lw.true_k19 ns hl).elim fun L h => VS.law_sp hS h) (fun _ H s e s' h => VS.cx_false H s e s' h)
  case F =>
    intro w mg fa h KX G hmg
    refine' Tx.all_mk KX G hmg ?a0 ?l0 ?c0 ?k0 ?a1 ?l1 ?c1 ?k1 ?a2 ?l2 ?c2 ?k2 ?a3 ?l3 ?c3 ?k3 ?a4 ?l4 ?c4 ?k4 ?a5 ?l5 ?c5 ?k5 ?a6 ?l6 ?c6 ?k6 ?a7 ?l7 ?c7 ?k7 ?a8 ?l8 ?c8 ?k8 ?a9 ?l9 ?c9 ?k9 ?a10 ?l10 ?c10 ?k10 ?a11 ?l11 ?c11 ?k11 ?a12 ?l12 ?c12 ?k12 ?a13 ?l13 ?c13 ?k13 ?a14 ?l14 ?c14 ?k14 ?a15 ?l15 ?c15 ?k15 ?a16 ?l16 ?c16 ?k16 ?a17 ?l17 ?c17 ?k17 ?a18 ?l18 ?c18 ?k18 ?a19 ?l19 ?c19 ?k19 ?a20 ?l20 ?c20 ?k20 ?a21 ?l21 ?c21 ?k21 ?a22 ?l22 ?c22 ?k22 ?a23 ?l23 ?c23 ?k23 ?a24 ?l24 ?c24 ?k24 ?a25 ?l25 ?c25 ?k25 ?a26 ?l26 ?c26 ?k26 ?a27 ?l27 ?c27 ?k27 ?a28 ?l28 ?c28 ?k28 ?a29 ?l29 ?c29 ?k29 ?a30 ?l30 ?c30 ?k30 ?a31 ?l31 ?c31 ?k31 ?y_sum ?y_enumerate ?y_dict ?y_sorted ?y_len ?y_reversed ?y_range ?y_list ?y_min ?y_max ?y_isinstance ?y_tuple
    (case a0 => k_is); (case l0 => k_is); (case c0 => k_is); (case k0 => k_is); (case a1 => k_is); (case l1 => k_is)
    (case c1 => k_is); (case k1 => k_is); (case a2 => k_is); (case l2 => k_is); (case c2 => k_is); (case k2 => k_is)
    (case a3 => k_is); (case l3 => k_is); (case c3 => k_is); (case k3 => k_is); (case a4 => k_is); (case l4 => k_is)
    (case c4 => k_is); (case k4 => k_is); (case a5 => k_is); (case l5 => k_is); (case c5 => k_is); (case k5 => k_is)
    (case a6 => k_is); (case l6 => k_is); (case c6 => k_is); (case k6 => k_is); (case a7 => k_is); (case l7 => k_is)
    (case c7 => k_is); (case k7 => k_is); (case a8 => k_is); (case l8 => k_is); (case c8 => k_is); (case k8 => k_is)
    (case a9 => k_is); (case l9 => k_is); (case c9 => k_is); (case k9 => k_is); (case a10 => k_is); (case l10 => k_is)
    (case c10 => k_is); (case k10 => k_is); (case a11 => k_is); (case l11 => k_is); (case c11 => k_is); (case k11 => k_is)
    (case a12 => k_is); (case l12 => k_is); (case c12 => k_is); (case k12 => k_is); (case a13 => k_is); (case l13 => k_is)
    (case c13 => k_is); (case k13 => k_is); (case a14 => k_is); (case l14 => k_is); (case c14 => k_is); (case k14 => k_is)
    (case a15 => k_is); (case l15 => k_is); (case c15 => k_is); (case k15 => k_is); (case a16 => k_is); (case l16 => k_is)
    (case c16 => k_is); (case k16 => k_is); (case a17 => k_is); (case l17 => k_is); (case c17 => k_is); (case k17 => k_is)
    (case a18 => k_is); (case l18 => k_is); (case c18 => k_is); (case k18 => k_is); (case a19 => k_is); (case l19 => k_is)
    (case c19 => k_is); (case k19 => k_is); (case a20 => k_is); (case l20 => k_is); (case c20 => k_is); (case k20 => k_is)
    (case a21 => k_is); (case l21 => k_is); (case c21 => k_is); (case k21 => k_is); (case a22 => k_is); (case l22 => k_is)
    (case c22 => k_is); (case k22 => k_is); (case a23 => k_is); (case l23 => k_is); (case c23 => k_is); (case k23 => k_is)
    (case a24 => k_is); (case l24 => k_is); (case c24 => k_is); (case k24 => k_is); (case a25 => k_is); (case l25 => k_is)
    (case c25 => k_is); (case k25 => k_is); (case a26 => k_is); (case l26 => k_is); (case c26 => k_is); (case k26 => k_is)
    (case a27 => k_is); (case l27 => k_is); (case c27 => k_is); (case k27 => k_is); (case a28 => k_is); (case l28 => k_is)
    (case c28 => k_is); (case k28 => k_is); (case a29 => k_is); (case l29 => k_is); (case c29 => k_is); (case k29 => k_is)
    (case a30 => k_is); (case l30 => k_is); (case c30 => k_is); (case k30 => k_is); (case a31 => k_is); (case l31 => k_is)
    (case c31 => k_is); (case k31 => k_is); (case y_sum => k_is); (case y_enumerate => k_is); (case y_dict => k_is); (case y_sorted => k_is)
    (case y_len => k_is); (case y_reversed => k_is); (case y_range => k_is); (case y_list => k_is); (case y_min => k_is); (case y_max => k_is)
    (case y_isinstance => k_is); (case y_tuple => k_is)


