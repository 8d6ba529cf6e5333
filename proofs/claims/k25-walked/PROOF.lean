import PyProof.Rows.All
import Wide.All
import OpenK.AllK
import Wide.FinOn
import HandS.ForMost
import HandS.ForSpec
import HandS.Flow
import HandS.IsInst
import HandS.Style
import HandS.Deep
import HandS.Conv
import HandS.Dict
import HandS.DictTup
import HandS.Flt
import HandS.List
import HandS.More
import HandS.RevRange
import HandS.SetFor
import HandS.SortKw
import HandS.Strs
import HandS.TupLen
import HandS.Zip
import KE.GoesRev
import KE.SortData
import KE.SortKeyHeap
import PyProof.ListRange
import PyProof.SeqRoads2
import PySem.Challenge.RW_forsworn_k25_whole_roads_walked
set_option Elab.async false
set_option linter.all false
set_option maxRecDepth 100000
set_option maxHeartbeats 4000000
namespace VS
open PySem PySem.Spec PyProof.Rows L2

abbrev D := PyData
abbrev Path := List Nat
inductive S where
  | d (d : D)
  | ol (ds : List D)
  | odK (kvs : List (Key × D))
  | odT (kvs : List (List Key × D))
  | ob (c : Nat) (fs : List (Str × S))
  | scr (ns : List Int)
  | os (ss : List S)
  | ot (ss : List S)
  | b (d : D)
  | bl (ds : List D)
abbrev LS := List (Option S)
inductive R (α : Type) where
  | ok (a : α) (L : LS)
  | err (c : Nat) (L : LS)
  | stuck
def R.bind {α β : Type} (r : R α) (k : α → LS → R β) : R β :=
  match r with
  | .ok a L => k a L
  | .err c L => .err c L
  | .stuck => .stuck
theorem R.bind_ok {α β : Type} (a : α) (L : LS) (k : α → LS → R β) : (R.ok a L).bind k = k a L := rfl
mutual
inductive Dq (K : PySem.W.Frag) (F : Hp) : V → D → Prop
  | non : Dq K F .non .none
  | bl (b : Bool) : Dq K F (.bl b) (.bool b)
  | int (i : Int) : Dq K F (.int i) (.int i)
  | str (x : Str) : Dq K F (.str x) (.str x)
  | lst {a : Addr} {xs : List V} {ds : List D} : F a = some (.lst xs) → DqA K F xs ds → Dq K F (.ref a) (.list ds)
  | tup {a : Addr} {xs : List V} {ds : List D} : F a = some (.tup xs) → DqA K F xs ds → Dq K F (.ref a) (.tuple ds)
inductive DqA (K : PySem.W.Frag) (F : Hp) : List V → List D → Prop
  | nil : DqA K F [] []
  | cons {v : V} {vs : List V} {d : D} {ds : List D} : Dq K F v d → DqA K F vs ds → DqA K F (v :: vs) (d :: ds)
end
section
variable {K : PySem.W.Frag} {F F' H H' : Hp}
theorem sqt_same {a : Addr} {xs : List V} (e : Same H H') (h : H a = some (.tup xs)) : SqT K H' a xs := .of (e _ _ h)
theorem sql_same {a : Addr} {xs : List V} (e : Same H H') (h : SqL K H a xs) : SqL K H' a xs := e.seq h
mutual
theorem Dq.mono (e : Same F F') : ∀ (d : D) (v : V), Dq K F v d → Dq K F' v d
  | .none, _, h => by cases h; exact .non
  | .bool _, _, h => by cases h; exact .bl _
  | .int _, _, h => by cases h; exact .int _
  | .str _, _, h => by cases h; exact .str _
  | .list ds, _, h => by
    cases h with
    | lst a b => exact .lst (e _ _ a) (DqA.mono e ds _ b)
  | .tuple ds, _, h => by
    cases h with
    | tup a b => exact .tup (e _ _ a) (DqA.mono e ds _ b)
  | .dict _, _, h => by cases h
theorem DqA.mono (e : Same F F') : ∀ (ds : List D) (vs : List V), DqA K F vs ds → DqA K F' vs ds
  | [], _, h => by cases h; exact .nil
  | d :: ds, _, h => by
    cases h with
    | cons a b => exact .cons (Dq.mono e d _ a) (DqA.mono e ds _ b)
end
mutual
theorem Dq.dp : ∀ (d : D) (v : V), Dq K F v d → Dp K F v d
  | .none, _, h => by cases h; exact .non
  | .bool _, _, h => by cases h; exact .bl _
  | .int _, _, h => by cases h; exact .int _
  | .str _, _, h => by cases h; exact .str _
  | .list ds, _, h => by
    cases h with
    | lst a b => exact .lst (.inl (.inl a)) (DqA.dp ds _ b)
  | .tuple ds, _, h => by
    cases h with
    | tup a b => exact .tup (.of a) (DqA.dp ds _ b)
  | .dict _, _, h => by cases h
theorem DqA.dp : ∀ (ds : List D) (vs : List V), DqA K F vs ds → DpAll K F vs ds
  | [], _, h => by cases h; exact .nil
  | d :: ds, _, h => by
    cases h with
    | cons a b => exact .cons (Dq.dp d _ a) (DqA.dp ds _ b)
end
theorem Dq.up {v : V} {d : D} (e : Same F F') (h : Dq K F v d) : Dq K F' v d := Dq.mono e d v h
theorem DqA.up {v : List V} {d : List D} (e : Same F F') (h : DqA K F v d) : DqA K F' v d := DqA.mono e d v h
theorem DqA.len : ∀ {vs : List V} {ds : List D}, DqA K F vs ds → vs.length = ds.length
  | _, _, .nil => rfl
  | _, _, .cons _ t => by rw [List.length_cons, List.length_cons, t.len]
theorem DqA.append : ∀ {xs ys : List V} {ds es : List D}, DqA K F xs ds → DqA K F ys es → DqA K F (xs ++ ys) (ds ++ es)
  | _, _, _, _, .nil, s => s
  | _, _, _, _, .cons r t, s => .cons r (t.append s)
theorem DqA.one {v : V} {d : D} (h : Dq K F v d) : DqA K F [v] [d] := .cons h .nil
theorem DqA.get : ∀ {vs : List V} {ds : List D} {i : Nat} {d : D}, DqA K F vs ds → ds[i]? = some d → ∃ v, vs[i]? = some v ∧ Dq K F v d
  | _, _, _, _, .nil, e => by simp at e
  | _, _, 0, _, .cons r _, e => by simp at e; subst e; exact ⟨_, rfl, r⟩
  | _, _, i + 1, d, .cons _ t, e => by
    obtain ⟨u, h1, h2⟩ := DqA.get (i := i) (d := d) t (by simpa using e)
    exact ⟨u, by simpa using h1, h2⟩
theorem DqA.set {v : V} {d : D} (r : Dq K F v d) : ∀ {vs : List V} {ds : List D} (i : Nat), DqA K F vs ds → DqA K F (vs.set i v) (ds.set i d)
  | _, _, _, .nil => .nil
  | _, _, 0, .cons _ t => .cons r t
  | _, _, i + 1, .cons q t => .cons q (DqA.set r i t)
theorem DqA.take : ∀ {vs : List V} {ds : List D} (n : Nat), DqA K F vs ds → DqA K F (vs.take n) (ds.take n)
  | _, _, 0, _ => .nil
  | _, _, _ + 1, .nil => .nil
  | _, _, n + 1, .cons r t => .cons r (DqA.take n t)
theorem DqA.drop : ∀ {vs : List V} {ds : List D} (n : Nat), DqA K F vs ds → DqA K F (vs.drop n) (ds.drop n)
  | _, _, 0, r => r
  | _, _, _ + 1, .nil => .nil
  | _, _, n + 1, .cons _ t => DqA.drop n t
theorem DqA.erase : ∀ {vs : List V} {ds : List D} (n : Nat), DqA K F vs ds → DqA K F (vs.eraseIdx n) (ds.eraseIdx n)
  | _, _, _, .nil => .nil
  | _, _, 0, .cons _ t => t
  | _, _, n + 1, .cons r t => .cons r (DqA.erase n t)
theorem DqA.replicate {v : V} {d : D} (r : Dq K F v d) : ∀ n : Nat, DqA K F (List.replicate n v) (List.replicate n d)
  | 0 => .nil
  | n + 1 => .cons r (DqA.replicate r n)
theorem DqA.ints : ∀ ns : List Int, DqA K F (ns.map V.int) (ns.map PyData.int)
  | [] => .nil
  | n :: ns => .cons (.int n) (DqA.ints ns)
def DqK {κ : Type} (K : PySem.W.Frag) (F : Hp) : List (κ × V) → List (κ × D) → Prop := Paired fun p q => p.1 = q.1 ∧ Dq K F p.2 q.2
theorem DqK.up {κ : Type} {l : List (κ × V)} {m : List (κ × D)} (e : Same F F') (h : DqK K F l m) : DqK K F' l m := Paired.mapP h fun _ _ z => ⟨z.1, z.2.up e⟩
end

mutual
inductive RS (K : PySem.W.Frag) (ca : Nat → Addr) (F H : Hp) (ow : Addr → Option Path) : Path → S → V → Prop
  | d {p : Path} {d : D} {v : V} : Dq K F v d → RS K ca F H ow p (.d d) v
  | ol {p : Path} {l : Addr} {vs : List V} {ds : List D} : H l = some (.lst vs) → ow l = some p → DqA K F vs ds → RS K ca F H ow p (.ol ds) (.ref l)
  | odK {p : Path} {l : Addr} {vs : List (Key × V)} {ds : List (Key × D)} : H l = some (.dK vs) → ow l = some p → DqK K F vs ds → RS K ca F H ow p (.odK ds) (.ref l)
  | odT {p : Path} {l : Addr} {vs : List (List Key × V)} {ds : List (List Key × D)} : H l = some (.dT vs) → ow l = some p → DqK K F vs ds → RS K ca F H ow p (.odT ds) (.ref l)
  | ob {p : Path} {a dx : Addr} {c : Nat} {vs : List (Str × V)} {fs : List (Str × S)} : H a = some (.ins (ca c) dx vs) → ow a = some p → RF K ca F H ow p 0 fs vs → RS K ca F H ow p (.ob c fs) (.ref a)
  | scr {p : Path} {a : Addr} {ns : List Int} : SqL K F a (ns.map V.int) → RS K ca F H ow p (.scr ns) (.ref a)
  | os {p : Path} {l : Addr} {vs : List V} {ss : List S} : H l = some (.lst vs) → ow l = some p → RI K ca F H ow p 0 ss vs → RS K ca F H ow p (.os ss) (.ref l)
  | ot {p : Path} {l : Addr} {vs : List V} {ss : List S} : H l = some (.tup vs) → ow l = some p → RI K ca F H ow p 0 ss vs → RS K ca F H ow p (.ot ss) (.ref l)
inductive RI (K : PySem.W.Frag) (ca : Nat → Addr) (F H : Hp) (ow : Addr → Option Path) : Path → Nat → List S → List V → Prop
  | nil {p : Path} {i : Nat} : RI K ca F H ow p i [] []
  | cons {p : Path} {i : Nat} {s : S} {v : V} {ss : List S} {vs : List V} : RS K ca F H ow (p ++ [i]) s v → RI K ca F H ow p (i + 1) ss vs → RI K ca F H ow p i (s :: ss) (v :: vs)
inductive RF (K : PySem.W.Frag) (ca : Nat → Addr) (F H : Hp) (ow : Addr → Option Path) : Path → Nat → List (Str × S) → List (Str × V) → Prop
  | nil {p : Path} {i : Nat} : RF K ca F H ow p i [] []
  | cons {p : Path} {i : Nat} {x : Str} {s : S} {v : V} {fs : List (Str × S)} {vs : List (Str × V)} : RS K ca F H ow (p ++ [i]) s v → RF K ca F H ow p (i + 1) fs vs → RF K ca F H ow p i ((x, s) :: fs) ((x, v) :: vs)
end
section
variable {K : PySem.W.Frag} {ca : Nat → Addr} {F F' H H' : Hp} {ow ow' : Addr → Option Path}
def Keeps (H H' : Hp) (ow ow' : Addr → Option Path) (p p' : Path) : Prop := ∀ a q, ow a = some (p ++ q) → H' a = H a ∧ ow' a = some (p' ++ q)
theorem Keeps.sub {p p' : Path} (k : Keeps H H' ow ow' p p') (r : Path) : Keeps H H' ow ow' (p ++ r) (p' ++ r) := fun a q h => by
  rw [List.append_assoc] at h ⊢
  exact k a _ h
mutual
theorem RS.move (e : Same F F') : ∀ (s : S) (p p' : Path) (v : V), Keeps H H' ow ow' p p' → RS K ca F H ow p s v → RS K ca F' H' ow' p' s v
  | .d _, p, p', v, k, h => by
    cases h with
    | d a => exact .d (a.up e)
  | .ol _, p, p', v, k, h => by
    cases h with
    | ol a b c =>
      obtain ⟨x, y⟩ := k _ [] (by rw [List.append_nil]; exact b)
      rw [List.append_nil] at y
      exact .ol (x.trans a) y (c.up e)
  | .odK _, p, p', v, k, h => by
    cases h with
    | odK a b c =>
      obtain ⟨x, y⟩ := k _ [] (by rw [List.append_nil]; exact b)
      rw [List.append_nil] at y
      exact .odK (x.trans a) y (c.up e)
  | .odT _, p, p', v, k, h => by
    cases h with
    | odT a b c =>
      obtain ⟨x, y⟩ := k _ [] (by rw [List.append_nil]; exact b)
      rw [List.append_nil] at y
      exact .odT (x.trans a) y (c.up e)
  | .ob _ fs, p, p', v, k, h => by
    cases h with
    | ob a b c =>
      obtain ⟨x, y⟩ := k _ [] (by rw [List.append_nil]; exact b)
      rw [List.append_nil] at y
      exact .ob (x.trans a) y (RF.move e fs _ _ _ _ k c)
  | .scr _, p, p', v, k, h => by
    cases h with
    | scr a => exact .scr (sql_same e a)
  | .os ss, p, p', v, k, h => by
    cases h with
    | os a b c =>
      obtain ⟨x, y⟩ := k _ [] (by rw [List.append_nil]; exact b)
      rw [List.append_nil] at y
      exact .os (x.trans a) y (RI.move e ss _ _ _ _ k c)
  | .ot ss, p, p', v, k, h => by
    cases h with
    | ot a b c =>
      obtain ⟨x, y⟩ := k _ [] (by rw [List.append_nil]; exact b)
      rw [List.append_nil] at y
      exact .ot (x.trans a) y (RI.move e ss _ _ _ _ k c)
  | .b _, p, p', v, k, h => by cases h
  | .bl _, p, p', v, k, h => by cases h
theorem RI.move (e : Same F F') : ∀ (ss : List S) (p p' : Path) (i : Nat) (vs : List V), Keeps H H' ow ow' p p' → RI K ca F H ow p i ss vs → RI K ca F' H' ow' p' i ss vs
  | [], p, p', i, vs, k, h => by cases h; exact .nil
  | s :: ss, p, p', i, vs, k, h => by
    cases h with
    | cons a b => exact .cons (RS.move e s _ _ _ (k.sub [i]) a) (RI.move e ss _ _ _ _ k b)
theorem RF.move (e : Same F F') : ∀ (fs : List (Str × S)) (p p' : Path) (i : Nat) (vs : List (Str × V)), Keeps H H' ow ow' p p' → RF K ca F H ow p i fs vs → RF K ca F' H' ow' p' i fs vs
  | [], p, p', i, vs, k, h => by cases h; exact .nil
  | (x, s) :: fs, p, p', i, vs, k, h => by
    cases h with
    | cons a b => exact .cons (RS.move e s _ _ _ (k.sub [i]) a) (RF.move e fs _ _ _ _ k b)
end
theorem RS.go {s : S} {p p' : Path} {v : V} (h : RS K ca F H ow p s v) (e : Same F F') (k : Keeps H H' ow ow' p p') : RS K ca F' H' ow' p' s v := RS.move e s p p' v k h

def BF (B F : Hp) : Hp := fun a => match B a with
  | some o => some o
  | none => F a
theorem BF.up {B : Hp} (e : Same F F') : Same (BF B F) (BF B F') := fun a o h => by
  unfold BF at h ⊢
  cases z : B a with
  | some u => rw [z] at h; exact h
  | none => rw [z] at h; exact e a o h
theorem BF.inH {B : Hp} (eF : Same F H) (eB : Same B H) : Same (BF B F) H := fun a o h => by
  unfold BF at h
  cases z : B a with
  | some u => rw [z] at h; rw [← Option.some.inj h]; exact eB a u z
  | none => rw [z] at h; exact eF a o h
@[reducible] def RT (K : PySem.W.Frag) (ca : Nat → Addr) (B F H : Hp) (ow : Addr → Option Path) (p : Path) (s : S) (v : V) : Prop := match s with
  | .b d => Dq K (BF B F) v d
  | .bl ds => ∃ l vs, v = .ref l ∧ BF B F l = some (.lst vs) ∧ DqA K F vs ds
  | s => RS K ca F H ow p s v
theorem RT.go {B : Hp} {s : S} {p p' : Path} {v : V} (h : RT K ca B F H ow p s v) (e : Same F F') (k : Keeps H H' ow ow' p p') : RT K ca B F' H' ow' p' s v := by
  cases s with
  | b d => exact Dq.up (BF.up e) h
  | bl ds =>
    obtain ⟨l, vs, h1, h2, h3⟩ := h
    exact ⟨l, vs, h1, BF.up e l _ h2, h3.up e⟩
  | d d => exact RS.go h e k
  | ol d => exact RS.go h e k
  | odK d => exact RS.go h e k
  | odT d => exact RS.go h e k
  | ob c d => exact RS.go h e k
  | scr d => exact RS.go h e k
  | os d => exact RS.go h e k
  | ot d => exact RS.go h e k
theorem RT.of {B : Hp} {s : S} {p : Path} {v : V} (h : RS K ca F H ow p s v) : RT K ca B F H ow p s v := by
  cases h with
  | d a => exact .d a
  | ol a b c => exact .ol a b c
  | odK a b c => exact .odK a b c
  | odT a b c => exact .odT a b c
  | ob a b c => exact .ob a b c
  | scr a => exact .scr a
  | os a b c => exact .os a b c
  | ot a b c => exact .ot a b c
def S.own : S → Bool
  | .b _ => false
  | .bl _ => false
  | _ => true
theorem RT.rs {B : Hp} {s : S} {p : Path} {v : V} (h : RT K ca B F H ow p s v) (hs : s.own = true) : RS K ca F H ow p s v := by
  cases s with
  | b d => cases hs
  | bl d => cases hs
  | d d => exact h
  | ol d => exact h
  | odK d => exact h
  | odT d => exact h
  | ob c d => exact h
  | scr d => exact h
  | os d => exact h
  | ot d => exact h
def kT (o : HO) : Prop := ∃ k : List Key, o = .tup (k.map kV)
def NT (x : Option HO) : Prop := x ≠ none ∧ ∀ o, x = some o → ¬ kT o
theorem NT.of {o : HO} (h : ¬ kT o) : NT (some o) := ⟨fun z => (by cases z), fun u e => by cases e; exact h⟩
theorem kT_lst {vs : List V} : ¬ kT (.lst vs) := fun ⟨_, h⟩ => by cases h
theorem kT_dK {vs : List (Key × V)} : ¬ kT (.dK vs) := fun ⟨_, h⟩ => by cases h
theorem kT_dT {vs : List (List Key × V)} : ¬ kT (.dT vs) := fun ⟨_, h⟩ => by cases h
theorem kT_ins {a b : Addr} {vs : List (Str × V)} : ¬ kT (.ins a b vs) := fun ⟨_, h⟩ => by cases h
structure Rl (K : PySem.W.Frag) (ca : Nat → Addr) (B : Hp) (pn : List (Option V)) (G F : Hp) (ow : Addr → Option Path) (σ : L2.St) (H : Hp) (L : LS) : Prop where
  exF : Same F H
  exG : Same G H
  dF : ∀ a p, ow a = some p → F a = none ∧ G a = none ∧ NT (H a)
  dG : ∀ a o, F a = some o → G a = none ∨ kT o
  len : L.length = σ.length
  sl : ∀ (i : Nat) (s : S), L[i]? = some (some s) → ∃ v, σ[i]? = some (some v) ∧ RT K ca B F H ow [i + 1] s v
  pin : ∀ (i : Nat) (v : V), pn[i]? = some (some v) → σ[i]? = some (some v)
  exB : Same B H
  dB : ∀ a p, ow a = some p → B a = none
end
end VS

namespace VS
open PySem PySem.Spec PyProof.Rows L2

structure Ct where
  X : Cx
  W : WX
  ca : Nat → Addr
  pb : List Bool
  v0 : List V
  B : Hp
def pinOf : List Bool → List V → List (Option V)
  | b :: bs, v :: vs => (if b then some v else none) :: pinOf bs vs
  | _, _ => []
theorem pinOf_mk : ∀ {bs : List Bool} {vs : List V} {i : Nat} {v : V}, (pinOf bs vs)[i]? = some (some v) → bs[i]? = some true ∧ vs[i]? = some v
  | b :: bs, u :: vs, 0, v, h => by
    have h' : (if b then some u else none) = some v := Option.some.inj h
    cases b with
    | true => exact ⟨rfl, by rw [if_pos rfl] at h'; cases h'; rfl⟩
    | false => cases h'
  | b :: bs, u :: vs, i + 1, v, h => pinOf_mk (bs := bs) (vs := vs) (i := i) h
  | [], _, _, _, h => by cases h
  | _ :: _, [], _, _, h => by cases h
theorem pinOf_at : ∀ {bs : List Bool} {vs : List V} {i : Nat} {v : V}, bs[i]? = some true → vs[i]? = some v → (pinOf bs vs)[i]? = some (some v)
  | b :: bs, u :: vs, 0, v, h, h2 => by
    have e1 : b = true := Option.some.inj h
    have e2 : u = v := Option.some.inj h2
    subst e1 e2
    rfl
  | b :: bs, u :: vs, i + 1, v, h, h2 => pinOf_at (bs := bs) (vs := vs) (i := i) h h2
  | [], _, _, _, h, _ => by cases h
  | _ :: _, [], _, _, _, h => by cases h
abbrev Ct.Rl (c : Ct) (G F : Hp) (ow : Addr → Option Path) (σ : L2.St) (H : Hp) (L : LS) : Prop := VS.Rl c.X.K c.ca c.B (pinOf c.pb c.v0) G F ow σ H L

def Post (c : Ct) (G : Hp) (n : Bool) (F H : Hp) (σ : L2.St) {α β : Type} (r : R α) (B : Hp → Hp → (Addr → Option Path) → α → β → Prop) (t : (β → Hp → Prop) → Prop) : Prop :=
  match r with
  | .ok a L => ∀ Q : β → Hp → Prop, (∀ b H' F' ow', Same F F' → (n = true → Same H H') → c.Rl G F' ow' σ H' L → B F' H' ow' a b → Q b H') → t Q
  | .err e L => (∀ H' F' ow', Same F F' → c.Rl G F' ow' σ H' L → c.W (.ref (c.ca e)) none σ H') → ∀ Q : β → Hp → Prop, t Q
  | .stuck => True
section
variable {c : Ct} {G F H : Hp} {ow : Addr → Option Path} {σ : L2.St} {L : LS} {n n1 n2 : Bool} {α β γ δ : Type}
theorem and_of {a b : Bool} (h : (a && b) = true) : a = true ∧ b = true := by
  cases a <;> cases b <;> first | exact ⟨rfl, rfl⟩ | cases h
theorem Post.bind {r : R α} {k : α → LS → R γ} {B1 : Hp → Hp → (Addr → Option Path) → α → β → Prop} {B2 : Hp → Hp → (Addr → Option Path) → γ → δ → Prop} {t1 : (β → Hp → Prop) → Prop} {t2 : β → Hp → (δ → Hp → Prop) → Prop}
    (h1 : Post c G n1 F H σ r B1 t1)
    (h2 : ∀ a L1 b H1 F1 ow1, r = .ok a L1 → Same F F1 → (n1 = true → Same H H1) → c.Rl G F1 ow1 σ H1 L1 → B1 F1 H1 ow1 a b → Post c G n2 F1 H1 σ (k a L1) B2 (t2 b H1)) :
    Post c G (n1 && n2) F H σ (r.bind k) B2 (fun Q => t1 fun b H1 => t2 b H1 Q) := by
  cases r with
  | stuck => trivial
  | err e L1 => exact fun hw Q => h1 hw _
  | ok a L1 =>
    rw [R.bind_ok]
    cases hk : k a L1 with
    | stuck => trivial
    | ok z L2 =>
      intro Q hq
      refine h1 _ fun b H1 F1 ow1 e1 s1 R1 q1 => ?_
      have h := h2 a L1 b H1 F1 ow1 rfl e1 s1 R1 q1
      rw [hk] at h
      exact h Q fun b' H2 F2 ow2 e2 s2 R2 q2 => hq b' H2 F2 ow2 (e1.trans e2) (fun hn => (s1 (and_of hn).1).trans (s2 (and_of hn).2)) R2 q2
    | err e L2 =>
      intro hw Q
      refine h1 _ fun b H1 F1 ow1 e1 s1 R1 q1 => ?_
      have h := h2 a L1 b H1 F1 ow1 rfl e1 s1 R1 q1
      rw [hk] at h
      exact h (fun H2 F2 ow2 e2 R2 => hw H2 F2 ow2 (e1.trans e2) R2) Q
theorem Post.val {a : α} {b : β} {B : Hp → Hp → (Addr → Option Path) → α → β → Prop} (Rr : c.Rl G F ow σ H L) (h : B F H ow a b) : Post c G n F H σ (.ok a L) B (fun Q => Q b H) :=
  fun _ q => q b H F ow (Same.refl F) (fun _ => Same.refl H) Rr h
theorem Post.imp {r : R α} {B : Hp → Hp → (Addr → Option Path) → α → β → Prop} {t u : (β → Hp → Prop) → Prop} (h : Post c G n F H σ r B t) (k : ∀ Q, t Q → u Q) : Post c G n F H σ r B u := by
  cases r with
  | stuck => trivial
  | ok a L1 => exact fun Q q => k Q (h Q q)
  | err e L1 => exact fun hw Q => k Q (h hw Q)
theorem Post.low {r : R α} {B : Hp → Hp → (Addr → Option Path) → α → β → Prop} {t : (β → Hp → Prop) → Prop} (h : Post c G true F H σ r B t) : Post c G n F H σ r B t := by
  cases r with
  | stuck => trivial
  | ok a L1 => exact fun Q q => h Q fun b H1 F1 ow1 e1 s1 R1 q1 => q b H1 F1 ow1 e1 (fun _ => s1 rfl) R1 q1
  | err e L1 => exact h
end

def Jdg (c : Ct) (n : Bool) {α β : Type} (g : LS → R α) (B : PySem.W.Frag → Hp → Hp → (Addr → Option Path) → α → β → Prop) (t : L2.St → Hp → (β → Hp → Prop) → Prop) : Prop :=
  ∀ G F ow σ H L, c.Rl G F ow σ H L → Post c G n F H σ (g L) (B c.X.K) (t σ H)
def BD : PySem.W.Frag → Hp → Hp → (Addr → Option Path) → D → V → Prop := fun K F _ _ d v => Dq K F v d
def BA : PySem.W.Frag → Hp → Hp → (Addr → Option Path) → List D → List V → Prop := fun K F _ _ d v => DqA K F v d
def BE (ca : Nat → Addr) : PySem.W.Frag → Hp → Hp → (Addr → Option Path) → S → V → Prop := fun K F H ow s v => RS K ca F H ow [0] s v
def BB : PySem.W.Frag → Hp → Hp → (Addr → Option Path) → Bool → Bool → Prop := fun _ _ _ _ a b => b = a
def BV : PySem.W.Frag → Hp → Hp → (Addr → Option Path) → D → V → Prop := fun K F H _ d v => Dq K F v d ∨ ∃ l vs ds, v = .ref l ∧ d = .list ds ∧ SqL K H l vs ∧ DqA K F vs ds
def JD (c : Ct) (n : Bool) (e : Expr) (g : LS → R D) : Prop := ∃ t, PE c.X e t ∧ Jdg c n g BD t
def JE (c : Ct) (n : Bool) (e : Expr) (g : LS → R S) : Prop := ∃ t, PE c.X e t ∧ Jdg c n g (BE c.ca) t
def JV (c : Ct) (n : Bool) (e : Expr) (g : LS → R D) : Prop := ∃ t, PE c.X e t ∧ Jdg c n g BV t
def JT (c : Ct) (n : Bool) (e : Expr) (g : LS → R Bool) : Prop := ∃ t, PT c.X e t ∧ Jdg c n g BB t
def JW (c : Ct) (n : Bool) (e : Expr) (g : LS → R Bool) : Prop := ∃ t, PW c.X e t ∧ Jdg c n g BB t
def JA (c : Ct) (n : Bool) (es : List Expr) (g : LS → R (List D)) : Prop := ∃ t, PA c.X es t ∧ Jdg c n g BA t

section
variable {K : PySem.W.Frag} {ca : Nat → Addr} {bh : Hp} {pn : List (Option V)} {G F H : Hp} {ow : Addr → Option Path} {σ : L2.St} {L : LS}
def offAt (ow : Addr → Option Path) (l : Addr) : Addr → Option Path := fun a => if a = l then none else ow a
theorem offAt_same (ow : Addr → Option Path) (l : Addr) : offAt ow l l = none := if_pos rfl
theorem offAt_ne {ow : Addr → Option Path} {l a : Addr} (h : a ≠ l) : offAt ow l a = ow a := if_neg h
theorem upd_same_of {l : Addr} {o : HO} (h : F l = none) : Same F (upd F l o) := fun b u e => by
  rw [upd_ne (ne_of_none e h)]
  exact e
theorem set_get {α : Type} {l : List α} {i j : Nat} {a b : α} (h : (l.set i a)[j]? = some b) : (i = j ∧ a = b) ∨ (i ≠ j ∧ l[j]? = some b) := by
  by_cases e : i = j
  · subst e
    rw [List.getElem?_set] at h
    by_cases hl : i < l.length
    · simp [hl] at h
      exact .inl ⟨rfl, h⟩
    · simp [hl] at h
  · rw [List.getElem?_set_ne e] at h
    exact .inr ⟨e, h⟩
theorem keeps_off {l : Addr} {p : Path} (h : ∀ q, ow l ≠ some (p ++ q)) : Keeps H H ow (offAt ow l) p p := fun a q e => by
  have ha : a ≠ l := fun z => by
    subst z
    exact h q e
  exact ⟨rfl, by rw [offAt_ne ha]; exact e⟩
theorem Rl.frz {l : Addr} {vs : List V} {p : Path} {L' : LS} (r : Rl K ca bh pn G F ow σ H L) (hl : H l = some (.lst vs)) (ho : ow l = some p) (hlen : L'.length = L.length)
    (hs : ∀ (j : Nat) (s : S), L'[j]? = some (some s) → (L[j]? = some (some s) ∧ ∀ q, p ≠ (j + 1) :: q) ∨ ∃ v, σ[j]? = some (some v) ∧ RS K ca (upd F l (.lst vs)) H (offAt ow l) [j + 1] s v) :
    Same F (upd F l (.lst vs)) ∧ Rl K ca bh pn G (upd F l (.lst vs)) (offAt ow l) σ H L' := by
  obtain ⟨f0, g0, h0⟩ := r.dF l p ho
  have e : Same F (upd F l (.lst vs)) := upd_same_of f0
  refine ⟨e, fun a o h => ?_, r.exG, fun a q h => ?_, fun a o h => ?_, hlen.trans r.len, fun j s h => ?_, r.pin, r.exB, fun a q h => ?_⟩
  · by_cases z : a = l
    · subst z
      rw [upd_same] at h
      cases h
      exact hl
    · rw [upd_ne z] at h
      exact r.exF a o h
  · by_cases z : a = l
    · subst z
      rw [offAt_same] at h
      cases h
    · rw [offAt_ne z] at h
      obtain ⟨x, y, w⟩ := r.dF a q h
      exact ⟨by rw [upd_ne z]; exact x, y, w⟩
  · by_cases z : a = l
    · subst z
      exact .inl g0
    · rw [upd_ne z] at h
      exact r.dG a o h
  · rcases hs j s h with ⟨h1, h2⟩ | h1
    · obtain ⟨v, q1, q2⟩ := r.sl j s h1
      exact ⟨v, q1, q2.go e (keeps_off fun q z => h2 q (by rw [ho] at z; exact Option.some.inj z))⟩
    · obtain ⟨v, q1, q2⟩ := h1
      exact ⟨v, q1, RT.of q2⟩
  · by_cases z : a = l
    · subst z
      rw [offAt_same] at h
      cases h
    · rw [offAt_ne z] at h
      exact r.dB a q h
def reroot (ow : Addr → Option Path) (i j : Nat) : Addr → Option Path := fun a => match ow a with
  | some (r :: q) => if r = i then some (j :: q) else some (r :: q)
  | x => x
theorem reroot_at {i j : Nat} {a : Addr} {q : Path} (h : ow a = some (i :: q)) : reroot ow i j a = some (j :: q) := by
  unfold reroot
  rw [h]
  exact if_pos rfl
theorem reroot_ne {i j r : Nat} {a : Addr} {q : Path} (h : ow a = some (r :: q)) (hr : r ≠ i) : reroot ow i j a = some (r :: q) := by
  unfold reroot
  rw [h]
  exact if_neg hr
theorem reroot_some {i j : Nat} {a : Addr} {p : Path} (h : reroot ow i j a = some p) : ∃ q, ow a = some q := by
  unfold reroot at h
  split at h
  · exact ⟨_, by assumption⟩
  · exact ⟨p, h⟩
theorem Rl.moved {i j : Nat} {σ' : L2.St} {L' : LS} (r : Rl K ca bh pn G F ow σ H L) (hlen : L'.length = σ'.length)
    (hs : ∀ (k : Nat) (s : S), L'[k]? = some (some s) → (L[k]? = some (some s) ∧ σ'[k]? = σ[k]? ∧ k + 1 ≠ i) ∨ ∃ v, σ'[k]? = some (some v) ∧ RS K ca F H (reroot ow i j) [k + 1] s v)
    (hp : ∀ (k : Nat) (v : V), pn[k]? = some (some v) → σ'[k]? = some (some v)) : Rl K ca bh pn G F (reroot ow i j) σ' H L' := by
  refine ⟨r.exF, r.exG, fun a q h => ?_, r.dG, hlen, fun k s h => ?_, hp, r.exB, fun a q h => ?_⟩
  · obtain ⟨q', h'⟩ := reroot_some h
    exact r.dF a q' h'
  · rcases hs k s h with ⟨h1, h2, h3⟩ | h1
    · obtain ⟨v, q1, q2⟩ := r.sl k s h1
      refine ⟨v, h2.trans q1, q2.go (Same.refl F) fun a q e => ⟨rfl, ?_⟩⟩
      exact reroot_ne (q := q) e h3
    · obtain ⟨v, q1, q2⟩ := h1
      exact ⟨v, q1, RT.of q2⟩
  · obtain ⟨q', h'⟩ := reroot_some h
    exact r.dB a q' h'
theorem keeps_reroot {i j : Nat} : Keeps H H ow (reroot ow i j) [i] [j] := fun _ _ e => ⟨rfl, reroot_at e⟩
end
end VS

namespace VS
open PySem PySem.Spec PyProof.Rows L2

section
variable {c : Ct} {n n1 n2 n3 : Bool}

def gC (d : D) : LS → R D := fun L => .ok d L
theorem jd_c {e : Expr} {v : V} {d : D} (h : PE c.X e (tC v)) (hd : ∀ K F, Dq K F v d) : JD c true e (gC d) := ⟨_, h, fun G F ow σ H L Rr => Post.val Rr (hd _ _)⟩
theorem jd_int {i j pos} : JD c true (.Constant (.int i) j pos) (gC (.int i)) := jd_c pe_int fun _ _ => .int _
theorem jd_bl {b j pos} : JD c true (.Constant (.bool b) j pos) (gC (.bool b)) := jd_c pe_bl fun _ _ => .bl _
theorem jd_non {j pos} : JD c true (.Constant .none j pos) (gC .none) := jd_c pe_non fun _ _ => .non
theorem jd_str {x j pos} : JD c true (.Constant (.str x) j pos) (gC (.str x)) := jd_c pe_str fun _ _ => .str _

def gVar (i : Nat) : LS → R D := fun L => match L[i]? with
  | some (some (.d d)) => .ok d L
  | some (some (.ol ds)) => .ok (.list ds) (L.set i (some (.d (.list ds))))
  | _ => .stuck
theorem jd_var (i : Nat) {x : Str} {pos : Pos} (h : PE c.X (.Name x pos) (tVar i)) : JD c true (.Name x pos) (gVar i) := by
  refine ⟨_, h, fun G F ow σ H L Rr => ?_⟩
  unfold gVar
  cases hL : L[i]? with
  | none => trivial
  | some o =>
    cases o with
    | none => trivial
    | some s =>
      obtain ⟨v, hv, rs⟩ := Rr.sl i s hL
      cases s with
      | d d =>
        cases rs with
        | d q => exact (Post.val (b := v) Rr q).imp fun Q q => ⟨v, hv, q⟩
      | ol ds =>
        cases rs with
        | ol a b q =>
          have hlt : i < L.length := (List.getElem?_eq_some_iff.mp hL).1
          obtain ⟨e, r'⟩ := Rr.frz (L' := L.set i (some (.d (.list ds)))) a b (List.length_set ..) (fun j s' h' => by
            rcases set_get h' with ⟨rfl, hs⟩ | ⟨hj, hs⟩
            · cases Option.some.inj hs
              exact .inr ⟨_, hv, .d (.lst upd_same (q.up (upd_same_of (Rr.dF _ _ b).1)))⟩
            · exact .inl ⟨hs, fun q z => hj (by injection z with z _; omega)⟩)
          refine Post.imp (t := fun Q => Q _ H) ?_ fun Q q => ⟨_, hv, q⟩
          intro Q q'
          exact q' _ H _ _ e (fun _ => Same.refl H) r' (.lst upd_same (q.up e))
      | _ => trivial
def gMove (i : Nat) : LS → R S := fun L => match L[i]? with
  | some (some (.d d)) => .ok (.d d) L
  | some (some (.scr _)) => .stuck
  | some (some (.b _)) => .stuck
  | some (some (.bl _)) => .stuck
  | some (some s) => .ok s (L.set i none)
  | _ => .stuck
theorem je_move (i : Nat) {x : Str} {pos : Pos} (h : PE c.X (.Name x pos) (tVar i)) : JE c true (.Name x pos) (gMove i) := by
  refine ⟨_, h, fun G F ow σ H L Rr => ?_⟩
  unfold gMove
  cases hL : L[i]? with
  | none => trivial
  | some o =>
    cases o with
    | none => trivial
    | some s =>
      obtain ⟨v, hv, rs⟩ := Rr.sl i s hL
      have own : ∀ s, RS c.X.K c.ca F H ow [i + 1] s v → Post c G true F H σ (.ok s (L.set i none)) (BE c.ca c.X.K) (tVar i σ H) := fun s rs => by
        refine Post.imp (t := fun Q => Q v H) ?_ fun Q q => ⟨_, hv, q⟩
        intro Q q'
        refine q' v H F (reroot ow (i + 1) 0) (Same.refl F) (fun _ => Same.refl H) (Rr.moved ((List.length_set ..).trans Rr.len) (fun k s' h' => ?_) Rr.pin) (rs.go (Same.refl F) keeps_reroot)
        rcases set_get h' with ⟨rfl, hs⟩ | ⟨hj, hs⟩
        · cases hs
        · exact .inl ⟨hs, rfl, by omega⟩
      cases s with
      | d d => exact (Post.val (b := v) (B := BE c.ca c.X.K) Rr (by cases rs with | d q => exact .d q)).imp fun Q q => ⟨v, hv, q⟩
      | scr ns => trivial
      | b d => trivial
      | bl d => trivial
      | os ss => exact own _ rs
      | ot ss => exact own _ rs
      | ol ds => exact own _ rs
      | odK ds => exact own _ rs
      | odT ds => exact own _ rs
      | ob k fs => exact own _ rs
def gPeek (i : Nat) : LS → R D := fun L => match L[i]? with
  | some (some (.d d)) => .ok d L
  | some (some (.ol ds)) => .ok (.list ds) L
  | some (some (.scr ns)) => .ok (.list (ns.map PyData.int)) L
  | some (some (.bl ds)) => .ok (.list ds) L
  | _ => .stuck
theorem peek_bv {K : PySem.W.Frag} {ca : Nat → Addr} {B F H : Hp} {ow : Addr → Option Path} {p : Path} {s : S} {v : V} (e : Same F H) (eB : Same B H) (rs : RT K ca B F H ow p s v) :
    match s with
    | .d d => BV K F H ow d v
    | .ol ds => BV K F H ow (.list ds) v
    | .scr ns => BV K F H ow (.list (ns.map PyData.int)) v
    | .bl ds => BV K F H ow (.list ds) v
    | _ => True := by
  cases s with
  | d d => cases rs with | d q => exact .inl q
  | ol ds => cases rs with | ol a b q => exact .inr ⟨_, _, _, rfl, rfl, .of a, q⟩
  | scr ns => cases rs with | scr a => exact .inr ⟨_, _, _, rfl, rfl, sql_same e a, DqA.ints _⟩
  | bl ds =>
    obtain ⟨l, vs, h1, h2, h3⟩ := rs
    exact .inr ⟨l, vs, ds, h1, rfl, .of (BF.inH e eB l _ h2), h3⟩
  | _ => trivial
theorem jv_var (i : Nat) {x : Str} {pos : Pos} (h : PE c.X (.Name x pos) (tVar i)) : JV c true (.Name x pos) (gPeek i) := by
  refine ⟨_, h, fun G F ow σ H L Rr => ?_⟩
  unfold gPeek
  cases hL : L[i]? with
  | none => trivial
  | some o =>
    cases o with
    | none => trivial
    | some s =>
      obtain ⟨v, hv, rs⟩ := Rr.sl i s hL
      have hb := peek_bv Rr.exF Rr.exB rs
      cases s with
      | d d => exact (Post.val (b := v) Rr hb).imp fun Q q => ⟨v, hv, q⟩
      | scr ns => exact (Post.val (b := v) Rr hb).imp fun Q q => ⟨v, hv, q⟩
      | ol ds => exact (Post.val (b := v) Rr hb).imp fun Q q => ⟨v, hv, q⟩
      | bl ds => exact (Post.val (b := v) Rr hb).imp fun Q q => ⟨v, hv, q⟩
      | _ => trivial

def gD (g : LS → R D) : LS → R S := fun L => (g L).bind fun d L1 => .ok (.d d) L1
theorem je_d {e : Expr} {g : LS → R D} (h : JD c n e g) : JE c n e (gD g) := by
  obtain ⟨t, ht, hg⟩ := h
  refine ⟨t, ht, fun G F ow σ H L Rr => ?_⟩
  have := (hg G F ow σ H L Rr).bind (n2 := true) (k := fun d L1 => .ok (.d d) L1) (B2 := BE c.ca c.X.K) (t2 := fun b H1 Q => Q b H1) fun a L1 b H1 F1 ow1 _ _ _ R1 q => Post.val (a := S.d a) (B := BE c.ca c.X.K) R1 (RS.d q)
  rw [Bool.and_true] at this
  exact this
theorem jv_d {e : Expr} {g : LS → R D} (h : JD c n e g) : JV c n e g := by
  obtain ⟨t, ht, hg⟩ := h
  refine ⟨t, ht, fun G F ow σ H L Rr => ?_⟩
  have p := hg G F ow σ H L Rr
  cases hr : g L with
  | stuck => trivial
  | err e L1 => rw [hr] at p; exact p
  | ok a L1 =>
    rw [hr] at p
    exact fun Q q => p Q fun b H' F' ow' e1 s1 R1 q1 => q b H' F' ow' e1 s1 R1 (.inl q1)
def frS : S → LS → R D
  | .d d, L => .ok d L
  | .ol ds, L => .ok (.list ds) L
  | _, _ => .stuck
def gFz (g : LS → R S) : LS → R D := fun L => (g L).bind frS
theorem post_fz {G F H : Hp} {ow : Addr → Option Path} {σ : L2.St} {L : LS} {s : S} {v : V} (Rr : c.Rl G F ow σ H L) (rs : RS c.X.K c.ca F H ow [0] s v) : Post c G true F H σ (frS s L) (BD c.X.K) (fun Q => Q v H) := by
  cases s with
  | d d => exact Post.val Rr (by cases rs with | d q => exact q)
  | ol ds =>
    cases rs with
    | ol a b q =>
      obtain ⟨e, r'⟩ := Rr.frz (L' := L) a b rfl (fun j s' h' => .inl ⟨h', fun q z => by injection z with z _; omega⟩)
      intro Q q'
      exact q' _ H _ _ e (fun _ => Same.refl H) r' (.lst upd_same (q.up e))
  | _ => trivial
theorem jd_fz {e : Expr} {g : LS → R S} (h : JE c n e g) : JD c n e (gFz g) := by
  obtain ⟨t, ht, hg⟩ := h
  refine ⟨t, ht, fun G F ow σ H L Rr => ?_⟩
  have := (hg G F ow σ H L Rr).bind (n2 := true) (k := frS) (B2 := BD c.X.K) (t2 := fun b H1 Q => Q b H1) fun a L1 b H1 F1 ow1 _ _ _ R1 q => post_fz R1 q
  rw [Bool.and_true] at this
  exact this

def onAt (ow : Addr → Option Path) (l : Addr) (p : Path) : Addr → Option Path := fun a => if a = l then some p else ow a
theorem onAt_same (ow : Addr → Option Path) (l : Addr) (p : Path) : onAt ow l p l = some p := if_pos rfl
theorem onAt_ne {ow : Addr → Option Path} {l a : Addr} {p : Path} (h : a ≠ l) : onAt ow l p a = ow a := if_neg h
theorem ne_fresh {H : Hp} {a l : Addr} (h : H a ≠ none) (hl : H l = none) : a ≠ l := fun z => by
  subst z
  exact h hl
section
variable {K : PySem.W.Frag} {ca : Nat → Addr} {bh : Hp} {pn : List (Option V)} {G F H : Hp} {ow : Addr → Option Path} {σ : L2.St} {L : LS}
theorem Rl.keepsNew (r : Rl K ca bh pn G F ow σ H L) {l : Addr} {o : HO} {p q : Path} (hl : H l = none) : Keeps H (upd H l o) ow (onAt ow l p) q q := fun a w h => by
  have ha : a ≠ l := ne_fresh (r.dF a _ h).2.2.1 hl
  exact ⟨upd_ne ha, by rw [onAt_ne ha]; exact h⟩
theorem Rl.new (r : Rl K ca bh pn G F ow σ H L) {l : Addr} {o : HO} {p : Path} (hl : H l = none) (ho : ¬ kT o := by first | exact kT_lst | exact kT_dK | exact kT_dT | exact kT_ins) : Same H (upd H l o) ∧ Rl K ca bh pn G F (onAt ow l p) σ (upd H l o) L := by
  have e : Same H (upd H l o) := upd_same_of hl
  have fN : F l = none := r.exF.free hl
  have gN : G l = none := r.exG.free hl
  refine ⟨e, r.exF.trans e, r.exG.trans e, fun a q h => ?_, r.dG, r.len, fun i s h => ?_, r.pin, r.exB.trans e, fun a q h => ?_⟩
  · by_cases z : a = l
    · subst z
      exact ⟨fN, gN, by rw [upd_same]; exact .of ho⟩
    · rw [onAt_ne z] at h
      obtain ⟨x, y, w⟩ := r.dF a q h
      exact ⟨x, y, by rw [upd_ne z]; exact w⟩
  · obtain ⟨v, q1, q2⟩ := r.sl i s h
    exact ⟨v, q1, q2.go (Same.refl F) (r.keepsNew hl)⟩
  · by_cases z : a = l
    · subst z
      exact r.exB.free hl
    · rw [onAt_ne z] at h
      exact r.dB a q h
theorem Rl.newF (r : Rl K ca bh pn G F ow σ H L) {l : Addr} {o : HO} (hl : H l = none) : Same F (upd F l o) ∧ Same H (upd H l o) ∧ Rl K ca bh pn G (upd F l o) ow σ (upd H l o) L := by
  have e : Same H (upd H l o) := upd_same_of hl
  have fN : F l = none := r.exF.free hl
  have gN : G l = none := r.exG.free hl
  refine ⟨upd_same_of fN, e, fun a u h => ?_, r.exG.trans e, fun a q h => ?_, fun a u h => ?_, r.len, fun i s h => ?_, r.pin, r.exB.trans e, r.dB⟩
  · by_cases z : a = l
    · subst z
      rw [upd_same] at h ⊢
      exact h
    · rw [upd_ne z] at h ⊢
      exact r.exF a u h
  · have ha : a ≠ l := ne_fresh (r.dF a _ h).2.2.1 hl
    obtain ⟨x, y, w⟩ := r.dF a q h
    exact ⟨by rw [upd_ne ha]; exact x, y, by rw [upd_ne ha]; exact w⟩
  · by_cases z : a = l
    · subst z
      exact .inl gN
    · rw [upd_ne z] at h
      exact r.dG a u h
  · obtain ⟨v, q1, q2⟩ := r.sl i s h
    refine ⟨v, q1, q2.go (upd_same_of fN) fun a w h => ?_⟩
    exact ⟨upd_ne (ne_fresh (r.dF a _ h).2.2.1 hl), h⟩
end
theorem post_new {G F H : Hp} {ow : Addr → Option Path} {σ : L2.St} {L : LS} {vs : List V} {ds : List D} (Rr : c.Rl G F ow σ H L) (h : DqA c.X.K F vs ds) :
    Post c G true F H σ (.ok (.ol ds) L) (BE c.ca c.X.K) (fun Q => ∀ l, H l = none → Q (.ref l) (upd H l (.lst vs))) := by
  intro Q q l hl
  obtain ⟨e, r'⟩ := Rr.new (o := .lst vs) (p := [0]) hl
  exact q _ _ F _ (Same.refl F) (fun _ => e) r' (.ol upd_same (onAt_same ..) h)
theorem post_tup {G F H : Hp} {ow : Addr → Option Path} {σ : L2.St} {L : LS} {vs : List V} {ds : List D} (Rr : c.Rl G F ow σ H L) (h : DqA c.X.K F vs ds) :
    Post c G true F H σ (.ok (.tuple ds) L) (BD c.X.K) (fun Q => ∀ l, H l = none → Q (.ref l) (upd H l (.tup vs))) := by
  intro Q q l hl
  obtain ⟨e1, e, r'⟩ := Rr.newF (o := .tup vs) hl
  exact q _ _ _ ow e1 (fun _ => e) r' (.tup upd_same (h.up e1))

def gNil : LS → R (List D) := fun L => .ok [] L
def gCons (a : LS → R D) (r : LS → R (List D)) : LS → R (List D) := fun L => (a L).bind fun d L1 => (r L1).bind fun ds L2 => .ok (d :: ds) L2
theorem ja_nil : JA c true [] gNil := ⟨_, pa_nil, fun G F ow σ H L Rr => Post.val Rr .nil⟩
theorem ja_cons {e : Expr} {es : List Expr} {a : LS → R D} {r : LS → R (List D)} (h1 : JD c n1 e a) (h2 : JA c n2 es r) (hs : starEach (e :: es) c.X.env = (false, eval e c.X.env) :: starEach es c.X.env := by rfl) : JA c (n1 && n2) (e :: es) (gCons a r) := by
  obtain ⟨t1, p1, q1⟩ := h1
  obtain ⟨t2, p2, q2⟩ := h2
  refine ⟨_, pa_cons p1 p2 hs, fun G F ow σ H L Rr => ?_⟩
  refine (q1 G F ow σ H L Rr).bind fun d L1 v H1 F1 ow1 _ _ _ R1 b1 => ?_
  have := (q2 G F1 ow1 σ H1 L1 R1).bind (n2 := true) (k := fun ds L2 => .ok (d :: ds) L2) (B2 := BA c.X.K) (t2 := fun vs H2 Q => Q (v :: vs) H2) fun ds L2 vs H2 F2 ow2 _ e2 _ R2 b2 => Post.val R2 (.cons (b1.up e2) b2)
  rw [Bool.and_true] at this
  exact this
def gLst (a : LS → R (List D)) : LS → R S := fun L => (a L).bind fun ds L1 => if ds.length ≤ sizeLine then .ok (.ol ds) L1 else .stuck
def gTup (a : LS → R (List D)) : LS → R D := fun L => (a L).bind fun ds L1 => if ds.length ≤ sizeLine then .ok (.tuple ds) L1 else .stuck
theorem Post.guard {α β : Type} {G F H : Hp} {σ : L2.St} {p : Prop} [Decidable p] {r : R α} {B : Hp → Hp → (Addr → Option Path) → α → β → Prop} {t : (β → Hp → Prop) → Prop} (h : p → Post c G n F H σ r B t) : Post c G n F H σ (if p then r else .stuck) B t := by
  by_cases hp : p
  · rw [if_pos hp]
    exact h hp
  · rw [if_neg hp]
    trivial
theorem je_lst {es : List Expr} {pos : Pos} {a : LS → R (List D)} (h : JA c n es a) : JE c n (.List es pos) (gLst a) := by
  obtain ⟨t, p, q⟩ := h
  refine ⟨_, pe_lst p, fun G F ow σ H L Rr => ?_⟩
  have := (q G F ow σ H L Rr).bind (n2 := true) (k := fun ds L1 => if ds.length ≤ sizeLine then R.ok (.ol ds) L1 else .stuck) (B2 := BE c.ca c.X.K) (t2 := fun vs H1 Q => vs.length ≤ sizeLine ∧ ∀ l, H1 l = none → Q (.ref l) (upd H1 l (.lst vs)))
    fun ds L1 vs H1 F1 ow1 _ _ _ R1 b1 => Post.guard fun hz => (post_new R1 b1).imp fun Q q => ⟨by rw [DqA.len b1]; exact hz, q⟩
  rw [Bool.and_true] at this
  exact this
theorem jd_tup {es : List Expr} {k : Nat} {pos : Pos} {a : LS → R (List D)} (h : JA c n es a) : JD c n (.Tuple es k pos) (gTup a) := by
  obtain ⟨t, p, q⟩ := h
  refine ⟨_, pe_tup p, fun G F ow σ H L Rr => ?_⟩
  have := (q G F ow σ H L Rr).bind (n2 := true) (k := fun ds L1 => if ds.length ≤ sizeLine then R.ok (.tuple ds) L1 else .stuck) (B2 := BD c.X.K) (t2 := fun vs H1 Q => vs.length ≤ sizeLine ∧ ∀ l, H1 l = none → Q (.ref l) (upd H1 l (.tup vs)))
    fun ds L1 vs H1 F1 ow1 _ _ _ R1 b1 => Post.guard fun hz => (post_tup R1 b1).imp fun Q q => ⟨by rw [DqA.len b1]; exact hz, q⟩
  rw [Bool.and_true] at this
  exact this
end
end VS

namespace VS
open PySem PySem.Spec PyProof.Rows L2

section
variable {c : Ct} {n n1 n2 n3 : Bool}
theorem Post.bind1 {α β γ δ : Type} {G F H : Hp} {σ : L2.St} {r : R α} {k : α → LS → R γ} {B1 : Hp → Hp → (Addr → Option Path) → α → β → Prop} {B2 : Hp → Hp → (Addr → Option Path) → γ → δ → Prop} {t1 : (β → Hp → Prop) → Prop} {t2 : β → Hp → (δ → Hp → Prop) → Prop}
    (h1 : Post c G n F H σ r B1 t1)
    (h2 : ∀ a L1 b H1 F1 ow1, r = .ok a L1 → Same F F1 → (n = true → Same H H1) → c.Rl G F1 ow1 σ H1 L1 → B1 F1 H1 ow1 a b → Post c G true F1 H1 σ (k a L1) B2 (t2 b H1)) :
    Post c G n F H σ (r.bind k) B2 (fun Q => t1 fun b H1 => t2 b H1 Q) := by
  have h := h1.bind h2
  rw [Bool.and_true] at h
  exact h

def Leaf2 (K : PySem.W.Frag) (r : R2) (f : D → D → Option D) : Prop :=
  ∀ (F H : Hp) (x y : V) (d e z : D), Same F H → Dq K F x d → Dq K F y e → f d e = some z → ∃ v, Dq K F v z ∧ ∀ Q : VK, Q v H → r x y H Q
def Leaf2S (K : PySem.W.Frag) (r : R2) (f : D → D → Option S) : Prop :=
  ∀ (F H : Hp) (x y : V) (d e : D) (z : S), Same F H → Dq K F x d → Dq K F y e → f d e = some z →
    (∃ d v, z = .d d ∧ Dq K F v d ∧ ∀ Q : VK, Q v H → r x y H Q) ∨ ∃ ds vs, z = .ol ds ∧ DqA K F vs ds ∧ ∀ Q : VK, (∀ l, H l = none → Q (.ref l) (upd H l (.lst vs))) → r x y H Q
def ofO {α : Type} (o : Option α) (L : LS) : R α := match o with
  | some a => .ok a L
  | none => .stuck
theorem ofO_some {α : Type} (a : α) (L : LS) : ofO (some a) L = .ok a L := rfl
theorem ofO_none {α : Type} (L : LS) : (ofO none L : R α) = .stuck := rfl
def gOp {α : Type} (f : D → D → Option α) (a b : LS → R D) : LS → R α := fun L => (a L).bind fun d L1 => (b L1).bind fun e L2 => ofO (f d e) L2
theorem jdg_op {r : R2} {f : D → D → Option D} (lf : Leaf2 c.X.K r f) {ga gb : LS → R D} {ta tb : TE} (ha : Jdg c n1 ga BD ta) (hb : Jdg c n2 gb BD tb) : Jdg c (n1 && n2) (gOp f ga gb) BD (tOp r ta tb) := by
  intro G F ow σ H L Rr
  refine (ha G F ow σ H L Rr).bind fun d L1 v H1 F1 ow1 _ _ _ R1 b1 => ?_
  refine (hb G F1 ow1 σ H1 L1 R1).bind1 fun e L2 u H2 F2 ow2 _ e2 _ R2 b2 => ?_
  cases hf : f d e with
  | none => trivial
  | some z =>
    obtain ⟨w, hw, q⟩ := lf F2 H2 v u d e z R2.exF (b1.up e2) b2 hf
    exact (Post.val R2 hw).imp q
theorem jdg_opS {r : R2} {f : D → D → Option S} (lf : Leaf2S c.X.K r f) {ga gb : LS → R D} {ta tb : TE} (ha : Jdg c n1 ga BD ta) (hb : Jdg c n2 gb BD tb) : Jdg c (n1 && n2) (gOp f ga gb) (BE c.ca) (tOp r ta tb) := by
  intro G F ow σ H L Rr
  refine (ha G F ow σ H L Rr).bind fun d L1 v H1 F1 ow1 _ _ _ R1 b1 => ?_
  refine (hb G F1 ow1 σ H1 L1 R1).bind1 fun e L2 u H2 F2 ow2 _ e2 _ R2 b2 => ?_
  cases hf : f d e with
  | none => trivial
  | some z =>
    rcases lf F2 H2 v u d e z R2.exF (b1.up e2) b2 hf with ⟨d', w, rfl, hw, q⟩ | ⟨ds, vs, rfl, hw, q⟩
    · exact (Post.val (a := S.d d') (B := BE c.ca c.X.K) R2 (RS.d hw)).imp q
    · exact (post_new R2 hw).imp q
theorem Leaf2S.or {K : PySem.W.Frag} {r r' : R2} {f f' : D → D → Option S} (h : Leaf2S K r f) (h' : Leaf2S K r' f') : Leaf2S K (fun x y H Q => r x y H Q ∨ r' x y H Q) (fun d e => (f d e).orElse fun _ => f' d e) := by
  intro F H x y d e z s hx hy hf
  have hf : (f d e).orElse (fun _ => f' d e) = some z := hf
  cases h1 : f d e with
  | some w =>
    rw [h1] at hf
    rcases h F H x y d e w s hx hy h1 with ⟨a, b, p, q, k⟩ | ⟨a, b, p, q, k⟩
    · cases hf; exact .inl ⟨a, b, p, q, fun Q z => .inl (k Q z)⟩
    · cases hf; exact .inr ⟨a, b, p, q, fun Q z => .inl (k Q z)⟩
  | none =>
    rw [h1] at hf
    have h2 : f' d e = some z := hf
    rcases h' F H x y d e z s hx hy h2 with ⟨a, b, p, q, k⟩ | ⟨a, b, p, q, k⟩
    · exact .inl ⟨a, b, p, q, fun Q z => .inr (k Q z)⟩
    · exact .inr ⟨a, b, p, q, fun Q z => .inr (k Q z)⟩
def dInt2 (C : Int → Int → Bool) (g : Int → Int → D) : D → D → Option D
  | .int i, .int j => if C i j then some (g i j) else none
  | _, _ => none
theorem leaf_int {K : PySem.W.Frag} {r : R2} {C : Int → Int → Bool} {g : Int → Int → D} {gv : Int → Int → V} (hr : ∀ (i j : Int) (H : Hp) (Q : VK), C i j = true → Q (gv i j) H → r (.int i) (.int j) H Q) (hg : ∀ i j F, Dq K F (gv i j) (g i j)) : Leaf2 K r (dInt2 C g) := by
  intro F H x y d e z _ hx hy hf
  cases hx with
  | int i =>
    cases hy with
    | int j =>
      by_cases hC : C i j = true
      · have hf' : some (g i j) = some z := by
          have : dInt2 C g (.int i) (.int j) = some (g i j) := if_pos hC
          rw [this] at hf
          exact hf
        cases hf'
        exact ⟨_, hg i j F, fun Q q => hr i j H Q hC q⟩
      · have : dInt2 C g (.int i) (.int j) = none := if_neg hC
        rw [this] at hf
        cases hf
    | _ => cases hf
  | _ => cases hf
abbrev yes2 : Int → Int → Bool := fun _ _ => true
def mulOk (i j : Int) : Bool := decide ((-(2 ^ 64) < i ∧ i < 2 ^ 64) ∨ (-(2 ^ 64) < j ∧ j < 2 ^ 64))
def divOk (_ j : Int) : Bool := decide (0 < j ∧ j < 1073741824)
def modOk (_ j : Int) : Bool := decide (0 < j)
def powOk (i j : Int) : Bool := decide (0 ≤ j ∧ j ≤ 1000000 ∧ i.natAbs < 2 ^ 64)
theorem mulOk_to {i j : Int} (h : mulOk i j = true) : CMul i j := by
  have h' := of_decide_eq_true h
  exact h'
theorem divOk_to {i j : Int} (h : divOk i j = true) : CDiv i j := by
  have h' := of_decide_eq_true h
  exact h'
theorem powOk_to {i j : Int} (h : powOk i j = true) : CPow i j := by
  have h' := of_decide_eq_true h
  exact h'
def dSub : D → D → Option D := dInt2 yes2 fun i j => .int (i - j)
def dMod : D → D → Option D := dInt2 modOk fun i j => .int (i % j)
def dDiv : D → D → Option D := dInt2 divOk fun i j => .int (i / j)
def dPow : D → D → Option D := dInt2 powOk fun i j => .int (i ^ j.toNat)
def dLift (f : D → D → Option D) : D → D → Option S := fun d e => (f d e).map S.d
theorem Leaf2.lift {K : PySem.W.Frag} {r : R2} {f : D → D → Option D} (h : Leaf2 K r f) : Leaf2S K r (dLift f) := by
  intro F H x y d e z s hx hy hf
  obtain ⟨w, hw, e1⟩ := Option.map_eq_some_iff.mp hf
  obtain ⟨v, hv, q⟩ := h F H x y d e w s hx hy hw
  exact .inl ⟨w, v, e1.symm, hv, q⟩
def dAddI : D → D → Option D := dInt2 yes2 fun i j => .int (i + j)
def dAddT : D → D → Option D
  | .str x, .str y => if x.length + y.length ≤ sizeLine then some (.str (x ++ y)) else none
  | _, _ => none
def dAddL : D → D → Option S
  | .list xs, .list ys => if xs.length + ys.length ≤ sizeLine then some (.ol (xs ++ ys)) else none
  | _, _ => none
def dAdd : D → D → Option S := fun d e => (dLift dAddI d e).orElse fun _ => (dLift dAddT d e).orElse fun _ => dAddL d e
theorem dAdd_int (i j : Int) : dAdd (.int i) (.int j) = some (.d (.int (i + j))) := rfl
theorem dAdd_str (x y : Str) : dAdd (.str x) (.str y) = if x.length + y.length ≤ sizeLine then some (.d (.str (x ++ y))) else none := by
  show ((dAddT (.str x) (.str y)).map S.d).orElse _ = _
  unfold dAddT
  by_cases h : x.length + y.length ≤ sizeLine
  · simp [h]
  · simp [h, dAddL]
def dMulI : D → D → Option D := dInt2 mulOk fun i j => .int (i * j)
def repOk (n : Nat) (k : Int) : Bool := decide (-(2 ^ 63) ≤ k ∧ k < 2 ^ 63 ∧ n * k.toNat ≤ sizeLine)
def dMulL : D → D → Option S
  | .list xs, .int k => if repOk xs.length k then some (.ol (List.replicate k.toNat xs).flatten) else none
  | _, _ => none
def dMul : D → D → Option S := fun d e => (dLift dMulI d e).orElse fun _ => dMulL d e
theorem leaf_addI {K : PySem.W.Frag} : Leaf2 K (rI0 fun i j => .int (i + j)) dAddI := leaf_int (gv := fun i j => .int (i + j)) (fun i j H Q _ q => ⟨i, j, rfl, rfl, q⟩) fun _ _ _ => .int _
theorem leaf_addT {K : PySem.W.Frag} : Leaf2 K (fun x y H Q => ∃ i j, x = .str i ∧ y = .str j ∧ i.length + j.length ≤ sizeLine ∧ Q (.str (i ++ j)) H) dAddT := by
  intro F H x y d e z _ hx hy hf
  cases hx with
  | str a =>
    cases hy with
    | str b =>
      by_cases h : a.length + b.length ≤ sizeLine
      · have hz : some (PyData.str (a ++ b)) = some z := (if_pos h).symm.trans hf
        cases hz
        exact ⟨_, .str _, fun Q q => ⟨a, b, rfl, rfl, h, q⟩⟩
      · have hz : none = some z := (if_neg h).symm.trans hf
        cases hz
    | _ => cases hf
  | _ => cases hf
theorem leaf_addL {K : PySem.W.Frag} : Leaf2S K rCat dAddL := by
  intro F H x y d e z s hx hy hf
  cases hx with
  | lst a1 a2 =>
    cases hy with
    | lst b1 b2 =>
      rename_i l xs ds l' ys es
      by_cases h : ds.length + es.length ≤ sizeLine
      · have hz : some (S.ol (ds ++ es)) = some z := (if_pos h).symm.trans hf
        cases hz
        exact .inr ⟨_, xs ++ ys, rfl, a2.append b2, fun Q q => ⟨l, l', xs, ys, rfl, rfl, s _ _ a1, s _ _ b1, by rw [a2.len, b2.len]; exact h, q⟩⟩
      · have hz : none = some z := (if_neg h).symm.trans hf
        cases hz
    | _ => cases hf
  | _ => cases hf
theorem DqA.flat {K : PySem.W.Frag} {F : Hp} {vs : List V} {ds : List D} (h : DqA K F vs ds) : ∀ k : Nat, DqA K F (List.replicate k vs).flatten (List.replicate k ds).flatten
  | 0 => .nil
  | k + 1 => by
    rw [List.replicate_succ, List.replicate_succ, List.flatten_cons, List.flatten_cons]
    exact h.append (h.flat k)
theorem leaf_mulL {K : PySem.W.Frag} : Leaf2S K rRep dMulL := by
  intro F H x y d e z s hx hy hf
  cases hx with
  | lst a1 a2 =>
    cases hy with
    | int k =>
      rename_i l xs ds
      by_cases h : repOk ds.length k = true
      · have hz : some (S.ol (List.replicate k.toNat ds).flatten) = some z := (if_pos h).symm.trans hf
        cases hz
        obtain ⟨h1, h2, h3⟩ := of_decide_eq_true h
        exact .inr ⟨_, _, rfl, a2.flat _, fun Q q => ⟨l, k, xs, rfl, rfl, s _ _ a1, h1, h2, by rw [a2.len]; exact h3, q⟩⟩
      · have hz : none = some z := (if_neg h).symm.trans hf
        cases hz
    | _ => cases hf
  | _ => cases hf
variable {a b : Expr} {ga gb : LS → R D} {pos : Pos}
theorem je_add (ha : JD c n1 a ga) (hb : JD c n2 b gb) : JE c (n1 && n2) (.BinOp a .Add b pos) (gOp dAdd ga gb) := by
  obtain ⟨ta, p1, q1⟩ := ha
  obtain ⟨tb, p2, q2⟩ := hb
  exact ⟨_, pe_op (op_add.or (op_add_str.or op_cat)) p1 p2, jdg_opS (leaf_addI.lift.or (leaf_addT.lift.or leaf_addL)) q1 q2⟩
theorem je_mul (ha : JD c n1 a ga) (hb : JD c n2 b gb) : JE c (n1 && n2) (.BinOp a .Mult b pos) (gOp dMul ga gb) := by
  obtain ⟨ta, p1, q1⟩ := ha
  obtain ⟨tb, p2, q2⟩ := hb
  exact ⟨_, pe_op (op_mul.or op_rep) p1 p2, jdg_opS ((leaf_int (gv := fun i j => .int (i * j)) (fun i j H Q hc q => ⟨i, j, rfl, rfl, mulOk_to hc, q⟩) fun _ _ _ => .int _ : Leaf2 c.X.K (rI CMul fun i j => .int (i * j)) dMulI).lift.or leaf_mulL) q1 q2⟩
theorem jd_bin {op : Operator} {r : R2} {f : D → D → Option D} (ho : OpR c.X (binaryOp op) r) (lf : Leaf2 c.X.K r f) (ha : JD c n1 a ga) (hb : JD c n2 b gb) : JD c (n1 && n2) (.BinOp a op b pos) (gOp f ga gb) := by
  obtain ⟨ta, p1, q1⟩ := ha
  obtain ⟨tb, p2, q2⟩ := hb
  exact ⟨_, pe_op ho p1 p2, jdg_op lf q1 q2⟩
theorem jd_sub (ha : JD c n1 a ga) (hb : JD c n2 b gb) : JD c (n1 && n2) (.BinOp a .Sub b pos) (gOp dSub ga gb) :=
  jd_bin op_sub (leaf_int (gv := fun i j => .int (i - j)) (fun i j H Q _ q => ⟨i, j, rfl, rfl, q⟩) fun _ _ _ => .int _) ha hb
theorem jd_mod (ha : JD c n1 a ga) (hb : JD c n2 b gb) : JD c (n1 && n2) (.BinOp a .Mod b pos) (gOp dMod ga gb) :=
  jd_bin op_mod (leaf_int (gv := fun i j => .int (i % j)) (fun i j H Q hc q => ⟨i, j, rfl, rfl, of_decide_eq_true hc, q⟩) fun _ _ _ => .int _) ha hb
theorem jd_div (ha : JD c n1 a ga) (hb : JD c n2 b gb) : JD c (n1 && n2) (.BinOp a .FloorDiv b pos) (gOp dDiv ga gb) :=
  jd_bin op_fdiv (leaf_int (gv := fun i j => .int (i / j)) (fun i j H Q hc q => ⟨i, j, rfl, rfl, divOk_to hc, q⟩) fun _ _ _ => .int _) ha hb
theorem jd_pow (ha : JD c n1 a ga) (hb : JD c n2 b gb) : JD c (n1 && n2) (.BinOp a .Pow b pos) (gOp dPow ga gb) :=
  jd_bin op_pow (leaf_int (gv := fun i j => .int (i ^ j.toNat)) (fun i j H Q hc q => ⟨i, j, rfl, rfl, powOk_to hc, q⟩) fun _ _ _ => .int _) ha hb
def dNeg : D → Option D
  | .int i => some (.int (-i))
  | _ => none
def gUn {α : Type} (f : D → Option α) (a : LS → R D) : LS → R α := fun L => (a L).bind fun d L1 => ofO (f d) L1
theorem jd_neg (ha : JD c n a ga) : JD c n (.UnaryOp .USub a pos) (gUn dNeg ga) := by
  obtain ⟨ta, p1, q1⟩ := ha
  refine ⟨_, pe_un un_neg p1, fun G F ow σ H L Rr => (q1 G F ow σ H L Rr).bind1 fun d L1 v H1 F1 ow1 _ _ _ R1 b1 => ?_⟩
  cases b1 with
  | int i => exact (Post.val (a := PyData.int (-i)) (B := BD c.X.K) R1 (Dq.int _)).imp fun Q q => ⟨i, rfl, q⟩
  | _ => trivial

def dCmp (f : Int → Int → Bool) (g : Str → Str → Bool) : D → D → Option D
  | .int i, .int j => some (.bool (f i j))
  | .str x, .str y => some (.bool (g x y))
  | _, _ => none
def dLt : D → D → Option D := dCmp (fun i j => decide (i < j)) fun x y => decide (x.cps.toList < y.cps.toList)
def dLe : D → D → Option D := dCmp (fun i j => decide (i ≤ j)) fun x y => !decide (y.cps.toList < x.cps.toList)
def dGt : D → D → Option D := dCmp (fun i j => decide (j < i)) fun x y => decide (y.cps.toList < x.cps.toList)
def dGe : D → D → Option D := dCmp (fun i j => decide (j ≤ i)) fun x y => !decide (x.cps.toList < y.cps.toList)
theorem leaf_cmp {K : PySem.W.Frag} {f : Int → Int → Bool} {g : Str → Str → Bool} : Leaf2 K (fun x y H Q => rI0 (fun i j => .bl (f i j)) x y H Q ∨ ∃ i j, x = .str i ∧ y = .str j ∧ Q (.bl (g i j)) H) (dCmp f g) := by
  intro F H x y d e z _ hx hy hf
  cases hx with
  | int i =>
    cases hy with
    | int j =>
      cases hf
      exact ⟨_, .bl _, fun Q q => .inl ⟨i, j, rfl, rfl, q⟩⟩
    | _ => cases hf
  | str i =>
    cases hy with
    | str j =>
      cases hf
      exact ⟨_, .bl _, fun Q q => .inr ⟨i, j, rfl, rfl, q⟩⟩
    | _ => cases hf
  | _ => cases hf
def scalD : D → D → Bool
  | .none, .none => true
  | .none, .int _ => true
  | .int _, .none => true
  | .none, .bool _ => true
  | .bool _, .none => true
  | .none, .str _ => true
  | .str _, .none => true
  | .int _, .int _ => true
  | .bool _, .bool _ => true
  | .str _, .str _ => true
  | .int _, .str _ => true
  | .str _, .int _ => true
  | .bool _, .str _ => true
  | .str _, .bool _ => true
  | _, _ => false
def eqOk (d e : D) : Prop := scalD d e = true ∨ (SeqAt.shaped d = true ∧ SeqAt.shaped e = true)
instance (d e : D) : Decidable (eqOk d e) := inferInstanceAs (Decidable (_ ∨ _))
def dEq : D → D → Option D := fun d e => if eqOk d e then some (.bool (d.eqv e)) else none
def dNe : D → D → Option D := fun d e => if eqOk d e then some (.bool (!d.eqv e)) else none
theorem scal_of {K : PySem.W.Frag} {F : Hp} {x y : V} {d e : D} (hx : Dq K F x d) (hy : Dq K F y e) (h : scalD d e = true) : scal x y = true ∧ d.eqv e = decide (x = y) := by
  cases hx <;> cases hy <;> first
    | (exfalso; exact Bool.noConfusion h)
    | (refine ⟨rfl, ?_⟩; simp only [PyData.eqv]; first | (symm; simp; done) | (rw [Bool.beq_eq_decide_eq]; apply decide_eq_decide.mpr; constructor; (intro z; rw [z]); (intro z; injection z)))
def rIsB2 : R2 := fun x y H Q => rIsB x y H Q ∨ (x = .non ∧ (∃ b : Bool, y = .bl b) ∧ Q (.bl false) H)
def rNotB2 : R2 := fun x y H Q => rNotB x y H Q ∨ (x = .non ∧ (∃ b : Bool, y = .bl b) ∧ Q (.bl true) H)
theorem op_isBl2 {X : Cx} : OpR X (compareOp .Is) rIsB2 := by
  intro pins s σ H x y v u Q I rx ry h
  rcases h with h | ⟨rfl, ⟨b, rfl⟩, q⟩
  · exact op_isBl pins s σ H x y v u Q I rx ry h
  · cases rx
    cases (show u = Value.bool b from ry)
    exact wpAny_is_other rfl (fun z => nomatch z) ⟨.bl false, H, I, rfl, q⟩
theorem op_notBl2 {X : Cx} : OpR X (compareOp .IsNot) rNotB2 := by
  intro pins s σ H x y v u Q I rx ry h
  rcases h with h | ⟨rfl, ⟨b, rfl⟩, q⟩
  · exact op_notBl pins s σ H x y v u Q I rx ry h
  · cases rx
    cases (show u = Value.bool b from ry)
    exact wpAny_isNot_other rfl (fun z => nomatch z) ⟨.bl true, H, I, rfl, q⟩
def dIs : D → D → Option D
  | .bool a, .bool b => some (.bool (decide (a = b)))
  | .none, .bool _ => some (.bool false)
  | .none, .none => some (.bool true)
  | _, .none => some (.bool false)
  | _, _ => none
def dIsN : D → D → Option D
  | .bool a, .bool b => some (.bool (!decide (a = b)))
  | .none, .bool _ => some (.bool true)
  | .none, .none => some (.bool false)
  | _, .none => some (.bool true)
  | _, _ => none
theorem leaf_is {K : PySem.W.Frag} : Leaf2 K (fun x y H Q => (y = .non ∧ Q (.bl (decide (x = .non))) H) ∨ rIsB2 x y H Q) dIs := by
  intro F H x y d e z s hx hy hf
  cases hy with
  | non => cases hx <;> (cases hf; exact ⟨_, .bl _, fun Q q => .inl ⟨rfl, q⟩⟩)
  | bl b =>
    cases hx with
    | bl a =>
      cases hf
      exact ⟨_, .bl _, fun Q q => .inr (.inl ⟨a, b, rfl, rfl, q⟩)⟩
    | non =>
      cases hf
      exact ⟨_, .bl _, fun Q q => .inr (.inr ⟨rfl, ⟨b, rfl⟩, q⟩)⟩
    | _ => cases hf
  | _ => cases hx <;> cases hf
theorem leaf_isN {K : PySem.W.Frag} : Leaf2 K (fun x y H Q => (y = .non ∧ Q (.bl (!decide (x = .non))) H) ∨ rNotB2 x y H Q) dIsN := by
  intro F H x y d e z s hx hy hf
  cases hy with
  | non => cases hx <;> (cases hf; exact ⟨_, .bl _, fun Q q => .inl ⟨rfl, q⟩⟩)
  | bl b =>
    cases hx with
    | bl a =>
      cases hf
      exact ⟨_, .bl _, fun Q q => .inr (.inl ⟨a, b, rfl, rfl, q⟩)⟩
    | non =>
      cases hf
      exact ⟨_, .bl _, fun Q q => .inr (.inr ⟨rfl, ⟨b, rfl⟩, q⟩)⟩
    | _ => cases hf
  | _ => cases hx <;> cases hf
def flatD : D → Bool
  | .none => true
  | .bool _ => true
  | .int _ => true
  | .str _ => true
  | _ => false
def inOk (d : D) (ds : List D) : Prop := (flatD d = true ∧ ds.all flatD = true) ∨ (SeqAt.shaped d = true ∧ SeqAt.shaped (.list ds) = true)
instance (d : D) (ds : List D) : Decidable (inOk d ds) := inferInstanceAs (Decidable (_ ∨ _))
def dInB (d e : D) : Option Bool := match e with
  | .list ds => if inOk d ds then some (ds.any fun z => z.eqv d) else none
  | .tuple ds => if flatD d = true ∧ ds.all flatD = true then some (ds.any fun z => z.eqv d) else none
  | .str y => (match d with
    | .str x => if x.length = 1 then some (decide (x.cps.getD 0 0 ∈ y.cps.toList)) else none
    | _ => none)
  | _ => none
def dIn : D → D → Option D := fun d e => (dInB d e).map .bool
def dNotIn : D → D → Option D := fun d e => (dInB d e).map fun b => .bool (!b)
theorem flat_of {K : PySem.W.Frag} {F : Hp} {v : V} {d : D} (h : Dq K F v d) (hd : flatD d = true) : flatV v = true := by
  cases h <;> first | rfl | cases hd
theorem flats_of {K : PySem.W.Frag} {F : Hp} : ∀ {vs : List V} {ds : List D}, DqA K F vs ds → ds.all flatD = true → vs.all flatV = true
  | _, _, .nil, _ => rfl
  | _, _, .cons a b, h => by
    rw [List.all_cons, Bool.and_eq_true] at h ⊢
    exact ⟨flat_of a h.1, flats_of b h.2⟩
theorem eqV_eqv {K : PySem.W.Frag} {F : Hp} {v u : V} {d e : D} (h : Dq K F v d) (h' : Dq K F u e) (hd : flatD d = true) (he : flatD e = true) : eqV v u = d.eqv e := by
  cases h <;> cases h' <;> first
    | rfl
    | (exfalso; exact Bool.noConfusion hd)
    | (exfalso; exact Bool.noConfusion he)
    | simp only [eqV, PyData.eqv]
theorem inV_any {K : PySem.W.Frag} {F : Hp} {v : V} {d : D} (h : Dq K F v d) (hd : flatD d = true) : ∀ {vs : List V} {ds : List D}, DqA K F vs ds → ds.all flatD = true → inV v vs = ds.any fun z => z.eqv d
  | _, _, .nil, _ => rfl
  | _, _, .cons a b, hh => by
    rw [List.all_cons, Bool.and_eq_true] at hh
    have := inV_any h hd b hh.2
    unfold inV at this ⊢
    rw [List.any_cons, List.any_cons, this, eqV_eqv a h hh.1 hd]
theorem one_sign {x : Str} (h : x.length = 1) : x = ⟨#[x.cps.getD 0 0]⟩ := by
  obtain ⟨cps⟩ := x
  have h' : cps.size = 1 := h
  congr 1
  apply Array.ext
  · simp [h']
  · intro i h1 h2
    have : i = 0 := by
      simp at h2
      omega
    subst this
    simp [Array.getD, h']
theorem in_core {K : PySem.W.Frag} {F H : Hp} {x y : V} {d e : D} {z : Bool} (s : Same F H) (hx : Dq K F x d) (hy : Dq K F y e) (hf : dInB d e = some z) (neg : Bool) (Q : VK) (q : Q (.bl (if neg then !z else z)) H) :
    (∃ (c : Nat) (w : Str), x = .str ⟨#[c]⟩ ∧ y = .str w ∧ Q (.bl (if neg then !decide (c ∈ w.cps.toList) else decide (c ∈ w.cps.toList))) H) ∨
      (∃ d ds, Dp K H x d ∧ Dp K H y (.list ds) ∧ SeqAt.shaped d = true ∧ SeqAt.shaped (.list ds) = true ∧ Q (.bl (if neg then !ds.any (fun z => PyData.eqv z d) else ds.any fun z => PyData.eqv z d)) H) ∨ rIn K neg x y H Q := by
  cases hy with
  | lst a1 a2 =>
    rename_i l vs ds
    have hf : (if inOk d ds then some (ds.any fun z => z.eqv d) else none) = some z := hf
    by_cases h : inOk d ds
    · rw [if_pos h] at hf
      cases hf
      rcases h with h | h
      · rw [← inV_any hx h.1 a2 h.2] at q
        exact .inr (.inr ⟨l, vs, rfl, .inl (.of (s _ _ a1)), flat_of hx h.1, flats_of a2 h.2, q⟩)
      · exact .inr (.inl ⟨d, ds, (hx.up s).dp, ((Dq.lst a1 a2).up s).dp, h.1, h.2, q⟩)
    · rw [if_neg h] at hf
      cases hf
  | tup a1 a2 =>
    rename_i l vs ds
    have hf : (if flatD d = true ∧ ds.all flatD = true then some (ds.any fun z => z.eqv d) else none) = some z := hf
    by_cases h : flatD d = true ∧ ds.all flatD = true
    · rw [if_pos h] at hf
      cases hf
      rw [← inV_any hx h.1 a2 h.2] at q
      exact .inr (.inr ⟨l, vs, rfl, .inr (sqt_same s a1), flat_of hx h.1, flats_of a2 h.2, q⟩)
    · rw [if_neg h] at hf
      cases hf
  | str w =>
    cases hx with
    | str x =>
      have hf' : (if x.length = 1 then some (decide (x.cps.getD 0 0 ∈ w.cps.toList)) else none) = some z := hf
      by_cases h : x.length = 1
      · rw [if_pos h] at hf'
        cases hf'
        exact .inl ⟨_, w, by rw [← one_sign h], rfl, q⟩
      · rw [if_neg h] at hf'
        cases hf'
    | _ => cases hf
  | _ => cases hx <;> cases hf
def rInAny (K : PySem.W.Frag) : R2 := fun x y H Q => (∃ (c : Nat) (z : Str), x = .str ⟨#[c]⟩ ∧ y = .str z ∧ Q (.bl (decide (c ∈ z.cps.toList))) H) ∨ rInD K x y H Q ∨ rIn K false x y H Q
def rNotInAny (K : PySem.W.Frag) : R2 := fun x y H Q => (∃ (c : Nat) (z : Str), x = .str ⟨#[c]⟩ ∧ y = .str z ∧ Q (.bl (!decide (c ∈ z.cps.toList))) H) ∨ rNotInD K x y H Q ∨ rIn K true x y H Q
variable {k : Nat}
theorem room65 {A : Around} (hr : Room k A) : A.units + 65 < cLine := by have := hr.un; omega
def asB : D → LS → R Bool
  | .bool b, L => .ok b L
  | _, _ => .stuck
def gB (g : LS → R D) : LS → R Bool := fun L => (g L).bind asB
theorem jdg_B {g : LS → R D} {t : TE} (h : Jdg c n g BD t) : Jdg c n (gB g) BB (fun σ H Q => t σ H fun x H' => ∃ k, x = .bl k ∧ Q k H') := by
  intro G F ow σ H L Rr
  refine (h G F ow σ H L Rr).bind1 (t2 := fun x H' Q => ∃ k, x = .bl k ∧ Q k H') fun d L1 v H1 F1 ow1 _ _ _ R1 b1 => ?_
  cases b1 with
  | bl b => exact (Post.val (a := b) (b := b) (B := BB c.X.K) R1 rfl).imp fun Q q => ⟨b, rfl, q⟩
  | _ => trivial
theorem jt_val {e : Expr} {g : LS → R D} (h : JD c n e g) (he : ∀ whole, isTrue e c.X.env whole = (do let v ← whole; standAt e.pos; holding [v] (truthy v)) := by intro _; rfl) : JT c n e (gB g) := by
  obtain ⟨t, p, q⟩ := h
  exact ⟨_, pt_val p he, jdg_B q⟩
variable {g1 g2 : LS → R Bool} {rest : List Expr}
def gAnd (a b : LS → R Bool) : LS → R Bool := fun L => (a L).bind fun x L1 => if x = true then b L1 else .ok false L1
def gOr (a b : LS → R Bool) : LS → R Bool := fun L => (a L).bind fun x L1 => if x = true then .ok true L1 else b L1
def gNot (a : LS → R Bool) : LS → R Bool := fun L => (a L).bind fun x L1 => .ok (!x) L1
theorem jw_and1 (ha : JT c n a g1) : JW c n (.BoolOp .And [a] pos) g1 := by
  obtain ⟨t, p, q⟩ := ha
  exact ⟨_, pw_and1 p, q⟩
theorem jw_or1 (ha : JT c n a g1) : JW c n (.BoolOp .Or [a] pos) g1 := by
  obtain ⟨t, p, q⟩ := ha
  exact ⟨_, pw_or1 p, q⟩
theorem jw_and (ha : JT c n1 a g1) (hb : JW c n2 (.BoolOp .And (b :: rest) pos) g2) : JW c (n1 && n2) (.BoolOp .And (a :: b :: rest) pos) (gAnd g1 g2) := by
  obtain ⟨t, p, q⟩ := ha
  obtain ⟨t', p', q'⟩ := hb
  refine ⟨_, pw_and p p', fun G F ow σ H L Rr => (q G F ow σ H L Rr).bind (t2 := fun x H1 Q => if x = true then t' σ H1 Q else Q false H1) fun x L1 v H1 F1 ow1 _ _ _ R1 b1 => ?_⟩
  cases b1
  cases x with
  | true => exact q' G F1 ow1 σ H1 L1 R1
  | false => exact Post.val (b := false) (B := BB c.X.K) R1 rfl
theorem jw_or (ha : JT c n1 a g1) (hb : JW c n2 (.BoolOp .Or (b :: rest) pos) g2) : JW c (n1 && n2) (.BoolOp .Or (a :: b :: rest) pos) (gOr g1 g2) := by
  obtain ⟨t, p, q⟩ := ha
  obtain ⟨t', p', q'⟩ := hb
  refine ⟨_, pw_or p p', fun G F ow σ H L Rr => (q G F ow σ H L Rr).bind (t2 := fun x H1 Q => if x = true then Q true H1 else t' σ H1 Q) fun x L1 v H1 F1 ow1 _ _ _ R1 b1 => ?_⟩
  cases b1
  cases x with
  | false => exact q' G F1 ow1 σ H1 L1 R1
  | true => exact Post.val (b := true) (B := BB c.X.K) R1 rfl
theorem jt_w {e : Expr} (h : JW c n e g1) : JT c n e g1 := by
  obtain ⟨t, p, q⟩ := h
  exact ⟨_, p.pt, q⟩
theorem jt_not (h : JT c n a g1) : JT c n (.UnaryOp .Not a pos) (gNot g1) := by
  obtain ⟨t, p, q⟩ := h
  refine ⟨_, pt_not p, fun G F ow σ H L Rr => (q G F ow σ H L Rr).bind1 (t2 := fun x H1 Q => Q (!x) H1) fun x L1 v H1 F1 ow1 _ _ _ R1 b1 => ?_⟩
  cases b1
  exact Post.val (b := !x) (B := BB c.X.K) R1 rfl
def gAndV (a b : LS → R D) : LS → R D := fun L => (a L).bind fun d L1 => match d with
  | .bool x => if x = true then b L1 else .ok (.bool false) L1
  | _ => .stuck
def gOrV (a b : LS → R D) : LS → R D := fun L => (a L).bind fun d L1 => match d with
  | .bool x => if x = true then .ok (.bool true) L1 else b L1
  | _ => .stuck
def dNot : D → Option D
  | .bool b => some (.bool (!b))
  | _ => none
theorem jd_one {op} (h : JD c n a ga) : JD c n (.BoolOp op [a] pos) ga := by
  obtain ⟨t, p, q⟩ := h
  exact ⟨_, pe_one p, q⟩
theorem jd_and (ha : JD c n1 a ga) (hb : JD c n2 (.BoolOp .And (b :: rest) pos) gb) : JD c (n1 && n2) (.BoolOp .And (a :: b :: rest) pos) (gAndV ga gb) := by
  obtain ⟨t, p, q⟩ := ha
  obtain ⟨t', p', q'⟩ := hb
  refine ⟨_, pe_and p p', fun G F ow σ H L Rr => (q G F ow σ H L Rr).bind (t2 := fun x H1 Q => ∃ k, x = .bl k ∧ if k = true then t' σ H1 Q else Q (.bl false) H1) fun d L1 v H1 F1 ow1 _ _ _ R1 b1 => ?_⟩
  cases b1 with
  | bl x =>
    cases x with
    | true => exact (q' G F1 ow1 σ H1 L1 R1).imp fun Q h => ⟨true, rfl, h⟩
    | false => exact (Post.val (b := V.bl false) (B := BD c.X.K) R1 (.bl false)).imp fun Q h => ⟨false, rfl, h⟩
  | _ => trivial
theorem jd_or (ha : JD c n1 a ga) (hb : JD c n2 (.BoolOp .Or (b :: rest) pos) gb) : JD c (n1 && n2) (.BoolOp .Or (a :: b :: rest) pos) (gOrV ga gb) := by
  obtain ⟨t, p, q⟩ := ha
  obtain ⟨t', p', q'⟩ := hb
  refine ⟨_, pe_or p p', fun G F ow σ H L Rr => (q G F ow σ H L Rr).bind (t2 := fun x H1 Q => ∃ k, x = .bl k ∧ if k = true then Q (.bl true) H1 else t' σ H1 Q) fun d L1 v H1 F1 ow1 _ _ _ R1 b1 => ?_⟩
  cases b1 with
  | bl x =>
    cases x with
    | false => exact (q' G F1 ow1 σ H1 L1 R1).imp fun Q h => ⟨false, rfl, h⟩
    | true => exact (Post.val (b := V.bl true) (B := BD c.X.K) R1 (.bl true)).imp fun Q h => ⟨true, rfl, h⟩
  | _ => trivial
theorem jd_not (h : JD c n a ga) : JD c n (.UnaryOp .Not a pos) (gUn dNot ga) := by
  obtain ⟨t, p, q⟩ := h
  refine ⟨_, pe_not p, fun G F ow σ H L Rr => (q G F ow σ H L Rr).bind1 (t2 := fun (x : V) H1 (Q : VK) => ∃ k, x = V.bl k ∧ Q (V.bl (!k)) H1) fun x L1 v H1 F1 ow1 _ _ _ R1 b1 => ?_⟩
  cases b1 with
  | bl x => exact (Post.val (a := PyData.bool (!x)) (b := V.bl (!x)) (B := BD c.X.K) R1 (.bl _)).imp fun Q h => ⟨x, rfl, h⟩
  | _ => trivial
def gIfE {α : Type} (t : LS → R Bool) (a b : LS → R α) : LS → R α := fun L => (t L).bind fun x L1 => if x = true then a L1 else b L1
end
end VS

namespace VS
open PySem PySem.Spec PyProof.Rows L2

section
variable {c : Ct} {n n1 n2 n3 : Bool} {a b : Expr} {ga gb : LS → R D} {pos : Pos}

def dIx (d e : D) : Option D := match e with
  | .int i => (match d with
    | .list xs => atI xs i
    | .tuple xs => atI xs i
    | .str s => if s.length ≤ sizeLine then (atI s.cps.toList i).map fun k => .str ⟨#[k]⟩ else none
    | _ => none)
  | _ => none
theorem DqA.at {K : PySem.W.Frag} {F : Hp} {vs : List V} {ds : List D} {i : Int} {z : D} (h : DqA K F vs ds) (e : atI ds i = some z) : ∃ v, atI vs i = some v ∧ Dq K F v z := by
  unfold atI at e ⊢
  rw [h.len]
  cases hj : ixN ds.length i with
  | none => rw [hj] at e; cases e
  | some j =>
    rw [hj] at e
    exact h.get e
theorem ix_core {K : PySem.W.Frag} {F H : Hp} {ow : Addr → Option Path} {x y : V} {d e z : D} (s : Same F H) (hx : BV K F H ow d x) (hy : Dq K F y e) (hf : dIx d e = some z) : ∃ v, Dq K F v z ∧ ∀ Q : VK, Q v H → rIx K x y H Q := by
  cases hy with
  | int i =>
    have seq : ∀ {l : Addr} {vs : List V} {ds : List D}, x = .ref l → d = .list ds → SqL K H l vs → DqA K F vs ds → ∃ v, Dq K F v z ∧ ∀ Q : VK, Q v H → rIx K x (.int i) H Q := fun {l vs ds} hl hd h1 h2 => by
      subst hl hd
      obtain ⟨v, h3, h4⟩ := h2.at (show atI ds i = some z from hf)
      exact ⟨v, h4, fun Q q => .inl ⟨l, vs, i, v, rfl, rfl, h1, h3, q⟩⟩
    rcases hx with hx | ⟨l, vs, ds, rfl, rfl, h1, h2⟩
    · cases hx with
      | lst h1 h2 => exact seq rfl rfl (.of (s _ _ h1)) h2
      | tup h1 h2 =>
        rename_i l vs ds
        obtain ⟨v, h3, h4⟩ := h2.at (show atI ds i = some z from hf)
        exact ⟨v, h4, fun Q q => .inr (.inl ⟨l, vs, i, v, rfl, rfl, sqt_same s h1, h3, q⟩)⟩
      | str w =>
        have hf : (if w.length ≤ sizeLine then (atI w.cps.toList i).map fun k => PyData.str ⟨#[k]⟩ else none) = some z := hf
        by_cases hw : w.length ≤ sizeLine
        · rw [if_pos hw] at hf
          obtain ⟨k, hk, rfl⟩ := Option.map_eq_some_iff.mp hf
          exact ⟨_, .str _, fun Q q => .inr (.inr ⟨w, i, k, rfl, rfl, hw, hk, q⟩)⟩
        · rw [if_neg hw] at hf
          cases hf
      | _ => cases hf
    · exact seq rfl rfl h1 h2
  | _ => cases hf
theorem leaf_ix {K : PySem.W.Frag} : Leaf2 K (rIx K) dIx := fun F H x y d e z s hx hy hf => ix_core (ow := fun _ => none) s (.inl hx) hy hf
theorem jd_ix (ha : JD c n1 a ga) (hb : JD c n2 b gb) (hs : PlainIx b := by exact fun _ _ => rfl) : JD c (n1 && n2) (.Subscript a b pos) (gOp dIx ga gb) := by
  obtain ⟨ta, p1, q1⟩ := ha
  obtain ⟨tb, p2, q2⟩ := hb
  exact ⟨_, pe_ix ix_seq p1 p2 hs, jdg_op leaf_ix q1 q2⟩
theorem BV.up {K : PySem.W.Frag} {F F' H H' : Hp} {ow ow' : Addr → Option Path} {d : D} {v : V} (h : BV K F H ow d v) (e : Same F F') (e2 : Same H H') : BV K F' H' ow' d v := by
  rcases h with h | ⟨l, vs, ds, h1, h2, h3, h4⟩
  · exact .inl (h.up e)
  · exact .inr ⟨l, vs, ds, h1, h2, sql_same e2 h3, h4.up e⟩
def gIxP (i : Nat) (gb : LS → R D) : LS → R D := fun L => match L[i]? with
  | some (some _) => (gb L).bind fun e L1 => (gPeek i L1).bind fun d L2 => ofO (dIx d e) L2
  | _ => .stuck
theorem peek_at {G F H : Hp} {ow : Addr → Option Path} {σ : L2.St} {L L' : LS} {i : Nat} {d : D} {v : V} (Rr : c.Rl G F ow σ H L) (hv : σ[i]? = some (some v)) (h : gPeek i L = .ok d L') : L' = L ∧ BV c.X.K F H ow d v := by
  unfold gPeek at h
  cases hL : L[i]? with
  | none => rw [hL] at h; cases h
  | some o =>
    rw [hL] at h
    cases o with
    | none => cases h
    | some s =>
      obtain ⟨u, hu, rs⟩ := Rr.sl i s hL
      rw [hv] at hu
      cases hu
      have hb := peek_bv Rr.exF Rr.exB rs
      cases s <;> cases h <;> exact ⟨rfl, hb⟩
theorem jd_ixP (i : Nat) {x : Str} {p : Pos} (ha : PE c.X (.Name x p) (tVar i)) (hb : JD c n b gb) (hs : PlainIx b := by exact fun _ _ => rfl) : JD c n (.Subscript (.Name x p) b pos) (gIxP i gb) := by
  obtain ⟨tb, p2, q2⟩ := hb
  refine ⟨_, pe_ix ix_seq ha p2 hs, fun G F ow σ H L Rr => ?_⟩
  unfold gIxP
  cases hL : L[i]? with
  | none => trivial
  | some o =>
    cases o with
    | none => trivial
    | some s =>
      obtain ⟨v, hv, rs⟩ := Rr.sl i s hL
      refine ((q2 G F ow σ H L Rr).bind1 (t2 := fun y H2 Q => rIx c.X.K v y H2 Q) fun e L1 u H1 F1 ow1 _ _ _ R1 b1 => ?_).imp fun Q q => ⟨v, hv, q⟩
      cases hp : gPeek i L1 with
      | stuck => trivial
      | err k L2 =>
        exfalso
        unfold gPeek at hp
        split at hp <;> cases hp
      | ok d L2 =>
        obtain ⟨rfl, hb⟩ := peek_at R1 hv hp
        rw [R.bind_ok]
        cases hf : dIx d e with
        | none => trivial
        | some z =>
          obtain ⟨w, hw, q⟩ := ix_core R1.exF hb b1 hf
          exact (Post.val R1 hw).imp q

def cutD (xs : List D) (lo hi : Option Int) : List D := (xs.drop (HT.sIx xs.length 0 lo)).take (HT.sIx xs.length xs.length hi - HT.sIx xs.length 0 lo)
theorem DqA.cut {K : PySem.W.Frag} {F : Hp} {vs : List V} {ds : List D} (h : DqA K F vs ds) (lo hi : Option Int) : DqA K F (cutV vs lo hi) (cutD ds lo hi) := by
  unfold cutV cutD
  rw [h.len]
  exact (h.drop _).take _
def dSl (d : D) (lo hi : Option Int) : Option S := match d with
  | .list xs => some (.ol (cutD xs lo hi))
  | .str s => if s.length ≤ sizeLine then some (.d (.str (cutS s lo hi))) else none
  | .tuple xs => if HT.sIx xs.length 0 lo = 0 ∧ HT.sIx xs.length xs.length hi = xs.length then none else some (.d (.tuple (cutD xs lo hi)))
  | _ => none
def BO : PySem.W.Frag → Hp → Hp → (Addr → Option Path) → Option Int → Option Int → Prop := fun _ _ _ _ x y => y = x
def JO (c : Ct) (n : Bool) (e : Option Expr) (g : LS → R (Option Int)) : Prop := ∃ t, PO c.X e t ∧ Jdg c n g BO t
def gNo : LS → R (Option Int) := fun L => .ok none L
def asI : D → LS → R (Option Int)
  | .int i, L => .ok (some i) L
  | _, _ => .stuck
def gSo (g : LS → R D) : LS → R (Option Int) := fun L => (g L).bind asI
theorem jo_no : JO c true none gNo := ⟨_, po_none, fun G F ow σ H L Rr => Post.val (B := BO c.X.K) Rr rfl⟩
theorem jo_so (h : JD c n a ga) : JO c n (some a) (gSo ga) := by
  obtain ⟨t, p, q⟩ := h
  refine ⟨_, po_some p, fun G F ow σ H L Rr => (q G F ow σ H L Rr).bind1 (t2 := fun (x : V) H1 (Q : Option Int → Hp → Prop) => ∃ i, x = V.int i ∧ Q (some i) H1) fun d L1 v H1 F1 ow1 _ _ _ R1 b1 => ?_⟩
  cases b1 with
  | int i => exact (Post.val (a := some i) (b := some i) (B := BO c.X.K) R1 rfl).imp fun Q q => ⟨i, rfl, q⟩
  | _ => trivial
def rSlAny (K : PySem.W.Frag) : V → Option Int → Option Int → Hp → VK → Prop := fun x lo hi H Q => rSlL K x lo hi H Q ∨ rSlS x lo hi H Q ∨ rSlT K x lo hi H Q
theorem sl_core {G F H : Hp} {ow : Addr → Option Path} {σ : L2.St} {L : LS} {d : D} {v : V} {lo hi : Option Int} (Rr : c.Rl G F ow σ H L) (hb : BV c.X.K F H ow d v) : Post c G true F H σ (ofO (dSl d lo hi) L) (BE c.ca c.X.K) (rSlAny c.X.K v lo hi H) := by
  have seq : ∀ {l : Addr} {vs : List V} {ds : List D}, v = .ref l → d = .list ds → SqL c.X.K H l vs → DqA c.X.K F vs ds → Post c G true F H σ (ofO (dSl d lo hi) L) (BE c.ca c.X.K) (rSlAny c.X.K v lo hi H) := fun {l vs ds} e1 e2 h1 h2 => by
    subst e1 e2
    exact (post_new Rr (h2.cut lo hi)).imp fun Q q => .inl ⟨l, vs, rfl, h1, q⟩
  rcases hb with hb | ⟨l, vs, ds, rfl, rfl, h1, h2⟩
  · cases hb with
    | lst h1 h2 => exact seq rfl rfl (.of (Rr.exF _ _ h1)) h2
    | str w =>
      show Post c G true F H σ (ofO (if w.length ≤ sizeLine then some (S.d (.str (cutS w lo hi))) else none) L) _ _
      by_cases hw : w.length ≤ sizeLine
      · rw [if_pos hw]
        exact (Post.val (a := S.d (.str (cutS w lo hi))) (B := BE c.ca c.X.K) Rr (RS.d (.str _))).imp fun Q q => .inr (.inl ⟨w, rfl, hw, q⟩)
      · rw [if_neg hw]
        trivial
    | tup h1 h2 =>
      rename_i l vs ds
      show Post c G true F H σ (ofO (if HT.sIx ds.length 0 lo = 0 ∧ HT.sIx ds.length ds.length hi = ds.length then none else some (S.d (.tuple (cutD ds lo hi)))) L) _ _
      by_cases hw : HT.sIx ds.length 0 lo = 0 ∧ HT.sIx ds.length ds.length hi = ds.length
      · rw [if_pos hw]
        trivial
      · rw [if_neg hw]
        intro Q q
        refine .inr (.inr ⟨l, vs, rfl, sqt_same Rr.exF h1, by rw [h2.len]; exact hw, fun p hp => ?_⟩)
        obtain ⟨e1, e, r'⟩ := Rr.newF (o := .tup (cutV vs lo hi)) hp
        exact q _ _ _ ow e1 (fun _ => e) r' (.d (.tup upd_same ((h2.cut lo hi).up e1)))
    | _ => trivial
  · exact seq rfl rfl h1 h2
def gSl (ga : LS → R D) (lo hi : LS → R (Option Int)) : LS → R S := fun L => (ga L).bind fun d L1 => (lo L1).bind fun l L2 => (hi L2).bind fun u L3 => ofO (dSl d l u) L3
variable {lo hi : Option Expr} {gl gh : LS → R (Option Int)} {p2 : Pos}
theorem je_sl (ha : JD c n1 a ga) (hl : JO c n2 lo gl) (hh : JO c n3 hi gh) : JE c (n1 && (n2 && n3)) (.Subscript a (.Slice lo hi none p2) pos) (gSl ga gl gh) := by
  obtain ⟨ta, pa, qa⟩ := ha
  obtain ⟨tl, pl, ql⟩ := hl
  obtain ⟨th, ph, qh⟩ := hh
  refine ⟨_, pe_slice (sl_list.or (sl_str.or sl_tup)) pa pl ph, fun G F ow σ H L Rr => ?_⟩
  refine (qa G F ow σ H L Rr).bind (t2 := fun v H1 Q => tl σ H1 fun l H2 => th σ H2 fun u H3 => rSlAny c.X.K v l u H3 Q) fun d L1 v H1 F1 ow1 _ _ _ R1 b1 => ?_
  refine (ql G F1 ow1 σ H1 L1 R1).bind (t2 := fun l H2 Q => th σ H2 fun u H3 => rSlAny c.X.K v l u H3 Q) fun l L2 l' H2 F2 ow2 _ e2 _ R2 b2 => ?_
  refine (qh G F2 ow2 σ H2 L2 R2).bind1 (t2 := fun u H3 Q => rSlAny c.X.K v l' u H3 Q) fun u L3 u' H3 F3 ow3 _ e3 _ R3 b3 => ?_
  cases b2
  cases b3
  exact sl_core R3 (.inl ((b1.up e2).up e3))
theorem je_slV (ha : JV c n1 a ga) (hl : JO c true lo gl) (hh : JO c true hi gh) : JE c n1 (.Subscript a (.Slice lo hi none p2) pos) (gSl ga gl gh) := by
  obtain ⟨ta, pa, qa⟩ := ha
  obtain ⟨tl, pl, ql⟩ := hl
  obtain ⟨th, ph, qh⟩ := hh
  refine ⟨_, pe_slice (sl_list.or (sl_str.or sl_tup)) pa pl ph, fun G F ow σ H L Rr => ?_⟩
  refine (qa G F ow σ H L Rr).bind1 (t2 := fun v H1 Q => tl σ H1 fun l H2 => th σ H2 fun u H3 => rSlAny c.X.K v l u H3 Q) fun d L1 v H1 F1 ow1 _ _ _ R1 b1 => ?_
  refine (ql G F1 ow1 σ H1 L1 R1).bind1 (t2 := fun l H2 Q => th σ H2 fun u H3 => rSlAny c.X.K v l u H3 Q) fun l L2 l' H2 F2 ow2 _ e2 s2 R2 b2 => ?_
  refine (qh G F2 ow2 σ H2 L2 R2).bind1 (t2 := fun u H3 Q => rSlAny c.X.K v l' u H3 Q) fun u L3 u' H3 F3 ow3 _ e3 s3 R3 b3 => ?_
  cases b2
  cases b3
  exact sl_core R3 (BV.up (BV.up (ow' := ow2) b1 e2 (s2 rfl)) e3 (s3 rfl))

def dLen : D → Option D
  | .list xs => some (.int xs.length)
  | .tuple xs => some (.int xs.length)
  | .str s => if s.length ≤ sizeLine then some (.int s.length) else none
  | _ => none
theorem jdg_call1 {α : Type} {ga : LS → R D} {B : PySem.W.Frag → Hp → Hp → (Addr → Option Path) → α → V → Prop} {r : List V → Hp → VK → Prop} {f : D → Option α} {ta : TE} (ha : Jdg c n ga BV ta)
    (lf : ∀ {G F H : Hp} {ow : Addr → Option Path} {σ : L2.St} {L : LS} {d : D} {v : V}, c.Rl G F ow σ H L → BV c.X.K F H ow d v → Post c G true F H σ (ofO (f d) L) (B c.X.K) (r [v] H)) : Jdg c n (gUn f ga) B (tCB r (tCons ta tNil)) :=
  fun G F ow σ H L Rr => (ha G F ow σ H L Rr).bind1 (t2 := fun v H1 Q => r [v] H1 Q) fun d L1 v H1 F1 ow1 _ _ _ R1 b1 => lf R1 b1
theorem jd_call1 {id : String} {x : Str} {p : Pos} {r : List V → Hp → VK → Prop} {f : D → Option D} (hc : CallR c.X (.builtin id) r) (hg : Gl c.X x) (hm : c.X.mg x = none) (hv : bootBuiltins x = some (.builtin id)) (ha : JV c n a ga)
    (lf : ∀ {G F H : Hp} {ow : Addr → Option Path} {σ : L2.St} {L : LS} {d : D} {v : V}, c.Rl G F ow σ H L → BV c.X.K F H ow d v → Post c G true F H σ (ofO (f d) L) (BD c.X.K) (r [v] H))
    (hn : x ≠ "__name__" := by decide) (hdb : (x == ("__debug__" : Str)) = false := by decide) (hs : starEach [a] c.X.env = (false, eval a c.X.env) :: starEach [] c.X.env := by rfl) (hpl : (backTo pos (starEach [] c.X.env)).any (·.1) = false := by rfl) :
    JD c n (.Call (.Name x p) [a] [] pos) (gUn f ga) := by
  obtain ⟨ta, pa, qa⟩ := ha
  exact ⟨_, pe_callB hc hg hm hv (pa_cons pa pa_nil hs) hn hdb hs hpl, jdg_call1 qa lf⟩
theorem je_callTy1 {T : String} {x : Str} {p : Pos} {r : List V → Hp → VK → Prop} {f : D → Option S} (hc : CallR c.X (.type T) r) (hg : Gl c.X x) (hm : c.X.mg x = none) (hv : bootBuiltins x = some (.type T)) (ha : JV c n a ga)
    (lf : ∀ {G F H : Hp} {ow : Addr → Option Path} {σ : L2.St} {L : LS} {d : D} {v : V}, c.Rl G F ow σ H L → BV c.X.K F H ow d v → Post c G true F H σ (ofO (f d) L) (BE c.ca c.X.K) (r [v] H))
    (hn : x ≠ "__name__" := by decide) (hdb : (x == ("__debug__" : Str)) = false := by decide) (hs : starEach [a] c.X.env = (false, eval a c.X.env) :: starEach [] c.X.env := by rfl) (hpl : (backTo pos (starEach [] c.X.env)).any (·.1) = false := by rfl) :
    JE c n (.Call (.Name x p) [a] [] pos) (gUn f ga) := by
  obtain ⟨ta, pa, qa⟩ := ha
  exact ⟨_, pe_callTy hc hg hm hv (pa_cons pa pa_nil hs) hn hdb hs hpl, jdg_call1 qa lf⟩
theorem len_core {G F H : Hp} {ow : Addr → Option Path} {σ : L2.St} {L : LS} {d : D} {v : V} (Rr : c.Rl G F ow σ H L) (hb : BV c.X.K F H ow d v) :
    Post c G true F H σ (ofO (dLen d) L) (BD c.X.K) (fun Q => ∃ (x : V) (m : Nat), [v] = [x] ∧ LenV c.X.K x H m ∧ Q (.int m) H) := by
  have fin : ∀ {m : Nat}, LenV c.X.K v H m → Post c G true F H σ (.ok (.int m) L) (BD c.X.K) (fun Q => ∃ (x : V) (m : Nat), [v] = [x] ∧ LenV c.X.K x H m ∧ Q (.int m) H) := fun {m} h =>
    (Post.val (a := PyData.int m) (b := V.int m) (B := BD c.X.K) Rr (.int _)).imp fun Q q => ⟨v, m, rfl, h, q⟩
  rcases hb with hb | ⟨l, vs, ds, rfl, rfl, h1, h2⟩
  · cases hb with
    | lst h1 h2 =>
      have := fin (.inl ⟨_, .of (Rr.exF _ _ h1), rfl⟩)
      rw [h2.len] at this
      exact this
    | tup h1 h2 =>
      have := fin (.inr ⟨_, sqt_same Rr.exF h1, rfl⟩)
      rw [h2.len] at this
      exact this
    | str w =>
      show Post c G true F H σ (ofO (if w.length ≤ sizeLine then some (PyData.int w.length) else none) L) _ _
      by_cases hw : w.length ≤ sizeLine
      · rw [if_pos hw]
        exact fin (m := w.length) ⟨hw, rfl⟩
      · rw [if_neg hw]
        trivial
    | _ => trivial
  · have := fin (.inl ⟨_, h1, rfl⟩)
    rw [h2.len] at this
    exact this
theorem jd_len {p : Pos} (hg : Gl c.X "len") (hm : c.X.mg "len" = none) (ha : JV c n a ga) (hs : starEach [a] c.X.env = (false, eval a c.X.env) :: starEach [] c.X.env := by rfl) : JD c n (.Call (.Name "len" p) [a] [] pos) (gUn dLen ga) :=
  jd_call1 call_len hg hm PySem.boot_len ha (fun Rr hb => len_core Rr hb) (by decide) (by decide) hs rfl
def dList : D → Option S
  | .list xs => some (.ol xs)
  | .tuple xs => some (.ol xs)
  | _ => none
theorem list_core {G F H : Hp} {ow : Addr → Option Path} {σ : L2.St} {L : LS} {d : D} {v : V} (Rr : c.Rl G F ow σ H L) (hb : BV c.X.K F H ow d v) :
    Post c G true F H σ (ofO (dList d) L) (BE c.ca c.X.K) (fun Q => ∃ p ys, [v] = [V.ref p] ∧ (SqL c.X.K H p ys ∨ SqT c.X.K H p ys) ∧ ∀ l, H l = none → Q (.ref l) (upd H l (.lst ys))) := by
  rcases hb with hb | ⟨l, vs, ds, rfl, rfl, h1, h2⟩
  · cases hb with
    | lst h1 h2 => exact (post_new Rr h2).imp fun Q q => ⟨_, _, rfl, .inl (.of (Rr.exF _ _ h1)), q⟩
    | tup h1 h2 => exact (post_new Rr h2).imp fun Q q => ⟨_, _, rfl, .inr (sqt_same Rr.exF h1), q⟩
    | _ => trivial
  · exact (post_new Rr h2).imp fun Q q => ⟨_, _, rfl, .inl h1, q⟩
theorem je_list {p : Pos} (hg : Gl c.X "list") (hm : c.X.mg "list" = none) (ha : JV c n a ga) (hs : starEach [a] c.X.env = (false, eval a c.X.env) :: starEach [] c.X.env := by rfl) : JE c n (.Call (.Name "list" p) [a] [] pos) (gUn dList ga) :=
  je_callTy1 call_list_of hg hm (by decide +kernel) ha (fun Rr hb => list_core Rr hb) (by decide) (by decide) hs rfl
def dTy : D → String
  | .none => "NoneType"
  | .bool _ => "bool"
  | .int _ => "int"
  | .str _ => "str"
  | .list _ => "list"
  | .tuple _ => "tuple"
  | .dict _ => "dict"
def isTy (T : String) (d : D) : Option D := (kitB (dTy d) T).map .bool
def gIsi (T : String) (ga : LS → R D) : LS → R D := gUn (isTy T) ga
theorem ty_of {K : PySem.W.Frag} {F H : Hp} {ow : Addr → Option Path} {d : D} {v : V} (s : Same F H) (hb : BV K F H ow d v) : TyX K H v (.type (dTy d)) := by
  have lst : ∀ {l : Addr} {vs : List V}, SqL K H l vs → TyX K H (.ref l) (.type "list") := fun {l vs} h => by
    rcases h with (h | ⟨o, h⟩) | ⟨o, its, m, h, hc, _⟩
    · exact .base (.lst h)
    · exact .base (.frz h)
    · exact .kList h hc
  rcases hb with hb | ⟨l, vs, ds, rfl, rfl, h1, h2⟩
  · cases hb with
    | non => exact .base .non
    | bl b => exact .base (.bl b)
    | int b => exact .base (.int b)
    | str b => exact .base (.str b)
    | lst h1 h2 => exact lst (.of (s _ _ h1))
    | tup h1 h2 =>
      rcases sqt_same s h1 with (h | ⟨o, h⟩) | ⟨o, its, m, h, hc, _⟩
      · exact .base (.tup h)
      · exact .fTuple h
      · exact .kTuple h hc
  · exact lst h1
theorem jd_isi {T : String} {t : Str} {p p3 : Pos} (hg : Gl c.X "isinstance") (hm : c.X.mg "isinstance" = none) (hgT : Gl c.X t) (hmT : c.X.mg t = none) (hvT : bootBuiltins t = some (.type T)) (ha : JV c n a ga) (hnT : t ≠ "__name__" := by decide) (hdT : (t == ("__debug__" : Str)) = false := by decide)
    (hs : starEach [a, .Name t p3] c.X.env = (false, eval a c.X.env) :: starEach [.Name t p3] c.X.env := by rfl) (hs2 : starEach [.Name t p3] c.X.env = (false, eval (.Name t p3) c.X.env) :: starEach [] c.X.env := by rfl) (hpl : (backTo pos (starEach [.Name t p3] c.X.env)).any (·.1) = false := by rfl) :
    JD c n (.Call (.Name "isinstance" p) [a, .Name t p3] [] pos) (gIsi T ga) := by
  obtain ⟨ta, pa, qa⟩ := ha
  refine ⟨_, pe_callB call_isi hg hm (by decide +kernel) (pa_cons pa (pa_cons (pe_bltn (v := .ty T) hgT hmT hvT rfl hnT hdT) pa_nil hs2) hs) (by decide) (by decide) hs hpl, fun G F ow σ H L Rr => ?_⟩
  refine (qa G F ow σ H L Rr).bind1 (t2 := fun v H1 Q => rIsi c.X.K [v, .ty T] H1 Q) fun d L1 v H1 F1 ow1 _ _ _ R1 b1 => ?_
  unfold isTy
  cases hk : kitB (dTy d) T with
  | none => trivial
  | some b => exact (Post.val (a := PyData.bool b) (b := V.bl b) (B := BD c.X.K) R1 (.bl _)).imp fun Q q => ⟨v, .ty T, _, _, b, rfl, .ty T, ty_of R1.exF b1, kit_ty hk, q⟩
def strsOf : List D → Option (List Str)
  | [] => some []
  | .str x :: r => (strsOf r).map (x :: ·)
  | _ :: _ => none
theorem strs_of {K : PySem.W.Frag} {F : Hp} : ∀ {ds : List D} {vs : List V} {ys : List Str}, DqA K F vs ds → strsOf ds = some ys → vs = ys.map V.str
  | [], _, _, .nil, h => by
    cases h
    rfl
  | d :: ds, _, _, .cons a b, h => by
    cases a with
    | str x =>
      obtain ⟨zs, h1, rfl⟩ := Option.map_eq_some_iff.mp (show (strsOf ds).map (x :: ·) = some _ from h)
      rw [strs_of b h1]
      rfl
    | _ => cases h
def joinOk (a : Str) (ys : List Str) : Bool := decide ((ys.map (·.length)).sum + ys.length * a.length ≤ 16777216)
def dJoin (d e : D) : Option D := match d, e with
  | .str a, .list ds => (strsOf ds).bind fun ys => if joinOk a ys then some (.str (Txt.join a ys)) else none
  | _, _ => none
def gTxt (k : Str → LS → R D) : D → LS → R D
  | .str a, L => k a L
  | _, _ => .stuck
def gJoin (ga gb : LS → R D) : LS → R D := fun L => (ga L).bind (gTxt fun a L1 => (gb L1).bind fun e L2 => ofO (dJoin (.str a) e) L2)
theorem jd_join {apos : Pos} (ha : JD c n1 a ga) (hb : JV c n2 b gb) (hs : starEach [b] c.X.env = [(false, eval b c.X.env)] := by rfl) (hbase : attributeBase a "join" c.X.env (eval a c.X.env) = eval a c.X.env := by rfl) (hline : (apos.endLine == pos.line) = true := by rfl) :
    JD c (n1 && n2) (.Call (.Attribute a "join" apos) [b] [] pos) (gJoin ga gb) := by
  obtain ⟨ta, pa, qa⟩ := ha
  obtain ⟨tb, pb, qb⟩ := hb
  refine ⟨_, pe_join pa pb hs hbase hline, fun G F ow σ H L Rr => ?_⟩
  refine (qa G F ow σ H L Rr).bind (t2 := fun (v : V) H1 (Q : VK) => (∃ a, v = V.str a) ∧ tb σ H1 fun y H2 => ∃ a p, ∃ ys : List Str, v = V.str a ∧ [y] = [V.ref p] ∧ (SqL c.X.K H2 p (ys.map V.str) ∨ SqT c.X.K H2 p (ys.map V.str)) ∧ (ys.map (·.length)).sum + ys.length * a.length ≤ 16777216 ∧ Q (V.str (Txt.join a ys)) H2) fun d L1 v H1 F1 ow1 _ _ _ R1 b1 => ?_
  cases b1 with
  | str sep =>
    refine Post.imp (t := fun Q => tb σ H1 fun y H2 => ∃ a p, ∃ ys : List Str, V.str sep = V.str a ∧ [y] = [V.ref p] ∧ (SqL c.X.K H2 p (ys.map V.str) ∨ SqT c.X.K H2 p (ys.map V.str)) ∧ (ys.map (·.length)).sum + ys.length * a.length ≤ 16777216 ∧ Q (V.str (Txt.join a ys)) H2) ?_ fun Q q => ⟨⟨sep, rfl⟩, q⟩
    refine (qb G F1 ow1 σ H1 L1 R1).bind1 (t2 := fun y H2 Q => ∃ a p, ∃ ys : List Str, V.str sep = V.str a ∧ [y] = [V.ref p] ∧ (SqL c.X.K H2 p (ys.map V.str) ∨ SqT c.X.K H2 p (ys.map V.str)) ∧ (ys.map (·.length)).sum + ys.length * a.length ≤ 16777216 ∧ Q (V.str (Txt.join a ys)) H2) fun e L2 u H2 F2 ow2 _ e2 _ R2 b2 => ?_
    cases hf : dJoin (.str sep) e with
    | none => trivial
    | some z =>
      cases e with
      | list ds =>
        obtain ⟨ys, h1, h2⟩ := Option.bind_eq_some_iff.mp (show (strsOf ds).bind (fun ys => if joinOk sep ys then some (PyData.str (Txt.join sep ys)) else none) = some z from hf)
        by_cases hj : joinOk sep ys = true
        · rw [if_pos hj] at h2
          cases h2
          have hl : ∃ p, u = .ref p ∧ SqL c.X.K H2 p (ys.map V.str) := by
            rcases b2 with b2 | ⟨l, vs, ds', rfl, e1, q1, q2⟩
            · cases b2 with
              | lst q1 q2 => exact ⟨_, rfl, by rw [← strs_of q2 h1]; exact .of (R2.exF _ _ q1)⟩
            · cases e1
              exact ⟨_, rfl, by rw [← strs_of q2 h1]; exact q1⟩
          obtain ⟨p, rfl, hl⟩ := hl
          exact (Post.val (a := PyData.str (Txt.join sep ys)) (B := BD c.X.K) R2 (Dq.str _)).imp fun Q q => ⟨sep, p, ys, rfl, rfl, .inl hl, of_decide_eq_true hj, q⟩
        · rw [if_neg hj] at h2
          cases h2
      | _ => cases hf
  | _ => trivial
end
end VS

namespace VS
open PySem PySem.Spec PyProof.Rows L2

inductive O where
  | nx
  | rt (s : S)
  | bk
  | ct
def Fit (c : Ct) (G F : Hp) (r : R O) (E : Ends) : Prop := match r with
  | .ok .nx L => ∀ σ' H' F' ow', Same F F' → c.Rl G F' ow' σ' H' L → E.nx σ' H'
  | .ok .bk L => ∀ σ' H' F' ow', Same F F' → c.Rl G F' ow' σ' H' L → E.bk σ' H'
  | .ok .ct L => ∀ σ' H' F' ow', Same F F' → c.Rl G F' ow' σ' H' L → E.ct σ' H'
  | .ok (.rt s) L => ∀ v σ' H' F' ow', Same F F' → c.Rl G F' ow' σ' H' L → RS c.X.K c.ca F' H' ow' [0] s v → E.rt v H'
  | .err e L => ∀ σ' H' F' ow', Same F F' → c.Rl G F' ow' σ' H' L → c.W (.ref (c.ca e)) none σ' H'
  | .stuck => False
theorem Fit.up {c : Ct} {G F F1 : Hp} {r : R O} {E : Ends} (e : Same F F1) (h : Fit c G F r E) : Fit c G F1 r E := by
  cases r with
  | stuck => exact h
  | err k L => exact fun σ' H' F' ow' e' => h σ' H' F' ow' (e.trans e')
  | ok o L => cases o with
    | nx => exact fun σ' H' F' ow' e' => h σ' H' F' ow' (e.trans e')
    | bk => exact fun σ' H' F' ow' e' => h σ' H' F' ow' (e.trans e')
    | ct => exact fun σ' H' F' ow' e' => h σ' H' F' ow' (e.trans e')
    | rt s => exact fun v σ' H' F' ow' e' => h v σ' H' F' ow' (e.trans e')
def JdgS (c : Ct) (g : LS → R O) (t : TS) : Prop := ∀ G F ow σ H L, c.Rl G F ow σ H L → ∀ E : Ends, Fit c G F (g L) E → t E σ H
def JS (c : Ct) (s : Stmt) (g : LS → R O) : Prop := ∃ t, PS c.X s t ∧ JdgS c g t
def JB (c : Ct) (s : List Stmt) (g : LS → R O) : Prop := ∃ t, PSs c.X s t ∧ JdgS c g t
def Ct.free (c : Ct) (i : Nat) : Prop := c.pb[i]? ≠ some true

section
variable {c : Ct} {n n1 n2 n3 : Bool} {a b : Expr} {ga gb : LS → R D} {pos : Pos} {st : Stmt} {rest : List Stmt} {g g1 g2 : LS → R O}
def gNext : LS → R O := fun L => .ok .nx L
def gSeq (g1 g2 : LS → R O) : LS → R O := fun L => match g1 L with
  | .ok .nx L1 => g2 L1
  | r => r
theorem jb_nil : JB c [] gNext := ⟨_, pss_nil, fun G F ow σ H L Rr E h => h σ H F ow (Same.refl F) Rr⟩
theorem jb_cons (h1 : JS c st g1) (h2 : JB c rest g2) : JB c (st :: rest) (gSeq g1 g2) := by
  obtain ⟨t, p, q⟩ := h1
  obtain ⟨t', p', q'⟩ := h2
  refine ⟨_, pss_cons p p', fun G F ow σ H L Rr E h => ?_⟩
  refine q G F ow σ H L Rr { E with nx := t' E } ?_
  unfold gSeq at h
  cases hr : g1 L with
  | stuck => rw [hr] at h; exact h
  | err k L1 => rw [hr] at h; exact h
  | ok o L1 =>
    rw [hr] at h
    cases o with
    | nx => exact fun σ' H' F' ow' e R' => q' G F' ow' σ' H' L1 R' E (Fit.up e h)
    | bk => exact h
    | ct => exact h
    | rt s => exact h
theorem jb_one (h1 : JS c st g1) : JB c [st] g1 := by
  obtain ⟨t, p, q⟩ := h1
  exact ⟨_, pss_one p, q⟩
theorem js_break : JS c (.Break pos) (fun L => .ok .bk L) := ⟨_, ps_break, fun G F ow σ H L Rr E h => h σ H F ow (Same.refl F) Rr⟩
theorem Post.use {α β : Type} {G F H : Hp} {σ : L2.St} {r : R α} {k : α → LS → R O} {B : Hp → Hp → (Addr → Option Path) → α → β → Prop} {t : (β → Hp → Prop) → Prop} {E : Ends} {Q : β → Hp → Prop}
    (h : Post c G n F H σ r B t) (f : Fit c G F (r.bind k) E)
    (hq : ∀ a L1 b H1 F1 ow1, r = .ok a L1 → Same F F1 → c.Rl G F1 ow1 σ H1 L1 → B F1 H1 ow1 a b → Fit c G F1 (k a L1) E → Q b H1) : t Q := by
  cases r with
  | stuck => exact f.elim
  | err e L1 => exact h (fun H' F' ow' e' R' => f σ H' F' ow' e' R') Q
  | ok a L1 => exact h Q fun b H1 F1 ow1 e1 _ R1 b1 => hq a L1 b H1 F1 ow1 rfl e1 R1 b1 (Fit.up e1 f)
def gDrop {α : Type} (g : LS → R α) : LS → R O := fun L => (g L).bind fun _ L1 => .ok .nx L1
theorem js_expr {g : LS → R S} (h : JE c n a g) (hs : swapsWith a none pos.line c.X.env = pure false := by rfl) : JS c (.Expr a pos) (gDrop g) := by
  obtain ⟨t, p, q⟩ := h
  refine ⟨_, ps_expr p hs, fun G F ow σ H L Rr E f => ?_⟩
  exact (q G F ow σ H L Rr).use f fun s L1 v H1 F1 ow1 _ _ R1 _ f1 => f1 σ H1 F1 ow1 (Same.refl F1) R1
def gRet (g : LS → R S) : LS → R O := fun L => (g L).bind fun s L1 => .ok (.rt s) L1
theorem js_ret {g : LS → R S} (h : JE c n a g) : JS c (.Return (some a) pos) (gRet g) := by
  obtain ⟨t, p, q⟩ := h
  refine ⟨_, ps_ret p, fun G F ow σ H L Rr E f => ?_⟩
  exact (q G F ow σ H L Rr).use f fun s L1 v H1 F1 ow1 _ _ R1 b1 f1 => f1 v σ H1 F1 ow1 (Same.refl F1) R1 b1
def gRetN : LS → R O := fun L => .ok (.rt (.d .none)) L
def gIf (t : LS → R Bool) (x y : LS → R O) : LS → R O := fun L => (t L).bind fun b L1 => if b = true then x L1 else y L1
theorem js_if {e : Expr} {xs ys : List Stmt} {t : LS → R Bool} (ht : JT c n e t) (hx : JB c xs g1) (hy : JB c ys g2) : JS c (.If e xs ys pos) (gIf t g1 g2) := by
  obtain ⟨t0, p0, q0⟩ := ht
  obtain ⟨t1, p1, q1⟩ := hx
  obtain ⟨t2, p2, q2⟩ := hy
  refine ⟨_, ps_if p0 p1 p2, fun G F ow σ H L Rr E f => ?_⟩
  refine (q0 G F ow σ H L Rr).use f fun b L1 b' H1 F1 ow1 _ _ R1 b1 f1 => ?_
  cases b1
  cases b with
  | true => exact q1 G F1 ow1 σ H1 L1 R1 E f1
  | false => exact q2 G F1 ow1 σ H1 L1 R1 E f1

section
variable {G F H : Hp} {ow : Addr → Option Path} {σ : L2.St} {L : LS}
theorem pin_set {i : Nat} {v : Option V} (Rr : c.Rl G F ow σ H L) (hp : c.free i) : ∀ (k : Nat) (u : V), (pinOf c.pb c.v0)[k]? = some (some u) → (σ.set i v)[k]? = some (some u) := fun k u h => by
  have hk : i ≠ k := fun z => by
    subst z
    exact hp (pinOf_mk h).1
  rw [List.getElem?_set_ne hk]
  exact Rr.pin k u h
theorem Rl.store {i : Nat} {s : S} {v : V} (Rr : c.Rl G F ow σ H L) (rs : RS c.X.K c.ca F H ow [0] s v) (hp : c.free i) : c.Rl G F (reroot ow 0 (i + 1)) (σ.set i (some v)) H (L.set i (some s)) := by
  refine Rr.moved (by rw [List.length_set, List.length_set]; exact Rr.len) (fun k s' h => ?_) (pin_set Rr hp)
  have hlt : k < σ.length := by
    have := (List.getElem?_eq_some_iff.mp h).1
    rw [List.length_set] at this
    rw [← Rr.len]
    exact this
  rcases set_get h with ⟨rfl, hs⟩ | ⟨hk, hs⟩
  · cases Option.some.inj hs
    exact .inr ⟨v, by rw [List.getElem?_set]; simp [hlt], rs.go (Same.refl F) keeps_reroot⟩
  · exact .inl ⟨hs, List.getElem?_set_ne hk, by omega⟩
theorem Rl.storeD {i : Nat} {d : D} {v : V} (Rr : c.Rl G F ow σ H L) (q : Dq c.X.K F v d) (hp : c.free i) : c.Rl G F ow (σ.set i (some v)) H (L.set i (some (.d d))) := by
  refine ⟨Rr.exF, Rr.exG, Rr.dF, Rr.dG, by rw [List.length_set, List.length_set]; exact Rr.len, fun k s' h => ?_, pin_set Rr hp, Rr.exB, Rr.dB⟩
  have hlt : k < σ.length := by
    have := (List.getElem?_eq_some_iff.mp h).1
    rw [List.length_set] at this
    rw [← Rr.len]
    exact this
  rcases set_get h with ⟨rfl, hs⟩ | ⟨hk, hs⟩
  · cases Option.some.inj hs
    exact ⟨v, by rw [List.getElem?_set]; simp [hlt], RT.of (.d q)⟩
  · obtain ⟨u, h1, h2⟩ := Rr.sl k s' hs
    exact ⟨u, (List.getElem?_set_ne hk).trans h1, h2⟩
theorem Rl.put {i : Nat} {l : Addr} {o : HO} {q : Path} {s : S} (Rr : c.Rl G F ow σ H L) (ho : ow l = some ((i + 1) :: q)) (new : ∃ v, σ[i]? = some (some v) ∧ RS c.X.K c.ca F (upd H l o) ow [i + 1] s v) (hk : ¬ kT o := by first | exact kT_lst | exact kT_dK | exact kT_dT | exact kT_ins) : c.Rl G F ow σ (upd H l o) (L.set i (some s)) := by
  obtain ⟨f0, g0, h0⟩ := Rr.dF l _ ho
  refine ⟨fun a u h => ?_, fun a u h => ?_, fun a p h => ?_, Rr.dG, by rw [List.length_set]; exact Rr.len, fun k s' h => ?_, Rr.pin, fun a u h => ?_, Rr.dB⟩
  · rw [upd_ne (ne_of_none h f0)]
    exact Rr.exF a u h
  · rw [upd_ne (ne_of_none h g0)]
    exact Rr.exG a u h
  · obtain ⟨x, y, z⟩ := Rr.dF a p h
    refine ⟨x, y, ?_⟩
    by_cases e : a = l
    · subst e
      rw [upd_same]
      exact .of hk
    · rw [upd_ne e]
      exact z
  · rcases set_get h with ⟨rfl, hs⟩ | ⟨hk, hs⟩
    · cases Option.some.inj hs
      obtain ⟨v, w1, w2⟩ := new
      exact ⟨v, w1, RT.of w2⟩
    · obtain ⟨u, h1, h2⟩ := Rr.sl k s' hs
      refine ⟨u, h1, h2.go (Same.refl F) fun a w e => ⟨upd_ne fun z => ?_, e⟩⟩
      subst z
      rw [ho] at e
      injection e with e
      injection e with e _
      omega
  · rw [upd_ne (ne_of_none h (Rr.dB l _ ho))]
    exact Rr.exB a u h
end
def gAsg (i : Nat) (g : LS → R S) : LS → R O := fun L => (g L).bind fun s L1 => .ok .nx (L1.set i (some s))
theorem jdgS_asg {i : Nat} {g : LS → R S} {t : TE} (hp : c.free i) (q : Jdg c n g (BE c.ca) t) : JdgS c (gAsg i g) (tAsg t (L2.gName i)) := fun G F ow σ H L Rr E f =>
  (q G F ow σ H L Rr).use f fun s L1 v H1 F1 ow1 _ _ R1 b1 f1 => f1 _ H1 F1 _ (Same.refl F1) (Rl.store R1 b1 hp)
theorem js_set (i : Nat) {x : Str} {g : LS → R S} {pos' : Pos} (hN : c.X.N.Nodup) (hi : c.X.N[i]? = some x) (hx : Loc c.X.env.scope x) (hp : c.free i) (h : JE c n a g) (hs : swapsWith a (some (.Name x pos')) pos.line c.X.env = pure false := by rfl)
    (hf : c.X.fn x = true ∨ c.X.env.scope.names.lookup x = some .local := by first | exact .inl rfl | exact .inr rfl | assumption) : JS c (.Assign [.Name x pos'] a pos) (gAsg i g) := by
  obtain ⟨t, p, q⟩ := h
  exact ⟨_, ps_set hN hi hx p hs hf, jdgS_asg hp q⟩

def OutOf (ws : List Nat) (σ σ' : L2.St) : Prop := σ'.length = σ.length ∧ ∀ k, k ∉ ws → σ'[k]? = σ[k]?
def JG (c : Ct) (tg : Expr) (ws : List Nat) (f : D → LS → Option LS) : Prop := ∃ t, PG c.X tg t ∧ ∀ G F ow σ H L d v L', c.Rl G F ow σ H L → Dq c.X.K F v d → f d L = some L' → ∀ Q : L2.St → Hp → Prop, (∀ σ', OutOf ws σ σ' → c.Rl G F ow σ' H L' → Q σ' H) → t v σ H Q
def JGs (c : Ct) (tgs : List Expr) (ws : List Nat) (f : List D → LS → Option LS) : Prop := ∃ t, PGs c.X tgs t ∧ ∀ G F ow σ H L ds vs L', c.Rl G F ow σ H L → DqA c.X.K F vs ds → f ds L = some L' → ∀ Q : L2.St → Hp → Prop, (∀ σ', OutOf ws σ σ' → c.Rl G F ow σ' H L' → Q σ' H) → t vs σ H Q
def fName (i : Nat) : D → LS → Option LS := fun d L => some (L.set i (some (.d d)))
theorem jg_name (i : Nat) {x : Str} (hp : c.free i) (h : PG c.X (.Name x pos) (L2.gName i)) : JG c (.Name x pos) [i] (fName i) :=
  ⟨_, h, fun G F ow σ H L d v L' Rr q e Q k => by
    cases e
    refine k _ ⟨List.length_set .., fun k hk => List.getElem?_set_ne fun z => hk ?_⟩ (Rl.storeD Rr q hp)
    rw [z]
    exact List.mem_singleton.mpr rfl⟩
def fNil : List D → LS → Option LS
  | [], L => some L
  | _ :: _, _ => none
def fCons (f : D → LS → Option LS) (r : List D → LS → Option LS) : List D → LS → Option LS
  | d :: ds, L => (f d L).bind (r ds)
  | [], _ => none
theorem jgs_nil : JGs c [] [] fNil := ⟨_, pgs_nil, fun G F ow σ H L ds vs L' Rr q e Q k => by
  cases q with
  | nil =>
    cases e
    exact ⟨rfl, k σ ⟨rfl, fun _ _ => rfl⟩ Rr⟩
  | cons _ _ => cases e⟩
theorem jgs_cons {e : Expr} {es : List Expr} {ws vs : List Nat} {f : D → LS → Option LS} {r : List D → LS → Option LS} (h1 : JG c e ws f) (h2 : JGs c es vs r) (hs : (assignEach (e :: es) c.X.env).map (·.2) = assign e c.X.env :: (assignEach es c.X.env).map (·.2) := by rfl) : JGs c (e :: es) (ws ++ vs) (fCons f r) := by
  obtain ⟨t, p, q⟩ := h1
  obtain ⟨t', p', q'⟩ := h2
  refine ⟨_, pgs_cons p p' hs, fun G F ow σ H L ds vs L' Rr hd e Q k => ?_⟩
  cases hd with
  | nil => cases e
  | cons h1 h2 =>
    obtain ⟨L1, e1, e2⟩ := Option.bind_eq_some_iff.mp e
    refine ⟨_, _, rfl, q G F ow σ H L _ _ L1 Rr h1 e1 _ fun σ' o1 R' => q' G F ow σ' H L1 _ _ L' R' h2 e2 Q fun σ2 o2 R2 => k σ2 ⟨o2.1.trans o1.1, fun k hk => ?_⟩ R2⟩
    rw [List.mem_append, not_or] at hk
    exact (o2.2 k hk.2).trans (o1.2 k hk.1)
def fTup (m : Nat) (f : List D → LS → Option LS) : D → LS → Option LS
  | .tuple ds, L => if ds.length = m then f ds L else none
  | _, _ => none
theorem jg_tup {es : List Expr} {k m : Nat} {ws : List Nat} {f : List D → LS → Option LS} (hc : c.X.calm = true) (h : JGs c es ws f) (hm : (assignEach es c.X.env).length = m := by rfl) (hst : (assignEach es c.X.env).findIdx? (·.1) = none := by rfl) : JG c (.Tuple es k pos) ws (fTup m f) := by
  obtain ⟨t, p, q⟩ := h
  refine ⟨_, pg_tup hc p hm hst, fun G F ow σ H L d v L' Rr hd e Q k => ?_⟩
  cases hd with
  | tup h1 h2 =>
    rename_i l vs ds
    have e : (if ds.length = m then f ds L else none) = some L' := e
    by_cases hl : ds.length = m
    · rw [if_pos hl] at e
      exact ⟨l, vs, rfl, sqt_same Rr.exF h1, h2.len.trans hl, q G F ow σ H L ds vs L' Rr h2 e Q k⟩
    · rw [if_neg hl] at e
      cases e
  | _ => cases e
def gAsgT (f : D → LS → Option LS) (g : LS → R D) : LS → R O := fun L => (g L).bind fun d L1 => match f d L1 with
  | some L2 => .ok .nx L2
  | none => .stuck
theorem js_asg {tg : Expr} {ws : List Nat} {f : D → LS → Option LS} (ht : JG c tg ws f) (h : JD c n a ga) (hs : swapsWithSole [tg] a pos.line c.X.env = pure false := by rfl) (hw : swappedStores [tg] a c.X.env = pure none := by rfl)
    (h1 : (assignEach [tg] c.X.env).map (·.2) = [assign tg c.X.env] := by rfl) : JS c (.Assign [tg] a pos) (gAsgT f ga) := by
  obtain ⟨t, p, q⟩ := h
  obtain ⟨t', p', q'⟩ := ht
  refine ⟨_, ps_asg p p' hs hw h1, fun G F ow σ H L Rr E ft => ?_⟩
  refine (q G F ow σ H L Rr).use ft fun d L1 v H1 F1 ow1 _ _ R1 b1 f1 => ?_
  cases hf : f d L1 with
  | none => rw [hf] at f1; exact f1.elim
  | some L2 =>
    rw [hf] at f1
    exact q' G F1 ow1 σ H1 L1 d v L2 R1 b1 hf _ fun σ' _ R' => f1 σ' H1 F1 ow1 (Same.refl F1) R'

def gOwnL (i : Nat) (k : List D → LS → R S) : LS → R S := fun L => match L[i]? with
  | some (some (.ol ds)) => k ds L
  | _ => .stuck
theorem ownL_at {G F H : Hp} {ow : Addr → Option Path} {σ : L2.St} {L : LS} {i : Nat} {ds : List D} (Rr : c.Rl G F ow σ H L) (h : L[i]? = some (some (.ol ds))) :
    ∃ l vs, σ[i]? = some (some (.ref l)) ∧ H l = some (.lst vs) ∧ ow l = some [i + 1] ∧ DqA c.X.K F vs ds := by
  obtain ⟨v, hv, rs⟩ := Rr.sl i _ h
  cases rs with
  | ol a b q => exact ⟨_, _, hv, a, b, q⟩
theorem Rl.putL {G F H : Hp} {ow : Addr → Option Path} {σ : L2.St} {L : LS} {i : Nat} {l : Addr} {vs : List V} {ds : List D} (Rr : c.Rl G F ow σ H L) (hv : σ[i]? = some (some (.ref l))) (ho : ow l = some [i + 1]) (q : DqA c.X.K F vs ds) :
    c.Rl G F ow σ (upd H l (.lst vs)) (L.set i (some (.ol ds))) := Rl.put Rr ho ⟨_, hv, .ol upd_same ho q⟩
def gApp (i : Nat) (g : LS → R D) : LS → R S := gOwnL i fun _ L => (g L).bind fun d L1 => gOwnL i (fun ds L2 => if ds.length < sizeLine then .ok (.d .none) (L2.set i (some (.ol (ds ++ [d])))) else .stuck) L1
theorem je_append (i : Nat) {x : Str} {p apos : Pos} (h : PE c.X (.Name x p) (tVar i)) (ha : JD c n a ga)
    (hbase : attributeBase (.Name x p) "append" c.X.env (eval (.Name x p) c.X.env) = eval (.Name x p) c.X.env := by rfl)
    (hfew : ((backTo pos (starEach [a] c.X.env)).all (fun x => !x.1) && (backToKw pos (keywordEach [] c.X.env)).all (fun x => x.1.isSome) && decide ([a].length + ([] : List Keyword).length + (if ([] : List Keyword).isEmpty then 0 else 1) < 30)) = true := by rfl)
    (hline : (apos.endLine == pos.line) = true := by rfl) (hs : starEach [a] c.X.env = (false, eval a c.X.env) :: starEach [] c.X.env := by rfl) (hplain : (backTo pos (starEach [] c.X.env)).any (·.1) = false := by rfl) :
    JE c false (.Call (.Attribute (.Name x p) "append" apos) [a] [] pos) (gApp i ga) := by
  obtain ⟨ta, pa, qa⟩ := ha
  refine ⟨_, pe_bm PySem.F.plainAttrs_list PySem.F.slot_list_append PySem.F.type_list_append mt_append h (pa_cons pa pa_nil hs) hbase hfew hline hs hplain, fun G F ow σ H L Rr => ?_⟩
  unfold gApp gOwnL
  cases hL : L[i]? with
  | none => trivial
  | some o =>
    cases o with
    | none => trivial
    | some s =>
      cases s with
      | ol ds0 =>
        obtain ⟨l, vs0, hv, h0, _, _⟩ := ownL_at Rr hL
        have key := (qa G F ow σ H L Rr).bind (n2 := false) (k := fun d L1 => gOwnL i (fun ds L2 => if ds.length < sizeLine then R.ok (S.d .none) (L2.set i (some (.ol (ds ++ [d])))) else .stuck) L1) (B2 := BE c.ca c.X.K) (t2 := fun y H1 Q => rAppend (.ref l) [y] H1 Q)
          fun d L1 v H1 F1 ow1 _ _ _ R1 b1 => by
            unfold gOwnL
            cases hL1 : L1[i]? with
            | none => trivial
            | some o =>
              cases o with
              | none => trivial
              | some s =>
                cases s with
                | ol ds =>
                  obtain ⟨l', vs, hv', h1, h2, h3⟩ := ownL_at R1 hL1
                  rw [hv] at hv'
                  cases hv'
                  refine Post.guard fun hz => ?_
                  intro Q q
                  exact ⟨l, vs, v, rfl, rfl, h1, by rw [h3.len]; exact hz, q _ _ F1 ow1 (Same.refl F1) (fun z => nomatch z) (Rl.putL R1 hv h2 (h3.append (.one b1))) (.d .non)⟩
                | _ => trivial
        rw [Bool.and_false] at key
        exact key.imp fun Q q => ⟨_, hv, .inl ⟨rfl, _, .of h0⟩, q⟩
      | _ => trivial
def setAt (i : Nat) (d : D) : D → LS → R O
  | .int k, L => (match L[i]? with
    | some (some (.ol ds)) => (match ixN ds.length k with
      | some j => .ok .nx (L.set i (some (.ol (ds.set j d))))
      | none => .stuck)
    | _ => .stuck)
  | _, _ => .stuck
def gSetIx (i : Nat) (gk g : LS → R D) : LS → R O := fun L => (g L).bind fun d L1 => match L1[i]? with
  | some (some _) => (gk L1).bind (setAt i d)
  | _ => .stuck
theorem js_setIx (i : Nat) {x : Str} {k : Expr} {gk : LS → R D} {p p3 : Pos} (h : PE c.X (.Name x p) (tVar i)) (hk : JD c n1 k gk) (ha : JD c n2 a ga)
    (hb : ∀ v, assign (.Subscript (.Name x p) k p3) c.X.env v = (do
      let ov ← holding [v] (eval (.Name x p) c.X.env)
      let iv ← holding [v, ov] (eval k c.X.env)
      standAt p3
      holding [v, ov, iv] (setItem ov iv v)
      release [v, ov, iv] []) := by intro _; rfl)
    (hs : swapsWithSole [.Subscript (.Name x p) k p3] a pos.line c.X.env = pure false := by rfl) (hw : swappedStores [.Subscript (.Name x p) k p3] a c.X.env = pure none := by rfl) (h1 : (assignEach [.Subscript (.Name x p) k p3] c.X.env).map (·.2) = [assign (.Subscript (.Name x p) k p3) c.X.env] := by rfl) :
    JS c (.Assign [.Subscript (.Name x p) k p3] a pos) (gSetIx i gk ga) := by
  obtain ⟨ta, pa, qa⟩ := ha
  obtain ⟨tk, pk, qk⟩ := hk
  refine ⟨_, ps_asg pa (pg_sub h pk set_list hb) hs hw h1, fun G F ow σ H L Rr E ft => ?_⟩
  refine (qa G F ow σ H L Rr).use ft fun d L1 v H1 F1 ow1 _ _ R1 b1 f1 => ?_
  cases hL : L1[i]? with
  | none => rw [hL] at f1; exact f1.elim
  | some o =>
    rw [hL] at f1
    cases o with
    | none => exact f1.elim
    | some s =>
      obtain ⟨u, hu, _⟩ := R1.sl i s hL
      refine ⟨u, hu, ?_⟩
      refine (qk G F1 ow1 σ H1 L1 R1).use f1 fun e L2 w H2 F2 ow2 _ e2 R2 b2 f2 => ?_
      cases b2 with
      | int m =>
        have f2 : Fit c G F2 (match L2[i]? with
          | some (some (.ol ds)) => (match ixN ds.length m with
            | some j => R.ok .nx (L2.set i (some (.ol (ds.set j d))))
            | none => .stuck)
          | _ => .stuck) E := f2
        cases hL2 : L2[i]? with
        | none => rw [hL2] at f2; exact f2.elim
        | some o =>
          rw [hL2] at f2
          cases o with
          | none => exact f2.elim
          | some s =>
            cases s with
            | ol ds =>
              obtain ⟨l, vs, hv', h1', h2, h3⟩ := ownL_at R2 hL2
              rw [hu] at hv'
              cases hv'
              dsimp only at f2
              cases hj : ixN ds.length m with
              | none => rw [hj] at f2; exact f2.elim
              | some j =>
                rw [hj] at f2
                exact ⟨l, vs, m, j, rfl, rfl, h1', by rw [h3.len]; exact hj, f2 _ _ F2 ow2 (Same.refl F2) (Rl.putL R2 hu h2 (h3.set (b1.up e2) j))⟩
            | _ => exact f2.elim
      | _ => exact f2.elim

def ItOk (K : PySem.W.Frag) (F : Hp) (ds : List D) (J : It) : Prop := ∀ (i : Nat) (H : Hp), Same F H → (ds.length ≤ i → J.stop i H) ∧ ∀ d, ds[i]? = some d → J.go i H ∧ ∀ x H', J.yld i H x H' →
  (H' = H ∧ Dq K F x d) ∨ ∃ p vs es, d = .tuple es ∧ x = .ref p ∧ H p = none ∧ H' = upd H p (.tup vs) ∧ DqA K F vs es
theorem ItOk.up {K : PySem.W.Frag} {F F' : Hp} {ds : List D} {J : It} (e : Same F F') (h : ItOk K F ds J) : ItOk K F' ds J := fun i H s => by
  obtain ⟨h1, h2⟩ := h i H (e.trans s)
  refine ⟨h1, fun d hd => ?_⟩
  obtain ⟨h3, h4⟩ := h2 d hd
  refine ⟨h3, fun x H' y => ?_⟩
  rcases h4 x H' y with ⟨a, b⟩ | ⟨p, vs, es, a, b, c, d, q⟩
  · exact .inl ⟨a, b.up e⟩
  · exact .inr ⟨p, vs, es, a, b, c, d, q.up e⟩
def BI : PySem.W.Frag → Hp → Hp → (Addr → Option Path) → List D → It → Prop := fun K F _ _ ds J => ItOk K F ds J
def JI (c : Ct) (n : Bool) (tg iter : Expr) (g : LS → R (List D)) : Prop := ∃ wi, PI c.X tg iter wi ∧ Jdg c n g BI wi
def asL : D → LS → R (List D)
  | .list ds, L => .ok ds L
  | _, _ => .stuck
def asT : D → LS → R (List D)
  | .tuple ds, L => .ok ds L
  | _, _ => .stuck
variable {tg : Expr}
def intsD (lo : Int) (m : Nat) : List D := (List.range m).map fun i => PyData.int (lo + (i : Nat))
theorem intsD_len (lo : Int) (m : Nat) : (intsD lo m).length = m := by
  unfold intsD
  rw [List.length_map, List.length_range]
theorem itr_ok {K : PySem.W.Frag} {F : Hp} {lo : Int} {m : Nat} : ItOk K F (intsD lo m) (Itr lo m) := fun i H s => by
  rw [intsD_len]
  refine ⟨fun h => h, fun d hd => ?_⟩
  have hi : i < m := by
    have := (List.getElem?_eq_some_iff.mp hd).1
    rw [intsD_len] at this
    exact this
  unfold intsD at hd
  rw [List.getElem?_map, List.getElem?_range hi] at hd
  cases hd
  exact ⟨hi, fun x H' ⟨e1, e2⟩ => .inl ⟨e1, by rw [e2]; exact .int _⟩⟩
def rng1 : List D → LS → R (List D)
  | [.int j], L => if -(2 ^ 62) ≤ j ∧ j < 2 ^ 62 then .ok (intsD 0 j.toNat) L else .stuck
  | _, _ => .stuck
def rng2 : List D → LS → R (List D)
  | [.int i, .int j], L => if -(2 ^ 62) ≤ i ∧ i < 2 ^ 62 ∧ -(2 ^ 62) ≤ j ∧ j < 2 ^ 62 then .ok (intsD i (j - i).toNat) L else .stuck
  | _, _ => .stuck
theorem ji_range1 {gs : LS → R (List D)} {p : Pos} (hg : Gl c.X "range") (hm : c.X.mg "range" = none) (h : JA c n [a] gs) (hs : starEach [a] c.X.env = [(false, eval a c.X.env)] := by rfl) : JI c n tg (.Call (.Name "range" p) [a] [] pos) (fun L => (gs L).bind rng1) := by
  obtain ⟨t, pa, q⟩ := h
  refine ⟨_, pi_range1 hg hm pa hs, fun G F ow σ H L Rr => (q G F ow σ H L Rr).bind1 (t2 := fun vs H1 Q => ∃ j : Int, vs = [V.int j] ∧ -(2 ^ 62) ≤ j ∧ j < 2 ^ 62 ∧ Q (Itr 0 j.toNat) H1) fun ds L1 vs H1 F1 ow1 _ _ _ R1 b1 => ?_⟩
  cases b1 with
  | nil => trivial
  | cons x y =>
    cases y with
    | cons _ _ => cases x <;> trivial
    | nil =>
      cases x with
      | int j => exact Post.guard fun hj => (Post.val (a := intsD 0 j.toNat) (b := Itr 0 j.toNat) (B := BI c.X.K) R1 itr_ok).imp fun Q q => ⟨j, rfl, hj.1, hj.2, q⟩
      | _ => trivial
theorem ji_range2 {gs : LS → R (List D)} {p : Pos} (hg : Gl c.X "range") (hm : c.X.mg "range" = none) (h : JA c n [a, b] gs) (hs : starEach [a, b] c.X.env = [(false, eval a c.X.env), (false, eval b c.X.env)] := by rfl) (hs2 : starEach [b] c.X.env = [(false, eval b c.X.env)] := by rfl) : JI c n tg (.Call (.Name "range" p) [a, b] [] pos) (fun L => (gs L).bind rng2) := by
  obtain ⟨t, pa, q⟩ := h
  refine ⟨_, pi_range2 hg hm pa hs hs2, fun G F ow σ H L Rr => (q G F ow σ H L Rr).bind1 (t2 := fun vs H1 Q => ∃ i j : Int, vs = [V.int i, V.int j] ∧ (-(2 ^ 62) ≤ i ∧ i < 2 ^ 62 ∧ -(2 ^ 62) ≤ j ∧ j < 2 ^ 62) ∧ Q (Itr i (j - i).toNat) H1) fun ds L1 vs H1 F1 ow1 _ _ _ R1 b1 => ?_⟩
  cases b1 with
  | nil => trivial
  | cons x y =>
    cases y with
    | nil => cases x <;> trivial
    | cons y z =>
      cases z with
      | cons _ _ => cases x <;> cases y <;> trivial
      | nil =>
        cases x with
        | int i =>
          cases y with
          | int j => exact Post.guard fun hj => (Post.val (a := intsD i (j - i).toNat) (b := Itr i (j - i).toNat) (B := BI c.X.K) R1 itr_ok).imp fun Q q => ⟨i, j, rfl, hj, q⟩
          | _ => trivial
        | _ => cases y <;> trivial
def forGo (f : D → LS → Option LS) (g : LS → R O) : List D → LS → R O
  | [], L => .ok .nx L
  | d :: ds, L => match f d L with
    | none => .stuck
    | some L1 => match g L1 with
      | .ok .nx L2 => forGo f g ds L2
      | .ok .ct L2 => forGo f g ds L2
      | .ok .bk L2 => .ok .nx L2
      | r => r
def gFor (gi : LS → R (List D)) (f : D → LS → Option LS) (g : LS → R O) : LS → R O := fun L => (gi L).bind fun ds L1 => forGo f g ds L1
theorem js_for {ws : List Nat} {iter : Expr} {body : List Stmt} {gi : LS → R (List D)} {f : D → LS → Option LS} (hp : PassesOwn (model c.X.prog c.X.w) c.X.A c.X.env c.X.xe) (hc : c.X.calm = true) (hi : JI c n tg iter gi) (hg : JG c tg ws f) (hb : JB c body g)
    (hs : ∀ x, foldedSetIterable iter c.X.env x = pure x := by intro _; rfl) : JS c (.For tg iter body [] pos) (gFor gi f g) := by
  obtain ⟨wi, p1, q1⟩ := hi
  obtain ⟨tt, p2, q2⟩ := hg
  obtain ⟨tb, p3, q3⟩ := hb
  refine ⟨_, ps_for hp hc p1 p2 p3 hs, fun G F ow σ H L Rr E ft => ?_⟩
  refine (q1 G F ow σ H L Rr).use ft fun ds L1 J H1 F1 ow1 _ _ R1 b1 f1 => ?_
  refine ⟨fun i m σ H => m = ds.length - i ∧ i ≤ ds.length ∧ ∃ F' ow' L', Same F1 F' ∧ c.Rl G F' ow' σ H L' ∧ Fit c G F' (forGo f g (ds.drop i) L') E, ⟨ds.length, rfl, Nat.zero_le _, F1, ow1, L1, Same.refl F1, R1, f1⟩, fun i m σ2 H2 hW => ?_⟩
  obtain ⟨rfl, hi, F2, ow2, L2, e2, R2, f2⟩ := hW
  obtain ⟨k1, k2⟩ := (ItOk.up e2 b1) i H2 R2.exF
  by_cases hlt : i < ds.length
  · have hd : ds[i]? = some ds[i] := List.getElem?_eq_getElem hlt
    obtain ⟨k3, k4⟩ := k2 _ hd
    rw [List.drop_eq_getElem_cons hlt] at f2
    refine .inr ⟨k3, fun σ' H' => ∃ F' ow' L', Same F1 F' ∧ c.Rl G F' ow' σ' H' L' ∧ Fit c G F' (forGo f g (ds.drop (i + 1)) L') E, fun σ' H' ⟨F', ow', L', w1, w2, w3⟩ => ⟨ds.length - (i + 1), by omega, rfl, hlt, F', ow', L', w1, w2, w3⟩, fun x H' y => ?_⟩
    have step : ∀ {F3 : Hp} {H3 : Hp}, Same F2 F3 → c.Rl G F3 ow2 σ2 H3 L2 → Dq c.X.K F3 x ds[i] → tt x σ2 H3 fun σ4 H4 => tb { nx := fun σ' H' => ∃ F' ow' L', Same F1 F' ∧ c.Rl G F' ow' σ' H' L' ∧ Fit c G F' (forGo f g (ds.drop (i + 1)) L') E, rt := E.rt, bk := E.nx, ct := fun σ' H' => ∃ F' ow' L', Same F1 F' ∧ c.Rl G F' ow' σ' H' L' ∧ Fit c G F' (forGo f g (ds.drop (i + 1)) L') E } σ4 H4 := fun {F3 H3} e3 R3 hx => by
      have f3 : Fit c G F3 (forGo f g (ds[i] :: ds.drop (i + 1)) L2) E := Fit.up e3 f2
      unfold forGo at f3
      cases hf : f ds[i] L2 with
      | none => rw [hf] at f3; exact f3.elim
      | some L3 =>
        rw [hf] at f3
        refine q2 G F3 ow2 σ2 H3 L2 _ x L3 R3 hx hf _ fun σ4 _ R4 => ?_
        refine q3 G F3 ow2 σ4 H3 L3 R4 _ ?_
        dsimp only at f3
        cases hr : g L3 with
        | stuck => rw [hr] at f3; exact f3.elim
        | err k L4 => rw [hr] at f3; exact f3
        | ok o L4 =>
          rw [hr] at f3
          cases o with
          | nx => exact fun σ' H' F' ow' e' R' => ⟨F', ow', L4, (e2.trans e3).trans e', R', Fit.up e' f3⟩
          | ct => exact fun σ' H' F' ow' e' R' => ⟨F', ow', L4, (e2.trans e3).trans e', R', Fit.up e' f3⟩
          | bk => exact f3
          | rt s => exact f3
    rcases k4 x H' y with ⟨rfl, hx⟩ | ⟨p, vs, es, he, rfl, hp', rfl, hq⟩
    · exact step (Same.refl F2) R2 hx
    · obtain ⟨w1, w2, w3⟩ := R2.newF (o := .tup vs) hp'
      rw [he] at step
      exact step w1 w3 (.tup upd_same (hq.up w1))
  · have hl : ds.length ≤ i := Nat.le_of_not_lt hlt
    rw [List.drop_eq_nil_of_le hl] at f2
    exact .inl ⟨k1 hl, f2 σ2 H2 F2 ow2 (Same.refl F2) R2⟩
def whGo (t : LS → R Bool) (g : LS → R O) : Nat → LS → R O
  | 0, _ => .stuck
  | k + 1, L => (t L).bind fun b L1 => if b = true then (match g L1 with
      | .ok .nx L2 => whGo t g k L2
      | .ok .ct L2 => whGo t g k L2
      | .ok .bk L2 => .ok .nx L2
      | r => r) else .ok .nx L1
def gWhile (m : LS → Nat) (t : LS → R Bool) (g : LS → R O) : LS → R O := fun L => whGo t g (m L) L
theorem js_while (m : LS → Nat) {e : Expr} {body : List Stmt} {t : LS → R Bool} (hp : PassesOwn (model c.X.prog c.X.w) c.X.A c.X.env c.X.xe) (ht : JT c n e t) (hb : JB c body g) : JS c (.While e body [] pos) (gWhile m t g) := by
  obtain ⟨tt, p2, q2⟩ := ht
  obtain ⟨tb, p3, q3⟩ := hb
  refine ⟨_, ps_while hp p2 p3, fun G F ow σ H L Rr E ft => ?_⟩
  refine ⟨fun k σ H => ∃ F' ow' L', Same F F' ∧ c.Rl G F' ow' σ H L' ∧ Fit c G F' (whGo t g k L') E, ⟨m L, F, ow, L, Same.refl F, Rr, ft⟩, fun k σ1 H1 hW => ?_⟩
  obtain ⟨F1, ow1, L1, e1, R1, f1⟩ := hW
  cases k with
  | zero => exact f1.elim
  | succ k =>
    refine (q2 G F1 ow1 σ1 H1 L1 R1).use f1 fun b L2 b' H2 F2 ow2 _ e2 R2 b1 f2 => ?_
    cases b1
    cases b with
    | false => exact f2 σ1 H2 F2 ow2 (Same.refl F2) R2
    | true =>
      refine ⟨fun σ' H' => ∃ F' ow' L', Same F F' ∧ c.Rl G F' ow' σ' H' L' ∧ Fit c G F' (whGo t g k L') E, fun σ' H' w => ⟨k, Nat.lt_succ_self k, w⟩, ?_⟩
      refine q3 G F2 ow2 σ1 H2 L2 R2 _ ?_
      have f2 : Fit c G F2 (match g L2 with
        | .ok .nx L2 => whGo t g k L2
        | .ok .ct L2 => whGo t g k L2
        | .ok .bk L2 => .ok .nx L2
        | r => r) E := f2
      cases hr : g L2 with
      | stuck => rw [hr] at f2; exact f2.elim
      | err k L4 => rw [hr] at f2; exact f2
      | ok o L4 =>
        rw [hr] at f2
        cases o with
        | nx => exact fun σ' H' F' ow' e' R' => ⟨F', ow', L4, (e1.trans e2).trans e', R', Fit.up e' f2⟩
        | ct => exact fun σ' H' F' ow' e' R' => ⟨F', ow', L4, (e1.trans e2).trans e', R', Fit.up e' f2⟩
        | bk => exact f2
        | rt s => exact f2
end
end VS

namespace VS
open PySem PySem.Spec PyProof.Rows L2

def maskL : List Bool → LS → LS
  | b :: bs, o :: L => (if b then o else none) :: maskL bs L
  | _ :: bs, [] => none :: maskL bs []
  | [], _ => []
def endOf (md : List Bool) : R O → R S
  | .ok .nx L => .ok (.d .none) (maskL md L)
  | .ok (.rt s) L => .ok s (maskL md L)
  | .ok _ _ => .stuck
  | .err e L => .err e (maskL md L)
  | .stuck => .stuck
def runDef (md : List Bool) (N : Nat) (g : LS → R O) : LS → R S := fun ss => endOf md (g (ss ++ List.replicate (N - ss.length) none))
def VSp (K : PySem.W.Frag) (ca : Nat → Addr) (md : List Bool) (m : LS → R S) : Sp := fun vs H Q E => ∃ B G F ow ss, ss.length = md.length ∧ Rl K ca B [] G F ow (vs.map some) H ss ∧ match m ss with
  | .ok s L => ∀ v H' F' ow', Same F F' → Rl K ca B [] G F' ow' (vs.map some) H' L → RS K ca F' H' ow' [0] s v → Q v H'
  | .err e L => ∀ H' F' ow', Same F F' → Rl K ca B [] G F' ow' (vs.map some) H' L → E (.ref (ca e)) none H'
  | .stuck => False
theorem VSp.len {K : PySem.W.Frag} {ca : Nat → Addr} {md : List Bool} {m : LS → R S} {vs : List V} {H : Hp} {Q : VK} {E : XK} (h : VSp K ca md m vs H Q E) : vs.length = md.length := by
  obtain ⟨B, G, F, ow, ss, h1, h2, _⟩ := h
  have := h2.len
  rw [List.length_map] at this
  omega
theorem maskL_get : ∀ {md : List Bool} {L : LS} {i : Nat} {s : S}, (maskL md L)[i]? = some (some s) → md[i]? = some true ∧ L[i]? = some (some s)
  | b :: bs, o :: L, 0, s, h => by
    have h' : (if b then o else none) = some s := Option.some.inj h
    cases b with
    | true => exact ⟨rfl, congrArg some h'⟩
    | false => cases h'
  | b :: bs, o :: L, i + 1, s, h => maskL_get (md := bs) (L := L) (i := i) h
  | b :: bs, [], 0, s, h => by cases h
  | b :: bs, [], i + 1, s, h => by
    have := (maskL_get (md := bs) (L := []) (i := i) (s := s) h).2
    cases this
  | [], _, _, _, h => by cases h
theorem maskL_len : ∀ (md : List Bool) (L : LS), (maskL md L).length = md.length
  | [], L => by cases L <;> rfl
  | b :: bs, [] => by
    show (maskL bs []).length + 1 = _
    rw [maskL_len bs []] <;> rfl
  | b :: bs, o :: L => by
    show (maskL bs L).length + 1 = _
    rw [maskL_len bs L] <;> rfl
section
variable {P : Program} {w : World} {K : PySem.W.Frag} {mg : Str → Option Value} {base : Heap} {ca : Nat → Addr}
abbrev ctOf (P : Program) (w : World) (K : PySem.W.Frag) (mg : Str → Option Value) (base : Heap) (ca : Nat → Addr) (N : List Str) (qual : Str) (sc : Scope) (f : Addr) (cdv : Value) (A : Around) (outer : List Env) (s : Shared) (H : Hp) (E : XK) (md : List Bool) (vs : List V) (B : Hp := fun _ => none) : Ct :=
  ⟨cxOf (L2.CX P w) P w K mg base N qual sc f cdv A outer s H E, fun cls d _ H => E cls d H, ca, md, vs, B⟩
theorem vf_of {x qual : Str} {st : Stmt} {f : Addr} {fd : FuncData} {N ps : List Str} {k : Nat} {md : List Bool} {g : LS → R O} (F : Fun K x qual st f fd) (S : FnScope N ps (defScope st)) (hmd : md.length = ps.length) (hN : ps.length ≤ N.length)
    (hb : ∀ (cdv : Value) (A : Around) (outer : List Env) (s : Shared) (H : Hp) (E : XK) (vs : List V), Room k (A.deeper (envOfC qual (defScope st) s.heap.objs.size f cdv)) → ∀ B : Hp, JB (ctOf P w K mg base ca N qual (defScope st) f cdv A outer s H E md vs B) (defBody st) g) :
    FnOk P w K mg base (L2.CX P w) (k + 1) f fd ps (VSp K ca md (runDef md N.length g)) := by
  refine F.okX S (fun vs H Q E h => h.len.trans hmd) (fun cdv A outer s H vs Q E hr h => ?_)
  have hlen : vs.length = md.length := h.len
  obtain ⟨B, G, F0, ow, ss, h1, h2, h3⟩ := h
  obtain ⟨t, ht, hq⟩ := hb cdv A outer s H E vs hr B
  refine ⟨t, ht, ?_⟩
  have hlv : ss.length = vs.length := by
    have := h2.len
    rw [List.length_map] at this
    exact this
  have pinv : ∀ (i : Nat) (v : V), (pinOf md vs)[i]? = some (some v) → (vs.map some)[i]? = some (some v) := fun i v h => by
    rw [List.getElem?_map, (pinOf_mk h).2]
    rfl
  have R0 : Rl K ca B (pinOf md vs) G F0 ow (L2.start N vs) H (ss ++ List.replicate (N.length - ss.length) none) := by
    refine ⟨h2.exF, h2.exG, h2.dF, h2.dG, ?_, fun i s0 hi => ?_, fun i v hi => ?_, h2.exB, h2.dB⟩
    · unfold L2.start
      rw [List.length_append, List.length_append, List.length_replicate, List.length_replicate, List.length_map, hlv]
    · have hlt : i < ss.length := by
        by_cases z : i < ss.length
        · exact z
        · rw [List.getElem?_append_right (Nat.le_of_not_lt z), List.getElem?_replicate] at hi
          split at hi <;> cases hi
      rw [List.getElem?_append_left hlt] at hi
      obtain ⟨v, q1, q2⟩ := h2.sl i s0 hi
      refine ⟨v, ?_, q2⟩
      unfold L2.start
      rw [List.getElem?_append_left (by rw [List.length_map]; omega)]
      exact q1
    · have q := pinv i v hi
      unfold L2.start
      rw [List.getElem?_append_left (List.getElem?_eq_some_iff.mp q).1]
      exact q
  have back : ∀ {σ' : L2.St} {H' F' : Hp} {ow' : Addr → Option Path} {L : LS}, Rl K ca B (pinOf md vs) G F' ow' σ' H' L → Rl K ca B [] G F' ow' (vs.map some) H' (maskL md L) := fun {σ' H' F' ow' L} r => by
    refine ⟨r.exF, r.exG, r.dF, r.dG, ?_, fun i s0 hi => ?_, (fun i v hi => nomatch hi), r.exB, r.dB⟩
    · rw [maskL_len, List.length_map, hlen]
    · obtain ⟨m1, m2⟩ := maskL_get hi
      obtain ⟨v, q1, q2⟩ := r.sl i s0 m2
      have hlt : i < vs.length := by
        have := (List.getElem?_eq_some_iff.mp m1).1
        omega
      have hpin := r.pin i vs[i] (pinOf_at m1 (List.getElem?_eq_getElem hlt))
      rw [hpin] at q1
      cases q1
      exact ⟨_, by rw [List.getElem?_map, List.getElem?_eq_getElem hlt]; rfl, q2⟩
  refine hq G F0 ow (L2.start N vs) H _ R0 _ ?_
  unfold runDef at h3
  cases hr : g (ss ++ List.replicate (N.length - ss.length) none) with
  | stuck => rw [hr] at h3; exact h3
  | err e L =>
    rw [hr] at h3
    exact fun σ' H' F' ow' e' R' => h3 H' F' ow' e' (back R')
  | ok o L =>
    rw [hr] at h3
    cases o with
    | nx => exact fun σ' H' F' ow' e' R' => h3 .non H' F' ow' e' (back R') (.d .non)
    | rt s0 => exact fun v σ' H' F' ow' e' R' rs => h3 v H' F' ow' e' (back R') rs
    | bk => exact h3.elim
    | ct => exact h3.elim
end
end VS

namespace VS
open PySem PySem.Spec PyProof.Rows L2

inductive Ar where
  | d (g : LS → R D)
  | r (i : Nat)
inductive Av where
  | d (d : D)
  | r (i : Nat)
def evArgs : List Ar → LS → R (List Av)
  | [], L => .ok [] L
  | .d g :: as, L => (g L).bind fun d L1 => (evArgs as L1).bind fun xs L2 => .ok (.d d :: xs) L2
  | .r i :: as, L => match L[i]? with
    | some (some _) => (evArgs as L).bind fun xs L2 => .ok (.r i :: xs) L2
    | _ => .stuck
def AvOk (K : PySem.W.Frag) (σ : L2.St) (F : Hp) : List Av → List V → Prop := Paired fun x v => match x with
  | .d d => Dq K F v d
  | .r i => σ[i]? = some (some v)
theorem AvOk.up {K : PySem.W.Frag} {σ : L2.St} {F F' : Hp} {xs : List Av} {vs : List V} (e : Same F F') (h : AvOk K σ F xs vs) : AvOk K σ F' xs vs := Paired.mapP h fun x v z => by
  cases x with
  | d d => exact Dq.up e z
  | r i => exact z
def allD : List Ar → Bool
  | [] => true
  | .d _ :: as => allD as
  | .r _ :: _ => false
def refs : List Av → List Nat
  | [] => []
  | .d _ :: xs => refs xs
  | .r i :: xs => i :: refs xs
def JAr (c : Ct) (n : Bool) (es : List Expr) (as : List Ar) : Prop := ∃ t, PA c.X es t ∧ ∀ G F ow σ H L, c.Rl G F ow σ H L → Post c G n F H σ (evArgs as L) (fun F' _ _ xs vs => AvOk c.X.K σ F' xs vs ∧ (allD as = true → refs xs = [])) (t σ H)
section
variable {c : Ct} {n n1 n2 n3 : Bool} {a b : Expr} {ga gb : LS → R D} {pos : Pos} {es : List Expr} {as : List Ar}
theorem jar_nil : JAr c true [] [] := ⟨_, pa_nil, fun G F ow σ H L Rr => Post.val Rr ⟨.nil, fun _ => rfl⟩⟩
theorem jar_d (h1 : JD c n1 a ga) (h2 : JAr c n2 es as) (hs : starEach (a :: es) c.X.env = (false, eval a c.X.env) :: starEach es c.X.env := by rfl) : JAr c (n1 && n2) (a :: es) (.d ga :: as) := by
  obtain ⟨t1, p1, q1⟩ := h1
  obtain ⟨t2, p2, q2⟩ := h2
  refine ⟨_, pa_cons p1 p2 hs, fun G F ow σ H L Rr => ?_⟩
  refine (q1 G F ow σ H L Rr).bind fun d L1 v H1 F1 ow1 _ _ _ R1 b1 => ?_
  exact (q2 G F1 ow1 σ H1 L1 R1).bind1 (t2 := fun vs H2 Q => Q (v :: vs) H2) fun xs L2 vs H2 F2 ow2 _ e2 _ R2 b2 => Post.val R2 ⟨.cons (Dq.up e2 b1) b2.1, fun h => b2.2 h⟩
theorem jar_r (i : Nat) {x : Str} {p : Pos} (h1 : PE c.X (.Name x p) (tVar i)) (h2 : JAr c n es as) (hs : starEach (.Name x p :: es) c.X.env = (false, eval (.Name x p) c.X.env) :: starEach es c.X.env := by rfl) : JAr c n (.Name x p :: es) (.r i :: as) := by
  obtain ⟨t2, p2, q2⟩ := h2
  refine ⟨_, pa_cons h1 p2 hs, fun G F ow σ H L Rr => ?_⟩
  unfold evArgs
  cases hL : L[i]? with
  | none => trivial
  | some o =>
    cases o with
    | none => trivial
    | some s =>
      obtain ⟨v, hv, _⟩ := Rr.sl i s hL
      exact ((q2 G F ow σ H L Rr).bind1 (t2 := fun vs H2 Q => Q (v :: vs) H2) fun xs L2 vs H2 F2 ow2 _ e2 _ R2 b2 => Post.val (B := fun F' _ _ xs vs => AvOk c.X.K σ F' xs vs ∧ (allD (.r i :: as) = true → refs xs = [])) R2 ⟨.cons hv b2.1, fun h => nomatch h⟩).imp fun Q q => ⟨v, hv, q⟩

def slotOf (L : LS) : Av → Option S
  | .d d => some (.d d)
  | .r i => (L[i]?).join
def putBack : List Av → LS → LS → LS
  | .r i :: xs, o :: ss, L => putBack xs ss (L.set i o)
  | .d _ :: xs, _ :: ss, L => putBack xs ss L
  | _, _, L => L
def callAt (m : LS → R S) (xs : List Av) (L : LS) : R S := match m (xs.map (slotOf L)) with
  | .ok s ss => .ok s (putBack xs ss L)
  | .err e ss => .err e (putBack xs ss L)
  | .stuck => .stuck
def gCall (m : LS → R S) (as : List Ar) : LS → R S := fun L => (evArgs as L).bind fun xs L1 => if (refs xs).Nodup then callAt m xs L1 else .stuck
def posR : List Av → Nat → Option Nat
  | [], _ => none
  | .r k :: xs, i => if k = i then some 0 else (posR xs i).map (· + 1)
  | .d _ :: xs, i => (posR xs i).map (· + 1)
theorem posR_at : ∀ {xs : List Av} {i j : Nat}, posR xs i = some j → xs[j]? = some (Av.r i)
  | .r k :: xs, i, j, h => by
    have h : (if k = i then some 0 else (posR xs i).map (· + 1)) = some j := h
    by_cases hk : k = i
    · rw [if_pos hk] at h
      cases h
      rw [hk]
      rfl
    · rw [if_neg hk] at h
      obtain ⟨l, h1, rfl⟩ := Option.map_eq_some_iff.mp h
      exact posR_at (xs := xs) h1
  | .d _ :: xs, i, j, h => by
    obtain ⟨l, h1, rfl⟩ := Option.map_eq_some_iff.mp (show (posR xs i).map (· + 1) = some j from h)
    exact posR_at (xs := xs) h1
  | [], _, _, h => by cases h
theorem mem_refs : ∀ {xs : List Av} {i j : Nat}, xs[j]? = some (.r i) → i ∈ refs xs
  | .r k :: xs, i, 0, h => by
    cases h
    exact List.mem_cons_self
  | .r k :: xs, i, j + 1, h => List.mem_cons_of_mem _ (mem_refs (xs := xs) h)
  | .d _ :: xs, i, 0, h => by cases h
  | .d _ :: xs, i, j + 1, h => mem_refs (xs := xs) (j := j) h
  | [], _, _, h => by cases h
theorem posR_of : ∀ {xs : List Av} {i j : Nat}, (refs xs).Nodup → xs[j]? = some (.r i) → posR xs i = some j
  | .r k :: xs, i, 0, _, h => by
    cases h
    exact if_pos rfl
  | .r k :: xs, i, j + 1, nd, h => by
    have h' : xs[j]? = some (.r i) := h
    have hk : k ≠ i := fun z => by
      subst z
      exact (List.nodup_cons.mp nd).1 (mem_refs h')
    show (if k = i then some 0 else (posR xs i).map (· + 1)) = _
    rw [if_neg hk, posR_of (List.nodup_cons.mp nd).2 h']
    rfl
  | .d _ :: xs, i, 0, _, h => by cases h
  | .d _ :: xs, i, j + 1, nd, h => by
    show (posR xs i).map (· + 1) = _
    rw [posR_of (xs := xs) nd (show xs[j]? = some (.r i) from h)]
    rfl
  | [], _, _, _, h => by cases h
theorem putBack_len : ∀ (xs : List Av) (ss L : LS), (putBack xs ss L).length = L.length
  | .r i :: xs, o :: ss, L => by
    show (putBack xs ss (L.set i o)).length = _
    rw [putBack_len xs ss, List.length_set]
  | .d _ :: xs, o :: ss, L => putBack_len xs ss L
  | [], _, L => rfl
  | .r _ :: _, [], L => rfl
  | .d _ :: _, [], L => rfl
theorem putBack_get : ∀ {xs : List Av} {ss L : LS} {k : Nat} {s : S}, (putBack xs ss L)[k]? = some (some s) → (∃ j : Nat, xs[j]? = some (Av.r k) ∧ ss[j]? = some (some s)) ∨ (L[k]? = some (some s) ∧ (ss.length = xs.length → k ∉ refs xs))
  | .r i :: xs, o :: ss, L, k, s, h => by
    have h : (putBack xs ss (L.set i o))[k]? = some (some s) := h
    rcases putBack_get h with ⟨j, h1, h2⟩ | ⟨h1, h2⟩
    · exact .inl ⟨j + 1, h1, h2⟩
    · rcases set_get h1 with ⟨rfl, h3⟩ | ⟨hk, h3⟩
      · exact .inl ⟨0, rfl, congrArg some h3⟩
      · refine .inr ⟨h3, fun hl hm => ?_⟩
        rcases List.mem_cons.mp hm with z | z
        · exact hk z.symm
        · exact h2 (by simpa using hl) z
  | .d _ :: xs, o :: ss, L, k, s, h => by
    have h : (putBack xs ss L)[k]? = some (some s) := h
    rcases putBack_get h with ⟨j, h1, h2⟩ | ⟨h1, h2⟩
    · exact .inl ⟨j + 1, h1, h2⟩
    · exact .inr ⟨h1, fun hl hm => h2 (by simpa using hl) hm⟩
  | [], ss, L, k, s, h => .inr ⟨h, fun _ hm => by cases hm⟩
  | .r _ :: _, [], L, k, s, h => .inr ⟨h, fun hl => by simp at hl⟩
  | .d _ :: _, [], L, k, s, h => .inr ⟨h, fun hl => by simp at hl⟩
section
variable {G F H : Hp} {ow : Addr → Option Path} {σ : L2.St} {L : LS} {xs : List Av} {vs : List V}
def owIn (ow : Addr → Option Path) (xs : List Av) : Addr → Option Path := fun a => match ow a with
  | some ((r + 1) :: q) => (posR xs r).map fun j => (j + 1) :: q
  | _ => none
def gIn (G F H : Hp) (oc : Addr → Option Path) : Hp := fun a => if (oc a).isSome then none else if (F a).isSome then none else H a
def owOut (ow oc oc' : Addr → Option Path) (xs : List Av) : Addr → Option Path := fun a => match oc' a with
  | some (0 :: q) => some (0 :: q)
  | some ((j + 1) :: q) => (match xs[j]? with
    | some (.r i) => some ((i + 1) :: q)
    | _ => none)
  | some [] => none
  | none => if (oc a).isSome then none else ow a
theorem owIn_some {a : Addr} {p : Path} (h : owIn ow xs a = some p) : ∃ r q j, ow a = some ((r + 1) :: q) ∧ posR xs r = some j ∧ p = (j + 1) :: q := by
  unfold owIn at h
  split at h
  · rename_i r q e
    obtain ⟨j, h1, h2⟩ := Option.map_eq_some_iff.mp h
    exact ⟨r, q, j, e, h1, h2.symm⟩
  · cases h
theorem owIn_at {a : Addr} {r j : Nat} {q : Path} (h : ow a = some ((r + 1) :: q)) (hp : posR xs r = some j) : owIn ow xs a = some ((j + 1) :: q) := by
  unfold owIn
  rw [h]
  show (posR xs r).map _ = _
  rw [hp]
  rfl
theorem owIn_no {a : Addr} {r : Nat} {q : Path} (h : ow a = some ((r + 1) :: q)) (hp : posR xs r = none) : owIn ow xs a = none := by
  unfold owIn
  rw [h]
  show (posR xs r).map _ = _
  rw [hp]
  rfl
theorem gIn_some {a : Addr} {o : HO} {oc : Addr → Option Path} (h : gIn G F H oc a = some o) : oc a = none ∧ F a = none ∧ H a = some o := by
  unfold gIn at h
  split at h
  · cases h
  · split at h
    · cases h
    · rename_i h1 h2
      refine ⟨?_, ?_, h⟩
      · cases e : oc a with
        | none => rfl
        | some p => rw [e] at h1; exact absurd rfl h1
      · cases e : F a with
        | none => rfl
        | some p => rw [e] at h2; exact absurd rfl h2
theorem gIn_at {a : Addr} {oc : Addr → Option Path} (h1 : oc a = none) (h2 : F a = none) : gIn G F H oc a = H a := by
  unfold gIn
  rw [h1, h2]
  rfl
theorem AvOk.get {K : PySem.W.Frag} : ∀ {xs : List Av} {vs : List V} {j : Nat} {x : Av}, AvOk K σ F xs vs → xs[j]? = some x → ∃ v, vs[j]? = some v ∧ match x with
    | .d d => Dq K F v d
    | .r i => σ[i]? = some (some v)
  | _, _, _, _, .nil, h => by cases h
  | _, _, 0, x, .cons r _, h => by
    cases h
    exact ⟨_, rfl, r⟩
  | _ :: xs, _ :: vs, j + 1, x, .cons _ t, h => AvOk.get (xs := xs) (vs := vs) (j := j) (x := x) t h
theorem Rl.callIn (Rr : c.Rl G F ow σ H L) (av : AvOk c.X.K σ F xs vs) (nd : (refs xs).Nodup) : Rl c.X.K c.ca c.B [] (gIn G F H (owIn ow xs)) F (owIn ow xs) (vs.map some) H (xs.map (slotOf L)) := by
  refine ⟨Rr.exF, fun a o h => (gIn_some h).2.2, fun a p h => ?_, fun a o h => .inl ?_, ?_, fun j s h => ?_, (fun i v h => nomatch h), Rr.exB, fun a p h => ?_⟩
  · obtain ⟨r, q, j, h1, h2, h3⟩ := owIn_some h
    obtain ⟨x, y, z⟩ := Rr.dF a _ h1
    refine ⟨x, ?_, z⟩
    unfold gIn
    rw [h]
    rfl
  · unfold gIn
    split
    · rfl
    · rw [h] <;> rfl
  · rw [List.length_map, List.length_map]
    exact Paired.length av
  · rw [List.getElem?_map] at h
    obtain ⟨x, hx, hs⟩ := Option.map_eq_some_iff.mp h
    obtain ⟨v, hv, q⟩ := AvOk.get (j := j) (x := x) av hx
    refine ⟨v, by rw [List.getElem?_map, hv]; rfl, ?_⟩
    cases x with
    | d d =>
      cases hs
      exact RT.of (.d q)
    | r i =>
      have hs' : (L[i]?).join = some s := hs
      have hL : L[i]? = some (some s) := by
        cases e : L[i]? with
        | none => rw [e] at hs'; cases hs'
        | some o => rw [e] at hs'; exact congrArg some hs'
      obtain ⟨u, hu, rs⟩ := Rr.sl i s hL
      have q' : σ[i]? = some (some v) := q
      rw [hu] at q'
      cases q'
      exact rs.go (Same.refl F) fun a w e => ⟨rfl, owIn_at e (posR_of nd hx)⟩
  · obtain ⟨r, q, j, h1, h2, h3⟩ := owIn_some h
    exact Rr.dB a _ h1
theorem Rl.callOut {F' H' : Hp} {oc' : Addr → Option Path} {ss : LS} (Rr : c.Rl G F ow σ H L) (av : AvOk c.X.K σ F xs vs) (nd : (refs xs).Nodup) (e : Same F F')
    (r' : Rl c.X.K c.ca c.B [] (gIn G F H (owIn ow xs)) F' oc' (vs.map some) H' ss) : c.Rl G F' (owOut ow (owIn ow xs) oc' xs) σ H' (putBack xs ss L) ∧ (refs xs = [] → Same H H') ∧
      ∀ {s : S} {v : V}, RS c.X.K c.ca F' H' oc' [0] s v → RS c.X.K c.ca F' H' (owOut ow (owIn ow xs) oc' xs) [0] s v := by
  have hlen : ss.length = xs.length := by
    have := r'.len
    rw [List.length_map] at this
    rw [this]
    exact (Paired.length av).symm
  have free : ∀ {a : Addr} {p : Path}, oc' a = some p → gIn G F H (owIn ow xs) a = none := fun {a p} h => (r'.dF a p h).2.1
  have gN : ∀ {a : Addr} {o : HO}, G a = some o → owIn ow xs a = none := fun {a o} h => by
    cases z : owIn ow xs a with
    | none => rfl
    | some p =>
      obtain ⟨r, q, j, w1, _, _⟩ := owIn_some z
      have := (Rr.dF a _ w1).2.1
      rw [h] at this
      cases this
  have gG : ∀ {a : Addr} {o : HO}, G a = some o → F a = none → gIn G F H (owIn ow xs) a = some o := fun {a o} h h1 => by
    rw [gIn_at (gN h) h1]
    exact Rr.exG a o h
  have gP : ∀ {a : Addr} {o : HO}, G a = some o → H' a = some o := fun {a o} h => by
    cases z : F a with
    | none => exact r'.exG a o (gG h z)
    | some u =>
      have h1 := Rr.exF a u z
      rw [Rr.exG a o h] at h1
      rw [h1]
      exact r'.exF a u (e a u z)
  have out_none : ∀ {a : Addr} {p : Path}, owOut ow (owIn ow xs) oc' xs a = some p → (∃ q, oc' a = some q) ∨ (oc' a = none ∧ owIn ow xs a = none ∧ ow a = some p) := fun {a p} h => by
    cases z : oc' a with
    | some q => exact .inl ⟨q, rfl⟩
    | none =>
      unfold owOut at h
      rw [z] at h
      have h : (if (owIn ow xs a).isSome = true then none else ow a) = some p := h
      split at h
      · cases h
      · rename_i h1
        refine .inr ⟨rfl, ?_, h⟩
        cases y : owIn ow xs a with
        | none => rfl
        | some w => rw [y] at h1; exact absurd rfl h1
  -- what was not handed in stays
  have stay : ∀ {a : Addr} {p : Path}, ow a = some p → owIn ow xs a = none → H' a = H a ∧ owOut ow (owIn ow xs) oc' xs a = some p ∧ oc' a = none ∧ F' a = none := fun {a p} h hn => by
    obtain ⟨x, y, z⟩ := Rr.dF a p h
    have hg : gIn G F H (owIn ow xs) a = H a := gIn_at hn x
    cases hH : H a with
    | none => exact absurd hH z.1
    | some o =>
      rw [hH] at hg
      have h1 : oc' a = none := by
        cases w : oc' a with
        | none => rfl
        | some q =>
          have := free w
          rw [hg] at this
          cases this
      refine ⟨r'.exG a o hg, ?_, h1, ?_⟩
      · unfold owOut
        rw [h1, hn]
        exact h
      · cases w : F' a with
        | none => rfl
        | some u =>
          have hu : H' a = some u := r'.exF a u w
          rw [r'.exG a o hg] at hu
          cases hu
          rcases r'.dG a o w with this | this
          · rw [hg] at this
            cases this
          · exact absurd this (z.2 o hH)
  refine ⟨⟨r'.exF, fun a o h => gP h, fun a p h => ?_, fun a o h => ?_, by rw [putBack_len]; exact Rr.len, fun k s h => ?_, Rr.pin, r'.exB, fun a p h => ?_⟩, fun hr a o h => ?_, fun {s v} h => ?_⟩
  · rcases out_none h with ⟨q, h1⟩ | ⟨h1, h2, h3⟩
    · obtain ⟨x, y, z⟩ := r'.dF a q h1
      refine ⟨x, ?_, z⟩
      cases w : G a with
      | none => rfl
      | some o =>
        cases zf : F a with
        | none =>
          have := gG w zf
          rw [y] at this
          cases this
        | some u =>
          have := e a u zf
          rw [x] at this
          cases this
    · obtain ⟨x, y, z⟩ := Rr.dF a p h3
      obtain ⟨w1, w2, w3, w4⟩ := stay h3 h2
      exact ⟨w4, y, by rw [w1]; exact z⟩
  · rcases r'.dG a o h with this | this
    · cases w : G a with
      | none => exact .inl rfl
      | some u =>
        cases zf : F a with
        | none =>
          have q := gG w zf
          rw [this] at q
          cases q
        | some t =>
          have q := e a t zf
          rw [h] at q
          cases q
          rcases Rr.dG a o zf with z | z
          · rw [w] at z
            cases z
          · exact .inr z
    · exact .inr this
  · rcases putBack_get h with ⟨j, h1, h2⟩ | ⟨h1, h2⟩
    · obtain ⟨v, hv, rs⟩ := r'.sl j s h2
      obtain ⟨u, hu, q⟩ := AvOk.get (j := j) (x := .r k) av h1
      rw [List.getElem?_map, hu] at hv
      cases hv
      refine ⟨v, q, rs.go (Same.refl F') fun a w e => ⟨rfl, ?_⟩⟩
      unfold owOut
      rw [e]
      show (match xs[j]? with
        | some (.r i) => some ((i + 1) :: w)
        | _ => none) = _
      rw [h1]
      rfl
    · obtain ⟨v, hv, rs⟩ := Rr.sl k s h1
      have hk := h2 hlen
      have hp : posR xs k = none := by
        cases z : posR xs k with
        | none => rfl
        | some j => exact absurd (mem_refs (posR_at z)) hk
      refine ⟨v, hv, rs.go e fun a w z => ?_⟩
      obtain ⟨w1, w2, _, _⟩ := stay z (owIn_no z hp)
      exact ⟨w1, w2⟩
  · rcases out_none h with ⟨q, h1⟩ | ⟨h1, h2, h3⟩
    · exact r'.dB a q h1
    · exact Rr.dB a p h3
  · cases w : F a with
    | some u =>
      have := Rr.exF a u w
      rw [h] at this
      cases this
      exact r'.exF a o (e a o w)
    | none =>
      have hn : owIn ow xs a = none := by
        cases z : owIn ow xs a with
        | none => rfl
        | some p =>
          obtain ⟨r, q, j, _, w2, _⟩ := owIn_some z
          have := mem_refs (posR_at w2)
          rw [hr] at this
          cases this
      refine r'.exG a o ?_
      rw [gIn_at hn w]
      exact h
  · refine h.go (Same.refl F') fun a w z => ⟨rfl, ?_⟩
    unfold owOut
    rw [z]
    rfl
end
theorem je_call {k : Nat} {f : Addr} {fd : FuncData} {ps : List Str} {md : List Bool} {m : LS → R S} {x : Str} {p : Pos} {e : Expr} (F : FnOk c.X.prog c.X.w c.X.K c.X.mg c.X.base (L2.CX c.X.prog c.X.w) k f fd ps (VSp c.X.K c.ca md m)) (hr : Room k c.X.A) (tk : Takes c.X c.W)
    (hg : Gl c.X x) (hm : c.X.mg x = some (.ref f)) (hk : PySem.W.keepIn c.X.K (.ref f) = true) (hb : Binds c.X.K fd ps []) (ha : JAr c n (e :: es) as) (hl : as.length = md.length := by rfl)
    (hdb : (x == ("__debug__" : Str)) = false := by decide) (he : starEach (e :: es) c.X.env = (false, eval e c.X.env) :: starEach es c.X.env := by rfl) (hpl : (backTo pos (starEach es c.X.env)).any (·.1) = false := by rfl) :
    JE c (n && allD as) (.Call (.Name x p) (e :: es) [] pos) (gCall m as) := by
  obtain ⟨t, pa, qa⟩ := ha
  refine ⟨_, pe_callS F hr hg hm hk hb (fun σ => passAt tk σ) pa hdb he hpl, fun G F0 ow σ H L Rr => ?_⟩
  refine (qa G F0 ow σ H L Rr).bind (t2 := fun vs H1 Q => VSp c.X.K c.ca md m vs H1 Q (WE c.W σ)) fun xs L1 vs H1 F1 ow1 hev e1 _ R1 b1 => ?_
  obtain ⟨av, hn⟩ := b1
  refine Post.guard fun nd => ?_
  have hxl : xs.length = md.length := by
    rw [← hl]
    clear hl hn av R1 Rr
    have ev : ∀ (as : List Ar) (L L1 : LS) (xs : List Av), evArgs as L = .ok xs L1 → xs.length = as.length := by
      intro as
      induction as with
      | nil =>
        intro L L1 xs h
        cases h
        rfl
      | cons a as ih =>
        intro L L1 xs h
        cases a with
        | d g =>
          have h : ((g L).bind fun d L1 => (evArgs as L1).bind fun xs L2 => .ok (.d d :: xs) L2) = .ok xs L1 := h
          cases hg : g L with
          | stuck => rw [hg] at h; cases h
          | err k L2 => rw [hg] at h; cases h
          | ok d L2 =>
            rw [hg, R.bind_ok] at h
            cases hg2 : evArgs as L2 with
            | stuck => rw [hg2] at h; cases h
            | err k L3 => rw [hg2] at h; cases h
            | ok ys L3 =>
              have := ih L2 L3 ys hg2
              rw [hg2, R.bind_ok] at h
              cases h
              simp [this]
        | r i =>
          unfold evArgs at h
          split at h
          · cases hg2 : evArgs as L with
            | stuck => rw [hg2] at h; cases h
            | err k L3 => rw [hg2] at h; cases h
            | ok ys L3 =>
              have := ih L L3 ys hg2
              rw [hg2, R.bind_ok] at h
              cases h
              simp [this]
          · cases h
    exact ev as L L1 xs hev
  have rin := R1.callIn av nd
  unfold callAt
  cases hm' : m (xs.map (slotOf L1)) with
  | stuck => trivial
  | ok s ss =>
    intro Q q
    refine ⟨c.B, _, F1, _, xs.map (slotOf L1), by rw [List.length_map]; exact hxl, rin, ?_⟩
    rw [hm']
    intro v H' F' ow' e' r' rs
    obtain ⟨w1, w2, w3⟩ := R1.callOut av nd e' r'
    exact q v H' F' _ e' (fun h => w2 (hn h)) w1 (w3 rs)
  | err er ss =>
    intro hw Q
    refine ⟨c.B, _, F1, _, xs.map (slotOf L1), by rw [List.length_map]; exact hxl, rin, ?_⟩
    rw [hm']
    intro H' F' ow' e' r'
    obtain ⟨w1, w2, w3⟩ := R1.callOut av nd e' r'
    exact hw H' F' _ e' w1
end
end VS

namespace VS
open PySem PySem.Spec PyProof.Rows L2

def wipeL (L : LS) : List Nat → LS
  | [] => L
  | v :: vs => (wipeL L vs).set v none
theorem wipeL_len (L : LS) : ∀ vs : List Nat, (wipeL L vs).length = L.length
  | [] => rfl
  | v :: vs => by
    show ((wipeL L vs).set v none).length = _
    rw [List.length_set, wipeL_len L vs]
theorem wipeL_some {L : LS} {i : Nat} {x : S} : ∀ {vs : List Nat}, (wipeL L vs)[i]? = some (some x) → L[i]? = some (some x) ∧ i ∉ vs
  | [], h => ⟨h, by simp⟩
  | v :: vs, h => by
    rcases set_get (show ((wipeL L vs).set v none)[i]? = some (some x) from h) with ⟨_, h1⟩ | ⟨h1, h2⟩
    · cases h1
    · obtain ⟨h3, h4⟩ := wipeL_some h2
      exact ⟨h3, by simp only [List.mem_cons, not_or]; exact ⟨fun e => h1 e.symm, h4⟩⟩
theorem wipe_out' {σ : L2.St} {i : Nat} : ∀ {vs : List Nat}, i ∉ vs → (wipe σ vs)[i]? = σ[i]?
  | [], _ => rfl
  | v :: vs, h => by
    simp only [List.mem_cons, not_or] at h
    show ((wipe σ vs).set v none)[i]? = _
    rw [List.getElem?_set_ne (fun e => h.1 e.symm), wipe_out' h.2]
theorem wipe_in {σ : L2.St} {i : Nat} : ∀ {vs : List Nat}, i ∈ vs → i < σ.length → (wipe σ vs)[i]? = some none
  | v :: vs, h, hl => by
    show ((wipe σ vs).set v none)[i]? = _
    by_cases e : v = i
    · subst e
      rw [List.getElem?_set_self (by rw [wipe_length]; exact hl)]
    · rw [List.getElem?_set_ne e]
      rcases List.mem_cons.mp h with z | z
      · exact absurd z.symm e
      · exact wipe_in z hl
theorem wipe_same {σ σ' : L2.St} {vs ws : List Nat} (o : OutOf ws (wipe σ vs) σ') (hw : ∀ k ∈ ws, k ∈ vs) : wipe σ' vs = wipe σ vs := by
  have hl : σ'.length = σ.length := by rw [o.1, wipe_length]
  apply List.ext_getElem?
  intro k
  by_cases hk : k ∈ vs
  · by_cases hlt : k < σ.length
    · rw [wipe_in hk (by omega), wipe_in hk hlt]
    · rw [List.getElem?_eq_none (by rw [wipe_length]; omega), List.getElem?_eq_none (by rw [wipe_length]; omega)]
  · rw [wipe_out' hk, o.2 k fun z => hk (hw k z)]
def lcGo (vs : List Nat) (f : D → LS → Option LS) (gt : LS → R Bool) (ge : LS → R D) : List D → List D → LS → R S
  | [], acc, L => .ok (.ol acc) L
  | d :: ds, acc, L => match f d L with
    | none => .stuck
    | some L1 => match gt L1 with
      | .ok b L2 => if b = true then (match ge L2 with
          | .ok y L3 => if acc.length < sizeLine then lcGo vs f gt ge ds (acc ++ [y]) (wipeL L3 vs) else .stuck
          | _ => .stuck) else lcGo vs f gt ge ds acc (wipeL L2 vs)
      | _ => .stuck
theorem lcGo_err {vs : List Nat} {f : D → LS → Option LS} {gt : LS → R Bool} {ge : LS → R D} {k : Nat} {L' : LS} : ∀ (ds acc : List D) (L : LS), lcGo vs f gt ge ds acc L ≠ .err k L'
  | [], acc, L, h => by cases h
  | d :: ds, acc, L, h => by
    unfold lcGo at h
    split at h
    · cases h
    · split at h
      · split at h
        · split at h
          · split at h
            · exact lcGo_err ds _ _ h
            · cases h
          · cases h
        · exact lcGo_err ds _ _ h
      · cases h
def gLc (vs : List Nat) (gi : LS → R (List D)) (f : D → LS → Option LS) (gt : LS → R Bool) (ge : LS → R D) : LS → R S := fun L => (gi L).bind fun ds L1 => lcGo vs f gt ge ds [] (wipeL L1 vs)
structure Bk where
  s : Shared
  H : Hp
  C : Addr
  cl : List (Str × Addr)
  fp : List Addr
abbrev Ct.low (c : Ct) : Ct := { c with W := fun _ _ _ _ => False }
abbrev Ct.blk (c : Ct) (scope : Scope) (b : Bk) : Ct := { c with X := c.X.blk b.s b.H scope (compEnvC scope b.cl b.C c.X.env) b.fp, W := fun _ _ _ _ => False }
def JTs (c : Ct) (n : Bool) (ifs : List Expr) (g : LS → R Bool) : Prop := ∃ t, PTs c.X ifs t ∧ Jdg c n g BB t
section
variable {c : Ct} {n n1 n2 n3 : Bool} {scope : Scope}
def gYes : LS → R Bool := fun L => .ok true L
theorem jts_nil : JTs c true [] gYes := ⟨_, pts_nil, fun G F ow σ H L Rr => Post.val (b := true) (B := BB c.X.K) Rr rfl⟩
theorem jts_one {e : Expr} {g : LS → R Bool} (h : JT c n e g) : JTs c n [e] g := by
  obtain ⟨t, p, q⟩ := h
  exact ⟨_, pts_one p, q⟩
theorem jdg_all {α β : Type} {g : LS → R α} {B : PySem.W.Frag → Hp → Hp → (Addr → Option Path) → α → β → Prop} (T : Bk → L2.St → Hp → (β → Hp → Prop) → Prop) (h : ∀ b, Jdg c.low n g B (T b)) : Jdg c.low n g B (fun σ H Q => ∀ b, T b σ H Q) := by
  intro G F ow σ H L Rr
  have k := fun b => h b G F ow σ H L Rr
  cases hr : g L with
  | stuck => trivial
  | ok a L1 =>
    intro Q q b
    have := k b
    rw [hr] at this
    exact this Q q
  | err e L1 =>
    intro hw Q b
    have := k b
    rw [hr] at this
    exact this hw Q
theorem unif_D {e : Expr} {g : LS → R D} (h : ∀ b, JD (c.blk scope b) n e g) : ∃ t, (∀ b, PE (c.blk scope b).X e t) ∧ Jdg c.low n g BD t := by
  refine ⟨fun σ H Q => ∀ b, Classical.choose (h b) σ H Q, fun b => ⟨fun pins s σ H Q I hw => (Classical.choose_spec (h b)).1.run pins s σ H Q I (hw b)⟩, ?_⟩
  exact jdg_all _ fun b => (Classical.choose_spec (h b)).2
theorem unif_T {e : List Expr} {g : LS → R Bool} (h : ∀ b, JTs (c.blk scope b) n e g) : ∃ t, (∀ b, PTs (c.blk scope b).X e t) ∧ Jdg c.low n g BB t := by
  refine ⟨fun σ H Q => ∀ b, Classical.choose (h b) σ H Q, fun b => ⟨fun pins s σ H Q I hw => (Classical.choose_spec (h b)).1.run pins s σ H Q I (hw b)⟩, ?_⟩
  exact jdg_all _ fun b => (Classical.choose_spec (h b)).2
theorem unif_G {tg : Expr} {ws : List Nat} {f : D → LS → Option LS} (h : ∀ b, JG (c.blk scope b) tg ws f) : ∃ t, (∀ b, PG (c.blk scope b).X tg t) ∧
    ∀ G F ow σ H L d v L', c.Rl G F ow σ H L → Dq c.X.K F v d → f d L = some L' → ∀ Q : L2.St → Hp → Prop, (∀ σ', OutOf ws σ σ' → c.Rl G F ow σ' H L' → Q σ' H) → t v σ H Q := by
  refine ⟨fun v σ H Q => ∀ b, Classical.choose (h b) v σ H Q, fun b => ⟨fun pins s σ H v u Q I r hw => (Classical.choose_spec (h b)).1.run pins s σ H v u Q I r (hw b)⟩, ?_⟩
  exact fun G F ow σ H L d v L' Rr q e Q k b => (Classical.choose_spec (h b)).2 G F ow σ H L d v L' Rr q e Q k
section
variable {K : PySem.W.Frag} {ca : Nat → Addr} {bh : Hp} {pn : List (Option V)} {G F H : Hp} {ow : Addr → Option Path} {σ : L2.St} {L : LS} {vs : List Nat} {l : Addr} {o o' : HO}
theorem Rl.wipe (r : Rl K ca bh pn G F ow σ H L) (hp : ∀ (k : Nat) (v : V), pn[k]? = some (some v) → k ∉ vs) : Rl K ca bh pn G F ow (L2.wipe σ vs) H (wipeL L vs) :=
  ⟨r.exF, r.exG, r.dF, r.dG, by rw [wipeL_len, wipe_length]; exact r.len, fun i s h => by
    obtain ⟨h1, h2⟩ := wipeL_some h
    obtain ⟨v, q1, q2⟩ := r.sl i s h1
    exact ⟨v, (wipe_out' h2).trans q1, q2⟩, fun i v h => (wipe_out' (hp i v h)).trans (r.pin i v h), r.exB, r.dB⟩
theorem Rl.aside (r : Rl K ca bh pn G F ow σ H L) (hl : H l = none) : Rl K ca bh pn (upd G l o) F ow σ (upd H l o) L := by
  have e : Same H (upd H l o) := upd_same_of hl
  have fN : F l = none := r.exF.free hl
  refine ⟨r.exF.trans e, fun a u h => ?_, fun a q h => ?_, fun a u h => ?_, r.len, fun i s h => ?_, r.pin, r.exB.trans e, r.dB⟩
  · by_cases z : a = l
    · subst z
      rw [upd_same] at h ⊢
      exact h
    · rw [upd_ne z] at h ⊢
      exact r.exG a u h
  · obtain ⟨x, y, w⟩ := r.dF a q h
    have ha : a ≠ l := ne_fresh w.1 hl
    exact ⟨x, by rw [upd_ne ha]; exact y, by rw [upd_ne ha]; exact w⟩
  · rw [upd_ne (ne_of_none h fN)]
    exact r.dG a u h
  · obtain ⟨v, q1, q2⟩ := r.sl i s h
    exact ⟨v, q1, q2.go (Same.refl F) fun a w h => ⟨upd_ne (ne_fresh (r.dF a _ h).2.2.1 hl), h⟩⟩
theorem upd_at {a : Addr} {u : HO} (h : upd G l o a = none) : a ≠ l := fun z => by
  subst z
  rw [upd_same] at h
  cases h
theorem Rl.asideSet (r : Rl K ca bh pn (upd G l o) F ow σ H L) (hb : bh l = none) (ho : ¬ kT o := by exact kT_lst) : Rl K ca bh pn (upd G l o') F ow σ (upd H l o') L := by
  have fN : F l = none := by
    cases z : F l with
    | none => rfl
    | some u =>
      rcases r.dG l u z with this | this
      · rw [upd_same] at this
        cases this
      · have h1 := r.exF l u z
        rw [r.exG l o upd_same] at h1
        cases h1
        exact absurd this ho
  refine ⟨fun a u h => ?_, fun a u h => ?_, fun a q h => ?_, fun a u h => ?_, r.len, fun i s h => ?_, r.pin, fun a u h => ?_, r.dB⟩
  · rw [upd_ne (ne_of_none h fN)]
    exact r.exF a u h
  · by_cases z : a = l
    · subst z
      rw [upd_same] at h ⊢
      exact h
    · rw [upd_ne z] at h ⊢
      exact r.exG a u (by rw [upd_ne z]; exact h)
  · obtain ⟨x, y, w⟩ := r.dF a q h
    have ha : a ≠ l := upd_at (u := o) y
    rw [upd_ne ha] at y ⊢
    exact ⟨x, y, by rw [upd_ne ha]; exact w⟩
  · have ha : a ≠ l := ne_of_none h fN
    have := r.dG a u h
    rw [upd_ne ha] at this ⊢
    exact this
  · obtain ⟨v, q1, q2⟩ := r.sl i s h
    refine ⟨v, q1, q2.go (Same.refl F) fun a w h => ⟨upd_ne ?_, h⟩⟩
    exact upd_at (u := o) (r.dF a _ h).2.1
  · rw [upd_ne (ne_of_none h hb)]
    exact r.exB a u h
theorem Rl.asideOut {σ' : L2.St} (r : Rl K ca bh pn (upd G l o) F ow σ H L) (hG : G l = none) (hb : bh l = none) (hlen : σ'.length = σ.length) (hs : ∀ (k : Nat) (s : S), L[k]? = some (some s) → σ'[k]? = σ[k]?)
    (hp : ∀ (k : Nat) (v : V), pn[k]? = some (some v) → σ'[k]? = some (some v)) (ho : ¬ kT o := by exact kT_lst) : Rl K ca bh pn G F (onAt ow l [0]) σ' H L := by
  have hl : H l = some o := r.exG l o upd_same
  have fN : F l = none := by
    cases z : F l with
    | none => rfl
    | some u =>
      rcases r.dG l u z with this | this
      · rw [upd_same] at this
        cases this
      · have h1 := r.exF l u z
        rw [r.exG l o upd_same] at h1
        cases h1
        exact absurd this ho
  refine ⟨r.exF, fun a u h => ?_, fun a q h => ?_, fun a u h => ?_, r.len.trans hlen.symm, fun i s h => ?_, hp, r.exB, fun a q h => ?_⟩
  · have ha : a ≠ l := ne_of_none h hG
    exact r.exG a u (by rw [upd_ne ha]; exact h)
  · by_cases z : a = l
    · subst z
      exact ⟨fN, hG, by rw [hl]; exact .of ho⟩
    · rw [onAt_ne z] at h
      obtain ⟨x, y, w⟩ := r.dF a q h
      rw [upd_ne z] at y
      exact ⟨x, y, w⟩
  · have ha : a ≠ l := ne_of_none h fN
    have := r.dG a u h
    rw [upd_ne ha] at this
    exact this
  · obtain ⟨v, q1, q2⟩ := r.sl i s h
    refine ⟨v, (hs i s h).trans q1, q2.go (Same.refl F) fun a w h => ⟨rfl, ?_⟩⟩
    have ha : a ≠ l := upd_at (u := o) (r.dF a _ h).2.1
    rw [onAt_ne ha]
    exact h
  · by_cases z : a = l
    · subst z
      exact hb
    · rw [onAt_ne z] at h
      exact r.dB a q h
end
theorem jdg_lc {gi : LS → R (List D)} {f : D → LS → Option LS} {gt : LS → R Bool} {ge : LS → R D} {wi : TI} {g : TG} {tt : TT} {te : TE} {vs ws : List Nat} (hi : Jdg c n1 gi BI wi)
    (hg : ∀ G F ow σ H L d v L', c.Rl G F ow σ H L → Dq c.X.K F v d → f d L = some L' → ∀ Q : L2.St → Hp → Prop, (∀ σ', OutOf ws σ σ' → c.Rl G F ow σ' H L' → Q σ' H) → g v σ H Q) (hws : ∀ k ∈ ws, k ∈ vs) (hp : ∀ k ∈ vs, c.free k)
    (ht : Jdg c.low n2 gt BB tt) (he : Jdg c.low n3 ge BD te) : Jdg c (n1 && (n2 && n3)) (gLc vs gi f gt ge) (BE c.ca) (tLc wi g tt te vs) := by
  have hpn : ∀ (k : Nat) (v : V), (pinOf c.pb c.v0)[k]? = some (some v) → k ∉ vs := fun k v h hk => hp k hk (pinOf_mk h).1
  intro G F0 ow σ H0 L0 Rr
  refine (hi G F0 ow σ H0 L0 Rr).bind (t2 := fun J H1 (Q : VK) => ∀ D, H1 D = none → ∃ W : Nat → Nat → Hp → Prop, (∃ m, W 0 m (upd H1 D (.lst []))) ∧ ∀ i m H, W i m H →
    (J.stop i H ∧ Q (V.ref D) H) ∨ (J.go i H ∧ ∃ Nx : Hp → Prop, (∀ H', Nx H' → ∃ m', m' < m ∧ W (i + 1) m' H') ∧ ∀ x H', J.yld i H x H' → g x (L2.wipe σ vs) H' fun σ2 H2 => L2.wipe σ2 vs = L2.wipe σ vs ∧ tt σ2 H2 fun b H3 =>
      if b = true then te σ2 H3 fun y H4 => ∃ acc, H4 D = some (.lst acc) ∧ acc.length < sizeLine ∧ Nx (upd H4 D (.lst (acc ++ [y]))) else Nx H3)) fun ds L1 J H1 F1 ow1 _ e1 s1 R1 b1 => ?_
  cases hr : lcGo vs f gt ge ds [] (wipeL L1 vs) with
  | stuck => trivial
  | err k L2 => exact absurd hr (lcGo_err ds [] _)
  | ok s Lf =>
    intro Q q D hD
    have gD : G D = none := R1.exG.free hD
    have hB : c.B D = none := R1.exB.free hD
    refine ⟨fun i m H => m = ds.length - i ∧ i ≤ ds.length ∧ ∃ F' ow' L' acc da, Same F1 F' ∧ ((n2 && n3) = true → Same H1 H) ∧ c.Rl (upd G D (.lst acc)) F' ow' (L2.wipe σ vs) H L' ∧ DqA c.X.K F' acc da ∧ lcGo vs f gt ge (ds.drop i) da L' = .ok s Lf ∧ ∀ (k : Nat) (s' : S), L'[k]? = some (some s') → k ∉ vs,
      ⟨ds.length, rfl, Nat.zero_le _, F1, ow1, wipeL L1 vs, [], [], Same.refl F1, fun _ => upd_same_of hD, (R1.wipe hpn).aside hD, .nil, hr, fun k s' h => (wipeL_some h).2⟩, ?_⟩
    rintro i m H ⟨rfl, hi', F2, ow2, LB, acc, da, e2, s2, R2, hacc, hgo, hno⟩
    obtain ⟨k1, k2⟩ := (ItOk.up e2 b1) i H R2.exF
    by_cases hlt : i < ds.length
    · obtain ⟨k3, k4⟩ := k2 _ (List.getElem?_eq_getElem hlt)
      rw [List.drop_eq_getElem_cons hlt] at hgo
      refine .inr ⟨k3, fun H' => ∃ F' ow' L' acc da, Same F1 F' ∧ ((n2 && n3) = true → Same H1 H') ∧ c.Rl (upd G D (.lst acc)) F' ow' (L2.wipe σ vs) H' L' ∧ DqA c.X.K F' acc da ∧ lcGo vs f gt ge (ds.drop (i + 1)) da L' = .ok s Lf ∧ ∀ (k : Nat) (s' : S), L'[k]? = some (some s') → k ∉ vs,
        fun H' w => ⟨ds.length - (i + 1), by omega, rfl, hlt, w⟩, fun x H' y => ?_⟩
      have step : ∀ {F3 H3 : Hp}, Same F2 F3 → Same H H3 → c.Rl (upd G D (.lst acc)) F3 ow2 (L2.wipe σ vs) H3 LB → Dq c.X.K F3 x ds[i] → g x (L2.wipe σ vs) H3 fun σ2 H2 => L2.wipe σ2 vs = L2.wipe σ vs ∧ tt σ2 H2 fun b H3 =>
          if b = true then te σ2 H3 fun y H4 => ∃ acc, H4 D = some (.lst acc) ∧ acc.length < sizeLine ∧ ∃ F' ow' L' acc' da, Same F1 F' ∧ ((n2 && n3) = true → Same H1 (upd H4 D (.lst (acc ++ [y])))) ∧ c.Rl (upd G D (.lst acc')) F' ow' (L2.wipe σ vs) (upd H4 D (.lst (acc ++ [y]))) L' ∧ DqA c.X.K F' acc' da ∧ lcGo vs f gt ge (ds.drop (i + 1)) da L' = .ok s Lf ∧ ∀ (k : Nat) (s' : S), L'[k]? = some (some s') → k ∉ vs
          else ∃ F' ow' L' acc da, Same F1 F' ∧ ((n2 && n3) = true → Same H1 H3) ∧ c.Rl (upd G D (.lst acc)) F' ow' (L2.wipe σ vs) H3 L' ∧ DqA c.X.K F' acc da ∧ lcGo vs f gt ge (ds.drop (i + 1)) da L' = .ok s Lf ∧ ∀ (k : Nat) (s' : S), L'[k]? = some (some s') → k ∉ vs := fun {F3 H3} e3 s3 R3 hx => by
        unfold lcGo at hgo
        cases hf : f ds[i] LB with
        | none => rw [hf] at hgo; cases hgo
        | some L3 =>
          rw [hf] at hgo
          refine hg _ F3 ow2 _ H3 LB _ x L3 R3 hx hf _ fun σ2 o2 R4 => ⟨wipe_same o2 hws, ?_⟩
          have wp := wipe_same o2 hws
          have hgo : (match gt L3 with
            | .ok b L2 => if b = true then (match ge L2 with
                | .ok y L3 => if da.length < sizeLine then lcGo vs f gt ge (ds.drop (i + 1)) (da ++ [y]) (wipeL L3 vs) else .stuck
                | _ => .stuck) else lcGo vs f gt ge (ds.drop (i + 1)) da (wipeL L2 vs)
            | _ => .stuck) = R.ok s Lf := hgo
          have pt := ht _ F3 ow2 σ2 H3 L3 R4
          cases hgt : gt L3 with
          | stuck => rw [hgt] at hgo; cases hgo
          | err k L5 => rw [hgt] at hgo; cases hgo
          | ok b L5 =>
            rw [hgt] at hgo pt
            refine pt _ fun b' H5 F5 ow5 e5 s5 R5 q5 => ?_
            have q5 : b' = b := q5
            subst q5
            cases b' with
            | false =>
              refine ⟨F5, ow5, wipeL L5 vs, acc, da, (e2.trans e3).trans e5, fun h => ((s2 h).trans s3).trans (s5 (and_of h).1), ?_, (hacc.up e3).up e5, hgo, fun k s' h => (wipeL_some h).2⟩
              have := R5.wipe (vs := vs) hpn
              rw [wp] at this
              exact this
            | true =>
              have hgo : (match ge L5 with
                | .ok y L3 => if da.length < sizeLine then lcGo vs f gt ge (ds.drop (i + 1)) (da ++ [y]) (wipeL L3 vs) else .stuck
                | _ => .stuck) = R.ok s Lf := hgo
              have pe := he _ F5 ow5 σ2 H5 L5 R5
              cases hge : ge L5 with
              | stuck => rw [hge] at hgo; cases hgo
              | err k L6 => rw [hge] at hgo; cases hgo
              | ok y L6 =>
                rw [hge] at hgo pe
                refine pe _ fun v H6 F6 ow6 e6 s6 R6 q6 => ?_
                have hgo : (if da.length < sizeLine then lcGo vs f gt ge (ds.drop (i + 1)) (da ++ [y]) (wipeL L6 vs) else .stuck) = R.ok s Lf := hgo
                by_cases hz : da.length < sizeLine
                · rw [if_pos hz] at hgo
                  have hH : H6 D = some (.lst acc) := R6.exG D _ upd_same
                  have hacc6 := (((hacc.up e3).up e5).up e6)
                  refine ⟨acc, hH, by rw [hacc.len]; exact hz, F6, ow6, wipeL L6 vs, acc ++ [v], da ++ [y], ((e2.trans e3).trans e5).trans e6, fun h => ?_, ?_, hacc6.append (.one q6), hgo, fun k s' h => (wipeL_some h).2⟩
                  · have := (((s2 h).trans s3).trans (s5 (and_of h).1)).trans (s6 (and_of h).2)
                    intro a u ha
                    rw [upd_ne (ne_of_none ha hD)]
                    exact this a u ha
                  · have := (R6.wipe (vs := vs) hpn).asideSet (o' := .lst (acc ++ [v])) hB
                    rw [wp] at this
                    exact this
                · rw [if_neg hz] at hgo
                  cases hgo
      rcases k4 x H' y with ⟨rfl, hx⟩ | ⟨p, ts, es, he', rfl, hp', rfl, hq⟩
      · exact step (Same.refl F2) (Same.refl _) R2 hx
      · obtain ⟨w1, w2, w3⟩ := R2.newF (o := .tup ts) hp'
        rw [he'] at step
        exact step w1 w2 w3 (.tup upd_same (hq.up w1))
    · have hl : ds.length ≤ i := Nat.le_of_not_lt hlt
      rw [List.drop_eq_nil_of_le hl] at hgo
      cases hgo
      refine .inl ⟨k1 hl, q _ H F2 _ e2 s2 (R2.asideOut (σ' := σ) gD hB (wipe_length σ vs).symm (fun k s' h => (wipe_out' (hno k s' h)).symm) fun k v h => ?_) (.ol (R2.exG D _ upd_same) (onAt_same ..) hacc)⟩
      rw [← wipe_out' (σ := σ) (hpn k v h)]
      exact R2.pin k v h
variable {elt tg iter : Expr} {ifs : List Expr} {own : List (Str × Nat)} {pos spos : Pos} {gi : LS → R (List D)} {f : D → LS → Option LS} {gt : LS → R Bool} {ge : LS → R D} {ws : List Nat}
theorem je_lc (hc : c.X.calm = true) (hN : c.X.N.Nodup) (hi : JI c n1 tg iter gi) (ok : BlkOk c.X.N c.X.env.scope scope own) (hg : ∀ b, JG (c.blk scope b) tg ws f) (hws : ∀ k ∈ ws, k ∈ own.map (·.2)) (hp : ∀ k ∈ own.map (·.2), c.free k)
    (ht : ∀ b, JTs (c.blk scope b) n2 ifs gt) (he : ∀ b, JD (c.blk scope b) n3 elt ge) (hs : ∀ x, foldedSetIterable iter c.X.env x = pure x := by intro _; rfl) : JE c (n1 && (n2 && n3)) (.ListComp elt [⟨tg, iter, ifs, 0⟩] scope pos) (gLc (own.map (·.2)) gi f gt ge) := by
  obtain ⟨wi, p1, q1⟩ := hi
  obtain ⟨tg', p2, q2⟩ := unif_G hg
  obtain ⟨tt, p3, q3⟩ := unif_T ht
  obtain ⟨te, p4, q4⟩ := unif_D he
  exact ⟨_, pe_lc hc hN p1 ok (fun s H C cl fp => p2 ⟨s, H, C, cl, fp⟩) (fun s H C cl fp => p3 ⟨s, H, C, cl, fp⟩) (fun s H C cl fp => p4 ⟨s, H, C, cl, fp⟩) hs, jdg_lc q1 q2 hws hp q3 q4⟩
end

section
variable {c : Ct} {pos : Pos}
theorem js_never {st : Stmt} : JS c st (fun _ => .stuck) := ⟨_, ps_never, fun G F ow σ H L Rr E f => f.elim⟩
end
end VS

namespace VS
open PySem PySem.Spec PyProof.Rows L2

theorem BV.dp {K : PySem.W.Frag} {F H : Hp} {ow : Addr → Option Path} {d : D} {v : V} (s : Same F H) (h : BV K F H ow d v) : Dp K H v d := by
  rcases h with h | ⟨l, vs, ds, rfl, rfl, h1, h2⟩
  · exact (h.up s).dp
  · exact .lst h1 (DqA.dp ds vs (h2.up s))
def Leaf2V (K : PySem.W.Frag) (r : R2) (f : D → D → Option D) : Prop :=
  ∀ (F H : Hp) (ow : Addr → Option Path) (x y : V) (d e z : D), Same F H → BV K F H ow d x → BV K F H ow e y → f d e = some z → ∃ v, Dq K F v z ∧ ∀ Q : VK, Q v H → r x y H Q
theorem Leaf2.view {K : PySem.W.Frag} {r : R2} {f : D → D → Option D} (h : Leaf2 K r f) (h1 : ∀ ds e, f (.list ds) e = none) (h2 : ∀ d es, f d (.list es) = none) : Leaf2V K r f := by
  intro F H ow x y d e z s hx hy hf
  rcases hx with hx | ⟨l, vs, ds, rfl, rfl, _, _⟩
  · rcases hy with hy | ⟨l, vs, ds, rfl, rfl, _, _⟩
    · exact h F H x y d e z s hx hy hf
    · rw [h2] at hf
      cases hf
  · rw [h1] at hf
    cases hf
theorem scal_flat {d e : D} (h : scalD d e = true) : (∀ ds, d ≠ .list ds) ∧ ∀ ds, e ≠ .list ds := by
  refine ⟨fun ds z => ?_, fun ds z => ?_⟩
  · subst z
    cases e <;> cases h
  · subst z
    cases d <;> cases h
theorem leafV_eq {K : PySem.W.Frag} : Leaf2V K (fun x y H Q => rEq x y H Q ∨ rEqD K x y H Q) dEq := by
  intro F H ow x y d e z s hx hy hf
  unfold dEq at hf
  by_cases h : eqOk d e
  · rw [if_pos h] at hf
    cases hf
    rcases h with h | h
    · obtain ⟨n1, n2⟩ := scal_flat h
      rcases hx with hx | ⟨l, vs, ds, _, e1, _⟩
      · rcases hy with hy | ⟨l, vs, ds, _, e1, _⟩
        · obtain ⟨h1, h2⟩ := scal_of hx hy h
          rw [h2]
          exact ⟨_, .bl _, fun Q q => .inl ⟨h1, q⟩⟩
        · exact absurd e1 (n2 ds)
      · exact absurd e1 (n1 ds)
    · exact ⟨_, .bl _, fun Q q => .inr ⟨d, e, hx.dp s, hy.dp s, h.1, h.2, q⟩⟩
  · rw [if_neg h] at hf
    cases hf
theorem leafV_ne {K : PySem.W.Frag} : Leaf2V K (fun x y H Q => rNe x y H Q ∨ rNeD K x y H Q) dNe := by
  intro F H ow x y d e z s hx hy hf
  unfold dNe at hf
  by_cases h : eqOk d e
  · rw [if_pos h] at hf
    cases hf
    rcases h with h | h
    · obtain ⟨n1, n2⟩ := scal_flat h
      rcases hx with hx | ⟨l, vs, ds, _, e1, _⟩
      · rcases hy with hy | ⟨l, vs, ds, _, e1, _⟩
        · obtain ⟨h1, h2⟩ := scal_of hx hy h
          rw [h2]
          exact ⟨_, .bl _, fun Q q => .inl ⟨h1, q⟩⟩
        · exact absurd e1 (n2 ds)
      · exact absurd e1 (n1 ds)
    · exact ⟨_, .bl _, fun Q q => .inr ⟨d, e, hx.dp s, hy.dp s, h.1, h.2, q⟩⟩
  · rw [if_neg h] at hf
    cases hf
theorem in_coreV {K : PySem.W.Frag} {F H : Hp} {ow : Addr → Option Path} {x y : V} {d e : D} {z : Bool} (s : Same F H) (hx : BV K F H ow d x) (hy : BV K F H ow e y) (hf : dInB d e = some z) (neg : Bool) (Q : VK) (q : Q (.bl (if neg then !z else z)) H) :
    (∃ (c : Nat) (w : Str), x = .str ⟨#[c]⟩ ∧ y = .str w ∧ Q (.bl (if neg then !decide (c ∈ w.cps.toList) else decide (c ∈ w.cps.toList))) H) ∨
      (∃ d ds, Dp K H x d ∧ Dp K H y (.list ds) ∧ SeqAt.shaped d = true ∧ SeqAt.shaped (.list ds) = true ∧ Q (.bl (if neg then !ds.any (fun z => PyData.eqv z d) else ds.any fun z => PyData.eqv z d)) H) ∨ rIn K neg x y H Q := by
  cases e with
  | list ds =>
    have hf : (if inOk d ds then some (ds.any fun z => z.eqv d) else none) = some z := hf
    by_cases h : inOk d ds
    · rw [if_pos h] at hf
      cases hf
      rcases h with h | h
      · rcases hx with hx | ⟨l, vs, ds', _, rfl, _⟩
        · have hs : ∃ l vs, y = .ref l ∧ SqL K H l vs ∧ DqA K F vs ds := by
            rcases hy with hy | ⟨l, vs, ds', rfl, e1, h3, h4⟩
            · cases hy with
              | lst a1 a2 => exact ⟨_, _, rfl, .of (s _ _ a1), a2⟩
            · cases e1
              exact ⟨l, vs, rfl, h3, h4⟩
          obtain ⟨l, vs, rfl, h3, h4⟩ := hs
          rw [← inV_any hx h.1 h4 h.2] at q
          exact .inr (.inr ⟨l, vs, rfl, .inl h3, flat_of hx h.1, flats_of h4 h.2, q⟩)
        · cases h.1
      · exact .inr (.inl ⟨d, ds, hx.dp s, hy.dp s, h.1, h.2, q⟩)
    · rw [if_neg h] at hf
      cases hf
  | tuple ds =>
    rcases hy with hy | ⟨l, vs, ds, rfl, e, _, _⟩
    · rcases hx with hx | ⟨l, vs, ds, rfl, rfl, _, _⟩
      · exact in_core s hx hy hf neg Q q
      · cases hf
    · cases e
  | str w =>
    rcases hy with hy | ⟨l, vs, ds, rfl, e, _, _⟩
    · rcases hx with hx | ⟨l, vs, ds, rfl, rfl, _, _⟩
      · exact in_core s hx hy hf neg Q q
      · cases hf
    · cases e
  | _ => cases hf
theorem leafV_in {K : PySem.W.Frag} : Leaf2V K (rInAny K) dIn := by
  intro F H ow x y d e z s hx hy hf
  obtain ⟨b, hb, rfl⟩ := Option.map_eq_some_iff.mp hf
  exact ⟨_, .bl b, fun Q q => in_coreV s hx hy hb false Q q⟩
theorem leafV_notIn {K : PySem.W.Frag} : Leaf2V K (rNotInAny K) dNotIn := by
  intro F H ow x y d e z s hx hy hf
  obtain ⟨b, hb, rfl⟩ := Option.map_eq_some_iff.mp hf
  exact ⟨_, .bl (!b), fun Q q => in_coreV s hx hy hb true Q q⟩
theorem leafV_is {K : PySem.W.Frag} : Leaf2V K (fun x y H Q => (y = .non ∧ Q (.bl (decide (x = .non))) H) ∨ rIsB2 x y H Q) dIs := by
  intro F H ow x y d e z s hx hy hf
  rcases hx with hx | ⟨l, vs, ds, rfl, rfl, _, _⟩
  · rcases hy with hy | ⟨l, vs, ds, rfl, rfl, _, _⟩
    · exact leaf_is F H x y d e z s hx hy hf
    · cases d <;> cases hf
  · rcases hy with hy | ⟨l, vs, ds, rfl, rfl, _, _⟩
    · cases hy <;> cases hf
      exact ⟨_, .bl _, fun Q q => .inl ⟨rfl, q⟩⟩
    · cases hf
theorem leafV_isN {K : PySem.W.Frag} : Leaf2V K (fun x y H Q => (y = .non ∧ Q (.bl (!decide (x = .non))) H) ∨ rNotB2 x y H Q) dIsN := by
  intro F H ow x y d e z s hx hy hf
  rcases hx with hx | ⟨l, vs, ds, rfl, rfl, _, _⟩
  · rcases hy with hy | ⟨l, vs, ds, rfl, rfl, _, _⟩
    · exact leaf_isN F H x y d e z s hx hy hf
    · cases d <;> cases hf
  · rcases hy with hy | ⟨l, vs, ds, rfl, rfl, _, _⟩
    · cases hy <;> cases hf
      exact ⟨_, .bl _, fun Q q => .inl ⟨rfl, q⟩⟩
    · cases hf
section
variable {c : Ct} {n n1 n2 n3 : Bool} {a b : Expr} {ga gb : LS → R D} {pos : Pos} {k : Nat}
def CmpV (c : Ct) (op : CmpOp) (f : D → D → Option D) : Prop := ∃ r : R2, OpR c.X (compareOp op) r ∧ Leaf2V c.X.K r f
theorem dCmp_l {f : Int → Int → Bool} {g : Str → Str → Bool} (ds : List D) (e : D) : dCmp f g (.list ds) e = none := by cases e <;> rfl
theorem dCmp_r {f : Int → Int → Bool} {g : Str → Str → Bool} (d : D) (es : List D) : dCmp f g d (.list es) = none := by cases d <;> rfl
theorem cv_lt : CmpV c .Lt dLt := ⟨_, op_lt.or op_lt_str, leaf_cmp.view dCmp_l dCmp_r⟩
theorem cv_le : CmpV c .LtE dLe := ⟨_, op_le.or op_le_str, leaf_cmp.view dCmp_l dCmp_r⟩
theorem cv_gt : CmpV c .Gt dGt := ⟨_, op_gt.or op_gt_str, leaf_cmp.view dCmp_l dCmp_r⟩
theorem cv_ge : CmpV c .GtE dGe := ⟨_, op_ge.or op_ge_str, leaf_cmp.view dCmp_l dCmp_r⟩
theorem cv_eq (hr : Room k c.X.A) : CmpV c .Eq dEq := ⟨_, op_eq.or (op_eqD hr.units), leafV_eq⟩
theorem cv_ne (hr : Room k c.X.A) : CmpV c .NotEq dNe := ⟨_, op_ne.or (op_neD hr.units), leafV_ne⟩
theorem cv_is : CmpV c .Is dIs := ⟨_, op_isN.or op_isBl2, leafV_is⟩
theorem cv_isN : CmpV c .IsNot dIsN := ⟨_, op_notN.or op_notBl2, leafV_isN⟩
theorem cv_in (hr : Room k c.X.A) : CmpV c .In dIn := ⟨_, op_in_sign.or ((op_inD (room65 hr)).or op_in_seq), leafV_in⟩
theorem cv_notIn (hr : Room k c.X.A) : CmpV c .NotIn dNotIn := ⟨_, op_notIn_sign.or ((op_notInD (room65 hr)).or op_notIn_seq), leafV_notIn⟩
theorem jdg_cmpN {r : R2} {f : D → D → Option D} (lf : Leaf2V c.X.K r f) {ta tb : TE} (ha : Jdg c n1 ga BV ta) (hb : Jdg c true gb BV tb) : Jdg c n1 (gOp f ga gb) BD (tOp r ta tb) := by
  intro G F ow σ H L Rr
  refine (ha G F ow σ H L Rr).bind1 (t2 := fun v H1 Q => tb σ H1 fun y H2 => r v y H2 Q) fun d L1 v H1 F1 ow1 _ _ _ R1 b1 => ?_
  refine (hb G F1 ow1 σ H1 L1 R1).bind1 (t2 := fun y H2 Q => r v y H2 Q) fun e L2 u H2 F2 ow2 _ e2 s2 R2 b2 => ?_
  cases hf : f d e with
  | none => trivial
  | some z =>
    obtain ⟨w, hw, q⟩ := lf F2 H2 ow2 v u d e z R2.exF (BV.up (ow' := ow2) b1 e2 (s2 rfl)) b2 hf
    exact (Post.val R2 hw).imp q
variable {op : CmpOp} {f : D → D → Option D}
theorem jd_cmpN (h : CmpV c op f) (ha : JV c n1 a ga) (hb : JV c true b gb) (hm : behindInMarks op b = false) : JD c n1 (.Compare a [op] [b] pos) (gOp f ga gb) := by
  obtain ⟨ta, p1, q1⟩ := ha
  obtain ⟨tb, p2, q2⟩ := hb
  obtain ⟨r, h1, h2⟩ := h
  exact ⟨_, pe_cmpR h1 p1 p2 hm, jdg_cmpN h2 q1 q2⟩
theorem jt_cmpN (h : CmpV c op f) (ha : JV c n1 a ga) (hb : JV c true b gb) (hm : behindInMarks op b = false) : JT c n1 (.Compare a [op] [b] pos) (gB (gOp f ga gb)) := by
  obtain ⟨ta, p1, q1⟩ := ha
  obtain ⟨tb, p2, q2⟩ := hb
  obtain ⟨r, h1, h2⟩ := h
  exact ⟨_, pt_cmpR h1 p1 p2 hm, jdg_B (jdg_cmpN h2 q1 q2)⟩
theorem PI_or {X : Cx} {tg e : Expr} {w1 w2 : TI} (h1 : PI X tg e w1) (h2 : PI X tg e w2) : PI X tg e (fun σ H R => w1 σ H R ∨ w2 σ H R) := ⟨fun pins s σ H R I h => by
  rcases h with h | h
  · exact h1.run pins s σ H R I h
  · exact h2.run pins s σ H R I h⟩
def signs (x : Str) : List D := x.cps.toList.map fun k => PyData.str ⟨#[k]⟩
def asItems : D → LS → R (List D)
  | .list ds, L => .ok ds L
  | .tuple ds, L => .ok ds L
  | .str x, L => .ok (signs x) L
  | _, _ => .stuck
variable {tg : Expr}
theorem its_ok {K : PySem.W.Frag} {F : Hp} {x : Str} : ItOk K F (signs x) (Its x) := fun i H s => by
  unfold signs
  rw [List.length_map, Array.length_toList]
  refine ⟨fun h => h, fun d hd => ?_⟩
  have hi : i < x.cps.size := by
    have := (List.getElem?_eq_some_iff.mp hd).1
    rw [List.length_map, Array.length_toList] at this
    exact this
  refine ⟨hi, fun v H' ⟨e1, k, hk, e2⟩ => .inl ⟨e1, ?_⟩⟩
  subst e2
  rw [List.getElem?_map, Array.getElem?_toList, hk] at hd
  cases hd
  exact .str _
theorem jdg_itl {t : TE} (q : Jdg c n ga BD t) : Jdg c n (fun L => (ga L).bind asL) BI (iList c.X.K t) := fun G F ow σ H L Rr =>
  (q G F ow σ H L Rr).bind1 (t2 := fun v H1 Q => ∃ a, v = V.ref a ∧ (∃ xs, SqL c.X.K H1 a xs) ∧ Q (Itl c.X.K a) H1) fun d L1 v H1 F1 ow1 _ _ _ R1 b1 => by
    cases b1 with
    | @lst l vs ds h1 h2 =>
      refine (Post.val (a := ds) (b := Itl c.X.K l) (B := BI c.X.K) R1 fun i H s => ⟨fun hi => ⟨vs, .of (s _ _ h1), by rw [h2.len]; exact hi⟩, fun d hd => ?_⟩).imp fun Q q => ⟨l, rfl, ⟨vs, .of (R1.exF _ _ h1)⟩, q⟩
      obtain ⟨v, h3, h4⟩ := h2.get hd
      exact ⟨⟨vs, v, .of (s _ _ h1), h3⟩, fun x H' ⟨e1, e2⟩ => .inl ⟨e1, by
        have := e2 vs (.of (s _ _ h1))
        rw [h3] at this
        cases this
        exact h4⟩⟩
    | _ => trivial
theorem jdg_itt {t : TE} (q : Jdg c n ga BD t) : Jdg c n (fun L => (ga L).bind asT) BI (iTup c.X.K t) := fun G F ow σ H L Rr =>
  (q G F ow σ H L Rr).bind1 (t2 := fun v H1 Q => ∃ a, v = V.ref a ∧ (∃ xs, SqT c.X.K H1 a xs) ∧ Q (Itt c.X.K a) H1) fun d L1 v H1 F1 ow1 _ _ _ R1 b1 => by
    cases b1 with
    | @tup l vs ds h1 h2 =>
      refine (Post.val (a := ds) (b := Itt c.X.K l) (B := BI c.X.K) R1 fun i H s => ⟨fun hi => ⟨vs, sqt_same s h1, by rw [h2.len]; exact hi⟩, fun d hd => ?_⟩).imp fun Q q => ⟨l, rfl, ⟨vs, sqt_same R1.exF h1⟩, q⟩
      obtain ⟨v, h3, h4⟩ := h2.get hd
      exact ⟨⟨vs, v, sqt_same s h1, h3⟩, fun x H' ⟨e1, e2⟩ => .inl ⟨e1, by
        have := e2 vs (sqt_same s h1)
        rw [h3] at this
        cases this
        exact h4⟩⟩
    | _ => trivial
def asX : D → LS → R (List D)
  | .str x, L => .ok (signs x) L
  | _, _ => .stuck
theorem jdg_its {t : TE} (q : Jdg c n ga BD t) : Jdg c n (fun L => (ga L).bind asX) BI (iStr t) := fun G F ow σ H L Rr =>
  (q G F ow σ H L Rr).bind1 (t2 := fun v H1 Q => ∃ x, v = V.str x ∧ Q (Its x) H1) fun d L1 v H1 F1 ow1 _ _ _ R1 b1 => by
    cases b1 with
    | str x => exact (Post.val (a := signs x) (b := Its x) (B := BI c.X.K) R1 its_ok).imp fun Q q => ⟨x, rfl, q⟩
    | _ => trivial
theorem ji_any (h : JD c n a ga) : JI c n tg a (fun L => (ga L).bind asItems) := by
  obtain ⟨t, p, q⟩ := h
  refine ⟨fun σ H R => iList c.X.K t σ H R ∨ iTup c.X.K t σ H R ∨ iStr t σ H R, PI_or (pi_list p) (PI_or (pi_tup p) (pi_str p)), fun G F ow σ H L Rr => ?_⟩
  have h1 := jdg_itl q G F ow σ H L Rr
  have h2 := jdg_itt q G F ow σ H L Rr
  have h3 := jdg_its q G F ow σ H L Rr
  show Post c G n F H σ ((ga L).bind asItems) _ _
  dsimp only at h1 h2 h3
  cases hr : ga L with
  | stuck => trivial
  | err e L1 =>
    rw [hr] at h1
    exact Post.imp h1 fun Q z => .inl z
  | ok d L1 =>
    rw [hr] at h1 h2 h3
    cases d with
    | list ds => exact Post.imp h1 fun Q z => .inl z
    | tuple ds => exact Post.imp h2 fun Q z => .inr (.inl z)
    | str x => exact Post.imp h3 fun Q z => .inr (.inr z)
    | _ => trivial
end
end VS

namespace VS
open PySem PySem.Spec PyProof.Rows L2

structure Dx (P : Program) (w : World) (K : PySem.W.Frag) (mg : Str → Option Value) (base : Heap) (ca : Nat → Addr) (x : Str) (k : Nat) (ps : List Str) (md : List Bool) (m : LS → R S) : Prop where
  ex : ∃ f fd, FnOk P w K mg base (L2.CX P w) k f fd ps (VSp K ca md m) ∧ mg x = some (.ref f) ∧ PySem.W.keepIn K (.ref f) = true ∧ Binds K fd ps []
theorem dx_of {P : Program} {w : World} {K : PySem.W.Frag} {mg : Str → Option Value} {base : Heap} {ca : Nat → Addr} {x : Str} {k : Nat} {ps : List Str} {md : List Bool} {m : LS → R S} {f : Addr} {fd : FuncData}
    (h : FnOk P w K mg base (L2.CX P w) k f fd ps (VSp K ca md m)) (hg : mg x = some (.ref f)) (hk : PySem.W.keepIn K (.ref f) = true) (hb : Binds K fd ps []) : Dx P w K mg base ca x k ps md m := ⟨f, fd, h, hg, hk, hb⟩
section
variable {c : Ct} {n : Bool} {pos : Pos} {es : List Expr} {as : List Ar}
theorem je_dx {x : Str} {k j : Nat} {ps : List Str} {md : List Bool} {m : LS → R S} {p : Pos} {e : Expr} (D : Dx c.X.prog c.X.w c.X.K c.X.mg c.X.base c.ca x k ps md m) (hr : Room j c.X.A) (hk : k ≤ j) (tk : Takes c.X c.W) (hg : Gl c.X x) (ha : JAr c n (e :: es) as) (hl : as.length = md.length := by rfl)
    (hdb : (x == ("__debug__" : Str)) = false := by decide) (he : starEach (e :: es) c.X.env = (false, eval e c.X.env) :: starEach es c.X.env := by rfl) (hpl : (backTo pos (starEach es c.X.env)).any (·.1) = false := by rfl) :
    JE c (n && allD as) (.Call (.Name x p) (e :: es) [] pos) (gCall m as) := by
  obtain ⟨f, fd, h1, h2, h3, h4⟩ := D.ex
  exact je_call h1 (hr.mono hk) tk hg h2 h3 h4 ha hl hdb he hpl
theorem jd_gs {x z : Str} (hg : Gl c.X x) (hm : ∃ t, c.X.mg x = some (.str z t)) (hd : (x == ("__debug__" : Str)) = false := by decide) : JD c true (.Name x pos) (gC (.str z)) := by
  obtain ⟨t, hm⟩ := hm
  exact jd_c (pe_glob (v := .str z) hg hm ⟨t, rfl⟩ hd) fun _ _ => .str _
theorem jd_gi {x : Str} {z : Int} (hg : Gl c.X x) (hm : ∃ t, c.X.mg x = some (.int z t)) (hd : (x == ("__debug__" : Str)) = false := by decide) : JD c true (.Name x pos) (gC (.int z)) := by
  obtain ⟨t, hm⟩ := hm
  exact jd_c (pe_glob (v := .int z) hg hm ⟨t, rfl⟩ hd) fun _ _ => .int _
end
theorem law_sp {K : PySem.W.Frag} {ca : Nat → Addr} {m : LS → R S} {H : Hp} {a : Addr} {ns : List Int} (hS : SqL K H a (ns.map V.int)) {L : LS} (h : m [some (.scr ns)] = .ok (.d (.bool true)) L) :
    VSp K ca [true] m [.ref a] H (fun v _ => v = .bl true) (fun _ _ _ => False) := by
  refine ⟨fun _ => none, fun _ => none, H, fun _ => none, [some (.scr ns)], rfl, ⟨Same.refl H, (fun _ _ h => nomatch h), (fun _ _ h => nomatch h), (fun _ _ _ => .inl rfl), rfl, fun i s hi => ?_, (fun i v hi => nomatch hi), (fun _ _ h => nomatch h), (fun _ _ h => nomatch h)⟩, ?_⟩
  · cases i with
    | zero =>
      cases hi
      exact ⟨.ref a, rfl, RT.of (.scr hS)⟩
    | succ i => cases hi
  · rw [h]
    intro v H' F' ow' _ _ rs
    cases rs with
    | d q => cases q; rfl
theorem cx_false {P : Program} {w : World} (H : Hp) (s : Shared) (e : Value) (s' : Shared) : L2.CX P w [] H s (fun _ _ _ => False) e s' → False := fun h => by
  obtain ⟨_, _, _, _, _, _, _, _, _, _, _, _, z⟩ := h
  exact z
end VS

namespace VS
open PySem PySem.Spec PyProof.Rows L2
section
variable {α : Type} {L L1 L2 : LS} {i : Nat}
def seqK (r : R O) (g : LS → R O) : R O := match r with
  | .ok .nx L1 => g L1
  | r => r
theorem ev_seq (g1 g2 : LS → R O) (L : LS) : gSeq g1 g2 L = seqK (g1 L) g2 := rfl
theorem seqK_nx (L : LS) (g : LS → R O) : seqK (.ok .nx L) g = g L := rfl
theorem seqK_rt (s : S) (L : LS) (g : LS → R O) : seqK (.ok (.rt s) L) g = .ok (.rt s) L := rfl
theorem seqK_bk (L : LS) (g : LS → R O) : seqK (.ok .bk L) g = .ok .bk L := rfl
theorem seqK_ct (L : LS) (g : LS → R O) : seqK (.ok .ct L) g = .ok .ct L := rfl
theorem seqK_err (e : Nat) (L : LS) (g : LS → R O) : seqK (.err e L) g = .err e L := rfl
theorem ev_next (L : LS) : gNext L = .ok .nx L := rfl
def ifK (r : R Bool) (x y : LS → R O) : R O := r.bind fun b L1 => if b = true then x L1 else y L1
theorem ev_if (t : LS → R Bool) (x y : LS → R O) (L : LS) : gIf t x y L = ifK (t L) x y := rfl
theorem ifK_ok (b : Bool) (L : LS) (x y : LS → R O) : ifK (.ok b L) x y = if b = true then x L else y L := rfl
theorem ifK_err (e : Nat) (L : LS) (x y : LS → R O) : ifK (.err e L) x y = .err e L := rfl
def asgK (i : Nat) (r : R S) : R O := r.bind fun s L1 => .ok .nx (L1.set i (some s))
theorem ev_asg (i : Nat) (g : LS → R S) (L : LS) : gAsg i g L = asgK i (g L) := rfl
theorem asgK_ok (i : Nat) (s : S) (L : LS) : asgK i (.ok s L) = .ok .nx (L.set i (some s)) := rfl
theorem asgK_err (i e : Nat) (L : LS) : asgK i (.err e L) = .err e L := rfl
def retK (r : R S) : R O := r.bind fun s L1 => .ok (.rt s) L1
theorem ev_ret (g : LS → R S) (L : LS) : gRet g L = retK (g L) := rfl
theorem retK_ok (s : S) (L : LS) : retK (.ok s L) = .ok (.rt s) L := rfl
theorem retK_err (e : Nat) (L : LS) : retK (.err e L) = .err e L := rfl
theorem ev_retN (L : LS) : gRetN L = .ok (.rt (.d .none)) L := rfl
def dropK (r : R α) : R O := r.bind fun _ L1 => .ok .nx L1
theorem ev_drop (g : LS → R α) (L : LS) : gDrop g L = dropK (g L) := rfl
theorem dropK_ok (a : α) (L : LS) : dropK (.ok a L) = .ok .nx L := rfl
theorem dropK_err (e : Nat) (L : LS) : dropK (.err e L : R α) = .err e L := rfl
theorem ev_c (d : D) (L : LS) : gC d L = .ok d L := rfl
def dK (r : R D) : R S := r.bind fun d L1 => .ok (.d d) L1
theorem ev_d (g : LS → R D) (L : LS) : gD g L = dK (g L) := rfl
theorem dK_ok (d : D) (L : LS) : dK (.ok d L) = .ok (.d d) L := rfl
theorem dK_err (e : Nat) (L : LS) : dK (.err e L) = .err e L := rfl
def fzK (r : R S) : R D := r.bind frS
theorem ev_fz (g : LS → R S) (L : LS) : gFz g L = fzK (g L) := rfl
theorem fzK_d (d : D) (L : LS) : fzK (.ok (.d d) L) = .ok d L := rfl
theorem fzK_l (ds : List D) (L : LS) : fzK (.ok (.ol ds) L) = .ok (.list ds) L := rfl
theorem fzK_err (e : Nat) (L : LS) : fzK (.err e L) = .err e L := rfl
def opK1 (f : D → D → Option α) (b : LS → R D) (r : R D) : R α := r.bind fun d L1 => (b L1).bind fun e L2 => ofO (f d e) L2
def opK2 (f : D → D → Option α) (d : D) (r : R D) : R α := r.bind fun e L2 => ofO (f d e) L2
theorem ev_op (f : D → D → Option α) (a b : LS → R D) (L : LS) : gOp f a b L = opK1 f b (a L) := rfl
theorem opK1_ok (f : D → D → Option α) (b : LS → R D) (d : D) (L : LS) : opK1 f b (.ok d L) = opK2 f d (b L) := rfl
theorem opK1_err (f : D → D → Option α) (b : LS → R D) (e : Nat) (L : LS) : opK1 f b (.err e L) = .err e L := rfl
theorem opK2_ok (f : D → D → Option α) (d e : D) (L : LS) : opK2 f d (.ok e L) = ofO (f d e) L := rfl
theorem opK2_err (f : D → D → Option α) (d : D) (e : Nat) (L : LS) : opK2 f d (.err e L) = .err e L := rfl
def unK (f : D → Option α) (r : R D) : R α := r.bind fun d L1 => ofO (f d) L1
theorem ev_un (f : D → Option α) (a : LS → R D) (L : LS) : gUn f a L = unK f (a L) := rfl
theorem unK_ok (f : D → Option α) (d : D) (L : LS) : unK f (.ok d L) = ofO (f d) L := rfl
theorem unK_err (f : D → Option α) (e : Nat) (L : LS) : unK f (.err e L) = .err e L := rfl
theorem ev_isi (T : String) (a : LS → R D) (L : LS) : gIsi T a L = unK (isTy T) (a L) := rfl
def bK (r : R D) : R Bool := r.bind asB
theorem ev_b (g : LS → R D) (L : LS) : gB g L = bK (g L) := rfl
theorem bK_ok (b : Bool) (L : LS) : bK (.ok (.bool b) L) = .ok b L := rfl
theorem bK_err (e : Nat) (L : LS) : bK (.err e L) = .err e L := rfl
def andK (r : R Bool) (b : LS → R Bool) : R Bool := r.bind fun x L1 => if x = true then b L1 else .ok false L1
def orK (r : R Bool) (b : LS → R Bool) : R Bool := r.bind fun x L1 => if x = true then .ok true L1 else b L1
def notK (r : R Bool) : R Bool := r.bind fun x L1 => .ok (!x) L1
theorem ev_and (a b : LS → R Bool) (L : LS) : gAnd a b L = andK (a L) b := rfl
theorem andK_ok (x : Bool) (b : LS → R Bool) (L : LS) : andK (.ok x L) b = if x = true then b L else .ok false L := rfl
theorem andK_err (e : Nat) (b : LS → R Bool) (L : LS) : andK (.err e L) b = .err e L := rfl
theorem ev_or (a b : LS → R Bool) (L : LS) : gOr a b L = orK (a L) b := rfl
theorem orK_ok (x : Bool) (b : LS → R Bool) (L : LS) : orK (.ok x L) b = if x = true then .ok true L else b L := rfl
theorem orK_err (e : Nat) (b : LS → R Bool) (L : LS) : orK (.err e L) b = .err e L := rfl
theorem ev_not (a : LS → R Bool) (L : LS) : gNot a L = notK (a L) := rfl
theorem notK_ok (x : Bool) (L : LS) : notK (.ok x L) = .ok (!x) L := rfl
def andVK (r : R D) (b : LS → R D) : R D := r.bind fun d L1 => match d with
  | .bool x => if x = true then b L1 else .ok (.bool false) L1
  | _ => .stuck
def orVK (r : R D) (b : LS → R D) : R D := r.bind fun d L1 => match d with
  | .bool x => if x = true then .ok (.bool true) L1 else b L1
  | _ => .stuck
theorem ev_andV (a b : LS → R D) (L : LS) : gAndV a b L = andVK (a L) b := rfl
theorem andVK_ok (x : Bool) (b : LS → R D) (L : LS) : andVK (.ok (.bool x) L) b = if x = true then b L else .ok (.bool false) L := rfl
theorem ev_orV (a b : LS → R D) (L : LS) : gOrV a b L = orVK (a L) b := rfl
theorem orVK_ok (x : Bool) (b : LS → R D) (L : LS) : orVK (.ok (.bool x) L) b = if x = true then .ok (.bool true) L else b L := rfl
def ifEK (r : R Bool) (a b : LS → R α) : R α := r.bind fun x L1 => if x = true then a L1 else b L1
theorem ev_ifE (t : LS → R Bool) (a b : LS → R α) (L : LS) : gIfE t a b L = ifEK (t L) a b := rfl
theorem ifEK_ok (x : Bool) (a b : LS → R α) (L : LS) : ifEK (.ok x L) a b = if x = true then a L else b L := rfl
def consK1 (r : LS → R (List D)) (x : R D) : R (List D) := x.bind fun d L1 => (r L1).bind fun ds L2 => .ok (d :: ds) L2
def consK2 (d : D) (r : R (List D)) : R (List D) := r.bind fun ds L2 => .ok (d :: ds) L2
theorem ev_nil (L : LS) : gNil L = .ok [] L := rfl
theorem ev_cons (a : LS → R D) (r : LS → R (List D)) (L : LS) : gCons a r L = consK1 r (a L) := rfl
theorem consK1_ok (r : LS → R (List D)) (d : D) (L : LS) : consK1 r (.ok d L) = consK2 d (r L) := rfl
theorem consK1_err (r : LS → R (List D)) (e : Nat) (L : LS) : consK1 r (.err e L) = .err e L := rfl
theorem consK2_ok (d : D) (ds : List D) (L : LS) : consK2 d (.ok ds L) = .ok (d :: ds) L := rfl
theorem consK2_err (d : D) (e : Nat) (L : LS) : consK2 d (.err e L) = .err e L := rfl
def lstK (r : R (List D)) : R S := r.bind fun ds L1 => if ds.length ≤ sizeLine then .ok (.ol ds) L1 else .stuck
def tupK (r : R (List D)) : R D := r.bind fun ds L1 => if ds.length ≤ sizeLine then .ok (.tuple ds) L1 else .stuck
theorem ev_lst (a : LS → R (List D)) (L : LS) : gLst a L = lstK (a L) := rfl
theorem lstK_ok (ds : List D) (L : LS) : lstK (.ok ds L) = if ds.length ≤ sizeLine then .ok (.ol ds) L else .stuck := rfl
theorem ev_tup (a : LS → R (List D)) (L : LS) : gTup a L = tupK (a L) := rfl
theorem tupK_ok (ds : List D) (L : LS) : tupK (.ok ds L) = if ds.length ≤ sizeLine then .ok (.tuple ds) L else .stuck := rfl
theorem small_len {n : Nat} (h : n ≤ 1000000) : n ≤ sizeLine := by rw [PySem.sizeLine_eq]; omega
def varK (i : Nat) (o : Option (Option S)) (L : LS) : R D := match o with
  | some (some (.d d)) => .ok d L
  | some (some (.ol ds)) => .ok (.list ds) (L.set i (some (.d (.list ds))))
  | _ => .stuck
theorem ev_var (i : Nat) (L : LS) : gVar i L = varK i L[i]? L := rfl
theorem varK_d (i : Nat) (d : D) (L : LS) : varK i (some (some (.d d))) L = .ok d L := rfl
theorem varK_l (i : Nat) (ds : List D) (L : LS) : varK i (some (some (.ol ds))) L = .ok (.list ds) (L.set i (some (.d (.list ds)))) := rfl
def peekK (o : Option (Option S)) (L : LS) : R D := match o with
  | some (some (.d d)) => .ok d L
  | some (some (.ol ds)) => .ok (.list ds) L
  | some (some (.scr ns)) => .ok (.list (ns.map PyData.int)) L
  | some (some (.bl ds)) => .ok (.list ds) L
  | _ => .stuck
theorem ev_peek (i : Nat) (L : LS) : gPeek i L = peekK L[i]? L := rfl
theorem peekK_d (d : D) (L : LS) : peekK (some (some (.d d))) L = .ok d L := rfl
theorem peekK_l (ds : List D) (L : LS) : peekK (some (some (.ol ds))) L = .ok (.list ds) L := rfl
theorem peekK_s (ns : List Int) (L : LS) : peekK (some (some (.scr ns))) L = .ok (.list (ns.map PyData.int)) L := rfl
def moveK (i : Nat) (o : Option (Option S)) (L : LS) : R S := match o with
  | some (some (.d d)) => .ok (.d d) L
  | some (some (.scr _)) => .stuck
  | some (some (.b _)) => .stuck
  | some (some (.bl _)) => .stuck
  | some (some s) => .ok s (L.set i none)
  | _ => .stuck
theorem ev_move (i : Nat) (L : LS) : gMove i L = moveK i L[i]? L := rfl
theorem moveK_d (i : Nat) (d : D) (L : LS) : moveK i (some (some (.d d))) L = .ok (.d d) L := rfl
theorem moveK_l (i : Nat) (ds : List D) (L : LS) : moveK i (some (some (.ol ds))) L = .ok (.ol ds) (L.set i none) := rfl
def ixK (i : Nat) (o : Option (Option S)) (b : LS → R D) (L : LS) : R D := match o with
  | some (some _) => (b L).bind fun e L1 => (gPeek i L1).bind fun d L2 => ofO (dIx d e) L2
  | _ => .stuck
def ixK1 (i : Nat) (r : R D) : R D := r.bind fun e L1 => (gPeek i L1).bind fun d L2 => ofO (dIx d e) L2
def ixK2 (e : D) (r : R D) : R D := r.bind fun d L2 => ofO (dIx d e) L2
theorem ev_ixP (i : Nat) (b : LS → R D) (L : LS) : gIxP i b L = ixK i L[i]? b L := rfl
theorem ixK_ok (i : Nat) (s : S) (b : LS → R D) (L : LS) : ixK i (some (some s)) b L = ixK1 i (b L) := rfl
theorem ixK1_ok (i : Nat) (e : D) (L : LS) : ixK1 i (.ok e L) = ixK2 e (gPeek i L) := rfl
theorem ixK1_err (i e : Nat) (L : LS) : ixK1 i (.err e L) = .err e L := rfl
theorem ixK2_ok (e d : D) (L : LS) : ixK2 e (.ok d L) = ofO (dIx d e) L := rfl
theorem atI_nat' (xs : List D) (k : Nat) : atI xs (k : Int) = xs[k]? := by
  unfold atI ixN
  rw [if_pos (Int.natCast_nonneg k)]
  by_cases h : k < xs.length
  · rw [if_pos (by omega)]
    rfl
  · rw [if_neg (by omega), List.getElem?_eq_none (by omega)]
    rfl
theorem dIx_nat (xs : List D) (k : Nat) : dIx (.list xs) (.int (k : Int)) = xs[k]? := atI_nat' xs k
theorem dIx_natT (xs : List D) (k : Nat) : dIx (.tuple xs) (.int (k : Int)) = xs[k]? := atI_nat' xs k
theorem dIx_l0 (xs : List D) : dIx (.list xs) (.int 0) = xs[0]? := dIx_nat xs 0
theorem dIx_l1 (xs : List D) : dIx (.list xs) (.int 1) = xs[1]? := dIx_nat xs 1
theorem dIx_l2 (xs : List D) : dIx (.list xs) (.int 2) = xs[2]? := dIx_nat xs 2
theorem dIx_l3 (xs : List D) : dIx (.list xs) (.int 3) = xs[3]? := dIx_nat xs 3
theorem dIx_l4 (xs : List D) : dIx (.list xs) (.int 4) = xs[4]? := dIx_nat xs 4
theorem dIx_t0 (xs : List D) : dIx (.tuple xs) (.int 0) = xs[0]? := dIx_natT xs 0
theorem dIx_t1 (xs : List D) : dIx (.tuple xs) (.int 1) = xs[1]? := dIx_natT xs 1
theorem dIx_t2 (xs : List D) : dIx (.tuple xs) (.int 2) = xs[2]? := dIx_natT xs 2
theorem dIx_t3 (xs : List D) : dIx (.tuple xs) (.int 3) = xs[3]? := dIx_natT xs 3
def setK0 (i : Nat) (gk : LS → R D) (r : R D) : R O := r.bind fun d L1 => match L1[i]? with
  | some (some _) => (gk L1).bind (setAt i d)
  | _ => .stuck
def setK1 (i : Nat) (gk : LS → R D) (d : D) (o : Option (Option S)) (L : LS) : R O := match o with
  | some (some _) => (gk L).bind (setAt i d)
  | _ => .stuck
def setK2 (i : Nat) (d : D) (r : R D) : R O := r.bind (setAt i d)
def setK3 (i : Nat) (d : D) (k : Int) (o : Option (Option S)) (L : LS) : R O := match o with
  | some (some (.ol ds)) => (match ixN ds.length k with
    | some j => .ok .nx (L.set i (some (.ol (ds.set j d))))
    | none => .stuck)
  | _ => .stuck
theorem ev_setIx (i : Nat) (gk g : LS → R D) (L : LS) : gSetIx i gk g L = setK0 i gk (g L) := rfl
theorem setK0_ok (i : Nat) (gk : LS → R D) (d : D) (L : LS) : setK0 i gk (.ok d L) = setK1 i gk d L[i]? L := rfl
theorem setK0_err (i : Nat) (gk : LS → R D) (e : Nat) (L : LS) : setK0 i gk (.err e L) = .err e L := rfl
theorem setK1_ok (i : Nat) (gk : LS → R D) (d : D) (s : S) (L : LS) : setK1 i gk d (some (some s)) L = setK2 i d (gk L) := rfl
theorem setK2_ok (i : Nat) (d : D) (k : Int) (L : LS) : setK2 i d (.ok (.int k) L) = setK3 i d k L[i]? L := rfl
theorem setK3_nat (i : Nat) (d : D) (k : Nat) (ds : List D) (L : LS) : setK3 i d (k : Int) (some (some (.ol ds))) L = if k < ds.length then .ok .nx (L.set i (some (.ol (ds.set k d)))) else .stuck := by
  unfold setK3 ixN
  dsimp only
  rw [if_pos (Int.natCast_nonneg k)]
  by_cases h : k < ds.length
  · rw [if_pos (by omega), if_pos h]
    rfl
  · rw [if_neg (by omega), if_neg h]
theorem setK3_0 (i : Nat) (d : D) (ds : List D) (L : LS) : setK3 i d 0 (some (some (.ol ds))) L = if 0 < ds.length then .ok .nx (L.set i (some (.ol (ds.set 0 d)))) else .stuck := setK3_nat i d 0 ds L
theorem setK3_1 (i : Nat) (d : D) (ds : List D) (L : LS) : setK3 i d 1 (some (some (.ol ds))) L = if 1 < ds.length then .ok .nx (L.set i (some (.ol (ds.set 1 d)))) else .stuck := setK3_nat i d 1 ds L
theorem setK3_2 (i : Nat) (d : D) (ds : List D) (L : LS) : setK3 i d 2 (some (some (.ol ds))) L = if 2 < ds.length then .ok .nx (L.set i (some (.ol (ds.set 2 d)))) else .stuck := setK3_nat i d 2 ds L
theorem setK3_3 (i : Nat) (d : D) (ds : List D) (L : LS) : setK3 i d 3 (some (some (.ol ds))) L = if 3 < ds.length then .ok .nx (L.set i (some (.ol (ds.set 3 d)))) else .stuck := setK3_nat i d 3 ds L
theorem setK3_4 (i : Nat) (d : D) (ds : List D) (L : LS) : setK3 i d 4 (some (some (.ol ds))) L = if 4 < ds.length then .ok .nx (L.set i (some (.ol (ds.set 4 d)))) else .stuck := setK3_nat i d 4 ds L
def slK1 (lo hi : LS → R (Option Int)) (r : R D) : R S := r.bind fun d L1 => (lo L1).bind fun l L2 => (hi L2).bind fun u L3 => ofO (dSl d l u) L3
def slK2 (d : D) (hi : LS → R (Option Int)) (r : R (Option Int)) : R S := r.bind fun l L2 => (hi L2).bind fun u L3 => ofO (dSl d l u) L3
def slK3 (d : D) (l : Option Int) (r : R (Option Int)) : R S := r.bind fun u L3 => ofO (dSl d l u) L3
theorem ev_sl (a : LS → R D) (lo hi : LS → R (Option Int)) (L : LS) : gSl a lo hi L = slK1 lo hi (a L) := rfl
theorem slK1_ok (lo hi : LS → R (Option Int)) (d : D) (L : LS) : slK1 lo hi (.ok d L) = slK2 d hi (lo L) := rfl
theorem slK2_ok (d : D) (hi : LS → R (Option Int)) (l : Option Int) (L : LS) : slK2 d hi (.ok l L) = slK3 d l (hi L) := rfl
theorem slK3_ok (d : D) (l u : Option Int) (L : LS) : slK3 d l (.ok u L) = ofO (dSl d l u) L := rfl
theorem ev_no (L : LS) : gNo L = .ok none L := rfl
def soK (r : R D) : R (Option Int) := r.bind asI
theorem ev_so (g : LS → R D) (L : LS) : gSo g L = soK (g L) := rfl
theorem soK_ok (i : Int) (L : LS) : soK (.ok (.int i) L) = .ok (some i) L := rfl
theorem soK_err (e : Nat) (L : LS) : soK (.err e L) = .err e L := rfl
def joinK1 (gb : LS → R D) (r : R D) : R D := r.bind (gTxt fun a L1 => (gb L1).bind fun e L2 => ofO (dJoin (.str a) e) L2)
def joinK2 (a : Str) (r : R D) : R D := r.bind fun e L2 => ofO (dJoin (.str a) e) L2
theorem ev_join (ga gb : LS → R D) (L : LS) : gJoin ga gb L = joinK1 gb (ga L) := rfl
theorem joinK1_ok (gb : LS → R D) (a : Str) (L : LS) : joinK1 gb (.ok (.str a) L) = joinK2 a (gb L) := rfl
theorem joinK2_ok (a : Str) (e : D) (L : LS) : joinK2 a (.ok e L) = ofO (dJoin (.str a) e) L := rfl
def appK1 (i : Nat) (g : LS → R D) (o : Option (Option S)) (L : LS) : R S := match o with
  | some (some (.ol _)) => (g L).bind fun d L1 => gOwnL i (fun ds L2 => if ds.length < sizeLine then .ok (.d .none) (L2.set i (some (.ol (ds ++ [d])))) else .stuck) L1
  | _ => .stuck
def appK2 (i : Nat) (r : R D) : R S := r.bind fun d L1 => gOwnL i (fun ds L2 => if ds.length < sizeLine then .ok (.d .none) (L2.set i (some (.ol (ds ++ [d])))) else .stuck) L1
def appK3 (i : Nat) (d : D) (o : Option (Option S)) (L : LS) : R S := match o with
  | some (some (.ol ds)) => if ds.length < sizeLine then .ok (.d .none) (L.set i (some (.ol (ds ++ [d])))) else .stuck
  | _ => .stuck
theorem ev_app (i : Nat) (g : LS → R D) (L : LS) : gApp i g L = appK1 i g L[i]? L := rfl
theorem appK1_ok (i : Nat) (g : LS → R D) (ds : List D) (L : LS) : appK1 i g (some (some (.ol ds))) L = appK2 i (g L) := rfl
theorem appK2_ok (i : Nat) (d : D) (L : LS) : appK2 i (.ok d L) = appK3 i d L[i]? L := rfl
theorem appK2_err (i e : Nat) (L : LS) : appK2 i (.err e L) = .err e L := rfl
theorem appK3_ok (i : Nat) (d : D) (ds : List D) (L : LS) : appK3 i d (some (some (.ol ds))) L = if ds.length < sizeLine then .ok (.d .none) (L.set i (some (.ol (ds ++ [d])))) else .stuck := rfl
def eaK1 (as : List Ar) (r : R D) : R (List Av) := r.bind fun d L1 => (evArgs as L1).bind fun xs L2 => .ok (.d d :: xs) L2
def eaK2 (x : Av) (r : R (List Av)) : R (List Av) := r.bind fun xs L2 => .ok (x :: xs) L2
def eaK3 (i : Nat) (o : Option (Option S)) (as : List Ar) (L : LS) : R (List Av) := match o with
  | some (some _) => (evArgs as L).bind fun xs L2 => .ok (.r i :: xs) L2
  | _ => .stuck
theorem ev_a0 (L : LS) : evArgs [] L = .ok [] L := rfl
theorem ev_aD (g : LS → R D) (as : List Ar) (L : LS) : evArgs (.d g :: as) L = eaK1 as (g L) := rfl
theorem ev_aR (i : Nat) (as : List Ar) (L : LS) : evArgs (.r i :: as) L = eaK3 i L[i]? as L := rfl
theorem eaK1_ok (as : List Ar) (d : D) (L : LS) : eaK1 as (.ok d L) = eaK2 (.d d) (evArgs as L) := rfl
theorem eaK1_err (as : List Ar) (e : Nat) (L : LS) : eaK1 as (.err e L) = .err e L := rfl
theorem eaK3_ok (i : Nat) (s : S) (as : List Ar) (L : LS) : eaK3 i (some (some s)) as L = eaK2 (.r i) (evArgs as L) := rfl
theorem eaK2_ok (x : Av) (xs : List Av) (L : LS) : eaK2 x (.ok xs L) = .ok (x :: xs) L := rfl
theorem eaK2_err (x : Av) (e : Nat) (L : LS) : eaK2 x (.err e L) = .err e L := rfl
def callK (m : LS → R S) (r : R (List Av)) : R S := r.bind fun xs L1 => if (refs xs).Nodup then callAt m xs L1 else .stuck
def backK (xs : List Av) (L : LS) (r : R S) : R S := match r with
  | .ok s ss => .ok s (putBack xs ss L)
  | .err e ss => .err e (putBack xs ss L)
  | .stuck => .stuck
theorem ev_call (m : LS → R S) (as : List Ar) (L : LS) : gCall m as L = callK m (evArgs as L) := rfl
theorem callK_d1 (m : LS → R S) (d : D) (L : LS) : callK m (.ok [.d d] L) = backK [.d d] L (m [some (.d d)]) := rfl
theorem callK_gen (m : LS → R S) (xs : List Av) (L : LS) (h : (refs xs).Nodup) : callK m (.ok xs L) = backK xs L (m (xs.map (slotOf L))) := if_pos h
theorem callK_d2 (m : LS → R S) (d0 d1 : D) (L : LS) : callK m (.ok [.d d0, .d d1] L) = backK [.d d0, .d d1] L (m [some (.d d0), some (.d d1)]) := rfl
theorem callK_d3 (m : LS → R S) (d0 d1 d2 : D) (L : LS) : callK m (.ok [.d d0, .d d1, .d d2] L) = backK [.d d0, .d d1, .d d2] L (m [some (.d d0), some (.d d1), some (.d d2)]) := rfl
theorem callK_d4 (m : LS → R S) (d0 d1 d2 d3 : D) (L : LS) : callK m (.ok [.d d0, .d d1, .d d2, .d d3] L) = backK [.d d0, .d d1, .d d2, .d d3] L (m [some (.d d0), some (.d d1), some (.d d2), some (.d d3)]) := rfl
theorem callK_d5 (m : LS → R S) (d0 d1 d2 d3 d4 : D) (L : LS) : callK m (.ok [.d d0, .d d1, .d d2, .d d3, .d d4] L) = backK [.d d0, .d d1, .d d2, .d d3, .d d4] L (m [some (.d d0), some (.d d1), some (.d d2), some (.d d3), some (.d d4)]) := rfl
theorem callK_d6 (m : LS → R S) (d0 d1 d2 d3 d4 d5 : D) (L : LS) : callK m (.ok [.d d0, .d d1, .d d2, .d d3, .d d4, .d d5] L) = backK [.d d0, .d d1, .d d2, .d d3, .d d4, .d d5] L (m [some (.d d0), some (.d d1), some (.d d2), some (.d d3), some (.d d4), some (.d d5)]) := rfl
theorem callK_d7 (m : LS → R S) (d0 d1 d2 d3 d4 d5 d6 : D) (L : LS) : callK m (.ok [.d d0, .d d1, .d d2, .d d3, .d d4, .d d5, .d d6] L) = backK [.d d0, .d d1, .d d2, .d d3, .d d4, .d d5, .d d6] L (m [some (.d d0), some (.d d1), some (.d d2), some (.d d3), some (.d d4), some (.d d5), some (.d d6)]) := rfl
theorem callK_d8 (m : LS → R S) (d0 d1 d2 d3 d4 d5 d6 d7 : D) (L : LS) : callK m (.ok [.d d0, .d d1, .d d2, .d d3, .d d4, .d d5, .d d6, .d d7] L) = backK [.d d0, .d d1, .d d2, .d d3, .d d4, .d d5, .d d6, .d d7] L (m [some (.d d0), some (.d d1), some (.d d2), some (.d d3), some (.d d4), some (.d d5), some (.d d6), some (.d d7)]) := rfl
theorem callK_r0 (m : LS → R S) (i : Nat)  (L : LS) : callK m (.ok [.r i] L) = backK [.r i] L (m [(L[i]?).join]) := callK_gen m _ L (List.nodup_cons.mpr ⟨List.not_mem_nil, List.nodup_nil⟩)
theorem callK_r1 (m : LS → R S) (i : Nat) (d0 : D) (L : LS) : callK m (.ok [.r i, .d d0] L) = backK [.r i, .d d0] L (m [(L[i]?).join, some (.d d0)]) := callK_gen m _ L (List.nodup_cons.mpr ⟨List.not_mem_nil, List.nodup_nil⟩)
theorem callK_r2 (m : LS → R S) (i : Nat) (d0 d1 : D) (L : LS) : callK m (.ok [.r i, .d d0, .d d1] L) = backK [.r i, .d d0, .d d1] L (m [(L[i]?).join, some (.d d0), some (.d d1)]) := callK_gen m _ L (List.nodup_cons.mpr ⟨List.not_mem_nil, List.nodup_nil⟩)
theorem callK_r3 (m : LS → R S) (i : Nat) (d0 d1 d2 : D) (L : LS) : callK m (.ok [.r i, .d d0, .d d1, .d d2] L) = backK [.r i, .d d0, .d d1, .d d2] L (m [(L[i]?).join, some (.d d0), some (.d d1), some (.d d2)]) := callK_gen m _ L (List.nodup_cons.mpr ⟨List.not_mem_nil, List.nodup_nil⟩)
theorem callK_r4 (m : LS → R S) (i : Nat) (d0 d1 d2 d3 : D) (L : LS) : callK m (.ok [.r i, .d d0, .d d1, .d d2, .d d3] L) = backK [.r i, .d d0, .d d1, .d d2, .d d3] L (m [(L[i]?).join, some (.d d0), some (.d d1), some (.d d2), some (.d d3)]) := callK_gen m _ L (List.nodup_cons.mpr ⟨List.not_mem_nil, List.nodup_nil⟩)
theorem callK_r5 (m : LS → R S) (i : Nat) (d0 d1 d2 d3 d4 : D) (L : LS) : callK m (.ok [.r i, .d d0, .d d1, .d d2, .d d3, .d d4] L) = backK [.r i, .d d0, .d d1, .d d2, .d d3, .d d4] L (m [(L[i]?).join, some (.d d0), some (.d d1), some (.d d2), some (.d d3), some (.d d4)]) := callK_gen m _ L (List.nodup_cons.mpr ⟨List.not_mem_nil, List.nodup_nil⟩)
theorem callK_r6 (m : LS → R S) (i : Nat) (d0 d1 d2 d3 d4 d5 : D) (L : LS) : callK m (.ok [.r i, .d d0, .d d1, .d d2, .d d3, .d d4, .d d5] L) = backK [.r i, .d d0, .d d1, .d d2, .d d3, .d d4, .d d5] L (m [(L[i]?).join, some (.d d0), some (.d d1), some (.d d2), some (.d d3), some (.d d4), some (.d d5)]) := callK_gen m _ L (List.nodup_cons.mpr ⟨List.not_mem_nil, List.nodup_nil⟩)
theorem callK_r7 (m : LS → R S) (i : Nat) (d0 d1 d2 d3 d4 d5 d6 : D) (L : LS) : callK m (.ok [.r i, .d d0, .d d1, .d d2, .d d3, .d d4, .d d5, .d d6] L) = backK [.r i, .d d0, .d d1, .d d2, .d d3, .d d4, .d d5, .d d6] L (m [(L[i]?).join, some (.d d0), some (.d d1), some (.d d2), some (.d d3), some (.d d4), some (.d d5), some (.d d6)]) := callK_gen m _ L (List.nodup_cons.mpr ⟨List.not_mem_nil, List.nodup_nil⟩)
theorem callK_err (m : LS → R S) (e : Nat) (L : LS) : callK m (.err e L) = .err e L := rfl
theorem backK_ok (xs : List Av) (L : LS) (s : S) (ss : LS) : backK xs L (.ok s ss) = .ok s (putBack xs ss L) := rfl
theorem backK_err (xs : List Av) (L : LS) (e : Nat) (ss : LS) : backK xs L (.err e ss) = .err e (putBack xs ss L) := rfl
theorem slotOf_d (L : LS) (d : D) : slotOf L (.d d) = some (.d d) := rfl
theorem slotOf_r (L : LS) (i : Nat) : slotOf L (.r i) = (L[i]?).join := rfl
theorem putBack_d (xs : List Av) (d : D) (o : Option S) (ss L : LS) : putBack (.d d :: xs) (o :: ss) L = putBack xs ss L := rfl
theorem putBack_r (xs : List Av) (i : Nat) (o : Option S) (ss L : LS) : putBack (.r i :: xs) (o :: ss) L = putBack xs ss (L.set i o) := rfl
theorem putBack_nil (ss L : LS) : putBack [] ss L = L := rfl
theorem refs_nil : refs [] = [] := rfl
theorem refs_d (d : D) (xs : List Av) : refs (.d d :: xs) = refs xs := rfl
theorem refs_r (i : Nat) (xs : List Av) : refs (.r i :: xs) = i :: refs xs := rfl
theorem ev_run (md : List Bool) (N : Nat) (g : LS → R O) (ss : LS) : runDef md N g ss = endOf md (g (ss ++ List.replicate (N - ss.length) none)) := rfl
theorem endOf_nx (md : List Bool) (L : LS) : endOf md (.ok .nx L) = .ok (.d .none) (maskL md L) := rfl
theorem endOf_rt (md : List Bool) (s : S) (L : LS) : endOf md (.ok (.rt s) L) = .ok s (maskL md L) := rfl
theorem endOf_err (md : List Bool) (e : Nat) (L : LS) : endOf md (.err e L) = .err e (maskL md L) := rfl
theorem maskL_t (bs : List Bool) (o : Option S) (L : LS) : maskL (true :: bs) (o :: L) = o :: maskL bs L := rfl
theorem maskL_f (bs : List Bool) (o : Option S) (L : LS) : maskL (false :: bs) (o :: L) = none :: maskL bs L := rfl
theorem maskL_nil (L : LS) : maskL [] L = [] := by cases L <;> rfl
def forK (f : D → LS → Option LS) (g : LS → R O) (r : R (List D)) : R O := r.bind fun ds L1 => forGo f g ds L1
theorem ev_for (gi : LS → R (List D)) (f : D → LS → Option LS) (g : LS → R O) (L : LS) : gFor gi f g L = forK f g (gi L) := rfl
theorem forK_ok (f : D → LS → Option LS) (g : LS → R O) (ds : List D) (L : LS) : forK f g (.ok ds L) = forGo f g ds L := rfl
def turnK (f : D → LS → Option LS) (g : LS → R O) (ds : List D) (r : R O) : R O := match r with
  | .ok .nx L2 => forGo f g ds L2
  | .ok .ct L2 => forGo f g ds L2
  | .ok .bk L2 => .ok .nx L2
  | r => r
theorem forGo_nil (f : D → LS → Option LS) (g : LS → R O) (L : LS) : forGo f g [] L = .ok .nx L := rfl
theorem forGo_cons (f : D → LS → Option LS) (g : LS → R O) (d : D) (ds : List D) {L L1 : LS} (h : f d L = some L1) : forGo f g (d :: ds) L = turnK f g ds (g L1) := by
  show (match f d L with
    | none => R.stuck
    | some L1 => turnK f g ds (g L1)) = _
  rw [h]
theorem turnK_nx (f : D → LS → Option LS) (g : LS → R O) (ds : List D) (L : LS) : turnK f g ds (.ok .nx L) = forGo f g ds L := rfl
theorem turnK_ct (f : D → LS → Option LS) (g : LS → R O) (ds : List D) (L : LS) : turnK f g ds (.ok .ct L) = forGo f g ds L := rfl
theorem turnK_bk (f : D → LS → Option LS) (g : LS → R O) (ds : List D) (L : LS) : turnK f g ds (.ok .bk L) = .ok .nx L := rfl
theorem turnK_rt (f : D → LS → Option LS) (g : LS → R O) (ds : List D) (s : S) (L : LS) : turnK f g ds (.ok (.rt s) L) = .ok (.rt s) L := rfl
theorem turnK_err (f : D → LS → Option LS) (g : LS → R O) (ds : List D) (e : Nat) (L : LS) : turnK f g ds (.err e L) = .err e L := rfl
theorem bind_ok {β : Type} (a : α) (L : LS) (k : α → LS → R β) : (R.ok a L).bind k = k a L := rfl
theorem asItems_l (ds : List D) (L : LS) : asItems (.list ds) L = .ok ds L := rfl
theorem asItems_t (ds : List D) (L : LS) : asItems (.tuple ds) L = .ok ds L := rfl
theorem asItems_s (x : Str) (L : LS) : asItems (.str x) L = .ok (signs x) L := rfl
theorem ev_name (i : Nat) (d : D) (L : LS) : fName i d L = some (L.set i (some (.d d))) := rfl
theorem ev_fnil (L : LS) : fNil [] L = some L := rfl
theorem ev_fcons (f : D → LS → Option LS) (r : List D → LS → Option LS) (d : D) (ds : List D) (L : LS) : fCons f r (d :: ds) L = (f d L).bind (r ds) := rfl
theorem ev_ftup (m : Nat) (f : List D → LS → Option LS) (ds : List D) (L : LS) : fTup m f (.tuple ds) L = if ds.length = m then f ds L else none := rfl
theorem some_bind {β : Type} (a : α) (k : α → Option β) : (some a).bind k = k a := rfl
def asgTK (f : D → LS → Option LS) (r : R D) : R O := r.bind fun d L1 => match f d L1 with
  | some L2 => .ok .nx L2
  | none => .stuck
def asgTK2 (o : Option LS) : R O := match o with
  | some L2 => .ok .nx L2
  | none => .stuck
theorem ev_asgT (f : D → LS → Option LS) (g : LS → R D) (L : LS) : gAsgT f g L = asgTK f (g L) := rfl
theorem asgTK_ok (f : D → LS → Option LS) (d : D) (L : LS) : asgTK f (.ok d L) = asgTK2 (f d L) := rfl
theorem asgTK2_ok (L : LS) : asgTK2 (some L) = .ok .nx L := rfl
def lcK (vs : List Nat) (f : D → LS → Option LS) (gt : LS → R Bool) (ge : LS → R D) (r : R (List D)) : R S := r.bind fun ds L1 => lcGo vs f gt ge ds [] (wipeL L1 vs)
theorem ev_lc (vs : List Nat) (gi : LS → R (List D)) (f : D → LS → Option LS) (gt : LS → R Bool) (ge : LS → R D) (L : LS) : gLc vs gi f gt ge L = lcK vs f gt ge (gi L) := rfl
theorem lcK_ok (vs : List Nat) (f : D → LS → Option LS) (gt : LS → R Bool) (ge : LS → R D) (ds : List D) (L : LS) : lcK vs f gt ge (.ok ds L) = lcGo vs f gt ge ds [] (wipeL L vs) := rfl
theorem wipeL_nil (L : LS) : wipeL L [] = L := rfl
theorem wipeL_cons (L : LS) (v : Nat) (vs : List Nat) : wipeL L (v :: vs) = (wipeL L vs).set v none := rfl
theorem ev_yes (L : LS) : gYes L = .ok true L := rfl
theorem lcGo_nil (vs : List Nat) (f : D → LS → Option LS) (gt : LS → R Bool) (ge : LS → R D) (acc : List D) (L : LS) : lcGo vs f gt ge [] acc L = .ok (.ol acc) L := rfl
theorem lcGo_yes (vs : List Nat) (f : D → LS → Option LS) (gt : LS → R Bool) (ge : LS → R D) (d : D) (ds acc : List D) {L L1 L2 L3 : LS} {y : D} (h1 : f d L = some L1) (h2 : gt L1 = .ok true L2) (h3 : ge L2 = .ok y L3) (h4 : acc.length < sizeLine) :
    lcGo vs f gt ge (d :: ds) acc L = lcGo vs f gt ge ds (acc ++ [y]) (wipeL L3 vs) := by
  rw [lcGo]
  simp only [h1, h2, h3, if_pos, h4]
theorem dLt_i (i j : Int) : dLt (.int i) (.int j) = some (.bool (decide (i < j))) := rfl
theorem dLe_i (i j : Int) : dLe (.int i) (.int j) = some (.bool (decide (i ≤ j))) := rfl
theorem dGt_i (i j : Int) : dGt (.int i) (.int j) = some (.bool (decide (j < i))) := rfl
theorem dGe_i (i j : Int) : dGe (.int i) (.int j) = some (.bool (decide (j ≤ i))) := rfl
theorem eqv_int (i j : Int) : PyData.eqv (.int i) (.int j) = decide (i = j) := by
  simp only [PyData.eqv]
  exact Bool.beq_eq_decide_eq i j
theorem eqv_str (i j : Str) : PyData.eqv (.str i) (.str j) = decide (i = j) := by
  simp only [PyData.eqv]
  exact Bool.beq_eq_decide_eq i j
theorem eqv_bool (i j : Bool) : PyData.eqv (.bool i) (.bool j) = decide (i = j) := by
  simp only [PyData.eqv]
  exact Bool.beq_eq_decide_eq i j
theorem dEq_i (i j : Int) : dEq (.int i) (.int j) = some (.bool (decide (i = j))) := by
  unfold dEq
  rw [if_pos (.inl rfl), eqv_int]
theorem dEq_s (i j : Str) : dEq (.str i) (.str j) = some (.bool (decide (i = j))) := by
  unfold dEq
  rw [if_pos (.inl rfl), eqv_str]
theorem dEq_b (i j : Bool) : dEq (.bool i) (.bool j) = some (.bool (decide (i = j))) := by
  unfold dEq
  rw [if_pos (.inl rfl), eqv_bool]
theorem dNe_i (i j : Int) : dNe (.int i) (.int j) = some (.bool (!decide (i = j))) := by
  unfold dNe
  rw [if_pos (.inl rfl), eqv_int]
theorem dNe_s (i j : Str) : dNe (.str i) (.str j) = some (.bool (!decide (i = j))) := by
  unfold dNe
  rw [if_pos (.inl rfl), eqv_str]
theorem dIs_b (i j : Bool) : dIs (.bool i) (.bool j) = some (.bool (decide (i = j))) := rfl
theorem dSub_i (i j : Int) : dSub (.int i) (.int j) = some (.int (i - j)) := rfl
theorem dMod_ok {i j : Int} (h : 0 < j) : dMod (.int i) (.int j) = some (.int (i % j)) := if_pos (decide_eq_true h)
theorem dDiv_ok {i j : Int} (h : 0 < j) (h2 : j < 1073741824) : dDiv (.int i) (.int j) = some (.int (i / j)) := if_pos (decide_eq_true ⟨h, h2⟩)
theorem dMul_ok {i j : Int} (h : -(2 ^ 64) < i) (h2 : i < 2 ^ 64) : dMul (.int i) (.int j) = some (.d (.int (i * j))) := by
  have e : dMulI (.int i) (.int j) = some (.int (i * j)) := if_pos (decide_eq_true (.inl ⟨h, h2⟩))
  show (((dMulI (.int i) (.int j)).map S.d).orElse _) = _
  rw [e]
  rfl
theorem dPow_ok {i j : Int} (h : 0 ≤ j ∧ j ≤ 1000000 ∧ i.natAbs < 2 ^ 64) : dPow (.int i) (.int j) = some (.int (i ^ j.toNat)) := if_pos (decide_eq_true h)
theorem dLen_l (xs : List D) : dLen (.list xs) = some (.int xs.length) := rfl
theorem dLen_t (xs : List D) : dLen (.tuple xs) = some (.int xs.length) := rfl
theorem dLen_s {x : Str} (h : x.length ≤ sizeLine) : dLen (.str x) = some (.int x.length) := if_pos h
theorem dList_l (xs : List D) : dList (.list xs) = some (.ol xs) := rfl
theorem dList_t (xs : List D) : dList (.tuple xs) = some (.ol xs) := rfl
theorem dSl_l (xs : List D) (lo hi : Option Int) : dSl (.list xs) lo hi = some (.ol (cutD xs lo hi)) := rfl
theorem dSl_s {x : Str} (lo hi : Option Int) (h : x.length ≤ sizeLine) : dSl (.str x) lo hi = some (.d (.str (cutS x lo hi))) := if_pos h
theorem dNot_b (b : Bool) : dNot (.bool b) = some (.bool (!b)) := rfl
end
end VS

namespace VS
open PySem PySem.Spec PyProof.Rows L2
theorem dx_stuck {P : Program} {w : World} {K : PySem.W.Frag} {mg : Str → Option Value} {base : Heap} {ca : Nat → Addr} {x : Str} {k : Nat} {ps : List Str} {md : List Bool} {f : Addr} {fd : FuncData}
    (hg : mg x = some (.ref f)) (hk : PySem.W.keepIn K (.ref f) = true) (hb : Binds K fd ps []) : Dx P w K mg base ca x k ps md (fun _ => .stuck) :=
  ⟨f, fd, ⟨fun vs H Q E h => by obtain ⟨_, _, _, _, _, _, _, z⟩ := h; exact z.elim, fun A outer s H args us vs Q E _ _ _ _ h => by obtain ⟨_, _, _, _, _, _, _, z⟩ := h; exact z.elim⟩, hg, hk, hb⟩
section
variable {c : Ct} {n n1 n2 : Bool} {a b e : Expr} {es : List Expr} {ga gb : LS → R D} {gs : LS → R (List D)} {pos p : Pos}
def srt (ns : List Int) : List Int := ns.mergeSort
def gA {α : Type} (f : List D → Option α) (gs : LS → R (List D)) : LS → R α := fun L => (gs L).bind fun ds L1 => ofO (f ds) L1
theorem jd_callA {id : String} {x : Str} {r : List V → Hp → VK → Prop} {f : List D → Option D} (hc : CallR c.X (.builtin id) r) (hg : Gl c.X x) (hm : c.X.mg x = none) (hv : bootBuiltins x = some (.builtin id)) (ha : JA c n (e :: es) gs)
    (lf : ∀ (F H : Hp) (vs : List V) (ds : List D) (z : D), Same F H → DqA c.X.K F vs ds → f ds = some z → ∃ v, Dq c.X.K F v z ∧ ∀ Q : VK, Q v H → r vs H Q)
    (hn : x ≠ "__name__" := by decide) (hdb : (x == ("__debug__" : Str)) = false := by decide) (hs : starEach (e :: es) c.X.env = (false, eval e c.X.env) :: starEach es c.X.env := by rfl) (hpl : (backTo pos (starEach es c.X.env)).any (·.1) = false := by rfl) :
    JD c n (.Call (.Name x p) (e :: es) [] pos) (gA f gs) := by
  obtain ⟨ta, pa, qa⟩ := ha
  refine ⟨_, pe_callB hc hg hm hv pa hn hdb hs hpl, fun G F ow σ H L Rr => (qa G F ow σ H L Rr).bind1 (t2 := fun vs H1 Q => r vs H1 Q) fun ds L1 vs H1 F1 ow1 _ _ _ R1 b1 => ?_⟩
  cases hf : f ds with
  | none => trivial
  | some z =>
    obtain ⟨v, hv, q⟩ := lf F1 H1 vs ds z R1.exF b1 hf
    exact (Post.val R1 hv).imp q
def dMin : List D → Option D
  | [.int i, .int j] => some (.int (if j < i then j else i))
  | _ => none
def dMax : List D → Option D
  | [.int i, .int j] => some (.int (if j > i then j else i))
  | _ => none
theorem jd_max (hc : c.X.calm = true) (hg : Gl c.X "max") (hm : c.X.mg "max" = none) (ha : JA c n [a, b] gs) (hs : starEach [a, b] c.X.env = (false, eval a c.X.env) :: starEach [b] c.X.env := by rfl) (hpl : (backTo pos (starEach [b] c.X.env)).any (·.1) = false := by rfl) :
    JD c n (.Call (.Name "max" p) [a, b] [] pos) (gA dMax gs) :=
  jd_callA (call_max2 hc) hg hm (by decide +kernel) ha (fun F H vs ds z s h hf => by
    match ds, vs, h, hf with
    | [.int i, .int j], _, .cons (.int _) (.cons (.int _) .nil), hf =>
      cases hf
      exact ⟨_, .int _, fun Q q => ⟨i, j, rfl, q⟩⟩) (by decide) (by decide) hs hpl
def gOwnD (i : Nat) (k : List D → LS → R D) : LS → R D := fun L => match L[i]? with
  | some (some (.ol ds)) => k ds L
  | _ => .stuck
def popK (i : Nat) (k : Int) (L : LS) : R D := match L[i]? with
  | some (some (.ol ds)) => if -(2 ^ 63) ≤ k ∧ k < 2 ^ 63 then (match seqIndex? k ds.length with
    | some j => (match ds[j]? with
      | some d => .ok d (L.set i (some (.ol (ds.eraseIdx j))))
      | none => .stuck)
    | none => .stuck) else .stuck
  | _ => .stuck
def popAt (i : Nat) : D → LS → R D
  | .int k, L => popK i k L
  | _, _ => .stuck
def gPopAt (i : Nat) (g : LS → R D) : LS → R D := gOwnD i fun _ L => (g L).bind (popAt i)
theorem jd_popAt (i : Nat) {x : Str} {apos : Pos} (h : PE c.X (.Name x p) (tVar i)) (ha : JD c n a ga)
    (hbase : attributeBase (.Name x p) "pop" c.X.env (eval (.Name x p) c.X.env) = eval (.Name x p) c.X.env := by rfl)
    (hfew : ((backTo pos (starEach [a] c.X.env)).all (fun x => !x.1) && (backToKw pos (keywordEach [] c.X.env)).all (fun x => x.1.isSome) && decide ([a].length + ([] : List Keyword).length + (if ([] : List Keyword).isEmpty then 0 else 1) < 30)) = true := by rfl)
    (hline : (apos.endLine == pos.line) = true := by rfl) (hs : starEach [a] c.X.env = (false, eval a c.X.env) :: starEach [] c.X.env := by rfl) (hplain : (backTo pos (starEach [] c.X.env)).any (·.1) = false := by rfl) :
    JD c false (.Call (.Attribute (.Name x p) "pop" apos) [a] [] pos) (gPopAt i ga) := by
  obtain ⟨ta, pa, qa⟩ := ha
  refine ⟨_, pe_bm PySem.F.plainAttrs_list PySem.F.slot_list_pop PySem.F.type_list_pop mt_popAt h (pa_cons pa pa_nil hs) hbase hfew hline hs hplain, fun G F ow σ H L Rr => ?_⟩
  unfold gPopAt gOwnD
  cases hL : L[i]? with
  | none => trivial
  | some o =>
    cases o with
    | none => trivial
    | some s =>
      cases s with
      | ol ds0 =>
        obtain ⟨l, vs0, hv, h0, _, _⟩ := ownL_at Rr hL
        have key := (qa G F ow σ H L Rr).bind (n2 := false) (k := popAt i) (B2 := BD c.X.K) (t2 := fun y H1 Q => rPopAt (.ref l) [y] H1 Q)
          fun d L1 v H1 F1 ow1 _ _ _ R1 b1 => by
            cases b1 with
            | int k =>
              show Post c G false F1 H1 σ (popK i k L1) (BD c.X.K) _
              unfold popK
              cases hL1 : L1[i]? with
              | none => trivial
              | some o =>
                cases o with
                | none => trivial
                | some s =>
                  cases s with
                  | ol ds =>
                    obtain ⟨l', vs, hv', h1, h2, h3⟩ := ownL_at R1 hL1
                    rw [hv] at hv'
                    cases hv'
                    refine Post.guard fun hk => ?_
                    cases hj : seqIndex? k ds.length with
                    | none => trivial
                    | some j =>
                      dsimp only
                      cases hd : ds[j]? with
                      | none => trivial
                      | some d =>
                        obtain ⟨y, hy, hq⟩ := h3.get hd
                        intro Q q
                        exact ⟨l, vs, k, j, y, rfl, rfl, h1, hk.1, hk.2, by rw [h3.len]; exact hj, hy, q _ _ F1 ow1 (Same.refl F1) (fun z => nomatch z) (Rl.putL R1 hv h2 (h3.erase j)) hq⟩
                  | _ => trivial
            | _ => trivial
        rw [Bool.and_false] at key
        exact key.imp fun Q q => ⟨_, hv, .inl ⟨rfl, _, .of h0⟩, q⟩
      | _ => trivial
def zipD : List D → List D → List D := fun xs ys => (xs.zip ys).map fun z => .tuple [z.1, z.2]
def asZip : List D → LS → R (List D)
  | [.list xs, .list ys], L => .ok (zipD xs ys) L
  | [.tuple xs, .tuple ys], L => .ok (zipD xs ys) L
  | _, _ => .stuck
theorem zipD_len (xs ys : List D) : (zipD xs ys).length = min xs.length ys.length := by unfold zipD; rw [List.length_map, List.length_zip]
theorem zipD_get {xs ys : List D} {i : Nat} {d : D} (h : (zipD xs ys)[i]? = some d) : ∃ x y, xs[i]? = some x ∧ ys[i]? = some y ∧ d = .tuple [x, y] := by
  unfold zipD at h
  rw [List.getElem?_map] at h
  cases e : (xs.zip ys)[i]? with
  | none => rw [e] at h; cases h
  | some z =>
    rw [e] at h
    obtain ⟨h1, h2⟩ := List.getElem?_zip_eq_some.mp e
    exact ⟨z.1, z.2, h1, h2, (Option.some.inj h).symm⟩
theorem zipL_post {G H1 F1 : Hp} {ow1 : Addr → Option Path} {σ : L2.St} {L1 : LS} {xs ys : List D} {vs : List V} (R1 : c.Rl G F1 ow1 σ H1 L1) (b1 : DqA c.X.K F1 vs [.list xs, .list ys]) :
    Post c G true F1 H1 σ (.ok (zipD xs ys) L1) (BI c.X.K) (fun Q => ∃ a b xs ys, vs = [.ref a, .ref b] ∧ ((SqL c.X.K H1 a xs ∧ SqL c.X.K H1 b ys ∧ Q (Itz c.X.K a b) H1) ∨ (SqT c.X.K H1 a xs ∧ SqT c.X.K H1 b ys ∧ Q (RZ.ItzT c.X.K a b) H1))) := by
  match vs, b1 with
  | _, .cons (@Dq.lst _ _ l us _ h1 h2) (.cons (@Dq.lst _ _ m ws _ h3 h4) .nil) =>
    refine (Post.val (a := zipD xs ys) (b := Itz c.X.K l m) (B := BI c.X.K) R1 fun i H s => ⟨fun hi => ⟨us, ws, .of (s _ _ h1), .of (s _ _ h3), ?_⟩, fun d hd => ?_⟩).imp fun Q q => ⟨l, m, us, ws, rfl, .inl ⟨.of (R1.exF _ _ h1), .of (R1.exF _ _ h3), q⟩⟩
    · rw [zipD_len] at hi
      rw [h2.len, h4.len]
      omega
    · obtain ⟨x, y, hx, hy, rfl⟩ := zipD_get hd
      obtain ⟨u, hu, ru⟩ := h2.get hx
      obtain ⟨z, hz, rz⟩ := h4.get hy
      refine ⟨⟨us, ws, u, z, .of (s _ _ h1), .of (s _ _ h3), hu, hz⟩, fun x' H' ⟨T, x1, y1, e1, e2, e3, e4, e5⟩ => .inr ⟨T, [x1, y1], [x, y], rfl, e1, e2, e3, ?_⟩⟩
      have f1 := e4 us (.of (s _ _ h1))
      have f2 := e5 ws (.of (s _ _ h3))
      rw [hu] at f1
      rw [hz] at f2
      cases f1
      cases f2
      exact .cons ru (.cons rz .nil)
theorem zipT_post {G H1 F1 : Hp} {ow1 : Addr → Option Path} {σ : L2.St} {L1 : LS} {xs ys : List D} {vs : List V} (R1 : c.Rl G F1 ow1 σ H1 L1) (b1 : DqA c.X.K F1 vs [.tuple xs, .tuple ys]) :
    Post c G true F1 H1 σ (.ok (zipD xs ys) L1) (BI c.X.K) (fun Q => ∃ a b xs ys, vs = [.ref a, .ref b] ∧ ((SqL c.X.K H1 a xs ∧ SqL c.X.K H1 b ys ∧ Q (Itz c.X.K a b) H1) ∨ (SqT c.X.K H1 a xs ∧ SqT c.X.K H1 b ys ∧ Q (RZ.ItzT c.X.K a b) H1))) := by
  match vs, b1 with
  | _, .cons (@Dq.tup _ _ l us _ h1 h2) (.cons (@Dq.tup _ _ m ws _ h3 h4) .nil) =>
    refine (Post.val (a := zipD xs ys) (b := RZ.ItzT c.X.K l m) (B := BI c.X.K) R1 fun i H s => ⟨fun hi => ⟨us, ws, sqt_same s h1, sqt_same s h3, ?_⟩, fun d hd => ?_⟩).imp fun Q q => ⟨l, m, us, ws, rfl, .inr ⟨sqt_same R1.exF h1, sqt_same R1.exF h3, q⟩⟩
    · rw [zipD_len] at hi
      rw [h2.len, h4.len]
      omega
    · obtain ⟨x, y, hx, hy, rfl⟩ := zipD_get hd
      obtain ⟨u, hu, ru⟩ := h2.get hx
      obtain ⟨z, hz, rz⟩ := h4.get hy
      refine ⟨⟨us, ws, u, z, sqt_same s h1, sqt_same s h3, hu, hz⟩, fun x' H' ⟨T, x1, y1, e1, e2, e3, e4, e5⟩ => .inr ⟨T, [x1, y1], [x, y], rfl, e1, e2, e3, ?_⟩⟩
      have f1 := e4 us (sqt_same s h1)
      have f2 := e5 ws (sqt_same s h3)
      rw [hu] at f1
      rw [hz] at f2
      cases f1
      cases f2
      exact .cons ru (.cons rz .nil)
theorem ji_zip {tpos : Pos} {elts : List Expr} {kk : Nat} (hg : Gl c.X "zip") (hm : c.X.mg "zip" = none) (h : JA c n [a, b] gs)
    (hs : starEach [a, b] c.X.env = (false, eval a c.X.env) :: starEach [b] c.X.env := by rfl) (hpl : (backTo pos (starEach [b] c.X.env)).any (·.1) = false := by rfl) :
    JI c n (.Tuple elts kk tpos) (.Call (.Name "zip" p) [a, b] [] pos) (fun L => (gs L).bind asZip) := by
  obtain ⟨t, q, k⟩ := h
  refine ⟨_, RZ.pi_zipA hg hm q hs hpl, fun G F ow σ H L Rr => (k G F ow σ H L Rr).bind1 (t2 := fun vs H1 Q => ∃ a b xs ys, vs = [.ref a, .ref b] ∧ ((SqL c.X.K H1 a xs ∧ SqL c.X.K H1 b ys ∧ Q (Itz c.X.K a b) H1) ∨ (SqT c.X.K H1 a xs ∧ SqT c.X.K H1 b ys ∧ Q (RZ.ItzT c.X.K a b) H1))) fun ds L1 vs H1 F1 ow1 _ _ _ R1 b1 => ?_⟩
  show Post c G true F1 H1 σ (asZip ds L1) _ _
  unfold asZip
  split
  · exact zipL_post R1 b1
  · exact zipT_post R1 b1
  · trivial
end
end VS

namespace VS
open PySem PySem.Spec PyProof.Rows L2
structure KeyAt1 (P : Program) (w : World) (K : PySem.W.Frag) (mg : Str → Option Value) (x : Str) : Prop where
  ex : ∃ f, mg x = some (.ref f) ∧ ∀ (A : Around) (s : Shared) (t : Addr) (items : Array Value) (y : Value), A.depth < recursionLimit → K.In s.heap → s.heap.NoLimit → IsTup s.heap t items → items[1]? = some y →
    wpAny (model P w) A (call (.ref f) [.ref t]) (fun v s2 => v = y ∧ ∃ h' tk, s2 = { s with heap := h', toks := tk } ∧ ∀ b o, s.heap.get? b = some o → h'.get? b = some o) (fun _ _ => False) s
theorem dqa_of {K : PySem.W.Frag} {F : Hp} : ∀ {vs : List V} {ds : List D}, vs.length = ds.length → (∀ q ∈ vs.zip ds, Dq K F q.1 q.2) → DqA K F vs ds
  | [], [], _, _ => .nil
  | v :: vs, d :: ds, hl, h => .cons (h (v, d) List.mem_cons_self) (dqa_of (Nat.succ.inj hl) fun q hq => h q (List.mem_cons_of_mem _ hq))
theorem dqa_zip {K : PySem.W.Frag} {F : Hp} : ∀ {vs : List V} {ds : List D}, DqA K F vs ds → ∀ q ∈ vs.zip ds, Dq K F q.1 q.2
  | _, _, .nil, q, h => by cases h
  | _, _, .cons h r, q, hq => by
    cases hq with
    | head => exact h
    | tail _ hq => exact dqa_zip r q hq
theorem zip_snd {α β : Type} : ∀ {xs : List α} {ys : List β}, xs.length = ys.length → (xs.zip ys).map (·.2) = ys
  | [], [], _ => rfl
  | x :: xs, y :: ys, h => by rw [List.zip_cons_cons, List.map_cons, zip_snd (Nat.succ.inj h)]
section
variable {c : Ct} {n n1 n2 : Bool} {a b e : Expr} {es : List Expr} {ga gb : LS → R D} {gs : LS → R (List D)} {pos p p2 : Pos}
end
end VS

namespace VS
open PySem PySem.Spec PyProof.Rows L2
section
variable {b : Bool} {i : Int} {s : Str} {xs : List D}
theorem ty_n_bool : isTy "bool" .none = some (.bool false) := by
  show (kitB "NoneType" "bool").map PyData.bool = _
  rw [show kitB "NoneType" "bool" = some false from by decide +kernel]
  rfl
theorem ty_n_int : isTy "int" .none = some (.bool false) := by
  show (kitB "NoneType" "int").map PyData.bool = _
  rw [show kitB "NoneType" "int" = some false from by decide +kernel]
  rfl
theorem ty_n_str : isTy "str" .none = some (.bool false) := by
  show (kitB "NoneType" "str").map PyData.bool = _
  rw [show kitB "NoneType" "str" = some false from by decide +kernel]
  rfl
theorem ty_n_list : isTy "list" .none = some (.bool false) := by
  show (kitB "NoneType" "list").map PyData.bool = _
  rw [show kitB "NoneType" "list" = some false from by decide +kernel]
  rfl
theorem ty_n_tuple : isTy "tuple" .none = some (.bool false) := by
  show (kitB "NoneType" "tuple").map PyData.bool = _
  rw [show kitB "NoneType" "tuple" = some false from by decide +kernel]
  rfl
theorem ty_b_bool : isTy "bool" (.bool b) = some (.bool true) := by
  show (kitB "bool" "bool").map PyData.bool = _
  rw [show kitB "bool" "bool" = some true from by decide +kernel]
  rfl
theorem ty_b_int : isTy "int" (.bool b) = some (.bool true) := by
  show (kitB "bool" "int").map PyData.bool = _
  rw [show kitB "bool" "int" = some true from by decide +kernel]
  rfl
theorem ty_b_str : isTy "str" (.bool b) = some (.bool false) := by
  show (kitB "bool" "str").map PyData.bool = _
  rw [show kitB "bool" "str" = some false from by decide +kernel]
  rfl
theorem ty_b_list : isTy "list" (.bool b) = some (.bool false) := by
  show (kitB "bool" "list").map PyData.bool = _
  rw [show kitB "bool" "list" = some false from by decide +kernel]
  rfl
theorem ty_b_tuple : isTy "tuple" (.bool b) = some (.bool false) := by
  show (kitB "bool" "tuple").map PyData.bool = _
  rw [show kitB "bool" "tuple" = some false from by decide +kernel]
  rfl
theorem ty_i_bool : isTy "bool" (.int i) = some (.bool false) := by
  show (kitB "int" "bool").map PyData.bool = _
  rw [show kitB "int" "bool" = some false from by decide +kernel]
  rfl
theorem ty_i_int : isTy "int" (.int i) = some (.bool true) := by
  show (kitB "int" "int").map PyData.bool = _
  rw [show kitB "int" "int" = some true from by decide +kernel]
  rfl
theorem ty_i_str : isTy "str" (.int i) = some (.bool false) := by
  show (kitB "int" "str").map PyData.bool = _
  rw [show kitB "int" "str" = some false from by decide +kernel]
  rfl
theorem ty_i_list : isTy "list" (.int i) = some (.bool false) := by
  show (kitB "int" "list").map PyData.bool = _
  rw [show kitB "int" "list" = some false from by decide +kernel]
  rfl
theorem ty_i_tuple : isTy "tuple" (.int i) = some (.bool false) := by
  show (kitB "int" "tuple").map PyData.bool = _
  rw [show kitB "int" "tuple" = some false from by decide +kernel]
  rfl
theorem ty_s_bool : isTy "bool" (.str s) = some (.bool false) := by
  show (kitB "str" "bool").map PyData.bool = _
  rw [show kitB "str" "bool" = some false from by decide +kernel]
  rfl
theorem ty_s_int : isTy "int" (.str s) = some (.bool false) := by
  show (kitB "str" "int").map PyData.bool = _
  rw [show kitB "str" "int" = some false from by decide +kernel]
  rfl
theorem ty_s_str : isTy "str" (.str s) = some (.bool true) := by
  show (kitB "str" "str").map PyData.bool = _
  rw [show kitB "str" "str" = some true from by decide +kernel]
  rfl
theorem ty_s_list : isTy "list" (.str s) = some (.bool false) := by
  show (kitB "str" "list").map PyData.bool = _
  rw [show kitB "str" "list" = some false from by decide +kernel]
  rfl
theorem ty_s_tuple : isTy "tuple" (.str s) = some (.bool false) := by
  show (kitB "str" "tuple").map PyData.bool = _
  rw [show kitB "str" "tuple" = some false from by decide +kernel]
  rfl
theorem ty_l_bool : isTy "bool" (.list xs) = some (.bool false) := by
  show (kitB "list" "bool").map PyData.bool = _
  rw [show kitB "list" "bool" = some false from by decide +kernel]
  rfl
theorem ty_l_int : isTy "int" (.list xs) = some (.bool false) := by
  show (kitB "list" "int").map PyData.bool = _
  rw [show kitB "list" "int" = some false from by decide +kernel]
  rfl
theorem ty_l_str : isTy "str" (.list xs) = some (.bool false) := by
  show (kitB "list" "str").map PyData.bool = _
  rw [show kitB "list" "str" = some false from by decide +kernel]
  rfl
theorem ty_l_list : isTy "list" (.list xs) = some (.bool true) := by
  show (kitB "list" "list").map PyData.bool = _
  rw [show kitB "list" "list" = some true from by decide +kernel]
  rfl
theorem ty_l_tuple : isTy "tuple" (.list xs) = some (.bool false) := by
  show (kitB "list" "tuple").map PyData.bool = _
  rw [show kitB "list" "tuple" = some false from by decide +kernel]
  rfl
theorem ty_t_bool : isTy "bool" (.tuple xs) = some (.bool false) := by
  show (kitB "tuple" "bool").map PyData.bool = _
  rw [show kitB "tuple" "bool" = some false from by decide +kernel]
  rfl
theorem ty_t_int : isTy "int" (.tuple xs) = some (.bool false) := by
  show (kitB "tuple" "int").map PyData.bool = _
  rw [show kitB "tuple" "int" = some false from by decide +kernel]
  rfl
theorem ty_t_str : isTy "str" (.tuple xs) = some (.bool false) := by
  show (kitB "tuple" "str").map PyData.bool = _
  rw [show kitB "tuple" "str" = some false from by decide +kernel]
  rfl
theorem ty_t_list : isTy "list" (.tuple xs) = some (.bool false) := by
  show (kitB "tuple" "list").map PyData.bool = _
  rw [show kitB "tuple" "list" = some false from by decide +kernel]
  rfl
theorem ty_t_tuple : isTy "tuple" (.tuple xs) = some (.bool true) := by
  show (kitB "tuple" "tuple").map PyData.bool = _
  rw [show kitB "tuple" "tuple" = some true from by decide +kernel]
  rfl
end
theorem dIs_nn : dIs .none .none = some (.bool true) := rfl
theorem dIs_in (i : Int) : dIs (.int i) .none = some (.bool false) := rfl
theorem dIs_bn (i : Bool) : dIs (.bool i) .none = some (.bool false) := rfl
theorem dIs_sn (i : Str) : dIs (.str i) .none = some (.bool false) := rfl
theorem dIs_ln (i : List D) : dIs (.list i) .none = some (.bool false) := rfl
theorem dIs_tn (i : List D) : dIs (.tuple i) .none = some (.bool false) := rfl
theorem dNe_b (i j : Bool) : dNe (.bool i) (.bool j) = some (.bool (!decide (i = j))) := by
  unfold dNe
  rw [if_pos (.inl rfl), eqv_bool]
def aK {α : Type} (f : List D → Option α) (r : R (List D)) : R α := r.bind fun ds L1 => ofO (f ds) L1
theorem ev_A {α : Type} (f : List D → Option α) (gs : LS → R (List D)) (L : LS) : gA f gs L = aK f (gs L) := rfl
theorem aK_ok {α : Type} (f : List D → Option α) (ds : List D) (L : LS) : aK f (.ok ds L) = ofO (f ds) L := rfl
theorem aK_err {α : Type} (f : List D → Option α) (e : Nat) (L : LS) : aK f (.err e L) = .err e L := rfl
theorem dMin_ok (i j : Int) : dMin [.int i, .int j] = some (.int (min i j)) := by
  show some (PyData.int (if j < i then j else i)) = _
  congr 2
  by_cases h : j < i
  · rw [if_pos h]; omega
  · rw [if_neg h]; omega
theorem dMax_ok (i j : Int) : dMax [.int i, .int j] = some (.int (max i j)) := by
  show some (PyData.int (if j > i then j else i)) = _
  congr 2
  by_cases h : j > i
  · rw [if_pos h]; omega
  · rw [if_neg h]; omega
theorem asZip_l (xs ys : List D) (L : LS) : asZip [.list xs, .list ys] L = .ok (zipD xs ys) L := rfl
theorem asZip_t (xs ys : List D) (L : LS) : asZip [.tuple xs, .tuple ys] L = .ok (zipD xs ys) L := rfl
def popK1 (i : Nat) (o : Option (Option S)) (g : LS → R D) (L : LS) : R D := match o with
  | some (some (.ol _)) => (g L).bind (popAt i)
  | _ => .stuck
theorem ev_pop (i : Nat) (g : LS → R D) (L : LS) : gPopAt i g L = popK1 i L[i]? g L := by
  unfold gPopAt gOwnD popK1
  cases L[i]? with
  | none => rfl
  | some o => cases o with
    | none => rfl
    | some s => cases s <;> rfl
def popK2 (i : Nat) (r : R D) : R D := r.bind (popAt i)
theorem popK1_ok (i : Nat) (ds : List D) (g : LS → R D) (L : LS) : popK1 i (some (some (.ol ds))) g L = popK2 i (g L) := rfl
end VS

namespace VS
open PySem PySem.Spec PyProof.Rows L2
def dCountS (k : Str) (ys : List Str) : Nat := ys.countP fun y => y.cps.toList == k.cps.toList
def dCount : D → D → Option D
  | .list ds, .str k => (strsOf ds).map fun ys => .int (dCountS k ys : Nat)
  | _, _ => none
def cntL (gb : LS → R D) : D → LS → R D
  | .list ds, L1 => (gb L1).bind fun e L2 => ofO (dCount (.list ds) e) L2
  | _, _ => .stuck
def gCount (ga gb : LS → R D) : LS → R D := fun L => (ga L).bind (cntL gb)
def cntK1 (gb : LS → R D) (r : R D) : R D := r.bind (cntL gb)
def cntK2 (ds : List D) (r : R D) : R D := r.bind fun e L2 => ofO (dCount (.list ds) e) L2
theorem ev_cnt (ga gb : LS → R D) (L : LS) : gCount ga gb L = cntK1 gb (ga L) := rfl
theorem cntK1_ok (gb : LS → R D) (ds : List D) (L : LS) : cntK1 gb (.ok (.list ds) L) = cntK2 ds (gb L) := rfl
theorem cntK2_ok (ds : List D) (e : D) (L : LS) : cntK2 ds (.ok e L) = ofO (dCount (.list ds) e) L := rfl
section
variable {c : Ct} {n n1 n2 : Bool} {a b e : Expr} {es : List Expr} {ga gb : LS → R D} {gs : LS → R (List D)} {pos p p2 apos : Pos}
end
end VS

namespace VS
open PySem PySem.Spec PyProof.Rows L2
def keyD : D → Option Key
  | .int i => some (.inl i)
  | .str x => some (.inr x)
  | _ => none
def keysL : List D → Option (List Key)
  | [] => some []
  | d :: ds => (keyD d).bind fun k => (keysL ds).map (k :: ·)
def keysD : D → Option (List Key)
  | .tuple ds => keysL ds
  | _ => none
theorem keyD_of {K : PySem.W.Frag} {F : Hp} {v : V} {d : D} {k : Key} (h : Dq K F v d) (e : keyD d = some k) : v = kV k := by
  cases h <;> cases e <;> rfl
theorem keysL_of {K : PySem.W.Frag} {F : Hp} : ∀ {ds : List D} {vs : List V} {ks : List Key}, DqA K F vs ds → keysL ds = some ks → vs = ks.map kV
  | [], _, _, .nil, h => by cases h; rfl
  | d :: ds, _, ks, .cons a b, h => by
    have h : (keyD d).bind (fun k => (keysL ds).map (k :: ·)) = some ks := h
    cases e1 : keyD d with
    | none => rw [e1] at h; cases h
    | some k =>
      rw [e1] at h
      have h : (keysL ds).map (k :: ·) = some ks := h
      cases e2 : keysL ds with
      | none => rw [e2] at h; cases h
      | some ms =>
        rw [e2] at h
        cases h
        rw [keyD_of a e1, keysL_of b e2]
        rfl
def OptOk (K : PySem.W.Frag) (F : Hp) (o : Option V) (r : Option D) : Prop := match r with
  | some z => ∃ v, o = some v ∧ Dq K F v z
  | none => o = none
section
variable {κ : Type} [DecidableEq κ]
def valK (kvs : List (κ × D)) (k : κ) : Option D := (kvs.find? fun kv => decide (kv.1 = k)).map (·.2)
def putD (kvs : List (κ × D)) (k : κ) (d : D) : List (κ × D) := if (kvs.any fun kv => decide (kv.1 = k)) = true then kvs.map (fun kv => if kv.1 = k then (kv.1, d) else kv) else kvs ++ [(k, d)]
theorem DqK.val {K : PySem.W.Frag} {F : Hp} : ∀ {vs : List (κ × V)} {ds : List (κ × D)} (k : κ), DqK K F vs ds → OptOk K F (valV vs k) (valK ds k)
  | [], [], k, .nil => rfl
  | p :: vs, q :: ds, k, .cons h r => by
    have ih := DqK.val k r
    unfold valK valV at *
    by_cases hk : q.1 = k
    · rw [List.find?_cons_of_pos (l := vs) (by simp [h.1, hk]), List.find?_cons_of_pos (l := ds) (by simp [hk])]
      exact ⟨_, rfl, h.2⟩
    · rw [List.find?_cons_of_neg (l := vs) (by simp [h.1, hk]), List.find?_cons_of_neg (l := ds) (by simp [hk])]
      exact ih
theorem DqK.any {K : PySem.W.Frag} {F : Hp} (k : κ) : ∀ {vs : List (κ × V)} {ds : List (κ × D)}, DqK K F vs ds → (vs.any fun kv => decide (kv.1 = k)) = (ds.any fun kv => decide (kv.1 = k))
  | [], [], .nil => rfl
  | p :: vs, q :: ds, .cons h r => by
    rw [List.any_cons, List.any_cons, DqK.any k r, h.1]
theorem DqK.mapk {K : PySem.W.Frag} {F : Hp} (k : κ) {v : V} {d : D} (hv : Dq K F v d) : ∀ {vs : List (κ × V)} {ds : List (κ × D)}, DqK K F vs ds → DqK K F (vs.map fun kv => if kv.1 = k then (kv.1, v) else kv) (ds.map fun kv => if kv.1 = k then (kv.1, d) else kv)
  | [], [], .nil => .nil
  | p :: vs, q :: ds, .cons h r => by
    refine .cons ?_ (DqK.mapk k hv r)
    show (if p.1 = k then (p.1, v) else p).1 = (if q.1 = k then (q.1, d) else q).1 ∧ Dq K F (if p.1 = k then (p.1, v) else p).2 (if q.1 = k then (q.1, d) else q).2
    by_cases hk : q.1 = k
    · rw [if_pos hk, if_pos (h.1.trans hk)]
      exact ⟨h.1, hv⟩
    · rw [if_neg hk, if_neg (fun z => hk (h.1.symm.trans z))]
      exact h
theorem DqK.snoc {K : PySem.W.Frag} {F : Hp} {k : κ} {v : V} {d : D} (hv : Dq K F v d) : ∀ {vs : List (κ × V)} {ds : List (κ × D)}, DqK K F vs ds → DqK K F (vs ++ [(k, v)]) (ds ++ [(k, d)])
  | [], [], .nil => .cons ⟨rfl, hv⟩ .nil
  | p :: vs, q :: ds, .cons h r => .cons h (DqK.snoc hv r)
theorem DqK.put {K : PySem.W.Frag} {F : Hp} {vs : List (κ × V)} {ds : List (κ × D)} (k : κ) {v : V} {d : D} (h : DqK K F vs ds) (hv : Dq K F v d) : DqK K F (putK vs k v) (putD ds k d) := by
  unfold putK putD
  rw [DqK.any k h]
  split
  · exact DqK.mapk k hv h
  · exact DqK.snoc hv h
theorem DqK.len {K : PySem.W.Frag} {F : Hp} : ∀ {vs : List (κ × V)} {ds : List (κ × D)}, DqK K F vs ds → vs.length = ds.length
  | [], [], .nil => rfl
  | p :: vs, q :: ds, .cons h r => congrArg (· + 1) (DqK.len r)
end
def dictAt (s : Option (Option S)) (d : D) : Option (Option D) := match s with
  | some (some (.odT kvs)) => (keysD d).map (valK kvs)
  | some (some (.odK kvs)) => (keyD d).map (valK kvs)
  | _ => none
def dictPut (s : Option (Option S)) (d e : D) : Option S := match s with
  | some (some (.odT kvs)) => if kvs.length < sizeLine then (keysD d).map fun k => .odT (putD kvs k e) else none
  | some (some (.odK kvs)) => if kvs.length < sizeLine then (keyD d).map fun k => .odK (putD kvs k e) else none
  | _ => none
section
variable {c : Ct} {n n1 n2 : Bool} {a b e : Expr} {ga gb : LS → R D} {pos p : Pos}
theorem dict_get {G F H : Hp} {ow : Addr → Option Path} {σ : L2.St} {L : LS} {i : Nat} {d : D} {y : V} {r : Option D} (Rr : c.Rl G F ow σ H L) (hd : Dq c.X.K F y d) (h : dictAt L[i]? d = some r) :
    ∃ l o, σ[i]? = some (some (.ref l)) ∧ DGet H l y o ∧ OptOk c.X.K F o r := by
  unfold dictAt at h
  split at h
  · rename_i kvs hL
    obtain ⟨v, hv, rs⟩ := Rr.sl i _ hL
    obtain ⟨ks, hk, rfl⟩ := Option.map_eq_some_iff.mp h
    cases rs with
    | odT h1 h2 h3 =>
      rename_i l vs
      unfold keysD at hk
      split at hk
      · rename_i ds
        cases hd with
        | tup t1 t2 =>
          rename_i b xs
          have ex := keysL_of t2 hk
          subst ex
          exact ⟨l, valV vs ks, hv, DGet.t h1 (Rr.exF _ _ t1), DqK.val ks h3⟩
      · cases hk
  · rename_i kvs hL
    obtain ⟨v, hv, rs⟩ := Rr.sl i _ hL
    obtain ⟨k, hk, rfl⟩ := Option.map_eq_some_iff.mp h
    cases rs with
    | odK h1 h2 h3 =>
      rename_i l vs
      have ey := keyD_of hd hk
      subst ey
      exact ⟨l, valV vs k, hv, DGet.k h1, DqK.val k h3⟩
  · cases h
theorem dict_put {G F H : Hp} {ow : Addr → Option Path} {σ : L2.St} {L : LS} {i : Nat} {d e : D} {y v : V} {s : S} (Rr : c.Rl G F ow σ H L) (hd : Dq c.X.K F y d) (he : Dq c.X.K F v e) (h : dictPut L[i]? d e = some s) :
    ∃ l H', σ[i]? = some (some (.ref l)) ∧ DPut H l y v H' ∧ c.Rl G F ow σ H' (L.set i (some s)) := by
  unfold dictPut at h
  split at h
  · rename_i kvs hL
    obtain ⟨u, hv, rs⟩ := Rr.sl i _ hL
    split at h
    · rename_i hlen
      obtain ⟨ks, hk, rfl⟩ := Option.map_eq_some_iff.mp h
      cases rs with
      | odT h1 h2 h3 =>
        rename_i l vs
        unfold keysD at hk
        split at hk
        · rename_i ds
          cases hd with
          | tup t1 t2 =>
            rename_i b xs
            have ex := keysL_of t2 hk
            subst ex
            exact ⟨l, _, hv, DPut.t h1 (Rr.exF _ _ t1) (by rw [DqK.len h3]; exact hlen), Rl.put Rr h2 ⟨_, hv, .odT upd_same h2 (DqK.put ks h3 he)⟩⟩
        · cases hk
    · cases h
  · rename_i kvs hL
    obtain ⟨u, hv, rs⟩ := Rr.sl i _ hL
    split at h
    · rename_i hlen
      obtain ⟨k, hk, rfl⟩ := Option.map_eq_some_iff.mp h
      cases rs with
      | odK h1 h2 h3 =>
        rename_i l vs
        have ey := keyD_of hd hk
        subst ey
        exact ⟨l, _, hv, DPut.k h1 (by rw [DqK.len h3]; exact hlen), Rl.put Rr h2 ⟨_, hv, .odK upd_same h2 (DqK.put k h3 he)⟩⟩
    · cases h
  · cases h
def dinK (ng : Bool) (i : Nat) (d : D) (L : LS) : R D := match dictAt L[i]? d with
  | some r => .ok (.bool (if ng then !r.isSome else r.isSome)) L
  | none => .stuck
def gDIn (ng : Bool) (i : Nat) (g : LS → R D) : LS → R D := fun L => (g L).bind (dinK ng i)
theorem optOk_some {K : PySem.W.Frag} {F : Hp} {o : Option V} {r : Option D} (h : OptOk K F o r) : o.isSome = r.isSome := by
  cases r with
  | none =>
    have h : o = none := h
    rw [h]
    rfl
  | some z =>
    obtain ⟨v, rfl, _⟩ := h
    rfl
def gDGet (i : Nat) (g : LS → R D) : LS → R D := fun L => match L[i]? with
  | some (some _) => (g L).bind fun d L1 => (match dictAt L1[i]? d with
    | some (some z) => .ok z L1
    | _ => .stuck)
  | _ => .stuck
def gDPut (i : Nat) (gk g : LS → R D) : LS → R O := fun L => (g L).bind fun e L1 => match L1[i]? with
  | some (some _) => (gk L1).bind fun d L2 => (match dictPut L2[i]? d e with
    | some s => .ok .nx (L2.set i (some s))
    | none => .stuck)
  | _ => .stuck
def gNewK : LS → R S := fun L => .ok (.odK []) L
theorem je_newK : JE c true (.Dict [] [] pos) gNewK := ⟨_, pe_dnewK, fun G F ow σ H L Rr Q q p hp => by
  obtain ⟨e, r⟩ := Rl.new (p := [0]) Rr (o := .dK []) hp
  exact q _ _ F (onAt ow p [0]) (Same.refl F) (fun _ => e) r (.odK upd_same (onAt_same _ _ _) .nil)⟩
end
end VS

namespace VS
open PySem PySem.Spec PyProof.Rows L2
section
variable {c : Ct} {n n1 n2 n3 : Bool} {a b : Expr} {ga gb : LS → R D} {ge : LS → R S} {pos : Pos} {es : List Expr} {as : List Ar}
theorem Rl.snoc {G F H : Hp} {ow : Addr → Option Path} {σ : L2.St} {L : LS} {s : S} {v : V} (Rr : c.Rl G F ow σ H L) (rs : RS c.X.K c.ca F H ow [0] s v) : c.Rl G F (reroot ow 0 (L.length + 1)) (σ ++ [some v]) H (L ++ [some s]) := by
  have hl := Rr.len
  refine Rl.moved Rr (by rw [List.length_append, List.length_append, hl]; rfl) (fun k s' h => ?_) fun k u h => ?_
  · by_cases hk : k < L.length
    · rw [List.getElem?_append_left hk] at h
      refine .inl ⟨h, ?_, Nat.succ_ne_zero k⟩
      rw [List.getElem?_append_left (by omega)]
    · have hk2 : k = L.length := by
        have := (List.getElem?_eq_some_iff.mp h).1
        rw [List.length_append] at this
        simp at this
        omega
      subst hk2
      rw [List.getElem?_append_right (Nat.le_refl _), Nat.sub_self] at h
      cases h
      refine .inr ⟨v, ?_, rs.go (Same.refl F) keeps_reroot⟩
      rw [hl, List.getElem?_append_right (Nat.le_refl _), Nat.sub_self]
      rfl
  · have := Rr.pin k u h
    have hk := (List.getElem?_eq_some_iff.mp this).1
    rw [List.getElem?_append_left hk]
    exact this
theorem AvOk.snoc {K : PySem.W.Frag} {σ : L2.St} {F : Hp} {v : V} {k : Nat} (hk : k = σ.length) : ∀ {xs : List Av} {us : List V}, AvOk K σ F xs us → AvOk K (σ ++ [some v]) F (xs ++ [.r k]) (us ++ [v])
  | [], [], .nil => .cons (by
    show (σ ++ [some v])[k]? = some (some v)
    rw [hk, List.getElem?_append_right (Nat.le_refl _), Nat.sub_self]
    rfl) .nil
  | .d d :: xs, u :: us, .cons h r => .cons h (AvOk.snoc hk r)
  | .r i :: xs, u :: us, .cons h r => .cons (by
    have h : σ[i]? = some (some u) := h
    show (σ ++ [some v])[i]? = some (some u)
    rw [List.getElem?_append_left (List.getElem?_eq_some_iff.mp h).1]
    exact h) (AvOk.snoc hk r)
end
end VS

namespace VS
open PySem PySem.Spec PyProof.Rows L2
section
variable {c : Ct} {n : Bool} {a : Expr} {ga : LS → R D} {pos p : Pos}
end
end VS

namespace VS
open PySem PySem.Spec PyProof.Rows L2
section
variable {c : Ct} {n n1 n2 n3 : Bool} {a b : Expr} {ga gb : LS → R D} {ge : LS → R S} {pos : Pos} {es : List Expr} {as : List Ar}
end
end VS

namespace VS
open PySem PySem.Spec PyProof.Rows L2
def gNever : LS → R O := fun _ => .stuck
section
variable {c : Ct} {n : Bool} {a : Expr} {gs : LS → R (List D)} {p pos : Pos}
theorem js_neverR {e : Option Expr} {cause : Option Expr} {pos : Pos} : JS c (.Raise e cause pos) gNever := js_never
end
end VS

namespace VS
open PySem PySem.Spec PyProof.Rows L2
def scal : D → Bool
  | .none => true
  | .bool _ => true
  | .int _ => true
  | .str _ => true
  | _ => false
section
variable {c : Ct} {n n1 n2 n3 : Bool} {a b : Expr} {ga gb : LS → R D} {gs : LS → R (List D)} {ge : LS → R S} {pos : Pos} {es : List Expr}
theorem Rl.more {K : PySem.W.Frag} {ca : Nat → Addr} {bh : Hp} {pn : List (Option V)} {G F H H' : Hp} {ow : Addr → Option Path} {σ : L2.St} {L : LS} (r : Rl K ca bh pn G F ow σ H L) (s : Same H H') : Rl K ca bh pn G F ow σ H' L := by
  refine ⟨r.exF.trans s, r.exG.trans s, fun a p h => ?_, r.dG, r.len, fun i s0 h => ?_, r.pin, r.exB.trans s, r.dB⟩
  · obtain ⟨x, y, z⟩ := r.dF a p h
    refine ⟨x, y, ?_⟩
    cases q : H a with
    | none => exact absurd q z.1
    | some o => rw [s a o q, ← q]; exact z
  · obtain ⟨v, q1, q2⟩ := r.sl i s0 h
    refine ⟨v, q1, q2.go (Same.refl F) fun a w h => ⟨?_, h⟩⟩
    obtain ⟨x, y, z⟩ := r.dF a _ h
    cases q : H a with
    | none => exact absurd q z.1
    | some o => rw [s a o q]
end
end VS

namespace VS
open PySem PySem.Spec PyProof.Rows L2
open PySem.W (EachIs AllAlike Sortable dataLe)
def isTup1 : D → Bool
  | .tuple (_ :: _) => true
  | _ => false
def noTup : D → Bool
  | .none => false
  | .tuple _ => false
  | _ => true
section
variable {c : Ct} {n : Bool} {a : Expr} {ga : LS → R D} {p pos : Pos} {k : Nat}
end
end VS

namespace VS
open PySem PySem.Spec PyProof.Rows L2
open PySem.W (EachIs AllAlike Sortable dataLe)
mutual
theorem reads_in {h : Heap} : ∀ {v : Value} {d : PyData} {as : List Addr}, Reads h v d as → ∀ a ∈ as, ∃ o, h.get? a = some o
  | _, _, _, .none, a, ha => by cases ha
  | _, _, _, .bool b, a, ha => by cases ha
  | _, _, _, .int i t, a, ha => by cases ha
  | _, _, _, .str x t, a, ha => by cases ha
  | _, _, _, .list h1 h2 h3 h4, a, ha => by
    rcases List.mem_cons.mp ha with rfl | ha
    · exact ⟨_, h1⟩
    · exact readsAll_in h4 a ha
  | _, _, _, .tuple h1 h2 h3 h4, a, ha => readsAll_in h4 a ha
  | _, _, _, .dict h1 h2 h3 h4 h5, a, ha => by
    rcases List.mem_append.mp ha with ha | ha
    · rcases List.mem_cons.mp ha with rfl | ha
      · exact ⟨_, h1⟩
      · exact readsAll_in h4 a ha
    · exact readsAll_in h5 a ha
theorem readsAll_in {h : Heap} : ∀ {vs : List Value} {ds : List PyData} {as : List Addr}, ReadsAll h vs ds as → ∀ a ∈ as, ∃ o, h.get? a = some o
  | _, _, _, .nil, a, ha => by cases ha
  | _, _, _, .cons h1 h2, a, ha => by
    rcases List.mem_append.mp ha with ha | ha
    · exact reads_in h1 a ha
    · exact readsAll_in h2 a ha
end
def kD : Key → D
  | .inl i => .int i
  | .inr x => .str x
end VS
namespace VS
open PySem PySem.Spec PyProof.Rows L2
open PySem.W (EachIs AllAlike Sortable dataLe)
def BX (ca : Nat → Addr) : PySem.W.Frag → Hp → Hp → (Addr → Option Path) → S → V → Prop := fun K F H ow s v => ∃ p, RS K ca F H ow p s v
def JX (c : Ct) (n : Bool) (e : Expr) (g : LS → R S) : Prop := ∃ t, PE c.X e t ∧ Jdg c n g (BX c.ca) t
def gLk (i : Nat) : LS → R S := fun L => match L[i]? with
  | some (some s) => if s.own = true then .ok s L else .stuck
  | _ => .stuck
section
variable {c : Ct} {n : Bool} {a : Expr} {ga : LS → R S} {p pos : Pos} {k : Nat}
def gOnS {α : Type} (f : S → Option α) (g : LS → R S) : LS → R α := fun L => (g L).bind fun s L1 => ofO (f s) L1
end
end VS

namespace VS
open PySem PySem.Spec PyProof.Rows L2
section
variable {c : Ct} {n : Bool} {a : Expr} {ga : LS → R D} {p pos : Pos}
def extL (i : Nat) (es : List D) (L : LS) : R S := match L[i]? with
  | some (some (.ol ds)) => if ds.length + es.length ≤ sizeLine then .ok (.d .none) (L.set i (some (.ol (ds ++ es)))) else .stuck
  | _ => .stuck
def extK (i : Nat) : D → LS → R S
  | .list es, L => extL i es L
  | _, _ => .stuck
def gExt (i : Nat) (g : LS → R D) : LS → R S := gOwnL i fun _ L => (g L).bind (extK i)
theorem je_extend (i : Nat) {x : Str} {apos : Pos} (h : PE c.X (.Name x p) (tVar i)) (ha : JD c n a ga)
    (hbase : attributeBase (.Name x p) "extend" c.X.env (eval (.Name x p) c.X.env) = eval (.Name x p) c.X.env := by rfl)
    (hfew : ((backTo pos (starEach [a] c.X.env)).all (fun x => !x.1) && (backToKw pos (keywordEach [] c.X.env)).all (fun x => x.1.isSome) && decide ([a].length + ([] : List Keyword).length + (if ([] : List Keyword).isEmpty then 0 else 1) < 30)) = true := by rfl)
    (hline : (apos.endLine == pos.line) = true := by rfl) (hs : starEach [a] c.X.env = (false, eval a c.X.env) :: starEach [] c.X.env := by rfl) (hplain : (backTo pos (starEach [] c.X.env)).any (·.1) = false := by rfl) :
    JE c false (.Call (.Attribute (.Name x p) "extend" apos) [a] [] pos) (gExt i ga) := by
  obtain ⟨ta, pa, qa⟩ := ha
  refine ⟨_, pe_bm PySem.F.plainAttrs_list PySem.F.slot_list_extend PySem.F.type_list_extend mt_extend h (pa_cons pa pa_nil hs) hbase hfew hline hs hplain, fun G F ow σ H L Rr => ?_⟩
  unfold gExt gOwnL
  cases hL : L[i]? with
  | none => trivial
  | some o =>
    cases o with
    | none => trivial
    | some s =>
      cases s with
      | ol ds0 =>
        obtain ⟨l, vs0, hv, h0, _, _⟩ := ownL_at Rr hL
        have key := (qa G F ow σ H L Rr).bind (n2 := false) (k := extK i) (B2 := BE c.ca c.X.K) (t2 := fun y H1 Q => rExtend (.ref l) [y] H1 Q)
          fun d L1 v H1 F1 ow1 _ _ _ R1 b1 => by
            cases b1 with
            | @lst l2 us es w1 w2 =>
              show Post c G false F1 H1 σ (extL i es L1) (BE c.ca c.X.K) _
              unfold extL
              cases hL1 : L1[i]? with
              | none => trivial
              | some o =>
                cases o with
                | none => trivial
                | some s =>
                  cases s with
                  | ol ds =>
                    obtain ⟨l', vs, hv', h1, h2, h3⟩ := ownL_at R1 hL1
                    rw [hv] at hv'
                    cases hv'
                    refine Post.guard fun hz => ?_
                    intro Q q
                    exact ⟨l, l2, vs, us, rfl, rfl, h1, R1.exF _ _ w1, by rw [h3.len, w2.len]; exact hz, q _ _ F1 ow1 (Same.refl F1) (fun z => nomatch z) (Rl.putL R1 hv h2 (h3.append w2)) (.d .non)⟩
                  | _ => trivial
            | _ => trivial
        rw [Bool.and_false] at key
        exact key.imp fun Q q => ⟨_, hv, .inl ⟨rfl, _, .of h0⟩, q⟩
      | _ => trivial
def gDGetN (i : Nat) (g : LS → R D) : LS → R D := fun L => match L[i]? with
  | some (some (.odT _)) => (g L).bind fun d L1 => (match dictAt L1[i]? d with
    | some r => .ok (r.getD .none) L1
    | none => .stuck)
  | some (some (.odK _)) => (g L).bind fun d L1 => (match dictAt L1[i]? d with
    | some r => .ok (r.getD .none) L1
    | none => .stuck)
  | _ => .stuck
end
end VS

namespace VS
open PySem PySem.Spec PyProof.Rows
section
variable {prog : Program} {w : World} {A : Around} {R : Result → Shared → Prop} {I : Addr} {fp wr : List Addr} {G : Array GenState → Array GenState → Prop} {n : Nat} {P : Nat → Value → Prop} {St : Nat → Shared → Prop}
end
end VS
namespace VS
open PySem PySem.Spec PyProof.Rows
section
variable {prog : Program} {w : World} {A : Around} {E : Value → Shared → Prop} {s : Shared}
end
end VS

namespace VS
open PySem PySem.Spec PyProof.Rows L2
end VS

namespace VS
open PySem PySem.Spec PyProof.Rows L2
section
variable {K : PySem.W.Frag} {ca : Nat → Addr} {bh : Hp} {pn : List (Option V)} {G F H : Hp} {ow : Addr → Option Path} {σ : L2.St} {L : LS}
end
section
variable {c : Ct} {n : Bool} {a : Expr} {ge ga : LS → R S} {gb : LS → R D} {p pos cpos apos tpos : Pos} {k : Nat} {elts : List Expr} {kk : Nat}
def sLen : S → Option D
  | .odK kvs => some (.int (kvs.length : Nat))
  | .odT kvs => some (.int (kvs.length : Nat))
  | _ => none
theorem jd_dlen (hg : Gl c.X "len") (hm : c.X.mg "len" = none) (ha : JX c n a ga) (hs : starEach [a] c.X.env = (false, eval a c.X.env) :: starEach [] c.X.env := by rfl) : JD c n (.Call (.Name "len" p) [a] [] pos) (gOnS sLen ga) := by
  obtain ⟨ta, pa, qa⟩ := ha
  have two : CallR c.X (.builtin "len") (fun xs H Q => (∃ a kvs, xs = [V.ref a] ∧ H a = some (.dK kvs) ∧ Q (.int kvs.length) H) ∨ (∃ (p : Addr) (kvs : List (List Key × V)), xs = [.ref p] ∧ H p = some (.dT kvs) ∧ Q (.int ((kvs.length : Nat) : Int)) H)) := by
    intro pins s σ H xs us Q I r h
    rcases h with h | h
    · exact call_lenD pins s σ H xs us Q I r h
    · exact call_len_dT pins s σ H xs us Q I r h
  refine ⟨_, pe_callB two hg hm (by decide +kernel) (pa_cons pa pa_nil hs) (by decide) (by decide) hs rfl, fun G F ow σ H L Rr => ?_⟩
  have key := (qa G F ow σ H L Rr).bind (n2 := true) (B2 := BD c.X.K) (k := fun s L1 => ofO (sLen s) L1) (t2 := fun v H1 (Q : VK) => (∃ a kvs, [v] = [V.ref a] ∧ H1 a = some (.dK kvs) ∧ Q (.int kvs.length) H1) ∨ (∃ (p : Addr) (kvs : List (List Key × V)), [v] = [V.ref p] ∧ H1 p = some (.dT kvs) ∧ Q (.int ((kvs.length : Nat) : Int)) H1)) fun s L1 v H1 F1 ow1 _ _ _ R1 b1 => ?_
  · rw [Bool.and_true] at key
    exact key
  · obtain ⟨pp, rs⟩ := b1
    cases rs with
    | @odT _ l vs ds w1 w2 w3 =>
      have e := DqK.len w3
      refine (Post.val (a := PyData.int (ds.length : Nat)) (b := V.int (vs.length : Nat)) (B := BD c.X.K) R1 ?_).imp fun Q q => .inr ⟨l, vs, rfl, w1, q⟩
      rw [e]
      exact .int _
    | @odK _ l vs ds w1 w2 w3 =>
      have e := DqK.len w3
      refine (Post.val (a := PyData.int (ds.length : Nat)) (b := V.int (vs.length : Nat)) (B := BD c.X.K) R1 ?_).imp fun Q q => .inl ⟨l, vs, rfl, w1, q⟩
      rw [e]
      exact .int _
    | _ => trivial
end
end VS

namespace VS
open PySem PySem.Spec PyProof.Rows L2
section
variable {K : PySem.W.Frag} {ca : Nat → Addr} {bh : Hp} {pn : List (Option V)} {G F H : Hp} {ow : Addr → Option Path} {σ : L2.St} {L : LS} {l : Addr} {o : HO}
end
section
variable {c : Ct} {n n2 : Bool} {a b : Expr} {ga gb : LS → R D} {pos : Pos}
end
end VS

namespace VS
open PySem PySem.Spec PyProof.Rows L2
def frzL (i : Nat) (L : LS) : LS := match L[i]? with
  | some (some (.ol ds)) => L.set i (some (.d (.list ds)))
  | _ => L
def gFrz (i : Nat) (g : LS → R O) : LS → R O := fun L => g (frzL i L)
theorem js_frz {c : Ct} {st : Stmt} {g : LS → R O} (i : Nat) (h : JS c st g) : JS c st (gFrz i g) := by
  obtain ⟨t, p, q⟩ := h
  refine ⟨t, p, fun G F ow σ H L Rr E ft => ?_⟩
  have keep : frzL i L = L → t E σ H := fun e => by
    unfold gFrz at ft
    rw [e] at ft
    exact q G F ow σ H L Rr E ft
  cases hL : L[i]? with
  | none => exact keep (by unfold frzL; rw [hL])
  | some o =>
    cases o with
    | none => exact keep (by unfold frzL; rw [hL])
    | some s =>
      cases s with
      | ol ds =>
        obtain ⟨v, hv, rs⟩ := Rr.sl i _ hL
        cases rs with
        | ol a b q2 =>
          obtain ⟨e, r'⟩ := Rr.frz (L' := L.set i (some (.d (.list ds)))) a b (List.length_set ..) (fun j s' h' => by
            rcases set_get h' with ⟨rfl, hs⟩ | ⟨hj, hs⟩
            · cases Option.some.inj hs
              exact .inr ⟨_, hv, .d (.lst upd_same (q2.up (upd_same_of (Rr.dF _ _ b).1)))⟩
            · exact .inl ⟨hs, fun q z => hj (by injection z with z _; omega)⟩)
          refine q G _ _ σ H _ r' E (Fit.up e ?_)
          unfold gFrz frzL at ft
          rw [hL] at ft
          exact ft
      | _ => exact keep (by unfold frzL; rw [hL])
end VS

namespace VS
open PySem PySem.Spec PyProof.Rows L2
section
variable {c : Ct} {n n1 n2 : Bool} {a b e : Expr} {es : List Expr} {ga gb : LS → R D} {gs : LS → R (List D)} {pos p p2 apos : Pos} {k : Nat}
end
end VS

namespace PySem
open Sem (wp)
open AutoSeq1 (wpAny_loadPart')
section
variable {prog : Program} {w : World} {A : Around} {E : Value → Shared → Prop} {s : Shared}
end
end PySem
namespace L2
open PySem PySem.Spec PyProof.Rows
section
variable {X : Cx} {e : Expr} {te : St → Hp → (Int → Int → Hp → Prop) → Prop}
end
end L2
namespace VS
open PySem PySem.Spec PyProof.Rows L2
section
variable {c : Ct} {n : Bool} {a : Expr} {gb : LS → R D} {p pos : Pos}
end
end VS

namespace VS
open PySem PySem.Spec PyProof.Rows L2
end VS
namespace VS
def subB : List Bool → List Bool → Bool
  | [], _ => true
  | true :: ps, true :: ms => subB ps ms
  | false :: ps, _ :: ms => subB ps ms
  | _, _ => false
theorem subB_at : ∀ {ps ms : List Bool}, subB ps ms = true → ∀ k : Nat, ps[k]? = some true → ms[k]? = some true
  | [], _, _, _, h => by cases h
  | true :: ps, true :: ms, _, 0, _ => rfl
  | true :: ps, true :: ms, h, k + 1, h2 => subB_at (ps := ps) (ms := ms) h k h2
  | true :: ps, false :: ms, h, _, _ => by cases h
  | true :: ps, [], h, _, _ => by cases h
  | false :: ps, _ :: ms, _, 0, h2 => by cases h2
  | false :: ps, _ :: ms, h, k + 1, h2 => subB_at (ps := ps) (ms := ms) h k h2
  | false :: ps, [], h, _, _ => by cases h
end VS

namespace VS
open PySem PySem.Spec PyProof.Rows L2
def PSl (c : Ct) (j : Nat) (e : Expr) : Prop := ∃ te : TE, PE c.X e te ∧ ∀ {G F H : Hp} {ow : Addr → Option Path} {σ : L2.St} {L : LS} {v : V}, c.Rl G F ow σ H L → σ[j]? = some (some v) → ∀ Q : VK, Q v H → te σ H Q
structure ObAt (c : Ct) (i C : Nat) (fl : List (Str × Nat)) : Prop where
  ex : ∃ a dx vs, c.B a = some (.ins (c.ca C) dx vs) ∧ c.pb[i]? = some true ∧ c.v0[i]? = some (.ref a) ∧ vs.map (·.1) = fl.map (·.1) ∧ ∀ f j, fl.lookup f = some j → ∃ v, vs.lookup f = some v ∧ c.pb[j]? = some true ∧ c.v0[j]? = some v
section
variable {c : Ct} {n n1 n2 : Bool} {a b e e0 : Expr} {ga gb : LS → R D} {pos p apos : Pos} {i j k : Nat} {es : List Expr}
theorem psl_var {x : Str} (h : PE c.X (.Name x p) (tVar i)) : PSl c i (.Name x p) := ⟨_, h, fun _ hv Q q => ⟨_, hv, q⟩⟩
theorem psl_fld {C : Nat} {fl : List (Str × Nat)} {f : Str} (o : ObAt c i C fl) (hf : fl.lookup f = some j) (hC : Cls c.X.K (c.ca C)) (hn : NoAttr c.X.K (c.ca C) f) (h : PSl c i e)
    (hb : attributeBase e f c.X.env (eval e c.X.env) = eval e c.X.env := by rfl) : PSl c j (.Attribute e f pos) := by
  obtain ⟨te, h1, h2⟩ := h
  refine ⟨_, pe_fld h1 hb, fun {G F H ow σ L v} Rr hv Q q => ?_⟩
  obtain ⟨a, dx, vs, o1, o2, o3, _, o4⟩ := o.ex
  obtain ⟨v', f1, f2, f3⟩ := o4 f j hf
  have e1 := Rr.pin i _ (pinOf_at o2 o3)
  have e2 := Rr.pin j _ (pinOf_at f2 f3)
  rw [hv] at e2
  cases e2
  exact h2 Rr e1 _ ⟨a, c.ca C, dx, vs, v, rfl, Rr.exB a _ o1, hC, hn, f1, q⟩
theorem jx_fld (h : PSl c i e) : JX c true e (gLk i) := by
  obtain ⟨te, h, hte⟩ := h
  refine ⟨_, h, fun G F ow σ H L Rr => ?_⟩
  unfold gLk
  cases hL : L[i]? with
  | none => trivial
  | some o =>
    cases o with
    | none => trivial
    | some s =>
      obtain ⟨v, hv, rs⟩ := Rr.sl i s hL
      refine Post.guard fun hs => ?_
      exact (Post.val (b := v) (B := BX c.ca c.X.K) Rr ⟨_, rs.rs hs⟩).imp fun Q q => hte Rr hv _ q
theorem jd_dinF (hr : Room k c.X.A) (h : PSl c i e0) (ha : JD c n a ga) (hm : behindInMarks .In e0 = false := by rfl) : JD c n (.Compare a [.In] [e0] pos) (gDIn false i ga) := by
  obtain ⟨ta, pa, qa⟩ := ha
  obtain ⟨te, h, hte⟩ := h
  refine ⟨_, pe_cmp (pc_din (by have := hr.un; omega) pa h) hm, fun G F ow σ H L Rr => ?_⟩
  refine (qa G F ow σ H L Rr).bind1 (k := dinK false i) (B2 := BD c.X.K) (t2 := fun y H1 Q => te σ H1 fun x H2 => ∃ a o, x = .ref a ∧ DGet H2 a y o ∧ Q (V.bl o.isSome) H2) fun d L1 y H1 F1 ow1 _ _ _ R1 b1 => ?_
  unfold dinK
  cases hr : dictAt L1[i]? d with
  | none => trivial
  | some r =>
    obtain ⟨l, o, h1, h2, h3⟩ := dict_get R1 b1 hr
    have ho := optOk_some h3
    exact (Post.val (a := PyData.bool r.isSome) (b := V.bl o.isSome) (B := BD c.X.K) R1 (by rw [ho]; exact Dq.bl _)).imp fun Q q => hte R1 h1 _ ⟨l, o, rfl, h2, q⟩
theorem jd_dgetF (hr : Room k c.X.A) (h : PSl c i e0) (ha : JD c n a ga) (hs : NoSl a := by exact fun _ _ => rfl) : JD c n (.Subscript e0 a pos) (gDGet i ga) := by
  obtain ⟨ta, pa, qa⟩ := ha
  obtain ⟨te, h, hte⟩ := h
  refine ⟨_, pe_dget (by have := hr.un; omega) h pa hs, fun G F ow σ H L Rr => ?_⟩
  unfold gDGet
  cases hL : L[i]? with
  | none => trivial
  | some o =>
    cases o with
    | none => trivial
    | some s =>
      obtain ⟨u, hu, _⟩ := Rr.sl i s hL
      have key := (qa G F ow σ H L Rr).bind1 (k := fun d L1 => (match dictAt L1[i]? d with
        | some (some z) => R.ok z L1
        | _ => .stuck)) (B2 := BD c.X.K) (t2 := fun y H1 Q => ∃ a v, u = .ref a ∧ DGet H1 a y (some v) ∧ Q v H1) fun d L1 y H1 F1 ow1 _ _ _ R1 b1 => by
          cases hr : dictAt L1[i]? d with
          | none => trivial
          | some r =>
            cases r with
            | none => trivial
            | some z =>
              obtain ⟨l, o, h1, h2, v, rfl, h3⟩ := dict_get R1 b1 hr
              rw [hu] at h1
              cases h1
              exact (Post.val R1 h3).imp fun Q q => ⟨l, v, rfl, h2, q⟩
      exact key.imp fun Q q => hte Rr hu _ q
theorem jd_dgetNF (hr : Room k c.X.A) (h : PSl c i e0) (ha : JD c n a ga) (m : M1 c.X e0 "get" apos a pos := by exact ⟨rfl, rfl, rfl, rfl⟩) : JD c n (.Call (.Attribute e0 "get" apos) [a] [] pos) (gDGetN i ga) := by
  obtain ⟨ta, pa, qa⟩ := ha
  obtain ⟨te, h, hte⟩ := h
  refine ⟨_, pe_dget1 (by have := hr.un; omega) h pa m, fun G F ow σ H L Rr => ?_⟩
  have step : ∀ (u : V) (l : Addr), u = .ref l → σ[i]? = some (some u) → IsD H l → Post c G n F H σ ((ga L).bind fun d L1 => (match dictAt L1[i]? d with
      | some r => R.ok (r.getD .none) L1
      | none => .stuck)) (BD c.X.K) (tDGet1 te ta σ H) := fun u l hul hu hd => by
    subst hul
    have key := (qa G F ow σ H L Rr).bind1 (k := fun d L1 => (match dictAt L1[i]? d with
      | some r => R.ok (r.getD .none) L1
      | none => .stuck)) (B2 := BD c.X.K) (t2 := fun y H1 Q => ∃ o, DGet H1 l y o ∧ Q (o.getD .non) H1) fun d L1 y H1 F1 ow1 _ _ _ R1 b1 => by
        cases hr : dictAt L1[i]? d with
        | none => trivial
        | some r =>
          obtain ⟨l', o, h1, h2, h3⟩ := dict_get R1 b1 hr
          rw [hu] at h1
          cases h1
          cases r with
          | none =>
            have h3 : o = none := h3
            subst h3
            exact (Post.val (a := PyData.none) (b := V.non) (B := BD c.X.K) R1 .non).imp fun Q q => ⟨none, h2, q⟩
          | some z =>
            obtain ⟨v, rfl, h3⟩ := h3
            exact (Post.val (a := z) (b := v) (B := BD c.X.K) R1 h3).imp fun Q q => ⟨some v, h2, q⟩
    exact key.imp fun Q q => hte Rr hu _ ⟨l, rfl, hd, q⟩
  unfold gDGetN
  cases hL : L[i]? with
  | none => trivial
  | some o =>
    cases o with
    | none => trivial
    | some s =>
      obtain ⟨u, hu, rs⟩ := Rr.sl i s hL
      cases s with
      | odT d =>
        cases rs with
        | odT h1 h2 h3 => exact step _ _ rfl hu (.inr ⟨_, .inl h1⟩)
      | odK d =>
        cases rs with
        | odK h1 h2 h3 => exact step _ _ rfl hu (.inl ⟨_, .inl h1⟩)
      | _ => trivial
theorem js_dputF {p3 : Pos} (hr : Room k c.X.A) (h : PSl c i e0) (hk : JD c n1 b gb) (ha : JD c n2 a ga)
    (hs : swapsWith a (some (.Subscript e0 b p3)) pos.line c.X.env = pure false := by rfl) : JS c (.Assign [.Subscript e0 b p3] a pos) (gDPut i gb ga) := by
  obtain ⟨ta, pa, qa⟩ := ha
  obtain ⟨tb, pb, qb⟩ := hk
  obtain ⟨te, h, hte⟩ := h
  refine ⟨_, ps_dput (by have := hr.un; omega) h pb pa hs, fun G F ow σ H L Rr E ft => ?_⟩
  refine (qa G F ow σ H L Rr).use ft fun e L1 v H1 F1 ow1 _ _ R1 b1 f1 => ?_
  cases hL : L1[i]? with
  | none => rw [hL] at f1; exact f1.elim
  | some o =>
    rw [hL] at f1
    cases o with
    | none => exact f1.elim
    | some s =>
      obtain ⟨u, hu, _⟩ := R1.sl i s hL
      refine hte R1 hu _ ?_
      refine (qb G F1 ow1 σ H1 L1 R1).use f1 fun d L2 y H2 F2 ow2 _ e2 R2 b2 f2 => ?_
      cases hd : dictPut L2[i]? d e with
      | none => rw [hd] at f2; exact f2.elim
      | some s2 =>
        rw [hd] at f2
        obtain ⟨l, H3, h1, h2, R3⟩ := dict_put R2 b2 (b1.up e2) hd
        rw [hu] at h1
        cases h1
        exact ⟨l, H3, rfl, h2, f2 σ H3 F2 ow2 (Same.refl F2) R3⟩
theorem je_appendF (h : PSl c i e0) (ha : JD c n a ga)
    (hbase : attributeBase e0 "append" c.X.env (eval e0 c.X.env) = eval e0 c.X.env := by rfl)
    (hfew : ((backTo pos (starEach [a] c.X.env)).all (fun x => !x.1) && (backToKw pos (keywordEach [] c.X.env)).all (fun x => x.1.isSome) && decide ([a].length + ([] : List Keyword).length + (if ([] : List Keyword).isEmpty then 0 else 1) < 30)) = true := by rfl)
    (hline : (apos.endLine == pos.line) = true := by rfl) (hs : starEach [a] c.X.env = (false, eval a c.X.env) :: starEach [] c.X.env := by rfl) (hplain : (backTo pos (starEach [] c.X.env)).any (·.1) = false := by rfl) :
    JE c false (.Call (.Attribute e0 "append" apos) [a] [] pos) (gApp i ga) := by
  obtain ⟨ta, pa, qa⟩ := ha
  obtain ⟨te, h, hte⟩ := h
  refine ⟨_, pe_bm PySem.F.plainAttrs_list PySem.F.slot_list_append PySem.F.type_list_append mt_append h (pa_cons pa pa_nil hs) hbase hfew hline hs hplain, fun G F ow σ H L Rr => ?_⟩
  unfold gApp gOwnL
  cases hL : L[i]? with
  | none => trivial
  | some o =>
    cases o with
    | none => trivial
    | some s =>
      cases s with
      | ol ds0 =>
        obtain ⟨l, vs0, hv, h0, _, _⟩ := ownL_at Rr hL
        have key := (qa G F ow σ H L Rr).bind (n2 := false) (k := fun d L1 => gOwnL i (fun ds L2 => if ds.length < sizeLine then R.ok (S.d .none) (L2.set i (some (.ol (ds ++ [d])))) else .stuck) L1) (B2 := BE c.ca c.X.K) (t2 := fun y H1 Q => rAppend (.ref l) [y] H1 Q)
          fun d L1 v H1 F1 ow1 _ _ _ R1 b1 => by
            unfold gOwnL
            cases hL1 : L1[i]? with
            | none => trivial
            | some o =>
              cases o with
              | none => trivial
              | some s =>
                cases s with
                | ol ds =>
                  obtain ⟨l', vs, hv', h1, h2, h3⟩ := ownL_at R1 hL1
                  rw [hv] at hv'
                  cases hv'
                  refine Post.guard fun hz => ?_
                  intro Q q
                  exact ⟨l, vs, v, rfl, rfl, h1, by rw [h3.len]; exact hz, q _ _ F1 ow1 (Same.refl F1) (fun z => nomatch z) (Rl.putL R1 hv h2 (h3.append (.one b1))) (.d .non)⟩
                | _ => trivial
        rw [Bool.and_false] at key
        exact key.imp fun Q q => hte Rr hv _ ⟨.inl ⟨rfl, _, .of h0⟩, q⟩
      | _ => trivial
end
end VS

namespace VS
open PySem PySem.Spec PyProof.Rows L2
section
variable {K : PySem.W.Frag} {ca : Nat → Addr} {bh : Hp} {pn : List (Option V)} {G F H : Hp} {ow : Addr → Option Path} {σ : L2.St} {L : LS}
theorem Rl.lock {l : Addr} {vs : List V} {j : Nat} (r : Rl K ca bh pn G F ow σ H L) (hl : H l = some (.lst vs)) (ho : ow l = some [j + 1]) : Rl K ca bh pn (upd G l (.lst vs)) F (offAt ow l) σ H (L.set j none) := by
  obtain ⟨f0, g0, h0⟩ := r.dF l _ ho
  refine ⟨r.exF, fun a o h => ?_, fun a p h => ?_, fun a o h => ?_, by rw [List.length_set]; exact r.len, fun k s h => ?_, r.pin, r.exB, fun a p h => ?_⟩
  · by_cases z : a = l
    · subst z
      rw [upd_same] at h
      cases h
      exact hl
    · rw [upd_ne z] at h
      exact r.exG a o h
  · by_cases z : a = l
    · subst z
      rw [offAt_same] at h
      cases h
    · rw [offAt_ne z] at h
      obtain ⟨x, y, w⟩ := r.dF a p h
      exact ⟨x, by rw [upd_ne z]; exact y, w⟩
  · have z : a ≠ l := ne_of_none h f0
    rw [upd_ne z]
    exact r.dG a o h
  · rcases set_get h with ⟨_, h1⟩ | ⟨h1, h2⟩
    · cases h1
    · obtain ⟨v, q1, q2⟩ := r.sl k s h2
      refine ⟨v, q1, q2.go (Same.refl F) (keeps_off fun q z => ?_)⟩
      rw [ho] at z
      injection z with z
      injection z with z _
      omega
  · by_cases z : a = l
    · subst z
      rw [offAt_same] at h
      cases h
    · rw [offAt_ne z] at h
      exact r.dB a p h
theorem Rl.unlock {l : Addr} {vs : List V} {ds : List D} {j : Nat} (r : Rl K ca bh pn (upd G l (.lst vs)) F ow σ H L) (g0 : G l = none) (b0 : bh l = none) (hv : σ[j]? = some (some (.ref l))) (q : DqA K F vs ds) :
    Rl K ca bh pn G F (onAt ow l [j + 1]) σ H (L.set j (some (.ol ds))) ∧ ∀ {s : S} {v : V}, RS K ca F H ow [0] s v → RS K ca F H (onAt ow l [j + 1]) [0] s v := by
  have hl : H l = some (.lst vs) := r.exG l _ upd_same
  have f0 : F l = none := by
    cases z : F l with
    | none => rfl
    | some o =>
      rcases r.dG l o z with w | w
      · rw [upd_same] at w
        cases w
      · have := r.exF l o z
        rw [hl] at this
        cases this
        exact absurd w kT_lst
  have o0 : ow l = none := by
    cases z : ow l with
    | none => rfl
    | some p =>
      have := (r.dF l p z).2.1
      rw [upd_same] at this
      cases this
  have kp : ∀ p : Path, Keeps H H ow (onAt ow l [j + 1]) p p := fun p a q h => ⟨rfl, by
    have z : a ≠ l := fun z => by
      subst z
      rw [o0] at h
      cases h
    rw [onAt_ne z]
    exact h⟩
  have hjl : j < L.length := by
    rw [r.len]
    exact (List.getElem?_eq_some_iff.mp hv).1
  refine ⟨⟨r.exF, fun a o h => ?_, fun a p h => ?_, fun a o h => ?_, by rw [List.length_set]; exact r.len, fun k s h => ?_, r.pin, r.exB, fun a p h => ?_⟩, fun {s v} h => h.go (Same.refl F) (kp _)⟩
  · have z : a ≠ l := ne_of_none h g0
    exact r.exG a o (by rw [upd_ne z]; exact h)
  · by_cases z : a = l
    · subst z
      exact ⟨f0, g0, by rw [hl]; exact .of kT_lst⟩
    · rw [onAt_ne z] at h
      obtain ⟨x, y, w⟩ := r.dF a p h
      exact ⟨x, by rw [upd_ne z] at y; exact y, w⟩
  · have z : a ≠ l := ne_of_none h f0
    have := r.dG a o h
    rw [upd_ne z] at this
    exact this
  · rcases set_get h with ⟨rfl, h1⟩ | ⟨h1, h2⟩
    · cases h1
      exact ⟨_, hv, .ol hl (onAt_same ..) q⟩
    · obtain ⟨v, q1, q2⟩ := r.sl k s h2
      exact ⟨v, q1, q2.go (Same.refl F) (kp _)⟩
  · by_cases z : a = l
    · subst z
      exact b0
    · rw [onAt_ne z] at h
      exact r.dB a p h
end
def unlR (j : Nat) (ds : List D) : R O → R O
  | .ok o L => .ok o (L.set j (some (.ol ds)))
  | .err e L => .err e (L.set j (some (.ol ds)))
  | .stuck => .stuck
def gForO (j : Nat) (f : D → LS → Option LS) (g : LS → R O) : LS → R O := fun L => match L[j]? with
  | some (some (.ol ds)) => unlR j ds (forGo f g ds (L.set j none))
  | _ => .stuck
theorem js_forF {c : Ct} {tg iter : Expr} {body : List Stmt} {pos : Pos} {ws : List Nat} {j : Nat} {f : D → LS → Option LS} {g : LS → R O} (hp : PassesOwn (model c.X.prog c.X.w) c.X.A c.X.env c.X.xe) (hc : c.X.calm = true) (h : PSl c j iter) (hpin : c.pb[j]? = some true) (hlt : j < c.v0.length) (hg : JG c tg ws f) (hb : JB c body g)
    (hs : ∀ x, foldedSetIterable iter c.X.env x = pure x := by intro _; rfl) : JS c (.For tg iter body [] pos) (gForO j f g) := by
  obtain ⟨te, p1, hte⟩ := h
  obtain ⟨tt, p2, q2⟩ := hg
  obtain ⟨tb, p3, q3⟩ := hb
  refine ⟨_, ps_for hp hc (pi_list p1) p2 p3 hs, fun G F ow σ H L Rr E ft => ?_⟩
  unfold gForO at ft
  cases hL : L[j]? with
  | none => rw [hL] at ft; exact ft.elim
  | some o =>
  rw [hL] at ft
  cases o with
  | none => exact ft.elim
  | some s =>
  cases s with
  | ol ds =>
    have ft : Fit c G F (unlR j ds (forGo f g ds (L.set j none))) E := ft
    obtain ⟨l, vs, hv, hl, ho, q⟩ := ownL_at Rr hL
    obtain ⟨f0, g0, n0⟩ := Rr.dF l _ ho
    have b0 := Rr.dB l _ ho
    have hv0 : c.v0[j]? = some (.ref l) := by
      have h1 := Rr.pin j c.v0[j] (pinOf_at hpin (List.getElem?_eq_getElem hlt))
      rw [hv] at h1
      rw [List.getElem?_eq_getElem hlt]
      exact congrArg some (Option.some.inj (Option.some.inj h1)).symm
    have hpn : (pinOf c.pb c.v0)[j]? = some (some (.ref l)) := pinOf_at hpin hv0
    have R0 := Rr.lock hl ho
    refine hte Rr hv _ ⟨l, rfl, ⟨vs, .of hl⟩, ?_⟩
    -- what is there behind it
    have un : ∀ {σ' : L2.St} {H' F' : Hp} {ow' : Addr → Option Path} {L' : LS}, Same F F' → c.Rl (upd G l (.lst vs)) F' ow' σ' H' L' → c.Rl G F' (onAt ow' l [j + 1]) σ' H' (L'.set j (some (.ol ds))) ∧ ∀ {s : S} {v : V}, RS c.X.K c.ca F' H' ow' [0] s v → RS c.X.K c.ca F' H' (onAt ow' l [j + 1]) [0] s v := fun e r => r.unlock g0 b0 (r.pin j _ hpn) (q.up e)
    refine ⟨fun i m σ H => m = ds.length - i ∧ i ≤ ds.length ∧ ∃ F' ow' L', Same F F' ∧ c.Rl (upd G l (.lst vs)) F' ow' σ H L' ∧ Fit c G F' (unlR j ds (forGo f g (ds.drop i) L')) E, ⟨ds.length, rfl, Nat.zero_le _, F, _, _, Same.refl F, R0, ft⟩, fun i m σ2 H2 hW => ?_⟩
    obtain ⟨rfl, hi, F2, ow2, L2, e2, R2, f2⟩ := hW
    have hl2 : H2 l = some (.lst vs) := R2.exG l _ upd_same
    by_cases hlt : i < ds.length
    · have hd : ds[i]? = some ds[i] := List.getElem?_eq_getElem hlt
      obtain ⟨v, hvi, hvd⟩ := (q.up e2).get hd
      rw [List.drop_eq_getElem_cons hlt] at f2
      refine .inr ⟨⟨vs, v, .of hl2, hvi⟩, fun σ' H' => ∃ F' ow' L', Same F F' ∧ c.Rl (upd G l (.lst vs)) F' ow' σ' H' L' ∧ Fit c G F' (unlR j ds (forGo f g (ds.drop (i + 1)) L')) E, fun σ' H' ⟨F', ow', L', w1, w2, w3⟩ => ⟨ds.length - (i + 1), by omega, rfl, hlt, F', ow', L', w1, w2, w3⟩, fun x H' y => ?_⟩
      obtain ⟨rfl, hx⟩ := y
      have hxv := hx vs (.of hl2)
      rw [hvi] at hxv
      cases hxv
      unfold forGo at f2
      cases hf : f ds[i] L2 with
      | none => rw [hf] at f2; exact f2.elim
      | some L3 =>
        rw [hf] at f2
        refine q2 (upd G l (.lst vs)) F2 ow2 σ2 _ L2 _ _ L3 R2 hvd hf _ fun σ4 _ R4 => ?_
        refine q3 (upd G l (.lst vs)) F2 ow2 σ4 _ L3 R4 _ ?_
        dsimp only at f2
        cases hr : g L3 with
        | stuck => rw [hr] at f2; exact f2.elim
        | err k L4 =>
          rw [hr] at f2
          exact fun σ' H' F' ow' e' R' => f2 σ' H' F' _ e' (un (e2.trans e') R').1
        | ok o L4 =>
          rw [hr] at f2
          cases o with
          | nx => exact fun σ' H' F' ow' e' R' => ⟨F', ow', L4, e2.trans e', R', Fit.up e' f2⟩
          | ct => exact fun σ' H' F' ow' e' R' => ⟨F', ow', L4, e2.trans e', R', Fit.up e' f2⟩
          | bk => exact fun σ' H' F' ow' e' R' => f2 σ' H' F' _ e' (un (e2.trans e') R').1
          | rt s => exact fun w σ' H' F' ow' e' R' rs => f2 w σ' H' F' _ e' (un (e2.trans e') R').1 ((un (e2.trans e') R').2 rs)
    · have hle : ds.length ≤ i := Nat.le_of_not_lt hlt
      rw [List.drop_eq_nil_of_le hle] at f2
      exact .inl ⟨⟨vs, .of hl2, by rw [q.len]; exact hle⟩, f2 σ2 H2 F2 _ (Same.refl F2) (un e2 R2).1⟩
  | _ => exact ft.elim
end VS

namespace VS
open PySem PySem.Spec PyProof.Rows L2
abbrev Obs := List (Nat × Nat × List (Str × Nat))
def ObsOk (ca : Nat → Addr) (B : Hp) (obs : Obs) (ws : List V) : Prop := ∀ o ∈ obs, ∃ a dx vs, B a = some (.ins (ca o.2.1) dx vs) ∧ ws[o.1]? = some (.ref a) ∧ vs.map (·.1) = o.2.2.map (·.1) ∧ ∀ f j, o.2.2.lookup f = some j → ∃ v, vs.lookup f = some v ∧ ws[j]? = some v
def VSg (K : PySem.W.Frag) (ca : Nat → Addr) (obs : Obs) (np : Nat) (md : List Bool) (m : LS → R S) : Sp := fun vs H Q E => vs.length = np ∧ ∃ gv B G F ow ss, (vs ++ gv).length = md.length ∧ ss.length = md.length ∧ ObsOk ca B obs (vs ++ gv) ∧ Rl K ca B [] G F ow ((vs ++ gv).map some) H ss ∧ match m ss with
  | .ok s L => ∀ v H' F' ow', Same F F' → Rl K ca B [] G F' ow' ((vs ++ gv).map some) H' L → RS K ca F' H' ow' [0] s v → Q v H'
  | .err e L => ∀ H' F' ow', Same F F' → Rl K ca B [] G F' ow' ((vs ++ gv).map some) H' L → E (.ref (ca e)) none H'
  | .stuck => False
def gho (np : Nat) (gv : List V) (σ : L2.St) : L2.St := σ.take np ++ (gv.map some ++ σ.drop (np + gv.length))
theorem gho_len {np : Nat} {gv : List V} {σ : L2.St} (h : np + gv.length ≤ σ.length) : (gho np gv σ).length = σ.length := by
  unfold gho
  rw [List.length_append, List.length_append, List.length_take, List.length_map, List.length_drop]
  omega
theorem gho_at {np : Nat} {gv : List V} {σ : L2.St} {k : Nat} (h : np + gv.length ≤ σ.length) (hk : k < np ∨ np + gv.length ≤ k) : (gho np gv σ)[k]? = σ[k]? := by
  unfold gho
  rcases hk with hk | hk
  · rw [List.getElem?_append_left (by rw [List.length_take]; omega), List.getElem?_take, if_pos hk]
  · rw [List.getElem?_append_right (by rw [List.length_take]; omega), List.length_take, List.getElem?_append_right (by rw [List.length_map]; omega), List.length_map, List.getElem?_drop]
    congr 1
    omega
theorem Inv.gho {X : Cx} {pins : List (Addr × Obj)} {σ : L2.St} {H : Hp} {s : Shared} {np : Nat} {gv : List V} (I : Inv X pins σ H s) (hl : np + gv.length ≤ X.N.length)
    (hn : ∀ (k : Nat) (x : Str), np ≤ k → k < np + gv.length → X.N[k]? = some x → X.env.scope.names.lookup x = none) : Inv X pins (gho np gv σ) H s := by
  have hσ : np + gv.length ≤ σ.length := by rw [I.len]; exact hl
  refine { I with loc := ?_, len := ?_ }
  · obtain ⟨m, h1, h2⟩ := I.loc
    refine ⟨m, h1, fun i x v hN hv hvis => ?_⟩
    have hk : i < np ∨ np + gv.length ≤ i := by
      by_cases z : i < np
      · exact .inl z
      · by_cases z2 : np + gv.length ≤ i
        · exact .inr z2
        · have := hn i x (by omega) (by omega) hN
          unfold Vis at hvis
          rw [this] at hvis
          rcases hvis with w | w | w <;> cases w
    rw [gho_at hσ hk] at hv
    exact h2 i x v hN hv hvis
  · rw [gho_len hσ]
    exact I.len
section
variable {P : Program} {w : World} {K : PySem.W.Frag} {mg : Str → Option Value} {base : Heap} {ca : Nat → Addr}
theorem vg_of {x qual : Str} {st : Stmt} {f : Addr} {fd : FuncData} {N ps : List Str} {k : Nat} {obs : Obs} {md : List Bool} {g : LS → R O} (F : Fun K x qual st f fd) (S : FnScope N ps (defScope st)) (hmd : ps.length ≤ md.length) (hN : md.length ≤ N.length)
    (hgh : ∀ (k : Nat) (x : Str), ps.length ≤ k → k < md.length → N[k]? = some x → (defScope st).names.lookup x = none)
    (hb : ∀ (cdv : Value) (A : Around) (outer : List Env) (s : Shared) (H : Hp) (E : XK) (ws : List V), Room k (A.deeper (envOfC qual (defScope st) s.heap.objs.size f cdv)) → ∀ B : Hp, ws.length = md.length → ObsOk ca B obs ws → JB (ctOf P w K mg base ca N qual (defScope st) f cdv A outer s H E md ws B) (defBody st) g) :
    FnOk P w K mg base (L2.CX P w) (k + 1) f fd ps (VSg K ca obs ps.length md (runDef md N.length g)) := by
  refine F.okX S (fun vs H Q E h => h.1) (fun cdv A outer s H vs Q E hr h => ?_)
  obtain ⟨hvl, gv, B, G, F0, ow, ss, hwl, h1, hob, h2, h3⟩ := h
  obtain ⟨ws, hws⟩ : ∃ ws, ws = vs ++ gv := ⟨_, rfl⟩
  rw [← hws] at hwl hob h2 h3
  have hgl : vs.length + gv.length = md.length := by rw [← hwl, hws, List.length_append]
  obtain ⟨t, ht, hq⟩ := hb cdv A outer s H E ws hr B hwl hob
  have hNl : ps.length + gv.length ≤ N.length := by omega
  refine ⟨fun E' σ H' => t E' (gho ps.length gv σ) H', ⟨fun pins s' σ H' D I hh => ht.run pins s' _ H' D (Inv.gho I hNl fun k x a b c => hgh k x a (by omega) c) hh⟩, ?_⟩
  have hst : gho ps.length gv (L2.start N vs) = ws.map some ++ List.replicate (N.length - ws.length) none := by
    unfold gho L2.start
    rw [← hvl]
    rw [List.take_append_of_le_length (by rw [List.length_map]; exact Nat.le_refl _), List.take_of_length_le (by rw [List.length_map]; exact Nat.le_refl _)]
    rw [List.drop_append, List.length_map, List.drop_eq_nil_of_le (by rw [List.length_map]; omega), List.nil_append, List.drop_replicate, hws, List.map_append, List.append_assoc, List.length_append]
    congr 3
    omega
  have hlv : ss.length = ws.length := by
    have := h2.len
    rw [List.length_map] at this
    exact this
  have pinv : ∀ (i : Nat) (v : V), (pinOf md ws)[i]? = some (some v) → (ws.map some)[i]? = some (some v) := fun i v h => by
    rw [List.getElem?_map, (pinOf_mk h).2]
    rfl
  have R0 : Rl K ca B (pinOf md ws) G F0 ow (gho ps.length gv (L2.start N vs)) H (ss ++ List.replicate (N.length - ss.length) none) := by
    rw [hst]
    refine ⟨h2.exF, h2.exG, h2.dF, h2.dG, ?_, fun i s0 hi => ?_, fun i v hi => ?_, h2.exB, h2.dB⟩
    · rw [List.length_append, List.length_append, List.length_replicate, List.length_replicate, List.length_map, hlv]
    · have hlt : i < ss.length := by
        by_cases z : i < ss.length
        · exact z
        · rw [List.getElem?_append_right (Nat.le_of_not_lt z), List.getElem?_replicate] at hi
          split at hi <;> cases hi
      rw [List.getElem?_append_left hlt] at hi
      obtain ⟨v, q1, q2⟩ := h2.sl i s0 hi
      refine ⟨v, ?_, q2⟩
      rw [List.getElem?_append_left (by rw [List.length_map]; omega)]
      exact q1
    · have q := pinv i v hi
      rw [List.getElem?_append_left (List.getElem?_eq_some_iff.mp q).1]
      exact q
  have back : ∀ {σ' : L2.St} {H' F' : Hp} {ow' : Addr → Option Path} {L : LS}, Rl K ca B (pinOf md ws) G F' ow' σ' H' L → Rl K ca B [] G F' ow' (ws.map some) H' (maskL md L) := fun {σ' H' F' ow' L} r => by
    refine ⟨r.exF, r.exG, r.dF, r.dG, ?_, fun i s0 hi => ?_, (fun i v hi => nomatch hi), r.exB, r.dB⟩
    · rw [maskL_len, List.length_map, hwl]
    · obtain ⟨m1, m2⟩ := maskL_get hi
      obtain ⟨v, q1, q2⟩ := r.sl i s0 m2
      have hlt : i < ws.length := by
        have := (List.getElem?_eq_some_iff.mp m1).1
        omega
      have hpin := r.pin i ws[i] (pinOf_at m1 (List.getElem?_eq_getElem hlt))
      rw [hpin] at q1
      cases q1
      exact ⟨_, by rw [List.getElem?_map, List.getElem?_eq_getElem hlt]; rfl, q2⟩
  refine hq G F0 ow _ H _ R0 _ ?_
  unfold runDef at h3
  cases hr : g (ss ++ List.replicate (N.length - ss.length) none) with
  | stuck => rw [hr] at h3; exact h3
  | err e L =>
    rw [hr] at h3
    exact fun σ' H' F' ow' e' R' => h3 H' F' ow' e' (back R')
  | ok o L =>
    rw [hr] at h3
    cases o with
    | nx => exact fun σ' H' F' ow' e' R' => h3 .non H' F' ow' e' (back R') (.d .non)
    | rt s0 => exact fun v σ' H' F' ow' e' R' rs => h3 v H' F' ow' e' (back R') rs
    | bk => exact h3.elim
    | ct => exact h3.elim
end
theorem obAt_of {P : Program} {w : World} {K : PySem.W.Frag} {mg : Str → Option Value} {base : Heap} {ca : Nat → Addr} {N : List Str} {qual : Str} {sc : Scope} {f : Addr} {cdv : Value} {A : Around} {outer : List Env} {s : Shared} {H : Hp} {E : XK} {md : List Bool} {ws : List V} {B : Hp} {obs : Obs} {i C : Nat} {fl : List (Str × Nat)}
    (h : ObsOk ca B obs ws) (hm : (i, C, fl) ∈ obs) (hi : md[i]? = some true) (hf : ∀ p ∈ fl, md[p.2]? = some true) : ObAt (ctOf P w K mg base ca N qual sc f cdv A outer s H E md ws B) i C fl := by
  obtain ⟨a, dx, vs, h1, h2, h3, h4⟩ := h _ hm
  refine ⟨a, dx, vs, h1, hi, h2, h3, fun f j hl => ?_⟩
  obtain ⟨v, q1, q2⟩ := h4 f j hl
  refine ⟨v, q1, ?_, q2⟩
  have go : ∀ {l : List (Str × Nat)}, l.lookup f = some j → ∃ p ∈ l, p.2 = j := by
    intro l
    induction l with
    | nil => intro h; cases h
    | cons p l ih =>
      intro h
      obtain ⟨a, b⟩ := p
      rw [List.lookup_cons] at h
      split at h
      · cases h
        exact ⟨_, List.mem_cons_self, rfl⟩
      · obtain ⟨p, hp, e⟩ := ih h
        exact ⟨p, List.mem_cons_of_mem _ hp, e⟩
  obtain ⟨p, hp, rfl⟩ := go hl
  exact hf p hp
inductive Ag where
  | d (g : LS → R D)
  | r (i : Nat)
  | o (i : Nat)
def evArgsG : List Ag → LS → R (List Av)
  | [], L => .ok [] L
  | .d g :: as, L => (g L).bind fun d L1 => (evArgsG as L1).bind fun xs L2 => .ok (.d d :: xs) L2
  | .r i :: as, L => match L[i]? with
    | some (some _) => (evArgsG as L).bind fun xs L2 => .ok (.r i :: xs) L2
    | _ => .stuck
  | .o i :: as, L => (evArgsG as L).bind fun xs L2 => .ok (.r i :: xs) L2
def AgOk (as : List Ag) (xs : List Av) : Prop := xs.length = as.length ∧ ∀ (j i : Nat), as[j]? = some (.o i) → xs[j]? = some (.r i)
def JAg (c : Ct) (es : List Expr) (as : List Ag) : Prop := ∃ t, PA c.X es t ∧ ∀ G F ow σ H L, c.Rl G F ow σ H L → Post c G false F H σ (evArgsG as L) (fun F' _ _ xs vs => AvOk c.X.K σ F' xs vs ∧ AgOk as xs) (t σ H)
section
variable {c : Ct} {n n1 n2 n3 : Bool} {a b : Expr} {ga gb : LS → R D} {pos : Pos} {es : List Expr} {as : List Ag}
theorem agOk_nil : AgOk [] [] := ⟨rfl, fun j i h => by cases h⟩
theorem agOk_cons {a : Ag} {x : Av} {xs : List Av} (h : ∀ i, a = .o i → x = .r i) (t : AgOk as xs) : AgOk (a :: as) (x :: xs) := ⟨congrArg (· + 1) t.1, fun j i e => by
  cases j with
  | zero => cases e; exact congrArg some (h i rfl)
  | succ j => exact t.2 j i e⟩
theorem jag_nil : JAg c [] [] := ⟨_, pa_nil, fun G F ow σ H L Rr => Post.val Rr ⟨.nil, agOk_nil⟩⟩
theorem jag_d (h1 : JD c n1 a ga) (h2 : JAg c es as) (hs : starEach (a :: es) c.X.env = (false, eval a c.X.env) :: starEach es c.X.env := by rfl) : JAg c (a :: es) (.d ga :: as) := by
  obtain ⟨t1, p1, q1⟩ := h1
  obtain ⟨t2, p2, q2⟩ := h2
  refine ⟨_, pa_cons p1 p2 hs, fun G F ow σ H L Rr => ?_⟩
  have key := (q1 G F ow σ H L Rr).bind (n2 := false) (k := fun d L1 => (evArgsG as L1).bind fun xs L2 => .ok (.d d :: xs) L2) (B2 := fun F' _ _ xs vs => AvOk c.X.K σ F' xs vs ∧ AgOk (.d ga :: as) xs) (t2 := fun v H1 Q => t2 σ H1 fun vs H2 => Q (v :: vs) H2) fun d L1 v H1 F1 ow1 _ _ _ R1 b1 => ?_
  · rw [Bool.and_false] at key
    exact key
  · exact (q2 G F1 ow1 σ H1 L1 R1).bind1 (t2 := fun vs H2 Q => Q (v :: vs) H2) fun xs L2 vs H2 F2 ow2 _ e2 _ R2 b2 => Post.val R2 ⟨.cons (Dq.up e2 b1) b2.1, agOk_cons (fun i h => by cases h) b2.2⟩
theorem jag_r (i : Nat) {x : Str} {p : Pos} (h1 : PE c.X (.Name x p) (tVar i)) (h2 : JAg c es as) (hs : starEach (.Name x p :: es) c.X.env = (false, eval (.Name x p) c.X.env) :: starEach es c.X.env := by rfl) : JAg c (.Name x p :: es) (.r i :: as) := by
  obtain ⟨t2, p2, q2⟩ := h2
  refine ⟨_, pa_cons h1 p2 hs, fun G F ow σ H L Rr => ?_⟩
  unfold evArgsG
  cases hL : L[i]? with
  | none => trivial
  | some o =>
    cases o with
    | none => trivial
    | some s =>
      obtain ⟨v, hv, _⟩ := Rr.sl i s hL
      exact ((q2 G F ow σ H L Rr).bind1 (t2 := fun vs H2 Q => Q (v :: vs) H2) fun xs L2 vs H2 F2 ow2 _ e2 _ R2 b2 => Post.val (B := fun F' _ _ xs vs => AvOk c.X.K σ F' xs vs ∧ AgOk (.r i :: as) xs) R2 ⟨.cons hv b2.1, agOk_cons (fun i h => by cases h) b2.2⟩).imp fun Q q => ⟨v, hv, q⟩
theorem jag_o {i C : Nat} {fl : List (Str × Nat)} {e : Expr} (o : ObAt c i C fl) (h1 : PSl c i e) (h2 : JAg c es as) (hs : starEach (e :: es) c.X.env = (false, eval e c.X.env) :: starEach es c.X.env := by rfl) : JAg c (e :: es) (.o i :: as) := by
  obtain ⟨t2, p2, q2⟩ := h2
  obtain ⟨te, p1, hte⟩ := h1
  refine ⟨_, pa_cons p1 p2 hs, fun G F ow σ H L Rr => ?_⟩
  obtain ⟨a, dx, vs, o1, o2, o3, _, _⟩ := o.ex
  have hv := Rr.pin i _ (pinOf_at o2 o3)
  exact ((q2 G F ow σ H L Rr).bind1 (t2 := fun vs H2 Q => Q (V.ref a :: vs) H2) fun xs L2 vs H2 F2 ow2 _ e2 _ R2 b2 => Post.val (B := fun F' _ _ xs vs => AvOk c.X.K σ F' xs vs ∧ AgOk (.o i :: as) xs) R2 ⟨.cons hv b2.1, agOk_cons (fun i h => by cases h; rfl) b2.2⟩).imp fun Q q => hte Rr hv _ q
def gCallG (m : LS → R S) (as : List Ag) (gs : List Nat) : LS → R S := fun L => (evArgsG as L).bind fun xs L1 => if (refs (xs ++ gs.map Av.r)).Nodup then callAt m (xs ++ gs.map Av.r) L1 else .stuck
def ObsArg (c : Ct) (as : List Ag) (gs : List Nat) (obs : Obs) : Prop := (∀ o ∈ obs, ∃ i fl, as[o.1]? = some (.o i) ∧ ObAt c i o.2.1 fl ∧ fl.map (·.1) = o.2.2.map (·.1) ∧ ∀ f j, o.2.2.lookup f = some j → ∃ q, fl.lookup f = some q ∧ as.length ≤ j ∧ gs[j - as.length]? = some q) ∧ ∀ q ∈ gs, ∃ v, c.pb[q]? = some true ∧ c.v0[q]? = some v
theorem ghosts_ex {gs : List Nat} (h : ∀ q ∈ gs, ∃ v, c.pb[q]? = some true ∧ c.v0[q]? = some v) : ∃ gv : List V, Paired (fun q v => c.pb[q]? = some true ∧ c.v0[q]? = some v) gs gv := by
  induction gs with
  | nil => exact ⟨[], .nil⟩
  | cons q gs ih =>
    obtain ⟨v, hv⟩ := h q List.mem_cons_self
    obtain ⟨gv, hg⟩ := ih fun q hq => h q (List.mem_cons_of_mem _ hq)
    exact ⟨v :: gv, .cons hv hg⟩
theorem avOk_app {K : PySem.W.Frag} {σ : L2.St} {F : Hp} : ∀ {xs ys : List Av} {vs ws : List V}, AvOk K σ F xs vs → AvOk K σ F ys ws → AvOk K σ F (xs ++ ys) (vs ++ ws)
  | _, _, _, _, .nil, h => h
  | _, _, _, _, .cons a t, h => .cons a (avOk_app t h)
theorem ghosts_av {G F H : Hp} {ow : Addr → Option Path} {σ : L2.St} {L : LS} (Rr : c.Rl G F ow σ H L) : ∀ {gs : List Nat} {gv : List V}, Paired (fun q v => c.pb[q]? = some true ∧ c.v0[q]? = some v) gs gv → AvOk c.X.K σ F (gs.map Av.r) gv
  | _, _, .nil => .nil
  | _, _, .cons h t => .cons (Rr.pin _ _ (pinOf_at h.1 h.2)) (ghosts_av Rr t)
theorem paired_getO {α β : Type} {P : α → β → Prop} : ∀ {l : List α} {m : List β} {i : Nat} {x : α}, Paired P l m → l[i]? = some x → ∃ y, m[i]? = some y ∧ P x y
  | _, _, 0, _, .cons h _, e => by cases e; exact ⟨_, rfl, h⟩
  | _ :: l, _ :: m, i + 1, x, .cons _ t, e => paired_getO (l := l) (m := m) (i := i) t e
theorem post_callG {obs : Obs} {md : List Bool} {m : LS → R S} {gs : List Nat} {G F1 H1 : Hp} {ow1 : Addr → Option Path} {σ : L2.St} {L1 : LS} {xs : List Av} {vs : List V} (ho : ObsArg c as gs obs) (hl : as.length + gs.length = md.length) (R1 : c.Rl G F1 ow1 σ H1 L1) (av : AvOk c.X.K σ F1 xs vs) (ag : AgOk as xs) :
    Post c G false F1 H1 σ (if (refs (xs ++ gs.map Av.r)).Nodup then callAt m (xs ++ gs.map Av.r) L1 else .stuck) (BE c.ca c.X.K) (fun Q => VSg c.X.K c.ca obs as.length md m vs H1 Q (WE c.W σ)) := by
  refine Post.guard fun nd => ?_
  obtain ⟨gv, hgv⟩ := ghosts_ex ho.2
  have hvl : vs.length = as.length := by rw [← ag.1]; exact (Paired.length av).symm
  have hgl : gv.length = gs.length := (Paired.length hgv).symm
  have av2 := avOk_app av (ghosts_av R1 hgv)
  have rin := R1.callIn av2 nd
  have hob : ObsOk c.ca c.B obs (vs ++ gv) := fun o hm => by
    obtain ⟨i, fl, h1, h2, h3, h4⟩ := ho.1 o hm
    obtain ⟨a, dx, us, o1, o2, o3, o5, o4⟩ := h2.ex
    have hx := ag.2 _ _ h1
    obtain ⟨v, hv, hσ⟩ := AvOk.get (x := .r i) av hx
    have e1 := R1.pin i _ (pinOf_at o2 o3)
    have hσ : σ[i]? = some (some v) := hσ
    rw [e1] at hσ
    cases hσ
    refine ⟨a, dx, us, o1, ?_, o5.trans h3, fun f j hf => ?_⟩
    · rw [List.getElem?_append_left (List.getElem?_eq_some_iff.mp hv).1]
      exact hv
    · obtain ⟨q, q1, q2, q3⟩ := h4 f j hf
      obtain ⟨v, f1, f2, f3⟩ := o4 f q q1
      refine ⟨v, f1, ?_⟩
      obtain ⟨y, y1, y2, y3⟩ := paired_getO hgv q3
      rw [f3] at y3
      cases y3
      rw [List.getElem?_append_right (by omega), hvl]
      exact y1
  have hln : (vs ++ gv).length = md.length := by rw [List.length_append]; omega
  have hls : ((xs ++ gs.map Av.r).map (slotOf L1)).length = md.length := by
    rw [List.length_map, List.length_append, List.length_map, ag.1]
    exact hl
  unfold callAt
  cases hm' : m ((xs ++ gs.map Av.r).map (slotOf L1)) with
  | stuck => trivial
  | ok s ss =>
    intro Q q
    refine ⟨hvl, gv, c.B, _, F1, _, _, hln, hls, hob, rin, ?_⟩
    rw [hm']
    intro v H' F' ow' e' r' rs
    obtain ⟨w1, w2, w3⟩ := R1.callOut av2 nd e' r'
    exact q v H' F' _ e' (fun h => by cases h) w1 (w3 rs)
  | err er ss =>
    intro hw Q
    refine ⟨hvl, gv, c.B, _, F1, _, _, hln, hls, hob, rin, ?_⟩
    rw [hm']
    intro H' F' ow' e' r'
    obtain ⟨w1, w2, w3⟩ := R1.callOut av2 nd e' r'
    exact hw H' F' _ e' w1
theorem je_callG {k : Nat} {f : Addr} {fd : FuncData} {ps : List Str} {obs : Obs} {md : List Bool} {m : LS → R S} {x : Str} {p : Pos} {e : Expr} {gs : List Nat} (F : FnOk c.X.prog c.X.w c.X.K c.X.mg c.X.base (L2.CX c.X.prog c.X.w) k f fd ps (VSg c.X.K c.ca obs as.length md m)) (hr : Room k c.X.A) (tk : Takes c.X c.W)
    (hg : Gl c.X x) (hm : c.X.mg x = some (.ref f)) (hk : PySem.W.keepIn c.X.K (.ref f) = true) (hb : Binds c.X.K fd ps []) (ha : JAg c (e :: es) as) (ho : ObsArg c as gs obs) (hl : as.length + gs.length = md.length := by rfl)
    (hdb : (x == ("__debug__" : Str)) = false := by decide) (he : starEach (e :: es) c.X.env = (false, eval e c.X.env) :: starEach es c.X.env := by rfl) (hpl : (backTo pos (starEach es c.X.env)).any (·.1) = false := by rfl) :
    JE c false (.Call (.Name x p) (e :: es) [] pos) (gCallG m as gs) := by
  obtain ⟨t, pa, qa⟩ := ha
  refine ⟨_, pe_callS F hr hg hm hk hb (fun σ => passAt tk σ) pa hdb he hpl, fun G F0 ow σ H L Rr => ?_⟩
  have key := (qa G F0 ow σ H L Rr).bind (n2 := false) (B2 := BE c.ca c.X.K) (k := fun xs L1 => if (refs (xs ++ gs.map Av.r)).Nodup then callAt m (xs ++ gs.map Av.r) L1 else .stuck) (t2 := fun vs H1 Q => VSg c.X.K c.ca obs as.length md m vs H1 Q (WE c.W σ)) fun xs L1 vs H1 F1 ow1 hev e1 _ R1 b1 => post_callG ho hl R1 b1.1 b1.2
  exact key
section
variable {X : Cx} {CX : CXT} {k : Nat} {f C : Addr} {fd : FuncData} {ps : List Str} {sp : Sp} {E : L2.St → XK} {m : Str} {pos apos : Pos} {e o : Expr} {es : List Expr} {ta : TE} {t : TA}
def tMethX (C : Addr) (m : Str) (sp : Sp) (E : L2.St → XK) (ta : TE) (t : TA) : TE := fun σ H Q => ta σ H fun x H1 => ∃ a dx fs, x = .ref a ∧ H1 a = some (.ins C dx fs) ∧ fs.lookup m = none ∧ t σ H1 fun vs H2 => sp (x :: vs) H2 Q (E σ)
theorem pe_methX {pl : Sem Bool} (he : PE X o ta) (c : Cls X.K C) (hm : Meth X.K C m f) (F : FnOk X.prog X.w X.K X.mg X.base CX k f fd ps sp) (hr : Room k X.A) (hb : Binds X.K fd ps []) (hx : ∀ σ, PassesAt CX X σ (E σ)) (ha : PA X (e :: es) t)
    (hst : starEach (e :: es) X.env = (false, eval e X.env) :: starEach es X.env := by rfl) (hpl : (backTo pos (starEach es X.env)).any (·.1) = false := by rfl)
    (ht : eval (.Call (.Attribute o m apos) (e :: es) [] pos) X.env = (do
      let ov ← eval o X.env
      standAt apos.atName
      let (f, first) ← holding [ov] (getMethod ov m pl)
      callWith pos f first (backTo pos (starEach (e :: es) X.env)) (backToKw pos (keywordEach [] X.env))) := by rfl) :
    PE X (.Call (.Attribute o m apos) (e :: es) [] pos) (tMethX C m sp E ta t) := by
  refine ⟨fun pins s σ H Q I h => ?_⟩
  refine PySem.W.methodCall_KW (pl := pl) (thn (he.run pins s σ H _ I h) fun u s1 ⟨x, H1, I1, rx, a, dx, fs, ex, ea, l, q⟩ => ?_) ht
  subst ex
  obtain rfl : u = Value.ref a := rx
  refine getmeth_ok I1 ea c hm l ?_
  refine PySem.W.callWith_K (first := [.ref a]) (h₀ := X.base) I.ok.mod.kin hm.kp (thn (ha.run pos pins s1 σ H1 _ I1 q) fun us s2 ⟨vs, H2, I2, r, q2⟩ => ⟨I2.kIn, ?_⟩) hst hpl
  exact run_fnS (us := .ref a :: us) (vs := .ref a :: vs) F hr hb (hx σ) I2 (.cons rfl r) q2
end
theorem je_methG {pl : Sem Bool} {k i C : Nat} {f : Addr} {fd : FuncData} {ps : List Str} {obs : Obs} {md : List Bool} {m : LS → R S} {x : Str} {apos : Pos} {o e : Expr} {gs : List Nat} {fl : List (Str × Nat)} (F : FnOk c.X.prog c.X.w c.X.K c.X.mg c.X.base (L2.CX c.X.prog c.X.w) k f fd ps (VSg c.X.K c.ca obs (as.length + 1) md m)) (hr : Room k c.X.A) (tk : Takes c.X c.W)
    (hC : Cls c.X.K (c.ca C)) (hme : Meth c.X.K (c.ca C) x f) (hnf : fl.lookup x = none) (hb : Binds c.X.K fd ps []) (ob : ObAt c i C fl) (h0 : PSl c i o) (ha : JAg c (e :: es) as) (ho : ObsArg c (.o i :: as) gs obs) (hl : as.length + 1 + gs.length = md.length := by rfl)
    (hst : starEach (e :: es) c.X.env = (false, eval e c.X.env) :: starEach es c.X.env := by rfl) (hpl : (backTo pos (starEach es c.X.env)).any (·.1) = false := by rfl)
    (ht : eval (.Call (.Attribute o x apos) (e :: es) [] pos) c.X.env = (do
      let ov ← eval o c.X.env
      standAt apos.atName
      let (f, first) ← holding [ov] (getMethod ov x pl)
      callWith pos f first (backTo pos (starEach (e :: es) c.X.env)) (backToKw pos (keywordEach [] c.X.env))) := by rfl) :
    JE c false (.Call (.Attribute o x apos) (e :: es) [] pos) (gCallG m (.o i :: as) gs) := by
  obtain ⟨t, pa, qa⟩ := ha
  obtain ⟨te, p1, hte⟩ := h0
  refine ⟨_, pe_methX (pl := pl) p1 hC hme F hr hb (fun σ => passAt tk σ) pa hst hpl ht, fun G F0 ow σ H L Rr => ?_⟩
  obtain ⟨a, dx, us, o1, o2, o3, o5, o4⟩ := ob.ex
  have hv := Rr.pin i _ (pinOf_at o2 o3)
  have hlk : us.lookup x = none := by
    have go : ∀ (us : List (Str × V)) (fl : List (Str × Nat)), us.map (·.1) = fl.map (·.1) → fl.lookup x = none → us.lookup x = none := by
      intro us
      induction us with
      | nil => intro fl _ _; rfl
      | cons p us ih =>
        intro fl e hf
        cases fl with
        | nil => cases e
        | cons q fl =>
          rw [List.map_cons, List.map_cons] at e
          injection e with e1 e2
          obtain ⟨p1, p2⟩ := p
          obtain ⟨q1, q2⟩ := q
          have e1 : p1 = q1 := e1
          subst e1
          rw [List.lookup_cons] at hf ⊢
          split at hf
          · cases hf
          · exact ih fl e2 hf
    exact go us fl o5 hnf
  have key := (qa G F0 ow σ H L Rr).bind (n2 := false) (B2 := BE c.ca c.X.K) (k := fun xs L1 => if (refs ((Av.r i :: xs) ++ gs.map Av.r)).Nodup then callAt m ((Av.r i :: xs) ++ gs.map Av.r) L1 else .stuck) (t2 := fun vs H1 Q => VSg c.X.K c.ca obs (as.length + 1) md m (V.ref a :: vs) H1 Q (WE c.W σ)) fun xs L1 vs H1 F1 ow1 hev e1 _ R1 b1 => post_callG (as := .o i :: as) ho hl R1 (.cons hv b1.1) (agOk_cons (fun i h => by cases h; rfl) b1.2)
  have e : gCallG m (.o i :: as) gs L = (evArgsG as L).bind fun xs L1 => if (refs ((Av.r i :: xs) ++ gs.map Av.r)).Nodup then callAt m ((Av.r i :: xs) ++ gs.map Av.r) L1 else .stuck := by
    unfold gCallG
    show ((evArgsG as L).bind fun xs L2 => R.ok (.r i :: xs) L2).bind _ = _
    cases evArgsG as L <;> rfl
  rw [e]
  exact key.imp fun Q q => hte Rr hv _ ⟨a, dx, us, rfl, Rr.exB a _ o1, hlk, q⟩
end
end VS

namespace VS
open PySem PySem.Spec PyProof.Rows L2
def reown (φ : Path → Option Path) (ow : Addr → Option Path) : Addr → Option Path := fun a => match ow a with
  | some (0 :: q) => φ q
  | x => x
theorem reown_0 {φ : Path → Option Path} {ow : Addr → Option Path} {a : Addr} {q : Path} (h : ow a = some (0 :: q)) : reown φ ow a = φ q := by
  unfold reown
  rw [h]
  rfl
theorem reown_s {φ : Path → Option Path} {ow : Addr → Option Path} {a : Addr} {r : Nat} {q : Path} (h : ow a = some ((r + 1) :: q)) : reown φ ow a = some ((r + 1) :: q) := by
  unfold reown
  rw [h]
  rfl
theorem reown_some {φ : Path → Option Path} {ow : Addr → Option Path} {a : Addr} {p : Path} (h : reown φ ow a = some p) : ∃ p', ow a = some p' := by
  unfold reown at h
  cases z : ow a with
  | none => rw [z] at h; cases h
  | some p' => exact ⟨p', rfl⟩
theorem keeps_reown {φ : Path → Option Path} {ow : Addr → Option Path} {H : Hp} {r : Nat} {q : Path} : Keeps H H ow (reown φ ow) ((r + 1) :: q) ((r + 1) :: q) := fun a w e => ⟨rfl, reown_s (q := q ++ w) e⟩
section
variable {K : PySem.W.Frag} {ca : Nat → Addr} {bh : Hp} {pn : List (Option V)} {G F F' H H' : Hp} {ow ow' : Addr → Option Path} {σ : L2.St} {L : LS}
theorem Rl.reown (r : Rl K ca bh pn G F ow σ H L) (φ : Path → Option Path) : Rl K ca bh pn G F (reown φ ow) σ H L := by
  refine ⟨r.exF, r.exG, fun a p h => ?_, r.dG, r.len, fun k s h => ?_, r.pin, r.exB, fun a p h => ?_⟩
  · obtain ⟨p', h'⟩ := reown_some h
    exact r.dF a p' h'
  · obtain ⟨v, q1, q2⟩ := r.sl k s h
    exact ⟨v, q1, q2.go (Same.refl F) keeps_reown⟩
  · obtain ⟨p', h'⟩ := reown_some h
    exact r.dB a p' h'
theorem RF.go (e : Same F F') : ∀ {fs : List (Str × S)} {p p' : Path} {i : Nat} {vs : List (Str × V)}, (∀ j, Keeps H H' ow ow' (p ++ [j]) (p' ++ [j])) → RF K ca F H ow p i fs vs → RF K ca F' H' ow' p' i fs vs
  | [], p, p', i, vs, k, h => by cases h; exact .nil
  | (x, s) :: fs, p, p', i, vs, k, h => by
    cases h with
    | cons a b => exact .cons (a.go e (k i)) (RF.go e k b)
theorem RF.len : ∀ {fs : List (Str × S)} {p : Path} {i : Nat} {vs : List (Str × V)}, RF K ca F H ow p i fs vs → vs.map (·.1) = fs.map (·.1)
  | [], p, i, vs, h => by cases h; rfl
  | (x, s) :: fs, p, i, vs, h => by
    cases h with
    | cons a b => rw [List.map_cons, List.map_cons, RF.len b]
theorem RF.at_ : ∀ {fs : List (Str × S)} {p : Path} {i : Nat} {vs : List (Str × V)} {m : Nat} {f : Str} {s : S}, RF K ca F H ow p i fs vs → fs[m]? = some (f, s) → ∃ v, vs[m]? = some (f, v) ∧ RS K ca F H ow (p ++ [i + m]) s v
  | [], p, i, vs, m, f, s, h, e => by cases e
  | (x, y) :: fs, p, i, vs, 0, f, s, h, e => by
    cases h with
    | cons a b =>
      cases e
      exact ⟨_, rfl, a⟩
  | (x, y) :: fs, p, i, vs, m + 1, f, s, h, e => by
    cases h with
    | cons a b =>
      obtain ⟨v, h1, h2⟩ := RF.at_ (m := m) b e
      refine ⟨v, h1, ?_⟩
      rw [show i + (m + 1) = i + 1 + m by omega]
      exact h2
end
def putS (f : Str) (s : S) : List (Str × S) → List (Str × S)
  | [] => [(f, s)]
  | (g, x) :: r => if g = f then (g, s) :: r else (g, x) :: putS f s r
def idxS (f : Str) : List (Str × S) → Nat
  | [] => 0
  | (g, _) :: r => if g = f then 0 else idxS f r + 1
theorem RF.put {K : PySem.W.Frag} {ca : Nat → Addr} {F H : Hp} {ow : Addr → Option Path} {f : Str} {s : S} {v : V} : ∀ {fs : List (Str × S)} {p : Path} {i : Nat} {vs : List (Str × V)}, RF K ca F H ow p i fs vs → RS K ca F H ow (p ++ [i + idxS f fs]) s v → RF K ca F H ow p i (putS f s fs) (L2.putF f v vs)
  | [], p, i, vs, h, r => by
    cases h
    exact .cons r .nil
  | (g, x) :: fs, p, i, vs, h, r => by
    cases h with
    | @cons _ _ _ _ u _ us a b =>
      unfold idxS at r
      show RF K ca F H ow p i (if g = f then (g, s) :: fs else (g, x) :: putS f s fs) (if g = f then (g, v) :: us else (g, u) :: L2.putF f v us)
      by_cases hg : g = f
      · rw [if_pos hg] at r
        rw [if_pos hg, if_pos hg]
        exact .cons r b
      · rw [if_neg hg] at r
        rw [if_neg hg, if_neg hg]
        refine .cons a (RF.put b ?_)
        rw [show i + 1 + idxS f fs = i + (idxS f fs + 1) by omega]
        exact r
def fstAt (i C : Nat) (f : Str) (s : S) : LS → R O := fun L => match L[i]? with
  | some (some (.ob C' fs)) => if C' = C ∧ fs.length < 1000 then .ok .nx (L.set i (some (.ob C' (putS f s fs)))) else .stuck
  | _ => .stuck
def gFst (i C : Nat) (f : Str) (g : LS → R S) : LS → R O := fun L => (g L).bind (fstAt i C f)
theorem js_fst {c : Ct} {n : Bool} {a : Expr} {ga : LS → R S} {i C : Nat} {f x : Str} {p pos' pos : Pos} (hC : Cls c.X.K (c.ca C)) (hn : NoAttr c.X.K (c.ca C) f) (h0 : PE c.X (.Name x p) (tVar i)) (ha : JE c n a ga)
    (hs : swapsWith a (some (.Attribute (.Name x p) f pos')) pos.line c.X.env = pure false := by rfl) : JS c (.Assign [.Attribute (.Name x p) f pos'] a pos) (gFst i C f ga) := by
  obtain ⟨ta, pa, qa⟩ := ha
  refine ⟨_, ps_fld h0 pa hs, fun G F ow σ H L Rr E ft => ?_⟩
  refine (qa G F ow σ H L Rr).use ft fun s L1 v H1 F1 ow1 _ _ R1 b1 f1 => ?_
  unfold fstAt at f1
  cases hL : L1[i]? with
  | none => rw [hL] at f1; exact f1.elim
  | some o =>
  rw [hL] at f1
  cases o with
  | none => exact f1.elim
  | some so =>
  cases so with
  | ob C' fs =>
    have f2 : Fit c G F1 (if C' = C ∧ fs.length < 1000 then .ok .nx (L1.set i (some (.ob C' (putS f s fs)))) else .stuck) E := f1
    by_cases hc : C' = C ∧ fs.length < 1000
    · rw [if_pos hc] at f2
      clear f1
      obtain ⟨rfl, hlt⟩ := hc
      obtain ⟨u, hu, rs⟩ := R1.sl i _ hL
      cases rs with
      | @ob _ l dx _ vs _ w1 w2 w3 =>
      obtain ⟨nn, hnn⟩ : ∃ nn, nn = idxS f fs := ⟨_, rfl⟩
      have R2 := R1.reown (fun q => some ((i + 1) :: nn :: q))
      have ho : reown (fun q => some ((i + 1) :: nn :: q)) ow1 l = some ((i + 1) :: []) := reown_s w2
      have rs2 : RS c.X.K c.ca F1 H1 (reown (fun q => some ((i + 1) :: nn :: q)) ow1) [i + 1, nn] s v := RS.go b1 (Same.refl F1) fun a q e => ⟨rfl, reown_0 e⟩
      have rf2 : RF c.X.K c.ca F1 H1 (reown (fun q => some ((i + 1) :: nn :: q)) ow1) [i + 1] 0 fs vs := RF.go (Same.refl F1) (fun j => keeps_reown) w3
      have rf3 := RF.put (f := f) rf2 (by
        rw [Nat.zero_add, ← hnn]
        exact rs2)
      have hvl : vs.length = fs.length := by
        have := congrArg List.length (RF.len w3)
        rwa [List.length_map, List.length_map] at this
      refine ⟨_, hu, l, c.ca C', dx, vs, rfl, w1, hC, hn, by rw [hvl]; exact hlt, ?_⟩
      refine f2 σ _ F1 _ (Same.refl F1) (Rl.put R2 ho ⟨_, hu, .ob upd_same ho (RF.go (Same.refl F1) (fun j a q e => ⟨?_, e⟩) rf3)⟩)
      refine upd_ne fun z => ?_
      subst z
      rw [ho] at e
      cases e
    · rw [if_neg hc] at f2
      exact f2.elim
  | _ => exact f1.elim
def gNewOb (C : Nat) (m : LS → R S) : LS → R S := fun L => match m [some (.ob C [])] with
  | .ok (.d .none) [some (.ob C' fs)] => .ok (.ob C' fs) L
  | _ => .stuck
theorem passE0 {P : Program} {w : World} {X : Cx} : Passes (L2.CX P w) X (fun _ _ _ => False) := fun _ _ _ _ _ _ _ ⟨_, _, _, _, _, _, _, _, _, _, _, _, h⟩ => h.elim
theorem je_new0 {c : Ct} {k C : Nat} {f : Addr} {fd : FuncData} {ps : List Str} {m : LS → R S} {x : Str} {p pos : Pos} (M : Mk c.X.K (c.ca C) f) (F : FnOk c.X.prog c.X.w c.X.K c.X.mg c.X.base (L2.CX c.X.prog c.X.w) k f fd ps (VSp c.X.K c.ca [true] m)) (hr : Room (k + 1) c.X.A)
    (hg : Gl c.X x) (hm : c.X.mg x = some (.ref (c.ca C))) (hb : Binds c.X.K fd ps []) (hdb : (x == ("__debug__" : Str)) = false := by decide) : JE c false (.Call (.Name x p) [] [] pos) (gNewOb C m) := by
  refine ⟨_, pe_make0 (E := fun _ _ _ => False) (dvs := []) M F hr hg hm hb .nil passE0 hdb, fun G F0 ow σ H L Rr => ?_⟩
  unfold gNewOb
  split
  · rename_i L2 C' fs hm'
    intro Q q
    intro x dx hx hdx hne
    have hFx : F0 x = none := Rr.exF.free hx
    have hGx : G x = none := Rr.exG.free hx
    have hBx : c.B x = none := Rr.exB.free hx
    obtain ⟨H1, hH1⟩ : ∃ H1, H1 = upd (upd H dx (.own x)) x (.ins (c.ca C) dx []) := ⟨_, rfl⟩
    have h1x : H1 x = some (.ins (c.ca C) dx []) := by rw [hH1]; exact upd_same
    have h1 : ∀ {a : Addr} {o : HO}, H a = some o → H1 a = some o := fun {a o} h => by
      rw [hH1, upd_ne (ne_of_none h hx), upd_ne (ne_of_none h hdx)]
      exact h
    rw [← hH1]
    obtain ⟨G1, hG1⟩ : ∃ G1 : Hp, G1 = fun a => if a = x then none else if (F0 a).isSome then none else H1 a := ⟨_, rfl⟩
    have g1x : G1 x = none := by rw [hG1]; exact if_pos rfl
    have g1 : ∀ {a : Addr}, a ≠ x → F0 a = none → G1 a = H1 a := fun {a} h1 h2 => by
      rw [hG1]
      show (if a = x then none else if (F0 a).isSome then none else H1 a) = _
      rw [if_neg h1, h2]
      rfl
    have g1s : ∀ {a : Addr} {o : HO}, G1 a = some o → a ≠ x ∧ F0 a = none ∧ H1 a = some o := fun {a o} h => by
      rw [hG1] at h
      have h : (if a = x then none else if (F0 a).isSome then none else H1 a) = some o := h
      split at h
      · cases h
      · split at h
        · cases h
        · rename_i z1 z2
          refine ⟨z1, ?_, h⟩
          cases z : F0 a with
          | none => rfl
          | some u => rw [z] at z2; exact absurd rfl z2
    refine ⟨c.B, G1, F0, fun a => if a = x then some [1] else none, [some (.ob C [])], rfl, ⟨fun a o h => h1 (Rr.exF a o h), fun a o h => (g1s h).2.2, fun a p h => ?_, fun a o h => .inl ?_, rfl, fun i s h => ?_, (fun i v h => nomatch h), fun a o h => h1 (Rr.exB a o h), fun a p h => ?_⟩, ?_⟩
    · split at h
      · rename_i z
        subst z
        exact ⟨hFx, g1x, by rw [h1x]; exact .of kT_ins⟩
      · cases h
    · cases z : G1 a with
      | none => rfl
      | some u =>
        have := (g1s z).2.1
        rw [h] at this
        cases this
    · cases i with
      | succ i => cases h
      | zero =>
        cases h
        exact ⟨.ref x, rfl, .ob h1x (if_pos rfl) .nil⟩
    · split at h
      · rename_i z
        subst z
        exact hBx
      · cases h
    rw [hm']
    intro v H' F' ow2 e' r' rs
    cases rs with
    | d qv =>
    cases qv
    refine ⟨rfl, ?_⟩
    obtain ⟨ow3, how3⟩ : ∃ ow3 : Addr → Option Path, ow3 = fun a => match ow2 a with
      | some (1 :: q) => some (0 :: q)
      | some _ => none
      | none => if a = x then none else ow a := ⟨_, rfl⟩
    have o31 : ∀ {a : Addr} {q : Path}, ow2 a = some (1 :: q) → ow3 a = some (0 :: q) := fun {a q} h => by
      rw [how3]
      show (match ow2 a with
        | some (1 :: q) => some (0 :: q)
        | some _ => none
        | none => if a = x then none else ow a) = _
      rw [h]
      rfl
    have o30 : ∀ {a : Addr}, ow2 a = none → a ≠ x → ow3 a = ow a := fun {a} h hx => by
      rw [how3]
      show (match ow2 a with
        | some (1 :: q) => some (0 :: q)
        | some _ => none
        | none => if a = x then none else ow a) = _
      rw [h]
      exact if_neg hx
    have o3s : ∀ {a : Addr} {p : Path}, ow3 a = some p → (∃ q, ow2 a = some (1 :: q)) ∨ (ow2 a = none ∧ a ≠ x ∧ ow a = some p) := fun {a p} h => by
      rw [how3] at h
      have h : (match ow2 a with
        | some (1 :: q) => some (0 :: q)
        | some _ => none
        | none => if a = x then none else ow a) = some p := h
      split at h
      · rename_i q z
        exact .inl ⟨q, z⟩
      · cases h
      · rename_i z
        split at h
        · cases h
        · rename_i z2
          exact .inr ⟨z, z2, h⟩
    -- what was owned ahead stays
    have stay : ∀ {a : Addr} {p : Path}, ow a = some p → a ≠ x ∧ ow2 a = none ∧ H' a = H a ∧ F' a = none := fun {a p} h => by
      obtain ⟨y1, y2, y3⟩ := Rr.dF a p h
      cases hH : H a with
      | none => exact absurd hH y3.1
      | some o =>
        have hax : a ≠ x := ne_of_none hH hx
        have hg : G1 a = some o := by rw [g1 hax y1]; exact h1 hH
        have hH' := r'.exG a o hg
        refine ⟨hax, ?_, hH', ?_⟩
        · cases z : ow2 a with
          | none => rfl
          | some p2 =>
            have := (r'.dF a p2 z).2.1
            rw [hg] at this
            cases this
        · cases z : F' a with
          | none => rfl
          | some u =>
            have hu := r'.exF a u z
            rw [hH'] at hu
            cases hu
            rcases r'.dG a o z with w | w
            · rw [hg] at w
              cases w
            · exact absurd w (y3.2 o hH)
    obtain ⟨u, hu, rs⟩ := r'.sl 0 _ rfl
    have hu : u = .ref x := (Option.some.inj (Option.some.inj hu)).symm
    subst hu
    refine q (.ref x) H' F' ow3 e' (fun z => by cases z) ⟨r'.exF, fun a o h => ?_, fun a p h => ?_, fun a o h => ?_, Rr.len, fun k s h => ?_, Rr.pin, r'.exB, fun a p h => ?_⟩ (RS.go rs (Same.refl F') fun a q e => ⟨rfl, o31 e⟩)
    · have hH := Rr.exG a o h
      cases z : F0 a with
      | some t =>
        have := Rr.exF a t z
        rw [hH] at this
        cases this
        exact r'.exF a o (e' a o z)
      | none => exact r'.exG a o (by rw [g1 (ne_of_none hH hx) z]; exact h1 hH)
    · rcases o3s h with ⟨q, z⟩ | ⟨z1, z2, z3⟩
      · obtain ⟨y1, y2, y3⟩ := r'.dF a _ z
        refine ⟨y1, ?_, y3⟩
        cases w : G a with
        | none => rfl
        | some o =>
          have hH := Rr.exG a o w
          have hf : F0 a = none := by
            cases wf : F0 a with
            | none => rfl
            | some t =>
              have := e' a t wf
              rw [y1] at this
              cases this
          rw [g1 (ne_of_none hH hx) hf, h1 hH] at y2
          cases y2
      · obtain ⟨y1, y2, y3⟩ := Rr.dF a p z3
        obtain ⟨s1, s2, s3, s4⟩ := stay z3
        exact ⟨s4, y2, by rw [s3]; exact y3⟩
    · rcases r'.dG a o h with w | w
      · by_cases hax : a = x
        · subst hax
          exact .inl hGx
        · cases z : F0 a with
          | some t =>
            have := e' a t z
            rw [h] at this
            cases this
            exact Rr.dG a o z
          | none =>
            rw [g1 hax z] at w
            cases hG : G a with
            | none => exact .inl rfl
            | some t =>
              rw [h1 (Rr.exG a t hG)] at w
              cases w
      · exact .inr w
    · obtain ⟨v, q1, q2⟩ := Rr.sl k s h
      refine ⟨v, q1, q2.go e' fun a w z => ?_⟩
      obtain ⟨s1, s2, s3, s4⟩ := stay z
      exact ⟨s3, (o30 s2 s1).trans z⟩
    · rcases o3s h with ⟨q, z⟩ | ⟨z1, z2, z3⟩
      · exact r'.dB a _ z
      · exact Rr.dB a p z3
  · trivial
end VS

namespace VS
open PySem PySem.Spec PyProof.Rows L2
def setF : List Nat → List (Str × S) → LS → LS
  | j :: js, (_, s) :: fs, L => setF js fs (L.set j (some s))
  | _, _, L => L
def setG : List Nat → List (Str × V) → L2.St → L2.St
  | j :: js, (_, v) :: vs, σ => setG js vs (σ.set j (some v))
  | _, _, σ => σ
theorem setF_len : ∀ (js : List Nat) (fs : List (Str × S)) (L : LS), (setF js fs L).length = L.length
  | [], _, L => rfl
  | _ :: _, [], L => rfl
  | j :: js, (_, s) :: fs, L => by
    show (setF js fs (L.set j (some s))).length = _
    rw [setF_len js fs, List.length_set]
theorem setG_len : ∀ (js : List Nat) (fs : List (Str × V)) (L : L2.St), (setG js fs L).length = L.length
  | [], _, L => rfl
  | _ :: _, [], L => rfl
  | j :: js, (_, s) :: fs, L => by
    show (setG js fs (L.set j (some s))).length = _
    rw [setG_len js fs, List.length_set]
theorem setG_out : ∀ {js : List Nat} {vs : List (Str × V)} {σ : L2.St} {k : Nat}, k ∉ js → (setG js vs σ)[k]? = σ[k]?
  | [], _, _, _, _ => rfl
  | _ :: _, [], _, _, _ => rfl
  | j :: js, (_, v) :: vs, σ, k, h => by
    simp only [List.mem_cons, not_or] at h
    show (setG js vs (σ.set j (some v)))[k]? = _
    rw [setG_out h.2, List.getElem?_set_ne (fun e => h.1 e.symm)]
theorem setG_in : ∀ {js : List Nat} {vs : List (Str × V)} {σ : L2.St} {m k : Nat} {f : Str} {v : V}, js.Nodup → js[m]? = some k → vs[m]? = some (f, v) → k < σ.length → (setG js vs σ)[k]? = some (some v)
  | j :: js, (g, u) :: vs, σ, 0, k, f, v, nd, h1, h2, h3 => by
    cases h1
    cases h2
    show (setG js vs (σ.set j (some u)))[j]? = _
    rw [setG_out (List.nodup_cons.mp nd).1, List.getElem?_set_self h3]
  | j :: js, (g, u) :: vs, σ, m + 1, k, f, v, nd, h1, h2, h3 => setG_in (js := js) (vs := vs) (m := m) (List.nodup_cons.mp nd).2 h1 h2 (by rw [List.length_set]; exact h3)
  | [], _, _, _, _, _, _, _, h1, _, _ => by cases h1
  | _ :: _, [], _, _, _, _, _, _, _, h2, _ => by cases h2
theorem setF_get : ∀ {js : List Nat} {fs : List (Str × S)} {L : LS} {k : Nat} {s : S}, js.Nodup → js.length = fs.length → (setF js fs L)[k]? = some (some s) → (∃ (m : Nat) (f : Str), js[m]? = some k ∧ fs[m]? = some (f, s)) ∨ (k ∉ js ∧ L[k]? = some (some s))
  | [], [], L, k, s, _, _, h => .inr ⟨by simp, h⟩
  | j :: js, (g, x) :: fs, L, k, s, nd, hl, h => by
    have h : (setF js fs (L.set j (some x)))[k]? = some (some s) := h
    rcases setF_get (List.nodup_cons.mp nd).2 (Nat.succ.inj hl) h with ⟨m, f, h1, h2⟩ | ⟨h1, h2⟩
    · exact .inl ⟨m + 1, f, h1, h2⟩
    · rcases set_get h2 with ⟨rfl, hs⟩ | ⟨hk, hs⟩
      · cases hs
        exact .inl ⟨0, g, rfl, rfl⟩
      · exact .inr ⟨by simp only [List.mem_cons, not_or]; exact ⟨fun e => hk e.symm, h1⟩, hs⟩
theorem Inv.setG {X : Cx} {pins : List (Addr × Obj)} {H : Hp} {s : Shared} : ∀ {js : List Nat} {vs : List (Str × V)} {σ : L2.St}, (∀ j ∈ js, ∀ x, X.N[j]? = some x → X.env.scope.names.lookup x = none) → Inv X pins σ H s → Inv X pins (setG js vs σ) H s
  | [], _, _, _, I => I
  | _ :: _, [], _, _, I => I
  | j :: js, (g, v) :: vs, σ, hn, I => by
    refine Inv.setG (js := js) (vs := vs) (fun q hq => hn q (List.mem_cons_of_mem _ hq)) ?_
    refine { I with loc := ?_, len := by rw [List.length_set]; exact I.len }
    obtain ⟨m, h1, h2⟩ := I.loc
    refine ⟨m, h1, fun i x u hN hv hvis => ?_⟩
    by_cases e : j = i
    · subst e
      have := hn j List.mem_cons_self x hN
      unfold Vis at hvis
      rw [this] at hvis
      rcases hvis with w | w | w <;> cases w
    · rw [List.getElem?_set_ne e] at hv
      exact h2 i x u hN hv hvis
abbrev obC (c : Ct) (ms : List Bool) (ws : List V) (B : Hp) : Ct := { c with pb := ms, v0 := ws, B := B }
structure Later (c : Ct) (ms : List Bool) (ws : List V) (B : Hp) : Prop where
  b : Same c.B B
  p : ∀ (k : Nat) (v : V), c.pb[k]? = some true → c.v0[k]? = some v → ms[k]? = some true ∧ ws[k]? = some v
def cleanS : Option S → Option S
  | some (.b _) => none
  | some (.bl _) => none
  | x => x
def cleanL (L : LS) : LS := L.map cleanS
def cleanR : R O → R O
  | .ok o L => .ok o (cleanL L)
  | .err e L => .err e (cleanL L)
  | .stuck => .stuck
theorem cleanL_get {L : LS} {k : Nat} {s : S} (h : (cleanL L)[k]? = some (some s)) : L[k]? = some (some s) ∧ s.own = true := by
  unfold cleanL at h
  rw [List.getElem?_map] at h
  obtain ⟨o, h1, h2⟩ := Option.map_eq_some_iff.mp h
  cases o with
  | none => cases h2
  | some x =>
    cases x with
    | b d => cases h2
    | bl d => cases h2
    | _ =>
      cases h2
      exact ⟨h1, rfl⟩
theorem RT.upB {K : PySem.W.Frag} {ca : Nat → Addr} {B B2 F H : Hp} {ow : Addr → Option Path} {p : Path} {s : S} {v : V} (h : RT K ca B F H ow p s v) (e : Same (BF B F) (BF B2 F)) : RT K ca B2 F H ow p s v := by
  cases s with
  | b d => exact Dq.up e h
  | bl ds =>
    obtain ⟨l, vs, h1, h2, h3⟩ := h
    exact ⟨l, vs, h1, e l _ h2, h3⟩
  | _ => exact h
def gNewO (i C : Nat) (fl : List (Str × Nat)) (ge : LS → R S) (g : LS → R O) : LS → R O := fun L => (ge L).bind fun s L1 => match s with
  | .ob C' fs => if C' = C ∧ fs.map (·.1) = fl.map (·.1) ∧ (∀ j ∈ i :: fl.map Prod.snd, j < L1.length) then cleanR (g (setF (fl.map Prod.snd) fs (L1.set i none))) else .stuck
  | _ => .stuck
theorem lookup_at : ∀ {vs : List (Str × V)} {fl : List (Str × Nat)} {f : Str} {j : Nat}, vs.map (·.1) = fl.map (·.1) → fl.lookup f = some j → ∃ (m : Nat) (g : Str) (v : V), (fl.map Prod.snd)[m]? = some j ∧ vs[m]? = some (g, v) ∧ vs.lookup f = some v
  | [], [], f, j, _, h => by cases h
  | (g, v) :: vs, (g', q) :: fl, f, j, e, h => by
    rw [List.map_cons, List.map_cons] at e
    injection e with e1 e2
    have e1 : g = g' := e1
    subst e1
    rw [List.lookup_cons] at h
    rw [List.lookup_cons]
    split at h
    · rename_i he
      cases h
      exact ⟨0, g, v, rfl, rfl, rfl⟩
    · rename_i he
      obtain ⟨m, g2, v2, h1, h2, h3⟩ := lookup_at e2 h
      exact ⟨m + 1, g2, v2, h1, h2, h3⟩
theorem jb_newO {c : Ct} {n : Bool} {e : Expr} {ge : LS → R S} {g : LS → R O} {i C : Nat} {x : Str} {pos' pos : Pos} {rest : List Stmt} (fl : List (Str × Nat)) (ms : List Bool) (h : JE c n e ge)
    (hN : c.X.N.Nodup) (hi : c.X.N[i]? = some x) (hx : Loc c.X.env.scope x) (hsw : swapsWith e (some (.Name x pos')) pos.line c.X.env = pure false)
    (hf : c.X.fn x = true ∨ c.X.env.scope.names.lookup x = some .local)
    (nd : (i :: fl.map Prod.snd).Nodup) (hgh : ∀ j ∈ fl.map Prod.snd, ∀ x, c.X.N[j]? = some x → c.X.env.scope.names.lookup x = none)
    (hv0 : ∀ k : Nat, c.pb[k]? = some true → k < c.v0.length) (hsub : ∀ k : Nat, c.pb[k]? = some true → ms[k]? = some true) (hms : ∀ k : Nat, ms[k]? = some true → k ∈ i :: fl.map Prod.snd ∨ c.pb[k]? = some true) (hin : ∀ j ∈ i :: fl.map Prod.snd, ms[j]? = some true) (hold : ∀ j ∈ i :: fl.map Prod.snd, c.pb[j]? ≠ some true)
    (hr : ∀ (ws : List V) (B : Hp), (∀ k : Nat, ms[k]? = some true → k < ws.length) → Later c ms ws B → ObAt (obC c ms ws B) i C fl → JB (obC c ms ws B) rest g) : JB c (.Assign [.Name x pos'] e pos :: rest) (gNewO i C fl ge g) := by
  obtain ⟨t, p, q⟩ := h
  refine ⟨_, pss_cons (u := fun E σ H => ∃ (ws : List V) (B : Hp) (h1 : ∀ k : Nat, ms[k]? = some true → k < ws.length) (h2 : Later c ms ws B) (h3 : ObAt (obC c ms ws B) i C fl) (vs : List (Str × V)), Classical.choose (hr ws B h1 h2 h3) E (setG (fl.map Prod.snd) vs σ) H) (ps_set hN hi hx p hsw hf) ⟨fun pins s σ H D I ht => ?_⟩, fun G F ow σ H L Rr E ft => ?_⟩
  · obtain ⟨ws, B, h1, h2, h3, vs, ht⟩ := ht
    exact (Classical.choose_spec (hr ws B h1 h2 h3)).1.run pins s _ H D (Inv.setG hgh I) ht
  · refine (q G F ow σ H L Rr).use ft fun s L1 v H1 F1 ow1 _ _ R1 b1 f1 => ?_
    cases s with
    | ob C' fs =>
      have f2 : Fit c G F1 (if C' = C ∧ fs.map (·.1) = fl.map (·.1) ∧ (∀ j ∈ i :: fl.map Prod.snd, j < L1.length) then cleanR (g (setF (fl.map Prod.snd) fs (L1.set i none))) else .stuck) E := f1
      clear f1
      by_cases hc : C' = C ∧ fs.map (·.1) = fl.map (·.1) ∧ (∀ j ∈ i :: fl.map Prod.snd, j < L1.length)
      · rw [if_pos hc] at f2
        obtain ⟨hC, hfn, hjlt⟩ := hc
        subst hC
        cases b1 with
        | @ob _ a dx _ vs _ w1 w2 w3 =>
        have hvn : vs.map (·.1) = fl.map (·.1) := (RF.len w3).trans hfn
        have hfl : fs.length = fl.length := by
          have := congrArg List.length hfn
          rwa [List.length_map, List.length_map] at this
        have hjf : (fl.map Prod.snd).length = fs.length := by rw [List.length_map, hfl]
        have ndj := (List.nodup_cons.mp nd).2
        have hij := (List.nodup_cons.mp nd).1
        have hσL : L1.length = σ.length := R1.len
        obtain ⟨js, hjs⟩ : ∃ js, js = fl.map Prod.snd := ⟨_, rfl⟩
        rw [← hjs] at hjf ndj hij f2 hjlt hms hin hold
        have hvl : vs.length = fs.length := by
          have := congrArg List.length (RF.len w3)
          rwa [List.length_map, List.length_map] at this
        obtain ⟨σ2, hσ2⟩ : ∃ σ2, σ2 = setG js vs (σ.set i (some (.ref a))) := ⟨_, rfl⟩
        obtain ⟨B2, hB2⟩ : ∃ B2, B2 = upd c.B a (.ins (c.ca C') dx vs) := ⟨_, rfl⟩
        obtain ⟨φ, hφ⟩ : ∃ φ : Path → Option Path, φ = fun q => match q with
          | [] => none
          | k :: q' => (js[k]?).map fun j => (j + 1) :: q' := ⟨_, rfl⟩
        obtain ⟨x0, g0, n0⟩ := R1.dF a _ w2
        have b0 := R1.dB a _ w2
        have hsB : Same c.B B2 := by rw [hB2]; exact upd_same_of b0
        have hBF : Same (BF c.B F1) (BF B2 F1) := fun z o h => by
          unfold BF at h ⊢
          by_cases hz : z = a
          · subst hz
            rw [b0, x0] at h
            cases h
          · have e2 : B2 z = c.B z := by rw [hB2]; exact upd_ne hz
            rw [e2]
            exact h
        obtain ⟨ws, hws⟩ : ∃ ws : List V, ws = σ2.map fun o => o.getD .non := ⟨_, rfl⟩
        have hl2 : σ2.length = σ.length := by rw [hσ2, setG_len, List.length_set]
        have hil : i < σ.length := by rw [← hσL]; exact hjlt i List.mem_cons_self
        have s2i : σ2[i]? = some (some (.ref a)) := by rw [hσ2, setG_out hij, List.getElem?_set_self hil]
        have s2j : ∀ (m : Nat) (f : Str) (k : Nat) (v : V), js[m]? = some k → vs[m]? = some (f, v) → σ2[k]? = some (some v) := fun m f k v h1 h2 => by
          rw [hσ2]
          exact setG_in ndj h1 h2 (by rw [List.length_set, ← hσL]; exact hjlt k (List.mem_cons_of_mem _ (List.mem_of_getElem? h1)))
        have s2o : ∀ k : Nat, k ∉ i :: js → σ2[k]? = σ[k]? := fun k hk => by
          simp only [List.mem_cons, not_or] at hk
          rw [hσ2, setG_out hk.2, List.getElem?_set_ne (fun e => hk.1 e.symm)]
        have old : ∀ (k : Nat), c.pb[k]? = some true → ∃ v, c.v0[k]? = some v ∧ σ2[k]? = some (some v) := fun k hk => by
          have hlt := hv0 k hk
          refine ⟨c.v0[k], List.getElem?_eq_getElem hlt, ?_⟩
          rw [s2o k fun hm => hold k hm hk]
          exact R1.pin k _ (pinOf_at hk (List.getElem?_eq_getElem hlt))
        have some2 : ∀ k : Nat, ms[k]? = some true → ∃ v, σ2[k]? = some (some v) ∧ ws[k]? = some v := fun k hk => by
          have h2 : ∃ v, σ2[k]? = some (some v) := by
            rcases hms k hk with hm | hm
            · rcases List.mem_cons.mp hm with rfl | hm
              · exact ⟨_, s2i⟩
              · obtain ⟨m, hm1, hm2⟩ := List.getElem_of_mem hm
                have hm3 := List.getElem?_eq_some_iff.mpr ⟨hm1, hm2⟩
                have hvm : m < vs.length := by omega
                exact ⟨_, s2j m vs[m].1 k vs[m].2 hm3 (List.getElem?_eq_getElem hvm)⟩
            · obtain ⟨v, _, h⟩ := old k hm
              exact ⟨v, h⟩
          obtain ⟨v, hv⟩ := h2
          exact ⟨v, hv, by rw [hws, List.getElem?_map, hv]; rfl⟩
        have hlat : Later c ms ws B2 := ⟨hsB, fun k v h1 h2 => by
          obtain ⟨u, q1, q2⟩ := old k h1
          rw [h2] at q1
          cases q1
          obtain ⟨u2, q3, q4⟩ := some2 k (hsub k h1)
          rw [q2] at q3
          cases q3
          exact ⟨hsub k h1, q4⟩⟩
        have hob : ObAt (obC c ms ws B2) i C' fl := by
          refine ⟨a, dx, vs, by rw [hB2]; exact upd_same, hin i List.mem_cons_self, ?_, hvn, fun f j hl => ?_⟩
          · obtain ⟨u, q1, q2⟩ := some2 i (hin i List.mem_cons_self)
            rw [s2i] at q1
            cases q1
            exact q2
          · obtain ⟨m, gg, v, h1, h2, h3⟩ := lookup_at hvn hl
            rw [← hjs] at h1
            have hmj : j ∈ i :: js := List.mem_cons_of_mem _ (List.mem_of_getElem? h1)
            obtain ⟨u, q1, q2⟩ := some2 j (hin j hmj)
            rw [s2j m gg j v h1 h2] at q1
            cases q1
            exact ⟨v, h3, hin j hmj, q2⟩
        have hwl : ∀ k : Nat, ms[k]? = some true → k < ws.length := fun k hk => by
          obtain ⟨u, _, q2⟩ := some2 k hk
          exact (List.getElem?_eq_some_iff.mp q2).1
        refine ⟨ws, B2, hwl, hlat, hob, vs, ?_⟩
        have φ1 : ∀ {m j : Nat} {q : Path}, js[m]? = some j → φ (m :: q) = some ((j + 1) :: q) := fun {m j q} h => by
          rw [hφ]
          show (js[m]?).map _ = _
          rw [h]
          rfl
        have φ0 : φ [] = none := by rw [hφ]
        have R2 : (obC c ms ws B2).Rl G F1 (reown φ ow1) σ2 H1 (setF js fs (L1.set i none)) := by
          have R3 := R1.reown φ
          refine ⟨R1.exF, R1.exG, R3.dF, R1.dG, by rw [setF_len, List.length_set, hl2]; exact hσL, fun k s hk => ?_, fun k u hk => ?_, fun a' o h => ?_, fun a' p h => ?_⟩
          · rcases setF_get ndj hjf hk with ⟨m, f, h1, h2⟩ | ⟨h1, h2⟩
            · obtain ⟨u, h3, h4⟩ := RF.at_ w3 h2
              rw [Nat.zero_add] at h4
              refine ⟨u, s2j m f k u h1 h3, RT.of (RS.go h4 (Same.refl F1) fun a' q e => ⟨rfl, ?_⟩)⟩
              rw [reown_0 (q := m :: q) e]
              exact φ1 h1
            · rcases set_get h2 with ⟨_, h3⟩ | ⟨h3, h4⟩
              · cases h3
              · obtain ⟨u, q1, q2⟩ := R3.sl k s h4
                refine ⟨u, ?_, q2.upB hBF⟩
                rw [s2o k (by simp only [List.mem_cons, not_or]; exact ⟨fun e => h3 e.symm, h1⟩)]
                exact q1
          · obtain ⟨m1, m2⟩ := pinOf_mk hk
            obtain ⟨u2, q3, q4⟩ := some2 k m1
            have m2 : ws[k]? = some u := m2
            rw [m2] at q4
            cases q4
            exact q3
          · have h : B2 a' = some o := h
            rw [hB2] at h
            by_cases z : a' = a
            · subst z
              rw [upd_same] at h
              cases h
              exact w1
            · rw [upd_ne z] at h
              exact R1.exB a' o h
          · show B2 a' = none
            rw [hB2]
            by_cases z : a' = a
            · subst z
              rw [reown_0 (q := []) w2, φ0] at h
              cases h
            · rw [upd_ne z]
              exact R3.dB a' p h
        have low : ∀ {F' H' : Hp} {ow' : Addr → Option Path} {σ' : L2.St} {L' : LS}, (obC c ms ws B2).Rl G F' ow' σ' H' L' → c.Rl G F' ow' σ' H' (cleanL L') := fun {F' H' ow' σ' L'} r => by
          refine ⟨r.exF, r.exG, r.dF, r.dG, by unfold cleanL; rw [List.length_map]; exact r.len, fun k s hk => ?_, fun k u hk => ?_, fun a' o h => r.exB a' o (hsB a' o h), fun a' p h => ?_⟩
          · obtain ⟨k1, k2⟩ := cleanL_get hk
            obtain ⟨u, q1, q2⟩ := r.sl k s k1
            exact ⟨u, q1, RT.of (q2.rs k2)⟩
          · obtain ⟨m1, m2⟩ := pinOf_mk hk
            obtain ⟨p1, p2⟩ := hlat.p k u m1 m2
            exact r.pin k u (pinOf_at p1 p2)
          · have := r.dB a' p h
            have this : B2 a' = none := this
            cases z : c.B a' with
            | none => rfl
            | some o =>
              rw [hsB a' o z] at this
              cases this
        rw [← hjs, show (σ.set i (some (V.ref a))) = σ.set i (some (.ref a)) from rfl, ← hσ2]
        refine (Classical.choose_spec (hr ws B2 hwl hlat hob)).2 G F1 _ σ2 H1 _ R2 E ?_
        cases hg : g (setF js fs (L1.set i none)) with
        | stuck => rw [hg] at f2; exact f2.elim
        | err k L4 => rw [hg] at f2; exact fun σ' H' F' ow' e' R' => f2 σ' H' F' ow' e' (low R')
        | ok o L4 =>
          rw [hg] at f2
          cases o with
          | nx => exact fun σ' H' F' ow' e' R' => f2 σ' H' F' ow' e' (low R')
          | bk => exact fun σ' H' F' ow' e' R' => f2 σ' H' F' ow' e' (low R')
          | ct => exact fun σ' H' F' ow' e' R' => f2 σ' H' F' ow' e' (low R')
          | rt s => exact fun w σ' H' F' ow' e' R' rs => f2 w σ' H' F' ow' e' (low R') rs
      · rw [if_neg hc] at f2
        exact f2.elim
    | _ => exact f1.elim
end VS

namespace VS
open PySem PySem.Spec PyProof.Rows L2
theorem zip_lookup {α : Type} : ∀ {fs : List Str} {gs : List α} {f : Str} {q : α}, (fs.zip gs).lookup f = some q → ∃ m : Nat, gs[m]? = some q ∧ ∀ {β : Type} {hs : List β} {z : β}, hs[m]? = some z → fs.length = hs.length → (fs.zip hs).lookup f = some z
  | [], _, f, q, h => by cases h
  | _ :: _, [], f, q, h => by cases h
  | g :: fs, x :: gs, f, q, h => by
    rw [List.zip_cons_cons, List.lookup_cons] at h
    split at h
    · rename_i he
      cases h
      refine ⟨0, rfl, fun {β hs z} e hl => ?_⟩
      cases hs with
      | nil => cases e
      | cons y hs =>
        cases e
        rw [List.zip_cons_cons, List.lookup_cons, he]
    · rename_i he
      obtain ⟨m, h1, h2⟩ := zip_lookup h
      refine ⟨m + 1, h1, fun {β hs z} e hl => ?_⟩
      cases hs with
      | nil => cases e
      | cons y hs =>
        rw [List.zip_cons_cons, List.lookup_cons, he]
        exact h2 e (Nat.succ.inj hl)
theorem zip_at {α : Type} : ∀ {fs : List Str} {gs : List α} {m : Nat} {q : α}, fs.Nodup → gs[m]? = some q → fs.length = gs.length → ∃ f : Str, (fs.zip gs).lookup f = some q
  | [], [], m, q, _, h, _ => by cases h
  | g :: fs, x :: gs, 0, q, _, h, _ => by
    cases h
    exact ⟨g, by rw [List.zip_cons_cons, List.lookup_cons]; simp⟩
  | g :: fs, x :: gs, m + 1, q, nd, h, hl => by
    obtain ⟨f, hf⟩ := zip_at (List.nodup_cons.mp nd).2 (show gs[m]? = some q from h) (Nat.succ.inj hl)
    refine ⟨f, ?_⟩
    rw [List.zip_cons_cons, List.lookup_cons]
    have hne : (f == g) = false := by
      cases hb : (f == g) with
      | false => rfl
      | true =>
        have e : f = g := by simpa using hb
        subst e
        exfalso
        have : ∀ {fs : List Str} {gs : List α}, (fs.zip gs).lookup f = some q → f ∈ fs := by
          intro fs
          induction fs with
          | nil => intro gs h; cases h
          | cons y fs ih =>
            intro gs h
            cases gs with
            | nil => cases h
            | cons z gs =>
              rw [List.zip_cons_cons, List.lookup_cons] at h
              split at h
              · rename_i he
                have : f = y := by simpa using he
                rw [this]
                exact List.mem_cons_self
              · exact List.mem_cons_of_mem _ (ih h)
        exact (List.nodup_cons.mp nd).1 (this hf)
    rw [hne]
    exact hf
theorem obsArg_one {c : Ct} {as : List Ag} {gs : List Nat} {i p C : Nat} {fl fl' : List (Str × Nat)} {fs : List Str} (O : ObAt c i C fl) (h : as[p]? = some (.o i)) (h1 : fl = fs.zip gs) (h2 : fl' = fs.zip (List.range' as.length gs.length)) (hl : fs.length = gs.length) (nd : fs.Nodup) : ObsArg c as gs [(p, C, fl')] := by
  have hr : (List.range' as.length gs.length).length = gs.length := List.length_range'
  refine ⟨fun o ho => ?_, fun q hq => ?_⟩
  · rw [List.mem_singleton] at ho
    subst ho
    refine ⟨i, fl, h, O, ?_, fun f j hj => ?_⟩
    · rw [h1, h2]
      show (fs.zip gs).map Prod.fst = (fs.zip (List.range' as.length gs.length)).map Prod.fst
      rw [List.map_fst_zip (by omega), List.map_fst_zip (by rw [hr]; omega)]
    · have hj : fl'.lookup f = some j := hj
      rw [h2] at hj
      obtain ⟨m, e1, e2⟩ := zip_lookup hj
      have hm := (List.getElem?_eq_some_iff.mp e1).1
      rw [hr] at hm
      have hm2 : gs[m]? = some gs[m] := List.getElem?_eq_getElem hm
      have hjm : j = as.length + m := by
        rw [List.getElem?_eq_getElem (by rw [hr]; exact hm), List.getElem_range'] at e1
        have := Option.some.inj e1
        omega
      refine ⟨gs[m], by rw [h1]; exact e2 hm2 hl, by omega, ?_⟩
      rw [show j - as.length = m by omega]
      exact hm2
  · obtain ⟨m, hm, e⟩ := List.getElem_of_mem hq
    have hm2 := List.getElem?_eq_some_iff.mpr ⟨hm, e⟩
    obtain ⟨f, hf⟩ := zip_at nd hm2 hl
    obtain ⟨a, dx, vs, _, _, _, _, o4⟩ := O.ex
    rw [h1] at o4
    obtain ⟨v, _, f2, f3⟩ := o4 f q hf
    exact ⟨v, f2, f3⟩
theorem hv_of {md : List Bool} {ws : List V} (h : ws.length = md.length) : ∀ k : Nat, md[k]? = some true → k < ws.length := fun k hk => by
  rw [h]
  exact (List.getElem?_eq_some_iff.mp hk).1
def ghOk (N : List Str) (sc : Scope) (js : List Nat) : Bool := js.all fun j => match N[j]? with
  | some x => (sc.names.lookup x).isNone
  | none => true
theorem ghOk_at {N : List Str} {sc : Scope} {js : List Nat} (h : ghOk N sc js = true) : ∀ j ∈ js, ∀ x, N[j]? = some x → sc.names.lookup x = none := fun j hj x hx => by
  have := List.all_eq_true.mp h j hj
  rw [hx] at this
  exact Option.isNone_iff_eq_none.mp this
theorem gh_def {N : List Str} {sc : Scope} {np n : Nat} (h : ghOk N sc (List.range' np (n - np)) = true) : ∀ (k : Nat) (x : Str), np ≤ k → k < n → N[k]? = some x → sc.names.lookup x = none := fun k x h1 h2 h3 => ghOk_at h k (by rw [List.mem_range']; exact ⟨k - np, by omega, by omega⟩) x h3
def msOk (ms pb : List Bool) (l : List Nat) : Bool := (List.range ms.length).all fun k => !decide (ms[k]? = some true) || (decide (k ∈ l) || decide (pb[k]? = some true))
theorem msOk_at {ms pb : List Bool} {l : List Nat} (h : msOk ms pb l = true) : ∀ k : Nat, ms[k]? = some true → k ∈ l ∨ pb[k]? = some true := fun k hk => by
  have hlt := (List.getElem?_eq_some_iff.mp hk).1
  have := List.all_eq_true.mp h k (List.mem_range.mpr hlt)
  rw [hk] at this
  simpa using this
def inOkB (ms : List Bool) (l : List Nat) : Bool := l.all fun j => decide (ms[j]? = some true)
theorem inOk_at {ms : List Bool} {l : List Nat} (h : inOkB ms l = true) : ∀ j ∈ l, ms[j]? = some true := fun j hj => of_decide_eq_true (List.all_eq_true.mp h j hj)
def oldOk (pb : List Bool) (l : List Nat) : Bool := l.all fun j => !decide (pb[j]? = some true)
theorem oldOk_at {pb : List Bool} {l : List Nat} (h : oldOk pb l = true) : ∀ j ∈ l, pb[j]? ≠ some true := fun j hj => by
  have := List.all_eq_true.mp h j hj
  simpa using this
theorem jb_new {c : Ct} {n : Bool} {e : Expr} {ge : LS → R S} {g : LS → R O} {i C : Nat} {x : Str} {pos' pos : Pos} {rest : List Stmt} (fl : List (Str × Nat)) (ms : List Bool) (h : JE c n e ge)
    (hN : c.X.N.Nodup) (hi : c.X.N[i]? = some x) (hx : Loc c.X.env.scope x) (hgh : ghOk c.X.N c.X.env.scope (fl.map Prod.snd) = true)
    (hv0 : ∀ k : Nat, c.pb[k]? = some true → k < c.v0.length) (hsub : subB c.pb ms = true) (hms : msOk ms c.pb (i :: fl.map Prod.snd) = true) (hin : inOkB ms (i :: fl.map Prod.snd) = true) (hold : oldOk c.pb (i :: fl.map Prod.snd) = true) (nd : (i :: fl.map Prod.snd).Nodup)
    (hr : ∀ (ws : List V) (B : Hp), (∀ k : Nat, ms[k]? = some true → k < ws.length) → Later c ms ws B → ObAt (obC c ms ws B) i C fl → JB (obC c ms ws B) rest g)
    (hsw : swapsWith e (some (.Name x pos')) pos.line c.X.env = pure false := by rfl)
    (hf : c.X.fn x = true ∨ c.X.env.scope.names.lookup x = some .local := by first | exact .inl rfl | exact .inr rfl | assumption) : JB c (.Assign [.Name x pos'] e pos :: rest) (gNewO i C fl ge g) :=
  jb_newO fl ms h hN hi hx hsw hf nd (ghOk_at hgh) hv0 (subB_at hsub) (msOk_at hms) (inOk_at hin) (oldOk_at hold) hr
structure DxG (P : Program) (w : World) (K : PySem.W.Frag) (mg : Str → Option Value) (base : Heap) (ca : Nat → Addr) (x : Str) (k : Nat) (ps : List Str) (obs : Obs) (md : List Bool) (m : LS → R S) : Prop where
  ex : ∃ f fd, FnOk P w K mg base (L2.CX P w) k f fd ps (VSg K ca obs ps.length md m) ∧ mg x = some (.ref f) ∧ PySem.W.keepIn K (.ref f) = true ∧ Binds K fd ps []
structure MxG (P : Program) (w : World) (K : PySem.W.Frag) (mg : Str → Option Value) (base : Heap) (ca : Nat → Addr) (C : Nat) (x : Str) (k : Nat) (ps : List Str) (obs : Obs) (md : List Bool) (m : LS → R S) : Prop where
  ex : ∃ f fd, FnOk P w K mg base (L2.CX P w) k f fd ps (VSg K ca obs ps.length md m) ∧ Cls K (ca C) ∧ Meth K (ca C) x f ∧ Binds K fd ps []
structure CxG (P : Program) (w : World) (K : PySem.W.Frag) (mg : Str → Option Value) (base : Heap) (ca : Nat → Addr) (C : Nat) (x : Str) (k : Nat) (m : LS → R S) : Prop where
  ex : ∃ f fd ps, Mk K (ca C) f ∧ FnOk P w K mg base (L2.CX P w) k f fd ps (VSp K ca [true] m) ∧ mg x = some (.ref (ca C)) ∧ Binds K fd ps []
section
variable {c : Ct} {n : Bool} {as : List Ag} {gs : List Nat} {obs : Obs} {md : List Bool} {m : LS → R S} {ps : List Str} {x : Str} {k j : Nat} {p pos apos : Pos} {e o : Expr} {es : List Expr}
theorem je_dxG (D : DxG c.X.prog c.X.w c.X.K c.X.mg c.X.base c.ca x k ps obs md m) (hr : Room j c.X.A) (hk : k ≤ j) (tk : Takes c.X c.W) (hg : Gl c.X x) (ha : JAg c (e :: es) as) (ho : ObsArg c as gs obs) (hl : as.length + gs.length = md.length := by rfl) (hps : ps.length = as.length := by rfl)
    (hdb : (x == ("__debug__" : Str)) = false := by decide) (he : starEach (e :: es) c.X.env = (false, eval e c.X.env) :: starEach es c.X.env := by rfl) (hpl : (backTo pos (starEach es c.X.env)).any (·.1) = false := by rfl) :
    JE c false (.Call (.Name x p) (e :: es) [] pos) (gCallG m as gs) := by
  obtain ⟨f, fd, h1, h2, h3, h4⟩ := D.ex
  rw [hps] at h1
  exact je_callG h1 (hr.mono hk) tk hg h2 h3 h4 ha ho hl hdb he hpl
theorem je_mxG {pl : Sem Bool} {i C : Nat} {fl : List (Str × Nat)} (D : MxG c.X.prog c.X.w c.X.K c.X.mg c.X.base c.ca C x k ps obs md m) (hr : Room j c.X.A) (hk : k ≤ j) (tk : Takes c.X c.W) (ob : ObAt c i C fl) (h0 : PSl c i o) (ha : JAg c (e :: es) as) (ho : ObsArg c (.o i :: as) gs obs) (hnf : fl.lookup x = none := by rfl) (hl : as.length + 1 + gs.length = md.length := by rfl) (hps : ps.length = as.length + 1 := by rfl)
    (hst : starEach (e :: es) c.X.env = (false, eval e c.X.env) :: starEach es c.X.env := by rfl) (hpl : (backTo pos (starEach es c.X.env)).any (·.1) = false := by rfl)
    (ht : eval (.Call (.Attribute o x apos) (e :: es) [] pos) c.X.env = (do
      let ov ← eval o c.X.env
      standAt apos.atName
      let (f, first) ← holding [ov] (getMethod ov x pl)
      callWith pos f first (backTo pos (starEach (e :: es) c.X.env)) (backToKw pos (keywordEach [] c.X.env))) := by rfl) :
    JE c false (.Call (.Attribute o x apos) (e :: es) [] pos) (gCallG m (.o i :: as) gs) := by
  obtain ⟨f, fd, h1, h2, h3, h4⟩ := D.ex
  rw [hps] at h1
  exact je_methG h1 (hr.mono hk) tk h2 h3 hnf h4 ob h0 ha ho hl hst hpl ht
theorem je_cxG {C : Nat} (D : CxG c.X.prog c.X.w c.X.K c.X.mg c.X.base c.ca C x k m) (hr : Room j c.X.A) (hk : k + 1 ≤ j) (hg : Gl c.X x) (hdb : (x == ("__debug__" : Str)) = false := by decide) : JE c false (.Call (.Name x p) [] [] pos) (gNewOb C m) := by
  obtain ⟨f, fd, ps, h1, h2, h3, h4⟩ := D.ex
  exact je_new0 h1 h2 (hr.mono hk) hg h3 h4 hdb
end
theorem vsp_of {P : Program} {w : World} {K : PySem.W.Frag} {mg : Str → Option Value} {base : Heap} {ca : Nat → Addr} {k : Nat} {f : Addr} {fd : FuncData} {ps : List Str} {md : List Bool} {m : LS → R S} (h : FnOk P w K mg base (L2.CX P w) k f fd ps (VSg K ca [] ps.length md m)) (hl : ps.length = md.length) : FnOk P w K mg base (L2.CX P w) k f fd ps (VSp K ca md m) := by
  refine FnOk.imp h fun vs H Q E q => ?_
  have hvl := VSp.len q
  obtain ⟨B, G, F, ow, ss, h1, h2, h3⟩ := q
  refine ⟨hvl.trans hl.symm, [], B, G, F, ow, ss, by rw [List.append_nil]; exact hvl, h1, fun o ho => (by cases ho), ?_⟩
  rw [List.append_nil]
  exact ⟨h2, h3⟩
end VS
namespace VS
theorem obsArg_nil {c : Ct} {as : List Ag} : ObsArg c as [] [] := ⟨fun o h => (by cases h), fun q h => (by cases h)⟩
end VS
namespace VS
open PySem PySem.Spec PyProof.Rows L2
section
variable {c : Ct} {n : Bool} {a e0 : Expr} {ga : LS → R D} {pos p : Pos} {i k : Nat}
theorem jt_dinF (hr : Room k c.X.A) (h : PSl c i e0) (ha : JD c n a ga) (hm : behindInMarks .In e0 = false := by rfl) : JT c n (.Compare a [.In] [e0] pos) (gB (gDIn false i ga)) := by
  obtain ⟨ta, pa, qa⟩ := ha
  obtain ⟨te, h, hte⟩ := h
  refine ⟨_, pt_cmp (pc_din (by have := hr.un; omega) pa h) hm, jdg_B fun G F ow σ H L Rr => ?_⟩
  refine (qa G F ow σ H L Rr).bind1 (k := dinK false i) (B2 := BD c.X.K) (t2 := fun y H1 Q => te σ H1 fun x H2 => ∃ a o, x = .ref a ∧ DGet H2 a y o ∧ Q (V.bl o.isSome) H2) fun d L1 y H1 F1 ow1 _ _ _ R1 b1 => ?_
  unfold dinK
  cases hr : dictAt L1[i]? d with
  | none => trivial
  | some r =>
    obtain ⟨l, o, h1, h2, h3⟩ := dict_get R1 b1 hr
    have ho := optOk_some h3
    exact (Post.val (a := PyData.bool r.isSome) (b := V.bl o.isSome) (B := BD c.X.K) R1 (by rw [ho]; exact Dq.bl _)).imp fun Q q => hte R1 h1 _ ⟨l, o, rfl, h2, q⟩
theorem jt_dninF (hr : Room k c.X.A) (h : PSl c i e0) (ha : JD c n a ga) (hm : behindInMarks .NotIn e0 = false := by rfl) : JT c n (.Compare a [.NotIn] [e0] pos) (gB (gDIn true i ga)) := by
  obtain ⟨ta, pa, qa⟩ := ha
  obtain ⟨te, h, hte⟩ := h
  refine ⟨_, pt_cmp (pc_dnotin (by have := hr.un; omega) pa h) hm, jdg_B fun G F ow σ H L Rr => ?_⟩
  refine (qa G F ow σ H L Rr).bind1 (k := dinK true i) (B2 := BD c.X.K) (t2 := fun y H1 Q => te σ H1 fun x H2 => ∃ a o, x = .ref a ∧ DGet H2 a y o ∧ Q (V.bl (!o.isSome)) H2) fun d L1 y H1 F1 ow1 _ _ _ R1 b1 => ?_
  unfold dinK
  cases hr : dictAt L1[i]? d with
  | none => trivial
  | some r =>
    obtain ⟨l, o, h1, h2, h3⟩ := dict_get R1 b1 hr
    have ho := optOk_some h3
    exact (Post.val (a := PyData.bool (!r.isSome)) (b := V.bl (!o.isSome)) (B := BD c.X.K) R1 (by rw [ho]; exact Dq.bl _)).imp fun Q q => hte R1 h1 _ ⟨l, o, rfl, h2, q⟩
theorem tkLater {c : Ct} {ms : List Bool} {ws : List V} {B : Hp} (_ : Later c ms ws B) (h : Takes c.X c.W) : Takes (obC c ms ws B).X (obC c ms ws B).W := h
end
end VS
namespace VS
open PySem
abbrev fl_ (fs : List Str) (js : List Nat) : List (Str × Nat) := fs.zip js
end VS

namespace VS
open PySem PySem.Spec PyProof.Rows L2
section
variable {c : Ct} {n : Bool} {a b d : Expr} {gs : LS → R (List D)} {pos p : Pos}
end
end VS

namespace VS
open PySem PySem.Spec PyProof.Rows L2
section
variable {K : PySem.W.Frag} {ca : Nat → Addr} {bh : Hp} {pn : List (Option V)} {G F H : Hp} {ow : Addr → Option Path} {σ : L2.St} {L : LS}
end
def S.one : S → Bool
  | .ol _ => true
  | .odK _ => true
  | .odT _ => true
  | _ => false
end VS

namespace VS
open PySem PySem.Spec PyProof.Rows L2
structure KeyAt0 (P : Program) (w : World) (K : PySem.W.Frag) (mg : Str → Option Value) (x : Str) : Prop where
  ex : ∃ f, mg x = some (.ref f) ∧ ∀ (A : Around) (s : Shared) (t : Addr) (items : Array Value) (y : Value), A.depth < recursionLimit → K.In s.heap → s.heap.NoLimit → IsTup s.heap t items → items[0]? = some y →
    wpAny (model P w) A (call (.ref f) [.ref t]) (fun v s2 => v = y ∧ ∃ h' tk, s2 = { s with heap := h', toks := tk } ∧ ∀ b o, s.heap.get? b = some o → h'.get? b = some o) (fun _ _ => False) s
theorem key_at0 {P : Program} {w : World} {K : PySem.W.Frag} {mg : Str → Option Value} {x qual y : Str} {st : Stmt} {f : Addr} {fd : FuncData} (F : Fun K x qual st f fd) (S : FnScope [y] [y] (defScope st)) (hl : (defScope st).names.lookup y = some .local) (hb : Binds K fd [y] []) (hg : mg x = some (.ref f))
    {j2 : Nat} {p3 p4 p5 p6 : Pos} (hbody : defBody st = [.Return (some (.Subscript (.Name y p3) (.Constant (.int 0) j2 p4) p5)) p6])
    (hd : (y == ("__debug__" : Str)) = false) : KeyAt0 P w K mg x := by
  refine ⟨f, hg, fun A s t items z hdp KX lim ht hx => ?_⟩
  obtain ⟨oc, od, kV, doc, pm, an, cdv, ct, osl, rfl, lk, hcd⟩ := F.ex
  have hbt := hb s [.ref t] KX rfl
  rw [List.append_nil] at hbt
  refine wpAny_call (codeAny_call_function hdp (KX _ _ lk) rfl S.co S.gen rfl (PySem.W.codeRec_of KX hcd) (hbt _ _ _ _ ?_))
  refine wpAny_newFunctionEnv_cells S.kind (fun p hp => .inl ?_) fun env he s1 xx => ?_
  · cases hp with
    | head => exact hl
    | tail _ h => cases h
  subst he
  refine ⟨lim.keeps xx.toInCall.keep, codeAny_func ?_⟩
  rw [hbody]
  have hm : bindL (newEnv (defScope st) s.heap.objs.size mainGlobals (cellsFrom (s.heap.objs.size + 1) (defScope st).names []) (qual ++ ".<locals>.") (some f) cdv none builtinsNs).kindOf [(y, Value.ref t)] (fun _ => none) y = some (.ref t) := by
    have hk : (newEnv (defScope st) s.heap.objs.size mainGlobals (cellsFrom (s.heap.objs.size + 1) (defScope st).names []) (qual ++ ".<locals>.") (some f) cdv none builtinsNs).kindOf y = some .local := hl
    simp [bindL, hk]
  have I1 := xx.toInCall
  refine wpAny_execs_cons (wpAny_Return_some (Subscript_ (wpAny_Name (wpAny_loadName_local S.kind hl I1.ns hm (wpAny_Constant_int ?_)) hd)))
  have I2 := I1.tok (s1.toks + 1)
  have ht2 : IsTup _ t items := ht.keeps I2.keep
  have hz := (Array.getElem?_eq_some_iff.mp hx).1
  have hs1 : seqIndex? 0 items.size = some 0 := by
    have h0 : (0 : Int) < (items.size : Int) := by omega
    unfold seqIndex?
    simp only [Int.lt_irrefl, if_false, h0, Int.toNat_zero]
    first | rfl | simp [hz]
  exact subscriptTail_builtinR (x := z) ht2.typeIs slot_tuple_getitem.lookup (getItem_tuple (j := 0) ht2 (by omega) (by omega) hs1 hx ⟨rfl, rfl, I2.done⟩) rfl
def it0 : D → Int
  | .tuple (.int i :: _) => i
  | _ => 0
def isIt0 : D → Bool
  | .tuple (.int _ :: _) => true
  | _ => false
def ord0 (x y : D) : Bool := decide (it0 x ≤ it0 y)
def srtK0 (ds : List D) : List D := ds.mergeSort ord0
def dSortK0 : D → Option S
  | .list ds => if ds.all isIt0 = true ∧ ds.length ≤ sizeLine then some (.ol (srtK0 ds)) else none
  | _ => none
theorem ord0_eq {β : Type} (f : β → D) : PySem.W.dataLe false (fun z : β => PyData.int (it0 (f z))) = fun x y => ord0 (f x) (f y) := PySem.W.dataLe_int fun z => it0 (f z)
def rSortK0 (K : PySem.W.Frag) (F : V → D → Prop) (fa : V) : List V → List V → Hp → VK → Prop := fun vs zs H Q => ∃ (a : Addr) (xs : List V) (ds : List D), vs = [V.ref a] ∧ zs = [fa] ∧ SqL K H a xs ∧
  xs.length = ds.length ∧ (∀ p ∈ xs.zip ds, F p.1 p.2 ∧ ∃ t ys i, p.1 = .ref t ∧ SqT K H t ys ∧ ys[0]? = some (.int i) ∧ it0 p.2 = i) ∧
  ∀ (ys : List V) (p : Addr), ys.length = ds.length → (∀ q ∈ ys.zip (srtK0 ds), F q.1 q.2) → H p = none → Q (.ref p) (upd H p (.lst ys))
theorem vals1 {v : V} {us : List Value} (h : Vals [v] us) : ∃ u, us = [u] ∧ RelV v u := by
  cases h with
  | cons a b => cases b; exact ⟨_, rfl, a⟩
theorem cr_sortK0 {X : Cx} {f : Addr} (hr : Room 0 X.A) (h : ∀ (A : Around) (s : Shared) (t : Addr) (items : Array Value) (y : Value), A.depth < recursionLimit → X.K.In s.heap → s.heap.NoLimit → IsTup s.heap t items → items[0]? = some y →
    wpAny (model X.prog X.w) A (call (.ref f) [.ref t]) (fun v s2 => v = y ∧ ∃ h' tk, s2 = { s with heap := h', toks := tk } ∧ ∀ b o, s.heap.get? b = some o → h'.get? b = some o) (fun _ _ => False) s) (F : V → D → Prop) :
    CallRK X (.builtin "sorted") [Str.ofString "key"] (rSortK0 X.K F (.ref f)) := by
  intro pins s σ H vs zs us ws Q I r rz hh
  obtain ⟨a, xs, ds, rfl, rfl, hs, hlen, hz, q⟩ := hh
  obtain rfl := Vals.ref1 r
  obtain ⟨w1, rfl, e1⟩ := vals1 rz
  obtain rfl : w1 = Value.ref f := e1
  obtain ⟨its, rv, pl, hsz⟩ := I.list hs
  have hl2 : its.length = xs.length := rv.length.symm
  refine PySem.W.sorted_key_data (b := false) (R := fun (u : Value) (z : V × D) => RelV z.1 u) (bs := xs.zip ds) (fun z : V × D => PyData.int (it0 z.2)) pl.isList ?_ (PySem.W.AllAlike.of fun _ _ => rfl) (PySem.W.Sortable.others fun _ => ⟨nofun, nofun⟩)
    (by rw [List.length_zip]; omega) (fun _ _ => ?_) (PyProof.Rows.ksk_s1 _ _) (fun _ => PyProof.Rows.ksk_l1 _ _) (fun _ => PyProof.Rows.ksk_t1 _ _) ?_ ?_
  · refine PySem.W.EachIs.of_zip (by rw [List.length_zip]; omega) fun p hp => ?_
    obtain ⟨i, hi⟩ := List.mem_iff_getElem?.mp hp
    obtain ⟨h1, h2⟩ := List.getElem?_zip_eq_some.mp hi
    obtain ⟨h3, h4⟩ := List.getElem?_zip_eq_some.mp h2
    obtain ⟨u, hu, ru⟩ := rv.get h3
    rw [h1] at hu
    cases hu
    exact ru
  · have := hr.un
    show X.A.units + 2 + 0 < cLine
    omega
  · intro v z hR hzm h2 tk kp
    obtain ⟨_, t, ys, i, ht, hq, hy, hi⟩ := hz z hzm
    rw [ht] at hR
    obtain rfl : v = Value.ref t := hR
    obtain ⟨ts, rt, pt, _⟩ := I.tuple hq
    obtain ⟨u, hu, ru⟩ := rt.get hy
    obtain ⟨tk2, rfl⟩ := ru
    have := hr.dp
    refine wpAny_mono (h X.A.in1.in1 { s with heap := h2, toks := tk } t ts.toArray (.int i tk2) (by show X.A.depth < _; omega) (I.kIn.keeps kp) (I.nolimit.keeps kp) (pt.keeps kp) (by simpa using hu)) (fun v s2 ⟨e, h', tk', e2, kp2⟩ => ?_) fun _ _ z => z
    subst e
    rw [hi]
    exact ⟨h', tk', e2, kp2, .int _ _⟩
  · intro out c h' tk kp hn hD hlo eo
    rw [ord0_eq (fun z : V × D => z.2)] at eo
    have hM : ((xs.zip ds).mergeSort fun x y => ord0 x.2 y.2).map (·.2) = srtK0 ds := by
      unfold srtK0
      rw [List.map_mergeSort (s := ord0) (f := fun z : V × D => z.2) fun _ _ _ _ => rfl, zip_snd hlen]
    have hp := List.mergeSort_perm (xs.zip ds) fun x y => ord0 x.2 y.2
    have hlM : ((xs.zip ds).mergeSort fun x y => ord0 x.2 y.2).length = ds.length := by rw [hp.length_eq, List.length_zip]; omega
    have rO : Vals (((xs.zip ds).mergeSort fun x y => ord0 x.2 y.2).map (·.1)) out := by
      have go : ∀ (out : List Value) (M : List (V × D)), PySem.W.EachIs (fun (u : Value) (z : V × D) => RelV z.1 u) out M → Vals (M.map (·.1)) out := fun out M e => by
        induction e with
        | nil => exact .nil
        | cons h _ ih => exact .cons h ih
      exact go _ _ eo
    refine ⟨.ref (s.heap.objs.size + 1), upd H (s.heap.objs.size + 1) (.lst (((xs.zip ds).mergeSort fun x y => ord0 x.2 y.2).map (·.1))), I.laid (t' := tk) kp (Nat.le_succ _) ⟨by rw [List.length_map, hlM]; omega, out, c, rO, hD⟩, rfl,
      q _ _ (by rw [List.length_map, hlM]) (fun z hzz => ?_) (I.hok.fresh (Nat.le_succ _))⟩
    rw [← hM, List.zip_map'] at hzz
    obtain ⟨m, hm, rfl⟩ := List.mem_map.mp hzz
    exact (hz m (hp.mem_iff.mp hm)).1
section
variable {c : Ct} {n n1 n2 : Bool} {a b e : Expr} {es : List Expr} {ga gb : LS → R D} {gs : LS → R (List D)} {pos p p2 : Pos}
theorem je_sortK0 {x : Str} {k1 : Pos} {j : Nat} (hr : Room j c.X.A) (hK : KeyAt0 c.X.prog c.X.w c.X.K c.X.mg x) (hgx : Gl c.X x) (hg : Gl c.X "sorted") (hm : c.X.mg "sorted" = none) (ha : JD c n a ga) (hdx : (x == ("__debug__" : Str)) = false := by decide)
    (hs : starEach [a] c.X.env = (false, eval a c.X.env) :: starEach [] c.X.env := by rfl)
    (he : backTo pos (starEach [a] c.X.env) = (false, eval a c.X.env) :: backTo pos (starEach [] c.X.env) := by rfl) (hpl : (backTo pos (starEach [a] c.X.env)).any (·.1) = false := by rfl)
    (hall : (backToKw pos (keywordEach [⟨some "key", .Name x p2, k1⟩] c.X.env)).all (·.1.isSome) = true := by rfl) (hnone : (backToKw pos (keywordEach [⟨some "key", .Name x p2, k1⟩] c.X.env)).any (·.1.isNone) = false := by rfl)
    (hks : (backToKw pos (keywordEach [⟨some "key", .Name x p2, k1⟩] c.X.env)).filterMap (·.1) = [Str.ofString "key"] := by rfl) :
    JE c n (.Call (.Name "sorted" p) [a] [⟨some "key", .Name x p2, k1⟩] pos) (gUn dSortK0 ga) := by
  obtain ⟨f, hf, hrun⟩ := hK.ex
  obtain ⟨ta, pa, qa⟩ := ha
  refine ⟨fun σ H Q => ta σ H fun v H1 => ∃ (F : V → D → Prop), rSortK0 c.X.K F (.ref f) [v] [.ref f] H1 Q, ⟨fun pins s σ H Q I h => ?_⟩, fun G F ow σ H L Rr => (qa G F ow σ H L Rr).bind1 (t2 := fun v H1 Q => ∃ (F : V → D → Prop), rSortK0 c.X.K F (.ref f) [v] [.ref f] H1 Q) fun d L1 v H1 F1 ow1 _ _ _ R1 b1 => ?_⟩
  · refine wpAny_Call_Name_kw (ld_blt I hg hm (show bootBuiltins "sorted" = some (.builtin "sorted") from by decide +kernel) ?_ (by decide) (by decide))
    refine PyProof.Rows.callWith_kw (thn ((pa_cons pa pa_nil hs).run pos pins s σ H (fun vs H1 => ∃ F, rSortK0 c.X.K F (.ref f) vs [.ref f] H1 Q) I ?_) fun us s1 ⟨vs, H1, I1, r1, q1⟩ =>
      thn ((pk_cons (pe_glob (v := V.ref f) hgx hf rfl hdx) pk_nil).run pos pins s1 σ H1 (fun zs H2 => zs = [.ref f] ∧ H2 = H1) I1 ⟨rfl, rfl⟩) fun ws s2 ⟨zs, H2, I2, r2, e1, e2⟩ => ?_) he hpl hall hnone
    · exact h
    · subst e1 e2
      rw [hks]
      obtain ⟨F, q⟩ := q1
      exact cr_sortK0 (hr.mono (Nat.zero_le _)) hrun F pins s2 σ H2 _ _ us ws Q I2 r1 r2 q
  · cases b1 with
    | @lst l vs ds h1 h2 =>
      show Post c G true F1 H1 σ (ofO (if ds.all isIt0 = true ∧ ds.length ≤ sizeLine then some (S.ol (srtK0 ds)) else none) L1) _ _
      by_cases hc : ds.all isIt0 = true ∧ ds.length ≤ sizeLine
      · rw [if_pos hc]
        intro Q q
        refine ⟨Dq c.X.K F1, l, vs, ds, rfl, rfl, .of (R1.exF _ _ h1), h2.len, fun z hz => ⟨dqa_zip h2 z hz, ?_⟩, fun ys p hl hy hp => ?_⟩
        · have hq := dqa_zip h2 z hz
          have hm := List.all_eq_true.mp hc.1 z.2 (List.of_mem_zip hz).2
          obtain ⟨v, d⟩ := z
          dsimp only at hq hm ⊢
          unfold isIt0 at hm
          split at hm
          · rename_i i d0
            cases hq with
            | tup k1 k2 =>
              cases k2 with
              | cons k3 k4 =>
                cases k3
                exact ⟨_, _, i, rfl, sqt_same R1.exF k1, rfl, rfl⟩
          · cases hm
        · refine post_new R1 (dqa_of (vs := ys) (ds := srtK0 ds) ?_ hy) Q q p hp
          rw [hl]
          exact (List.mergeSort_perm _ _).length_eq.symm
      · rw [if_neg hc]
        trivial
    | _ => trivial
end
end VS

namespace L2
open PySem PySem.W PySem.Spec PyProof.Rows
section
variable {X : Cx} {pins : List (Addr × Obj)} {σ : St} {H : Hp} {s : Shared} {d : Addr} {o : Obj}
end
section
variable {P : Program} {w : World} {K : PySem.W.Frag} {d : Addr} {o : Obj} {es : Array DictEntry} {ep : Nat}
end
section
variable {X : Cx} {e : Expr} {td : TE} {apos cpos : Pos}
end
end L2
namespace VS
open PySem PySem.Spec PyProof.Rows L2
section
variable {c : Ct} {n : Bool} {a : Expr} {ge ga : LS → R S} {gb : LS → R D} {p pos cpos apos tpos : Pos} {k : Nat} {elts : List Expr} {kk : Nat}
end
end VS

namespace Lw
open PySem PySem.Spec PyProof.Rows L2 VS
def g_is_name : LS → R O := (gSeq (gIf (gOr (gB (gOp dLt (gUn dLen (gPeek 0)) (gC (.int 1)))) (gB (gOp dGt (gUn dLen (gPeek 0)) (gC (.int 12))))) (gRet (gD (gC (.bool false)))) gNext)
    (gSeq (gFor (fun L => ((gVar 0) L).bind asItems) (fName 1) (gIf (gB (gOp dNotIn (gPeek 1) (gC (.str "abcdefghijklmnopqrstuvwxyz")))) (gRet (gD (gC (.bool false)))) gNext))
    (gRet (gD (gC (.bool true))))))
def m_is_name : LS → R S := runDef [false] 2 g_is_name
def g_law_src : LS → R O := (gRet (gLst (gCons (gFz (gUn dList (gFz (gSl (gPeek 0) gNo (gSo (gC (.int 63))))))) (gCons (gC (.int 0)) (gCons (gC (.int 0)) (gCons (gC (.int 1)) (gCons (gC (.int 0)) gNil)))))))
def m_law_src : LS → R S := runDef [true] 1 g_law_src
def g_law_next : LS → R O := (gSeq (gSetIx 0 (gC (.int 4)) (gFz (gOp dAdd (gIxP 0 (gC (.int 4))) (gC (.int 1)))))
    (gSeq (gIf (gB (gOp dLe (gIxP 0 (gC (.int 2))) (gC (.int 1)))) (gSeq (gAsg 2 (gD (gC (.int 7))))
    (gSeq (gIf (gB (gOp dLt (gIxP 0 (gC (.int 1))) (gUn dLen (gIxP 0 (gC (.int 0)))))) (gSeq (gAsg 2 (gD (gOp dIx (gIxP 0 (gC (.int 0))) (gIxP 0 (gC (.int 1))))))
    (gSetIx 0 (gC (.int 1)) (gFz (gOp dAdd (gIxP 0 (gC (.int 1))) (gC (.int 1)))))) gNext)
    (gSeq (gSetIx 0 (gC (.int 3)) (gOp dMod (gFz (gOp dAdd (gFz (gOp dAdd (gFz (gOp dMul (gIxP 0 (gC (.int 3))) (gC (.int 48271)))) (gOp dMod (gVar 2) (gC (.int 998244353))))) (gIxP 0 (gC (.int 4))))) (gC (.int 2147483647))))
    (gIf (gB (gOp dGe (gPeek 2) (gOp dPow (gC (.int 10)) (gC (.int 18))))) (gSetIx 0 (gC (.int 2)) (gVar 2)) gNext)))) gNext)
    (gSeq (gIf (gB (gOp dGt (gIxP 0 (gC (.int 2))) (gC (.int 1)))) (gSeq (gAsg 3 (gD (gOp dMod (gIxP 0 (gC (.int 2))) (gVar 1))))
    (gSeq (gSetIx 0 (gC (.int 2)) (gOp dDiv (gIxP 0 (gC (.int 2))) (gVar 1)))
    (gRet (gMove 3)))) gNext)
    (gRet (gD (gOp dMod (gOp dDiv (gOp dMod (gFz (gOp dMul (gIxP 0 (gC (.int 3))) (gC (.int 40692)))) (gC (.int 2147483399))) (gC (.int 3))) (gVar 1)))))))
def m_law_next : LS → R S := runDef [true, false] 4 g_law_next
def g_law_unlike : LS → R O := (gSeq (gAsg 2 (gD (gC (.str "abcdefghijklmnopqrstuvwxyz"))))
    (gSeq (gAsg 3 (gSl (gPeek 1) gNo (gSo (gC (.int 10)))))
    (gSeq (gFor (fun L => ((gCons (gFz (gOp dAdd (gUn dLen (gPeek 0)) (gC (.int 1)))) gNil) L).bind rng1) (fName 4) (gSeq (gIf (gB (gOp dNotIn (gPeek 1) (gPeek 0))) (gRet (gMove 1)) gNext)
    (gAsg 1 (gOp dAdd (gFz (gOp dAdd (gVar 3) (gIxP 2 (gOp dMod (gVar 4) (gC (.int 26)))))) (gIxP 2 (gOp dDiv (gVar 4) (gC (.int 26))))))))
    (gRet (gMove 1)))))
def m_law_unlike : LS → R S := runDef [true, false] 5 g_law_unlike
def g_law_word : LS → R O := (gSeq (gAsg 2 (gD (gC (.str "abcdefghijklmnopqrstuvwxyz"))))
    (gRet (gD (gJoin (gC (.str "")) (gFz (gLc [3] (fun L => ((gCons (gVar 1) gNil) L).bind rng1) (fName 3) gYes (gIxP 2 (gFz (gCall Lw.m_law_next [.r 0, .d (gC (.int 26))])))))))))
def m_law_word : LS → R S := runDef [true, false] 4 g_law_word
def g_law_names : LS → R O := (gSeq (gAsg 2 (gCall Lw.m_law_next [.r 0, .d (gC (.int 3))]))
    (gSeq (gAsg 3 (gCall Lw.m_law_word [.r 0, .d (gFz (gOp dAdd (gC (.int 1)) (gFz (gCall Lw.m_law_next [.r 0, .d (gC (.int 11))]))))]))
    (gSeq (gAsg 4 (gCall Lw.m_law_next [.r 0, .d (gUn dLen (gPeek 3))]))
    (gSeq (gAsg 5 (gLst gNil))
    (gSeq (gFor (fun L => ((gCons (gVar 1) gNil) L).bind rng1) (fName 6) (gSeq (gAsg 7 (gOp dAdd (gFz (gOp dAdd (gFz (gSl (gPeek 3) gNo (gSo (gVar 4)))) (gFz (gCall Lw.m_law_word [.r 0, .d (gC (.int 1))])))) (gFz (gSl (gPeek 3) (gSo (gFz (gOp dAdd (gVar 4) (gC (.int 1))))) gNo))))
    (gSeq (gIf (gB (gOp dEq (gPeek 2) (gC (.int 1)))) (gAsg 7 (gSl (gVar 3) gNo (gSo (gFz (gOp dAdd (gC (.int 1)) (gFz (gCall Lw.m_law_next [.r 0, .d (gUn dLen (gPeek 3))]))))))) gNext)
    (gSeq (gIf (gB (gOp dEq (gPeek 2) (gC (.int 2)))) (gAsg 7 (gCall Lw.m_law_word [.r 0, .d (gFz (gOp dAdd (gC (.int 1)) (gFz (gCall Lw.m_law_next [.r 0, .d (gC (.int 12))]))))])) gNext)
    (gDrop (gApp 5 (gFz (gCall Lw.m_law_unlike [.r 5, .d (gVar 7)]))))))))
    (gRet (gMove 5)))))))
def m_law_names : LS → R S := runDef [true, false] 8 g_law_names
end Lw

namespace Lw
open PySem VS
def srcS (cells : List Int) (p b st k : Int) : S := .ol [.list (cells.map PyData.int), .int p, .int b, .int st, .int k]
def Src (s : S) : Prop := ∃ (cells : List Int) (p b st k : Int), s = srcS cells p b st k ∧ cells.length ≤ 63 ∧ 0 ≤ p ∧ p ≤ cells.length ∧ 0 ≤ b ∧ 0 ≤ st ∧ st < 2147483647
theorem dIx_cells (cells : List Int) (j : Nat) (h : j < cells.length) : dIx (.list (cells.map PyData.int)) (.int (j : Int)) = some (.int cells[j]) := by
  rw [dIx_nat, List.getElem?_map, List.getElem?_eq_getElem h]
  rfl
theorem pow18 : dPow (.int 10) (.int 18) = some (.int 1000000000000000000) := by
  rw [dPow_ok ⟨by decide, by decide, by decide⟩]
  rfl
theorem next_tail (cells : List Int) (p b st k n : Int) (o : Option S) (h0 : 0 < n) (h1 : n < 1073741824) (hl : cells.length ≤ 63) (hp0 : 0 ≤ p) (hp1 : p ≤ cells.length) (hb : 0 ≤ b) (hs0 : 0 ≤ st) (hs1 : st < 2147483647) :
    ∃ r s' o2 L, gSeq (gIf (gB (gOp dGt (gIxP 0 (gC (.int 2))) (gC (.int 1)))) (gSeq (gAsg 3 (gD (gOp dMod (gIxP 0 (gC (.int 2))) (gVar 1))))
    (gSeq (gSetIx 0 (gC (.int 2)) (gOp dDiv (gIxP 0 (gC (.int 2))) (gVar 1))) (gRet (gMove 3)))) gNext)
    (gRet (gD (gOp dMod (gOp dDiv (gOp dMod (gFz (gOp dMul (gIxP 0 (gC (.int 3))) (gC (.int 40692)))) (gC (.int 2147483399))) (gC (.int 3))) (gVar 1)))) [some (srcS cells p b st k), some (.d (.int n)), o, none] = .ok (.rt (.d (.int r))) (some s' :: o2 :: L) ∧ 0 ≤ r ∧ r < n ∧ Src s' := by
  by_cases c : 1 < b
  · refine ⟨b % n, srcS cells p (b / n) st k, some (.d (.int n)), [o, some (.d (.int (b % n)))], ?_, Int.emod_nonneg _ (by omega), Int.emod_lt_of_pos _ h0, cells, p, b / n, st, k, rfl, hl, hp0, hp1, Int.ediv_nonneg hb (by omega), hs0, hs1⟩
    simp only [ev_seq, seqK_nx, seqK_rt, seqK_bk, seqK_ct, seqK_err, ev_next, ev_if, ifK_ok, ifK_err, ev_asg, asgK_ok, asgK_err, ev_ret, retK_ok, retK_err, ev_retN, ev_drop, dropK_ok, dropK_err, ev_c, ev_d, dK_ok, dK_err, ev_fz, fzK_d, fzK_l, fzK_err, ev_op, opK1_ok, opK1_err, opK2_ok, opK2_err, ev_un, unK_ok, unK_err, ev_isi, ev_b, bK_ok, bK_err, ev_and, andK_ok, andK_err, ev_or, orK_ok, orK_err, ev_not, notK_ok, ev_andV, andVK_ok, ev_orV, orVK_ok, ev_ifE, ifEK_ok, ev_nil, ev_cons, consK1_ok, consK1_err, consK2_ok, consK2_err, ev_lst, lstK_ok, ev_tup, tupK_ok, ev_var, varK_d, varK_l, ev_peek, peekK_d, peekK_l, peekK_s, ev_move, moveK_d, moveK_l, ev_ixP, ixK_ok, ixK1_ok, ixK1_err, ixK2_ok, dIx_nat, dIx_natT, dIx_l0, dIx_l1, dIx_l2, dIx_l3, dIx_l4, dIx_t0, dIx_t1, dIx_t2, dIx_t3, ev_setIx, setK0_ok, setK0_err, setK1_ok, setK2_ok, setK3_0, setK3_1, setK3_2, setK3_3, setK3_4, ev_sl, slK1_ok, slK2_ok, slK3_ok, ev_no, ev_so, soK_ok, soK_err, ev_join, joinK1_ok, joinK2_ok, ev_app, appK1_ok, appK2_ok, appK2_err, appK3_ok, ev_a0, ev_aD, ev_aR, eaK1_ok, eaK1_err, eaK3_ok, eaK2_ok, eaK2_err, ev_call, callK_d1, callK_d2, callK_d3, callK_d4, callK_d5, callK_d6, callK_d7, callK_d8, callK_r0, callK_r1, callK_r2, callK_r3, callK_r4, callK_r5, callK_r6, callK_r7, callK_err, backK_ok, backK_err, slotOf_d, slotOf_r, putBack_d, putBack_r, putBack_nil, refs_nil, refs_d, refs_r, ev_run, endOf_nx, endOf_rt, endOf_err, maskL_t, maskL_f, maskL_nil, ev_for, forK_ok, forGo_nil, turnK_nx, turnK_ct, turnK_bk, turnK_rt, turnK_err, bind_ok, asItems_l, asItems_t, asItems_s, ev_name, ev_fnil, ev_fcons, ev_ftup, some_bind, ev_asgT, asgTK_ok, asgTK2_ok, ev_lc, lcK_ok, wipeL_nil, wipeL_cons, ev_yes, lcGo_nil, dLt_i, dLe_i, dGt_i, dGe_i, dEq_i, dEq_s, dEq_b, dNe_i, dNe_s, dIs_b, dSub_i, dLen_l, dLen_t, dList_l, dList_t, dSl_l, dNot_b, ty_n_bool, ty_n_int, ty_n_str, ty_n_list, ty_n_tuple, ty_b_bool, ty_b_int, ty_b_str, ty_b_list, ty_b_tuple, ty_i_bool, ty_i_int, ty_i_str, ty_i_list, ty_i_tuple, ty_s_bool, ty_s_int, ty_s_str, ty_s_list, ty_s_tuple, ty_l_bool, ty_l_int, ty_l_str, ty_l_list, ty_l_tuple, ty_t_bool, ty_t_int, ty_t_str, ty_t_list, ty_t_tuple, dIs_nn, dIs_in, dIs_bn, dIs_sn, dIs_ln, dIs_tn, dNe_b, ev_A, aK_ok, aK_err, dMin_ok, dMax_ok, asZip_l, asZip_t, ev_pop, popK1_ok, ev_cnt, cntK1_ok, cntK2_ok, dAdd_int, ofO_some, ofO_none, List.getElem?_cons_zero, List.getElem?_cons_succ, List.set_cons_zero, List.set_cons_succ, List.length_cons, List.length_nil, List.cons_append, List.nil_append, List.replicate_succ, List.replicate_zero, List.map_cons, List.map_nil, Option.join_some, List.append_nil, Nat.reduceAdd, Nat.reduceLT, Nat.reduceLeDiff, Nat.reduceSub, Nat.reduceEqDiff, if_true, if_false, decide_true, decide_false, Bool.false_eq_true, Bool.not_true, Bool.not_false, srcS, c, dMod_ok h0, dDiv_ok h0 h1, decide_true, if_true]
  · refine ⟨st * 40692 % 2147483399 / 3 % n, srcS cells p b st k, some (.d (.int n)), [o, none], ?_, Int.emod_nonneg _ (by omega), Int.emod_lt_of_pos _ h0, cells, p, b, st, k, rfl, hl, hp0, hp1, hb, hs0, hs1⟩
    simp only [ev_seq, seqK_nx, seqK_rt, seqK_bk, seqK_ct, seqK_err, ev_next, ev_if, ifK_ok, ifK_err, ev_asg, asgK_ok, asgK_err, ev_ret, retK_ok, retK_err, ev_retN, ev_drop, dropK_ok, dropK_err, ev_c, ev_d, dK_ok, dK_err, ev_fz, fzK_d, fzK_l, fzK_err, ev_op, opK1_ok, opK1_err, opK2_ok, opK2_err, ev_un, unK_ok, unK_err, ev_isi, ev_b, bK_ok, bK_err, ev_and, andK_ok, andK_err, ev_or, orK_ok, orK_err, ev_not, notK_ok, ev_andV, andVK_ok, ev_orV, orVK_ok, ev_ifE, ifEK_ok, ev_nil, ev_cons, consK1_ok, consK1_err, consK2_ok, consK2_err, ev_lst, lstK_ok, ev_tup, tupK_ok, ev_var, varK_d, varK_l, ev_peek, peekK_d, peekK_l, peekK_s, ev_move, moveK_d, moveK_l, ev_ixP, ixK_ok, ixK1_ok, ixK1_err, ixK2_ok, dIx_nat, dIx_natT, dIx_l0, dIx_l1, dIx_l2, dIx_l3, dIx_l4, dIx_t0, dIx_t1, dIx_t2, dIx_t3, ev_setIx, setK0_ok, setK0_err, setK1_ok, setK2_ok, setK3_0, setK3_1, setK3_2, setK3_3, setK3_4, ev_sl, slK1_ok, slK2_ok, slK3_ok, ev_no, ev_so, soK_ok, soK_err, ev_join, joinK1_ok, joinK2_ok, ev_app, appK1_ok, appK2_ok, appK2_err, appK3_ok, ev_a0, ev_aD, ev_aR, eaK1_ok, eaK1_err, eaK3_ok, eaK2_ok, eaK2_err, ev_call, callK_d1, callK_d2, callK_d3, callK_d4, callK_d5, callK_d6, callK_d7, callK_d8, callK_r0, callK_r1, callK_r2, callK_r3, callK_r4, callK_r5, callK_r6, callK_r7, callK_err, backK_ok, backK_err, slotOf_d, slotOf_r, putBack_d, putBack_r, putBack_nil, refs_nil, refs_d, refs_r, ev_run, endOf_nx, endOf_rt, endOf_err, maskL_t, maskL_f, maskL_nil, ev_for, forK_ok, forGo_nil, turnK_nx, turnK_ct, turnK_bk, turnK_rt, turnK_err, bind_ok, asItems_l, asItems_t, asItems_s, ev_name, ev_fnil, ev_fcons, ev_ftup, some_bind, ev_asgT, asgTK_ok, asgTK2_ok, ev_lc, lcK_ok, wipeL_nil, wipeL_cons, ev_yes, lcGo_nil, dLt_i, dLe_i, dGt_i, dGe_i, dEq_i, dEq_s, dEq_b, dNe_i, dNe_s, dIs_b, dSub_i, dLen_l, dLen_t, dList_l, dList_t, dSl_l, dNot_b, ty_n_bool, ty_n_int, ty_n_str, ty_n_list, ty_n_tuple, ty_b_bool, ty_b_int, ty_b_str, ty_b_list, ty_b_tuple, ty_i_bool, ty_i_int, ty_i_str, ty_i_list, ty_i_tuple, ty_s_bool, ty_s_int, ty_s_str, ty_s_list, ty_s_tuple, ty_l_bool, ty_l_int, ty_l_str, ty_l_list, ty_l_tuple, ty_t_bool, ty_t_int, ty_t_str, ty_t_list, ty_t_tuple, dIs_nn, dIs_in, dIs_bn, dIs_sn, dIs_ln, dIs_tn, dNe_b, ev_A, aK_ok, aK_err, dMin_ok, dMax_ok, asZip_l, asZip_t, ev_pop, popK1_ok, ev_cnt, cntK1_ok, cntK2_ok, dAdd_int, ofO_some, ofO_none, List.getElem?_cons_zero, List.getElem?_cons_succ, List.set_cons_zero, List.set_cons_succ, List.length_cons, List.length_nil, List.cons_append, List.nil_append, List.replicate_succ, List.replicate_zero, List.map_cons, List.map_nil, Option.join_some, List.append_nil, Nat.reduceAdd, Nat.reduceLT, Nat.reduceLeDiff, Nat.reduceSub, Nat.reduceEqDiff, if_true, if_false, decide_true, decide_false, Bool.false_eq_true, Bool.not_true, Bool.not_false, srcS, c, decide_false, if_false, Bool.false_eq_true, dMul_ok (show -(2 ^ 64) < st by omega) (show st < 2 ^ 64 by omega), dMod_ok (show (0 : Int) < 2147483399 by decide), dMod_ok h0, dDiv_ok (show (0 : Int) < 3 by decide) (show (3 : Int) < 1073741824 by decide)]
theorem next_mid (cells : List Int) (p b st k n : Int) (cell : Int) (hb : 0 ≤ b) (hs0 : 0 ≤ st) (hs1 : st < 2147483647) : ∃ b' st', gSeq (gSetIx 0 (gC (.int 3)) (gOp dMod (gFz (gOp dAdd (gFz (gOp dAdd (gFz (gOp dMul (gIxP 0 (gC (.int 3))) (gC (.int 48271)))) (gOp dMod (gVar 2) (gC (.int 998244353))))) (gIxP 0 (gC (.int 4))))) (gC (.int 2147483647))))
    (gIf (gB (gOp dGe (gPeek 2) (gOp dPow (gC (.int 10)) (gC (.int 18))))) (gSetIx 0 (gC (.int 2)) (gVar 2)) gNext) [some (srcS cells p b st k), some (.d (.int n)), some (.d (.int cell)), none] = .ok .nx [some (srcS cells p b' st' k), some (.d (.int n)), some (.d (.int cell)), none] ∧ 0 ≤ b' ∧ 0 ≤ st' ∧ st' < 2147483647 := by
  have st0 : 0 ≤ (st * 48271 + cell % 998244353 + k) % 2147483647 := Int.emod_nonneg _ (by omega)
  have st1 : (st * 48271 + cell % 998244353 + k) % 2147483647 < 2147483647 := Int.emod_lt_of_pos _ (by omega)
  by_cases c : 1000000000000000000 ≤ cell
  · refine ⟨cell, (st * 48271 + cell % 998244353 + k) % 2147483647, ?_, by omega, st0, st1⟩
    simp only [ev_seq, seqK_nx, seqK_rt, seqK_bk, seqK_ct, seqK_err, ev_next, ev_if, ifK_ok, ifK_err, ev_asg, asgK_ok, asgK_err, ev_ret, retK_ok, retK_err, ev_retN, ev_drop, dropK_ok, dropK_err, ev_c, ev_d, dK_ok, dK_err, ev_fz, fzK_d, fzK_l, fzK_err, ev_op, opK1_ok, opK1_err, opK2_ok, opK2_err, ev_un, unK_ok, unK_err, ev_isi, ev_b, bK_ok, bK_err, ev_and, andK_ok, andK_err, ev_or, orK_ok, orK_err, ev_not, notK_ok, ev_andV, andVK_ok, ev_orV, orVK_ok, ev_ifE, ifEK_ok, ev_nil, ev_cons, consK1_ok, consK1_err, consK2_ok, consK2_err, ev_lst, lstK_ok, ev_tup, tupK_ok, ev_var, varK_d, varK_l, ev_peek, peekK_d, peekK_l, peekK_s, ev_move, moveK_d, moveK_l, ev_ixP, ixK_ok, ixK1_ok, ixK1_err, ixK2_ok, dIx_nat, dIx_natT, dIx_l0, dIx_l1, dIx_l2, dIx_l3, dIx_l4, dIx_t0, dIx_t1, dIx_t2, dIx_t3, ev_setIx, setK0_ok, setK0_err, setK1_ok, setK2_ok, setK3_0, setK3_1, setK3_2, setK3_3, setK3_4, ev_sl, slK1_ok, slK2_ok, slK3_ok, ev_no, ev_so, soK_ok, soK_err, ev_join, joinK1_ok, joinK2_ok, ev_app, appK1_ok, appK2_ok, appK2_err, appK3_ok, ev_a0, ev_aD, ev_aR, eaK1_ok, eaK1_err, eaK3_ok, eaK2_ok, eaK2_err, ev_call, callK_d1, callK_d2, callK_d3, callK_d4, callK_d5, callK_d6, callK_d7, callK_d8, callK_r0, callK_r1, callK_r2, callK_r3, callK_r4, callK_r5, callK_r6, callK_r7, callK_err, backK_ok, backK_err, slotOf_d, slotOf_r, putBack_d, putBack_r, putBack_nil, refs_nil, refs_d, refs_r, ev_run, endOf_nx, endOf_rt, endOf_err, maskL_t, maskL_f, maskL_nil, ev_for, forK_ok, forGo_nil, turnK_nx, turnK_ct, turnK_bk, turnK_rt, turnK_err, bind_ok, asItems_l, asItems_t, asItems_s, ev_name, ev_fnil, ev_fcons, ev_ftup, some_bind, ev_asgT, asgTK_ok, asgTK2_ok, ev_lc, lcK_ok, wipeL_nil, wipeL_cons, ev_yes, lcGo_nil, dLt_i, dLe_i, dGt_i, dGe_i, dEq_i, dEq_s, dEq_b, dNe_i, dNe_s, dIs_b, dSub_i, dLen_l, dLen_t, dList_l, dList_t, dSl_l, dNot_b, ty_n_bool, ty_n_int, ty_n_str, ty_n_list, ty_n_tuple, ty_b_bool, ty_b_int, ty_b_str, ty_b_list, ty_b_tuple, ty_i_bool, ty_i_int, ty_i_str, ty_i_list, ty_i_tuple, ty_s_bool, ty_s_int, ty_s_str, ty_s_list, ty_s_tuple, ty_l_bool, ty_l_int, ty_l_str, ty_l_list, ty_l_tuple, ty_t_bool, ty_t_int, ty_t_str, ty_t_list, ty_t_tuple, dIs_nn, dIs_in, dIs_bn, dIs_sn, dIs_ln, dIs_tn, dNe_b, ev_A, aK_ok, aK_err, dMin_ok, dMax_ok, asZip_l, asZip_t, ev_pop, popK1_ok, ev_cnt, cntK1_ok, cntK2_ok, dAdd_int, ofO_some, ofO_none, List.getElem?_cons_zero, List.getElem?_cons_succ, List.set_cons_zero, List.set_cons_succ, List.length_cons, List.length_nil, List.cons_append, List.nil_append, List.replicate_succ, List.replicate_zero, List.map_cons, List.map_nil, Option.join_some, List.append_nil, Nat.reduceAdd, Nat.reduceLT, Nat.reduceLeDiff, Nat.reduceSub, Nat.reduceEqDiff, if_true, if_false, decide_true, decide_false, Bool.false_eq_true, Bool.not_true, Bool.not_false, srcS, pow18, c, decide_true, if_true, dMul_ok (show -(2 ^ 64) < st by omega) (show st < 2 ^ 64 by omega), dMod_ok (show (0 : Int) < 998244353 by decide), dMod_ok (show (0 : Int) < 2147483647 by decide)]
  · refine ⟨b, (st * 48271 + cell % 998244353 + k) % 2147483647, ?_, hb, st0, st1⟩
    simp only [ev_seq, seqK_nx, seqK_rt, seqK_bk, seqK_ct, seqK_err, ev_next, ev_if, ifK_ok, ifK_err, ev_asg, asgK_ok, asgK_err, ev_ret, retK_ok, retK_err, ev_retN, ev_drop, dropK_ok, dropK_err, ev_c, ev_d, dK_ok, dK_err, ev_fz, fzK_d, fzK_l, fzK_err, ev_op, opK1_ok, opK1_err, opK2_ok, opK2_err, ev_un, unK_ok, unK_err, ev_isi, ev_b, bK_ok, bK_err, ev_and, andK_ok, andK_err, ev_or, orK_ok, orK_err, ev_not, notK_ok, ev_andV, andVK_ok, ev_orV, orVK_ok, ev_ifE, ifEK_ok, ev_nil, ev_cons, consK1_ok, consK1_err, consK2_ok, consK2_err, ev_lst, lstK_ok, ev_tup, tupK_ok, ev_var, varK_d, varK_l, ev_peek, peekK_d, peekK_l, peekK_s, ev_move, moveK_d, moveK_l, ev_ixP, ixK_ok, ixK1_ok, ixK1_err, ixK2_ok, dIx_nat, dIx_natT, dIx_l0, dIx_l1, dIx_l2, dIx_l3, dIx_l4, dIx_t0, dIx_t1, dIx_t2, dIx_t3, ev_setIx, setK0_ok, setK0_err, setK1_ok, setK2_ok, setK3_0, setK3_1, setK3_2, setK3_3, setK3_4, ev_sl, slK1_ok, slK2_ok, slK3_ok, ev_no, ev_so, soK_ok, soK_err, ev_join, joinK1_ok, joinK2_ok, ev_app, appK1_ok, appK2_ok, appK2_err, appK3_ok, ev_a0, ev_aD, ev_aR, eaK1_ok, eaK1_err, eaK3_ok, eaK2_ok, eaK2_err, ev_call, callK_d1, callK_d2, callK_d3, callK_d4, callK_d5, callK_d6, callK_d7, callK_d8, callK_r0, callK_r1, callK_r2, callK_r3, callK_r4, callK_r5, callK_r6, callK_r7, callK_err, backK_ok, backK_err, slotOf_d, slotOf_r, putBack_d, putBack_r, putBack_nil, refs_nil, refs_d, refs_r, ev_run, endOf_nx, endOf_rt, endOf_err, maskL_t, maskL_f, maskL_nil, ev_for, forK_ok, forGo_nil, turnK_nx, turnK_ct, turnK_bk, turnK_rt, turnK_err, bind_ok, asItems_l, asItems_t, asItems_s, ev_name, ev_fnil, ev_fcons, ev_ftup, some_bind, ev_asgT, asgTK_ok, asgTK2_ok, ev_lc, lcK_ok, wipeL_nil, wipeL_cons, ev_yes, lcGo_nil, dLt_i, dLe_i, dGt_i, dGe_i, dEq_i, dEq_s, dEq_b, dNe_i, dNe_s, dIs_b, dSub_i, dLen_l, dLen_t, dList_l, dList_t, dSl_l, dNot_b, ty_n_bool, ty_n_int, ty_n_str, ty_n_list, ty_n_tuple, ty_b_bool, ty_b_int, ty_b_str, ty_b_list, ty_b_tuple, ty_i_bool, ty_i_int, ty_i_str, ty_i_list, ty_i_tuple, ty_s_bool, ty_s_int, ty_s_str, ty_s_list, ty_s_tuple, ty_l_bool, ty_l_int, ty_l_str, ty_l_list, ty_l_tuple, ty_t_bool, ty_t_int, ty_t_str, ty_t_list, ty_t_tuple, dIs_nn, dIs_in, dIs_bn, dIs_sn, dIs_ln, dIs_tn, dNe_b, ev_A, aK_ok, aK_err, dMin_ok, dMax_ok, asZip_l, asZip_t, ev_pop, popK1_ok, ev_cnt, cntK1_ok, cntK2_ok, dAdd_int, ofO_some, ofO_none, List.getElem?_cons_zero, List.getElem?_cons_succ, List.set_cons_zero, List.set_cons_succ, List.length_cons, List.length_nil, List.cons_append, List.nil_append, List.replicate_succ, List.replicate_zero, List.map_cons, List.map_nil, Option.join_some, List.append_nil, Nat.reduceAdd, Nat.reduceLT, Nat.reduceLeDiff, Nat.reduceSub, Nat.reduceEqDiff, if_true, if_false, decide_true, decide_false, Bool.false_eq_true, Bool.not_true, Bool.not_false, srcS, pow18, c, decide_false, if_false, Bool.false_eq_true, dMul_ok (show -(2 ^ 64) < st by omega) (show st < 2 ^ 64 by omega), dMod_ok (show (0 : Int) < 998244353 by decide), dMod_ok (show (0 : Int) < 2147483647 by decide)]
theorem next_ok {s : S} (h : Src s) {n : Int} (h0 : 0 < n) (h1 : n < 1073741824) : ∃ r s', m_law_next [some s, some (.d (.int n))] = .ok (.d (.int r)) [some s', none] ∧ 0 ≤ r ∧ r < n ∧ Src s' := by
  obtain ⟨cells, p, b, st, k, rfl, hl, hp0, hp1, hb, hs0, hs1⟩ := h
  obtain ⟨j, rfl⟩ := Int.eq_ofNat_of_zero_le hp0
  have s0 : gSetIx 0 (gC (.int 4)) (gFz (gOp dAdd (gIxP 0 (gC (.int 4))) (gC (.int 1)))) [some (srcS cells j b st k), some (.d (.int n)), none, none] = .ok .nx [some (srcS cells j b st (k + 1)), some (.d (.int n)), none, none] := by
    simp only [ev_seq, seqK_nx, seqK_rt, seqK_bk, seqK_ct, seqK_err, ev_next, ev_if, ifK_ok, ifK_err, ev_asg, asgK_ok, asgK_err, ev_ret, retK_ok, retK_err, ev_retN, ev_drop, dropK_ok, dropK_err, ev_c, ev_d, dK_ok, dK_err, ev_fz, fzK_d, fzK_l, fzK_err, ev_op, opK1_ok, opK1_err, opK2_ok, opK2_err, ev_un, unK_ok, unK_err, ev_isi, ev_b, bK_ok, bK_err, ev_and, andK_ok, andK_err, ev_or, orK_ok, orK_err, ev_not, notK_ok, ev_andV, andVK_ok, ev_orV, orVK_ok, ev_ifE, ifEK_ok, ev_nil, ev_cons, consK1_ok, consK1_err, consK2_ok, consK2_err, ev_lst, lstK_ok, ev_tup, tupK_ok, ev_var, varK_d, varK_l, ev_peek, peekK_d, peekK_l, peekK_s, ev_move, moveK_d, moveK_l, ev_ixP, ixK_ok, ixK1_ok, ixK1_err, ixK2_ok, dIx_nat, dIx_natT, dIx_l0, dIx_l1, dIx_l2, dIx_l3, dIx_l4, dIx_t0, dIx_t1, dIx_t2, dIx_t3, ev_setIx, setK0_ok, setK0_err, setK1_ok, setK2_ok, setK3_0, setK3_1, setK3_2, setK3_3, setK3_4, ev_sl, slK1_ok, slK2_ok, slK3_ok, ev_no, ev_so, soK_ok, soK_err, ev_join, joinK1_ok, joinK2_ok, ev_app, appK1_ok, appK2_ok, appK2_err, appK3_ok, ev_a0, ev_aD, ev_aR, eaK1_ok, eaK1_err, eaK3_ok, eaK2_ok, eaK2_err, ev_call, callK_d1, callK_d2, callK_d3, callK_d4, callK_d5, callK_d6, callK_d7, callK_d8, callK_r0, callK_r1, callK_r2, callK_r3, callK_r4, callK_r5, callK_r6, callK_r7, callK_err, backK_ok, backK_err, slotOf_d, slotOf_r, putBack_d, putBack_r, putBack_nil, refs_nil, refs_d, refs_r, ev_run, endOf_nx, endOf_rt, endOf_err, maskL_t, maskL_f, maskL_nil, ev_for, forK_ok, forGo_nil, turnK_nx, turnK_ct, turnK_bk, turnK_rt, turnK_err, bind_ok, asItems_l, asItems_t, asItems_s, ev_name, ev_fnil, ev_fcons, ev_ftup, some_bind, ev_asgT, asgTK_ok, asgTK2_ok, ev_lc, lcK_ok, wipeL_nil, wipeL_cons, ev_yes, lcGo_nil, dLt_i, dLe_i, dGt_i, dGe_i, dEq_i, dEq_s, dEq_b, dNe_i, dNe_s, dIs_b, dSub_i, dLen_l, dLen_t, dList_l, dList_t, dSl_l, dNot_b, ty_n_bool, ty_n_int, ty_n_str, ty_n_list, ty_n_tuple, ty_b_bool, ty_b_int, ty_b_str, ty_b_list, ty_b_tuple, ty_i_bool, ty_i_int, ty_i_str, ty_i_list, ty_i_tuple, ty_s_bool, ty_s_int, ty_s_str, ty_s_list, ty_s_tuple, ty_l_bool, ty_l_int, ty_l_str, ty_l_list, ty_l_tuple, ty_t_bool, ty_t_int, ty_t_str, ty_t_list, ty_t_tuple, dIs_nn, dIs_in, dIs_bn, dIs_sn, dIs_ln, dIs_tn, dNe_b, ev_A, aK_ok, aK_err, dMin_ok, dMax_ok, asZip_l, asZip_t, ev_pop, popK1_ok, ev_cnt, cntK1_ok, cntK2_ok, dAdd_int, ofO_some, ofO_none, List.getElem?_cons_zero, List.getElem?_cons_succ, List.set_cons_zero, List.set_cons_succ, List.length_cons, List.length_nil, List.cons_append, List.nil_append, List.replicate_succ, List.replicate_zero, List.map_cons, List.map_nil, Option.join_some, List.append_nil, Nat.reduceAdd, Nat.reduceLT, Nat.reduceLeDiff, Nat.reduceSub, Nat.reduceEqDiff, if_true, if_false, decide_true, decide_false, Bool.false_eq_true, Bool.not_true, Bool.not_false, srcS, if_true]
  by_cases c1 : b ≤ 1
  · by_cases c2 : (j : Int) < cells.length
    · have hj : j < cells.length := by omega
      obtain ⟨b', st', m1, m2, m3, m4⟩ := next_mid cells ((j : Int) + 1) b st (k + 1) n cells[j] hb hs0 hs1
      obtain ⟨r, s', o2, L, t1, t2, t3, t4⟩ := next_tail cells ((j : Int) + 1) b' st' (k + 1) n (some (.d (.int cells[j]))) h0 h1 hl (by omega) (by omega) m2 m3 m4
      refine ⟨r, s', ?_, t2, t3, t4⟩
      unfold m_law_next g_law_next
      rw [ev_run]
      simp only [List.length_cons, List.length_nil, Nat.reduceAdd, Nat.reduceSub, List.replicate_succ, List.replicate_zero, List.cons_append, List.nil_append]
      rw [ev_seq, s0, seqK_nx, ev_seq, ev_if]
      have e1 : gB (gOp dLe (gIxP 0 (gC (.int 2))) (gC (.int 1))) [some (srcS cells j b st (k + 1)), some (.d (.int n)), none, none] = .ok true [some (srcS cells j b st (k + 1)), some (.d (.int n)), none, none] := by
        simp only [ev_seq, seqK_nx, seqK_rt, seqK_bk, seqK_ct, seqK_err, ev_next, ev_if, ifK_ok, ifK_err, ev_asg, asgK_ok, asgK_err, ev_ret, retK_ok, retK_err, ev_retN, ev_drop, dropK_ok, dropK_err, ev_c, ev_d, dK_ok, dK_err, ev_fz, fzK_d, fzK_l, fzK_err, ev_op, opK1_ok, opK1_err, opK2_ok, opK2_err, ev_un, unK_ok, unK_err, ev_isi, ev_b, bK_ok, bK_err, ev_and, andK_ok, andK_err, ev_or, orK_ok, orK_err, ev_not, notK_ok, ev_andV, andVK_ok, ev_orV, orVK_ok, ev_ifE, ifEK_ok, ev_nil, ev_cons, consK1_ok, consK1_err, consK2_ok, consK2_err, ev_lst, lstK_ok, ev_tup, tupK_ok, ev_var, varK_d, varK_l, ev_peek, peekK_d, peekK_l, peekK_s, ev_move, moveK_d, moveK_l, ev_ixP, ixK_ok, ixK1_ok, ixK1_err, ixK2_ok, dIx_nat, dIx_natT, dIx_l0, dIx_l1, dIx_l2, dIx_l3, dIx_l4, dIx_t0, dIx_t1, dIx_t2, dIx_t3, ev_setIx, setK0_ok, setK0_err, setK1_ok, setK2_ok, setK3_0, setK3_1, setK3_2, setK3_3, setK3_4, ev_sl, slK1_ok, slK2_ok, slK3_ok, ev_no, ev_so, soK_ok, soK_err, ev_join, joinK1_ok, joinK2_ok, ev_app, appK1_ok, appK2_ok, appK2_err, appK3_ok, ev_a0, ev_aD, ev_aR, eaK1_ok, eaK1_err, eaK3_ok, eaK2_ok, eaK2_err, ev_call, callK_d1, callK_d2, callK_d3, callK_d4, callK_d5, callK_d6, callK_d7, callK_d8, callK_r0, callK_r1, callK_r2, callK_r3, callK_r4, callK_r5, callK_r6, callK_r7, callK_err, backK_ok, backK_err, slotOf_d, slotOf_r, putBack_d, putBack_r, putBack_nil, refs_nil, refs_d, refs_r, ev_run, endOf_nx, endOf_rt, endOf_err, maskL_t, maskL_f, maskL_nil, ev_for, forK_ok, forGo_nil, turnK_nx, turnK_ct, turnK_bk, turnK_rt, turnK_err, bind_ok, asItems_l, asItems_t, asItems_s, ev_name, ev_fnil, ev_fcons, ev_ftup, some_bind, ev_asgT, asgTK_ok, asgTK2_ok, ev_lc, lcK_ok, wipeL_nil, wipeL_cons, ev_yes, lcGo_nil, dLt_i, dLe_i, dGt_i, dGe_i, dEq_i, dEq_s, dEq_b, dNe_i, dNe_s, dIs_b, dSub_i, dLen_l, dLen_t, dList_l, dList_t, dSl_l, dNot_b, ty_n_bool, ty_n_int, ty_n_str, ty_n_list, ty_n_tuple, ty_b_bool, ty_b_int, ty_b_str, ty_b_list, ty_b_tuple, ty_i_bool, ty_i_int, ty_i_str, ty_i_list, ty_i_tuple, ty_s_bool, ty_s_int, ty_s_str, ty_s_list, ty_s_tuple, ty_l_bool, ty_l_int, ty_l_str, ty_l_list, ty_l_tuple, ty_t_bool, ty_t_int, ty_t_str, ty_t_list, ty_t_tuple, dIs_nn, dIs_in, dIs_bn, dIs_sn, dIs_ln, dIs_tn, dNe_b, ev_A, aK_ok, aK_err, dMin_ok, dMax_ok, asZip_l, asZip_t, ev_pop, popK1_ok, ev_cnt, cntK1_ok, cntK2_ok, dAdd_int, ofO_some, ofO_none, List.getElem?_cons_zero, List.getElem?_cons_succ, List.set_cons_zero, List.set_cons_succ, List.length_cons, List.length_nil, List.cons_append, List.nil_append, List.replicate_succ, List.replicate_zero, List.map_cons, List.map_nil, Option.join_some, List.append_nil, Nat.reduceAdd, Nat.reduceLT, Nat.reduceLeDiff, Nat.reduceSub, Nat.reduceEqDiff, if_true, if_false, decide_true, decide_false, Bool.false_eq_true, Bool.not_true, Bool.not_false, srcS, c1, decide_true]
      rw [e1, ifK_ok, if_pos rfl, ev_seq]
      have e2 : gAsg 2 (gD (gC (.int 7))) [some (srcS cells j b st (k + 1)), some (.d (.int n)), none, none] = .ok .nx [some (srcS cells j b st (k + 1)), some (.d (.int n)), some (.d (.int 7)), none] := rfl
      rw [e2, seqK_nx, ev_seq]
      have e3 : gIf (gB (gOp dLt (gIxP 0 (gC (.int 1))) (gUn dLen (gIxP 0 (gC (.int 0)))))) (gSeq (gAsg 2 (gD (gOp dIx (gIxP 0 (gC (.int 0))) (gIxP 0 (gC (.int 1))))))
          (gSetIx 0 (gC (.int 1)) (gFz (gOp dAdd (gIxP 0 (gC (.int 1))) (gC (.int 1)))))) gNext [some (srcS cells j b st (k + 1)), some (.d (.int n)), some (.d (.int 7)), none] = .ok .nx [some (srcS cells ((j : Int) + 1) b st (k + 1)), some (.d (.int n)), some (.d (.int cells[j])), none] := by
        simp only [ev_seq, seqK_nx, seqK_rt, seqK_bk, seqK_ct, seqK_err, ev_next, ev_if, ifK_ok, ifK_err, ev_asg, asgK_ok, asgK_err, ev_ret, retK_ok, retK_err, ev_retN, ev_drop, dropK_ok, dropK_err, ev_c, ev_d, dK_ok, dK_err, ev_fz, fzK_d, fzK_l, fzK_err, ev_op, opK1_ok, opK1_err, opK2_ok, opK2_err, ev_un, unK_ok, unK_err, ev_isi, ev_b, bK_ok, bK_err, ev_and, andK_ok, andK_err, ev_or, orK_ok, orK_err, ev_not, notK_ok, ev_andV, andVK_ok, ev_orV, orVK_ok, ev_ifE, ifEK_ok, ev_nil, ev_cons, consK1_ok, consK1_err, consK2_ok, consK2_err, ev_lst, lstK_ok, ev_tup, tupK_ok, ev_var, varK_d, varK_l, ev_peek, peekK_d, peekK_l, peekK_s, ev_move, moveK_d, moveK_l, ev_ixP, ixK_ok, ixK1_ok, ixK1_err, ixK2_ok, dIx_nat, dIx_natT, dIx_l0, dIx_l1, dIx_l2, dIx_l3, dIx_l4, dIx_t0, dIx_t1, dIx_t2, dIx_t3, ev_setIx, setK0_ok, setK0_err, setK1_ok, setK2_ok, setK3_0, setK3_1, setK3_2, setK3_3, setK3_4, ev_sl, slK1_ok, slK2_ok, slK3_ok, ev_no, ev_so, soK_ok, soK_err, ev_join, joinK1_ok, joinK2_ok, ev_app, appK1_ok, appK2_ok, appK2_err, appK3_ok, ev_a0, ev_aD, ev_aR, eaK1_ok, eaK1_err, eaK3_ok, eaK2_ok, eaK2_err, ev_call, callK_d1, callK_d2, callK_d3, callK_d4, callK_d5, callK_d6, callK_d7, callK_d8, callK_r0, callK_r1, callK_r2, callK_r3, callK_r4, callK_r5, callK_r6, callK_r7, callK_err, backK_ok, backK_err, slotOf_d, slotOf_r, putBack_d, putBack_r, putBack_nil, refs_nil, refs_d, refs_r, ev_run, endOf_nx, endOf_rt, endOf_err, maskL_t, maskL_f, maskL_nil, ev_for, forK_ok, forGo_nil, turnK_nx, turnK_ct, turnK_bk, turnK_rt, turnK_err, bind_ok, asItems_l, asItems_t, asItems_s, ev_name, ev_fnil, ev_fcons, ev_ftup, some_bind, ev_asgT, asgTK_ok, asgTK2_ok, ev_lc, lcK_ok, wipeL_nil, wipeL_cons, ev_yes, lcGo_nil, dLt_i, dLe_i, dGt_i, dGe_i, dEq_i, dEq_s, dEq_b, dNe_i, dNe_s, dIs_b, dSub_i, dLen_l, dLen_t, dList_l, dList_t, dSl_l, dNot_b, ty_n_bool, ty_n_int, ty_n_str, ty_n_list, ty_n_tuple, ty_b_bool, ty_b_int, ty_b_str, ty_b_list, ty_b_tuple, ty_i_bool, ty_i_int, ty_i_str, ty_i_list, ty_i_tuple, ty_s_bool, ty_s_int, ty_s_str, ty_s_list, ty_s_tuple, ty_l_bool, ty_l_int, ty_l_str, ty_l_list, ty_l_tuple, ty_t_bool, ty_t_int, ty_t_str, ty_t_list, ty_t_tuple, dIs_nn, dIs_in, dIs_bn, dIs_sn, dIs_ln, dIs_tn, dNe_b, ev_A, aK_ok, aK_err, dMin_ok, dMax_ok, asZip_l, asZip_t, ev_pop, popK1_ok, ev_cnt, cntK1_ok, cntK2_ok, dAdd_int, ofO_some, ofO_none, List.getElem?_cons_zero, List.getElem?_cons_succ, List.set_cons_zero, List.set_cons_succ, List.length_cons, List.length_nil, List.cons_append, List.nil_append, List.replicate_succ, List.replicate_zero, List.map_cons, List.map_nil, Option.join_some, List.append_nil, Nat.reduceAdd, Nat.reduceLT, Nat.reduceLeDiff, Nat.reduceSub, Nat.reduceEqDiff, if_true, if_false, decide_true, decide_false, Bool.false_eq_true, Bool.not_true, Bool.not_false, srcS, List.length_map, c2, decide_true, if_true, dIx_cells cells j hj]
      rw [e3, seqK_nx, m1, seqK_nx, t1]
      rfl
    · obtain ⟨b', st', m1, m2, m3, m4⟩ := next_mid cells j b st (k + 1) n 7 hb hs0 hs1
      obtain ⟨r, s', o2, L, t1, t2, t3, t4⟩ := next_tail cells j b' st' (k + 1) n (some (.d (.int 7))) h0 h1 hl (by omega) (by omega) m2 m3 m4
      refine ⟨r, s', ?_, t2, t3, t4⟩
      unfold m_law_next g_law_next
      rw [ev_run]
      simp only [List.length_cons, List.length_nil, Nat.reduceAdd, Nat.reduceSub, List.replicate_succ, List.replicate_zero, List.cons_append, List.nil_append]
      rw [ev_seq, s0, seqK_nx, ev_seq, ev_if]
      have e1 : gB (gOp dLe (gIxP 0 (gC (.int 2))) (gC (.int 1))) [some (srcS cells j b st (k + 1)), some (.d (.int n)), none, none] = .ok true [some (srcS cells j b st (k + 1)), some (.d (.int n)), none, none] := by
        simp only [ev_seq, seqK_nx, seqK_rt, seqK_bk, seqK_ct, seqK_err, ev_next, ev_if, ifK_ok, ifK_err, ev_asg, asgK_ok, asgK_err, ev_ret, retK_ok, retK_err, ev_retN, ev_drop, dropK_ok, dropK_err, ev_c, ev_d, dK_ok, dK_err, ev_fz, fzK_d, fzK_l, fzK_err, ev_op, opK1_ok, opK1_err, opK2_ok, opK2_err, ev_un, unK_ok, unK_err, ev_isi, ev_b, bK_ok, bK_err, ev_and, andK_ok, andK_err, ev_or, orK_ok, orK_err, ev_not, notK_ok, ev_andV, andVK_ok, ev_orV, orVK_ok, ev_ifE, ifEK_ok, ev_nil, ev_cons, consK1_ok, consK1_err, consK2_ok, consK2_err, ev_lst, lstK_ok, ev_tup, tupK_ok, ev_var, varK_d, varK_l, ev_peek, peekK_d, peekK_l, peekK_s, ev_move, moveK_d, moveK_l, ev_ixP, ixK_ok, ixK1_ok, ixK1_err, ixK2_ok, dIx_nat, dIx_natT, dIx_l0, dIx_l1, dIx_l2, dIx_l3, dIx_l4, dIx_t0, dIx_t1, dIx_t2, dIx_t3, ev_setIx, setK0_ok, setK0_err, setK1_ok, setK2_ok, setK3_0, setK3_1, setK3_2, setK3_3, setK3_4, ev_sl, slK1_ok, slK2_ok, slK3_ok, ev_no, ev_so, soK_ok, soK_err, ev_join, joinK1_ok, joinK2_ok, ev_app, appK1_ok, appK2_ok, appK2_err, appK3_ok, ev_a0, ev_aD, ev_aR, eaK1_ok, eaK1_err, eaK3_ok, eaK2_ok, eaK2_err, ev_call, callK_d1, callK_d2, callK_d3, callK_d4, callK_d5, callK_d6, callK_d7, callK_d8, callK_r0, callK_r1, callK_r2, callK_r3, callK_r4, callK_r5, callK_r6, callK_r7, callK_err, backK_ok, backK_err, slotOf_d, slotOf_r, putBack_d, putBack_r, putBack_nil, refs_nil, refs_d, refs_r, ev_run, endOf_nx, endOf_rt, endOf_err, maskL_t, maskL_f, maskL_nil, ev_for, forK_ok, forGo_nil, turnK_nx, turnK_ct, turnK_bk, turnK_rt, turnK_err, bind_ok, asItems_l, asItems_t, asItems_s, ev_name, ev_fnil, ev_fcons, ev_ftup, some_bind, ev_asgT, asgTK_ok, asgTK2_ok, ev_lc, lcK_ok, wipeL_nil, wipeL_cons, ev_yes, lcGo_nil, dLt_i, dLe_i, dGt_i, dGe_i, dEq_i, dEq_s, dEq_b, dNe_i, dNe_s, dIs_b, dSub_i, dLen_l, dLen_t, dList_l, dList_t, dSl_l, dNot_b, ty_n_bool, ty_n_int, ty_n_str, ty_n_list, ty_n_tuple, ty_b_bool, ty_b_int, ty_b_str, ty_b_list, ty_b_tuple, ty_i_bool, ty_i_int, ty_i_str, ty_i_list, ty_i_tuple, ty_s_bool, ty_s_int, ty_s_str, ty_s_list, ty_s_tuple, ty_l_bool, ty_l_int, ty_l_str, ty_l_list, ty_l_tuple, ty_t_bool, ty_t_int, ty_t_str, ty_t_list, ty_t_tuple, dIs_nn, dIs_in, dIs_bn, dIs_sn, dIs_ln, dIs_tn, dNe_b, ev_A, aK_ok, aK_err, dMin_ok, dMax_ok, asZip_l, asZip_t, ev_pop, popK1_ok, ev_cnt, cntK1_ok, cntK2_ok, dAdd_int, ofO_some, ofO_none, List.getElem?_cons_zero, List.getElem?_cons_succ, List.set_cons_zero, List.set_cons_succ, List.length_cons, List.length_nil, List.cons_append, List.nil_append, List.replicate_succ, List.replicate_zero, List.map_cons, List.map_nil, Option.join_some, List.append_nil, Nat.reduceAdd, Nat.reduceLT, Nat.reduceLeDiff, Nat.reduceSub, Nat.reduceEqDiff, if_true, if_false, decide_true, decide_false, Bool.false_eq_true, Bool.not_true, Bool.not_false, srcS, c1, decide_true]
      rw [e1, ifK_ok, if_pos rfl, ev_seq]
      have e2 : gAsg 2 (gD (gC (.int 7))) [some (srcS cells j b st (k + 1)), some (.d (.int n)), none, none] = .ok .nx [some (srcS cells j b st (k + 1)), some (.d (.int n)), some (.d (.int 7)), none] := rfl
      rw [e2, seqK_nx, ev_seq]
      have e3 : gIf (gB (gOp dLt (gIxP 0 (gC (.int 1))) (gUn dLen (gIxP 0 (gC (.int 0)))))) (gSeq (gAsg 2 (gD (gOp dIx (gIxP 0 (gC (.int 0))) (gIxP 0 (gC (.int 1))))))
          (gSetIx 0 (gC (.int 1)) (gFz (gOp dAdd (gIxP 0 (gC (.int 1))) (gC (.int 1)))))) gNext [some (srcS cells j b st (k + 1)), some (.d (.int n)), some (.d (.int 7)), none] = .ok .nx [some (srcS cells j b st (k + 1)), some (.d (.int n)), some (.d (.int 7)), none] := by
        simp only [ev_seq, seqK_nx, seqK_rt, seqK_bk, seqK_ct, seqK_err, ev_next, ev_if, ifK_ok, ifK_err, ev_asg, asgK_ok, asgK_err, ev_ret, retK_ok, retK_err, ev_retN, ev_drop, dropK_ok, dropK_err, ev_c, ev_d, dK_ok, dK_err, ev_fz, fzK_d, fzK_l, fzK_err, ev_op, opK1_ok, opK1_err, opK2_ok, opK2_err, ev_un, unK_ok, unK_err, ev_isi, ev_b, bK_ok, bK_err, ev_and, andK_ok, andK_err, ev_or, orK_ok, orK_err, ev_not, notK_ok, ev_andV, andVK_ok, ev_orV, orVK_ok, ev_ifE, ifEK_ok, ev_nil, ev_cons, consK1_ok, consK1_err, consK2_ok, consK2_err, ev_lst, lstK_ok, ev_tup, tupK_ok, ev_var, varK_d, varK_l, ev_peek, peekK_d, peekK_l, peekK_s, ev_move, moveK_d, moveK_l, ev_ixP, ixK_ok, ixK1_ok, ixK1_err, ixK2_ok, dIx_nat, dIx_natT, dIx_l0, dIx_l1, dIx_l2, dIx_l3, dIx_l4, dIx_t0, dIx_t1, dIx_t2, dIx_t3, ev_setIx, setK0_ok, setK0_err, setK1_ok, setK2_ok, setK3_0, setK3_1, setK3_2, setK3_3, setK3_4, ev_sl, slK1_ok, slK2_ok, slK3_ok, ev_no, ev_so, soK_ok, soK_err, ev_join, joinK1_ok, joinK2_ok, ev_app, appK1_ok, appK2_ok, appK2_err, appK3_ok, ev_a0, ev_aD, ev_aR, eaK1_ok, eaK1_err, eaK3_ok, eaK2_ok, eaK2_err, ev_call, callK_d1, callK_d2, callK_d3, callK_d4, callK_d5, callK_d6, callK_d7, callK_d8, callK_r0, callK_r1, callK_r2, callK_r3, callK_r4, callK_r5, callK_r6, callK_r7, callK_err, backK_ok, backK_err, slotOf_d, slotOf_r, putBack_d, putBack_r, putBack_nil, refs_nil, refs_d, refs_r, ev_run, endOf_nx, endOf_rt, endOf_err, maskL_t, maskL_f, maskL_nil, ev_for, forK_ok, forGo_nil, turnK_nx, turnK_ct, turnK_bk, turnK_rt, turnK_err, bind_ok, asItems_l, asItems_t, asItems_s, ev_name, ev_fnil, ev_fcons, ev_ftup, some_bind, ev_asgT, asgTK_ok, asgTK2_ok, ev_lc, lcK_ok, wipeL_nil, wipeL_cons, ev_yes, lcGo_nil, dLt_i, dLe_i, dGt_i, dGe_i, dEq_i, dEq_s, dEq_b, dNe_i, dNe_s, dIs_b, dSub_i, dLen_l, dLen_t, dList_l, dList_t, dSl_l, dNot_b, ty_n_bool, ty_n_int, ty_n_str, ty_n_list, ty_n_tuple, ty_b_bool, ty_b_int, ty_b_str, ty_b_list, ty_b_tuple, ty_i_bool, ty_i_int, ty_i_str, ty_i_list, ty_i_tuple, ty_s_bool, ty_s_int, ty_s_str, ty_s_list, ty_s_tuple, ty_l_bool, ty_l_int, ty_l_str, ty_l_list, ty_l_tuple, ty_t_bool, ty_t_int, ty_t_str, ty_t_list, ty_t_tuple, dIs_nn, dIs_in, dIs_bn, dIs_sn, dIs_ln, dIs_tn, dNe_b, ev_A, aK_ok, aK_err, dMin_ok, dMax_ok, asZip_l, asZip_t, ev_pop, popK1_ok, ev_cnt, cntK1_ok, cntK2_ok, dAdd_int, ofO_some, ofO_none, List.getElem?_cons_zero, List.getElem?_cons_succ, List.set_cons_zero, List.set_cons_succ, List.length_cons, List.length_nil, List.cons_append, List.nil_append, List.replicate_succ, List.replicate_zero, List.map_cons, List.map_nil, Option.join_some, List.append_nil, Nat.reduceAdd, Nat.reduceLT, Nat.reduceLeDiff, Nat.reduceSub, Nat.reduceEqDiff, if_true, if_false, decide_true, decide_false, Bool.false_eq_true, Bool.not_true, Bool.not_false, srcS, List.length_map, c2, decide_false, if_false, Bool.false_eq_true]
      rw [e3, seqK_nx, m1, seqK_nx, t1]
      rfl
  · obtain ⟨r, s', o2, L, t1, t2, t3, t4⟩ := next_tail cells j b st (k + 1) n none h0 h1 hl (by omega) (by omega) hb hs0 hs1
    refine ⟨r, s', ?_, t2, t3, t4⟩
    unfold m_law_next g_law_next
    rw [ev_run]
    simp only [List.length_cons, List.length_nil, Nat.reduceAdd, Nat.reduceSub, List.replicate_succ, List.replicate_zero, List.cons_append, List.nil_append]
    rw [ev_seq, s0, seqK_nx, ev_seq, ev_if]
    have e1 : gB (gOp dLe (gIxP 0 (gC (.int 2))) (gC (.int 1))) [some (srcS cells j b st (k + 1)), some (.d (.int n)), none, none] = .ok false [some (srcS cells j b st (k + 1)), some (.d (.int n)), none, none] := by
      simp only [ev_seq, seqK_nx, seqK_rt, seqK_bk, seqK_ct, seqK_err, ev_next, ev_if, ifK_ok, ifK_err, ev_asg, asgK_ok, asgK_err, ev_ret, retK_ok, retK_err, ev_retN, ev_drop, dropK_ok, dropK_err, ev_c, ev_d, dK_ok, dK_err, ev_fz, fzK_d, fzK_l, fzK_err, ev_op, opK1_ok, opK1_err, opK2_ok, opK2_err, ev_un, unK_ok, unK_err, ev_isi, ev_b, bK_ok, bK_err, ev_and, andK_ok, andK_err, ev_or, orK_ok, orK_err, ev_not, notK_ok, ev_andV, andVK_ok, ev_orV, orVK_ok, ev_ifE, ifEK_ok, ev_nil, ev_cons, consK1_ok, consK1_err, consK2_ok, consK2_err, ev_lst, lstK_ok, ev_tup, tupK_ok, ev_var, varK_d, varK_l, ev_peek, peekK_d, peekK_l, peekK_s, ev_move, moveK_d, moveK_l, ev_ixP, ixK_ok, ixK1_ok, ixK1_err, ixK2_ok, dIx_nat, dIx_natT, dIx_l0, dIx_l1, dIx_l2, dIx_l3, dIx_l4, dIx_t0, dIx_t1, dIx_t2, dIx_t3, ev_setIx, setK0_ok, setK0_err, setK1_ok, setK2_ok, setK3_0, setK3_1, setK3_2, setK3_3, setK3_4, ev_sl, slK1_ok, slK2_ok, slK3_ok, ev_no, ev_so, soK_ok, soK_err, ev_join, joinK1_ok, joinK2_ok, ev_app, appK1_ok, appK2_ok, appK2_err, appK3_ok, ev_a0, ev_aD, ev_aR, eaK1_ok, eaK1_err, eaK3_ok, eaK2_ok, eaK2_err, ev_call, callK_d1, callK_d2, callK_d3, callK_d4, callK_d5, callK_d6, callK_d7, callK_d8, callK_r0, callK_r1, callK_r2, callK_r3, callK_r4, callK_r5, callK_r6, callK_r7, callK_err, backK_ok, backK_err, slotOf_d, slotOf_r, putBack_d, putBack_r, putBack_nil, refs_nil, refs_d, refs_r, ev_run, endOf_nx, endOf_rt, endOf_err, maskL_t, maskL_f, maskL_nil, ev_for, forK_ok, forGo_nil, turnK_nx, turnK_ct, turnK_bk, turnK_rt, turnK_err, bind_ok, asItems_l, asItems_t, asItems_s, ev_name, ev_fnil, ev_fcons, ev_ftup, some_bind, ev_asgT, asgTK_ok, asgTK2_ok, ev_lc, lcK_ok, wipeL_nil, wipeL_cons, ev_yes, lcGo_nil, dLt_i, dLe_i, dGt_i, dGe_i, dEq_i, dEq_s, dEq_b, dNe_i, dNe_s, dIs_b, dSub_i, dLen_l, dLen_t, dList_l, dList_t, dSl_l, dNot_b, ty_n_bool, ty_n_int, ty_n_str, ty_n_list, ty_n_tuple, ty_b_bool, ty_b_int, ty_b_str, ty_b_list, ty_b_tuple, ty_i_bool, ty_i_int, ty_i_str, ty_i_list, ty_i_tuple, ty_s_bool, ty_s_int, ty_s_str, ty_s_list, ty_s_tuple, ty_l_bool, ty_l_int, ty_l_str, ty_l_list, ty_l_tuple, ty_t_bool, ty_t_int, ty_t_str, ty_t_list, ty_t_tuple, dIs_nn, dIs_in, dIs_bn, dIs_sn, dIs_ln, dIs_tn, dNe_b, ev_A, aK_ok, aK_err, dMin_ok, dMax_ok, asZip_l, asZip_t, ev_pop, popK1_ok, ev_cnt, cntK1_ok, cntK2_ok, dAdd_int, ofO_some, ofO_none, List.getElem?_cons_zero, List.getElem?_cons_succ, List.set_cons_zero, List.set_cons_succ, List.length_cons, List.length_nil, List.cons_append, List.nil_append, List.replicate_succ, List.replicate_zero, List.map_cons, List.map_nil, Option.join_some, List.append_nil, Nat.reduceAdd, Nat.reduceLT, Nat.reduceLeDiff, Nat.reduceSub, Nat.reduceEqDiff, if_true, if_false, decide_true, decide_false, Bool.false_eq_true, Bool.not_true, Bool.not_false, srcS, c1, decide_false]
    rw [e1, ifK_ok, if_neg Bool.false_ne_true, ev_next, seqK_nx, t1]
    rfl
end Lw

namespace Lw
open PySem VS
def sOf (ws : List Nat) : Str := ⟨ws.toArray⟩
theorem sOf_list (ws : List Nat) : (sOf ws).cps.toList = ws := by simp [sOf]
theorem sOf_len (ws : List Nat) : (sOf ws).length = ws.length := by simp [sOf, Str.length]
theorem sOf_app (a b : List Nat) : sOf a ++ sOf b = sOf (a ++ b) := by
  show (⟨a.toArray ++ b.toArray⟩ : Str) = ⟨(a ++ b).toArray⟩
  simp
theorem sOf_inj {a b : List Nat} (h : sOf a = sOf b) : a = b := by
  have := congrArg (fun s : Str => s.cps.toList) h
  simpa [sOf] using this
theorem sOf_of (s : Str) : s = sOf s.cps.toList := by
  cases s
  simp [sOf]
def Small (ws : List Nat) : Prop := ∀ c ∈ ws, 97 ≤ c ∧ c ≤ 122
theorem Small.app {a b : List Nat} (h : Small a) (h' : Small b) : Small (a ++ b) := fun c hc => (List.mem_append.mp hc).elim (h c) (h' c)
theorem Small.take {a : List Nat} (n : Nat) (h : Small a) : Small (a.take n) := fun c hc => h c (List.mem_of_mem_take hc)
theorem Small.drop {a : List Nat} (n : Nat) (h : Small a) : Small (a.drop n) := fun c hc => h c (List.mem_of_mem_drop hc)
abbrev abc : Str := "abcdefghijklmnopqrstuvwxyz"
theorem abc_at : ∀ k ∈ List.range 26, abc.cps.toList[k]? = some (97 + k) := by decide +kernel
theorem abc_len : abc.cps.toList.length = 26 := by decide +kernel
theorem ix_abc {r : Int} (h0 : 0 ≤ r) (h1 : r < 26) : dIx (.str abc) (.int r) = some (.str (sOf [97 + r.toNat])) := by
  obtain ⟨k, rfl⟩ := Int.eq_ofNat_of_zero_le h0
  have hk : k < 26 := by omega
  have e := abc_at k (List.mem_range.mpr hk)
  have hl : abc.length ≤ sizeLine := by
    have : abc.length = 26 := abc_len
    rw [this, PySem.sizeLine_eq]
    omega
  have e2 : L2.atI abc.cps.toList (k : Int) = some (97 + k) := L2.atI_nat e
  show (if abc.length ≤ sizeLine then (L2.atI abc.cps.toList (k : Int)).map fun k => PyData.str ⟨#[k]⟩ else none) = _
  rw [if_pos hl, e2]
  rfl
theorem rg_ok {j : Int} (h0 : 0 ≤ j) (h1 : j ≤ 100000) : -(2 ^ 62) ≤ j ∧ j < 2 ^ 62 := by omega
theorem rng1_at {j : Int} {L : LS} (h0 : 0 ≤ j) (h1 : j ≤ 100000) : rng1 [.int j] L = .ok (intsD 0 j.toNat) L := if_pos (rg_ok h0 h1)
theorem word_go (m : Int) : ∀ (ds acc : List D) (s : S), Src s → acc.length + ds.length < sizeLine → ∃ ws s', lcGo [3] (fName 3) gYes (gIxP 2 (gFz (gCall m_law_next [.r 0, .d (gC (.int 26))]))) ds acc [some s, some (.d (.int m)), some (.d (.str abc)), none]
    = .ok (.ol (acc ++ ws.map fun c => .str (sOf [c]))) [some s', some (.d (.int m)), some (.d (.str abc)), none] ∧ ws.length = ds.length ∧ Small ws ∧ Src s'
  | [], acc, s, hs, _ => ⟨[], s, by rw [lcGo_nil, List.map_nil, List.append_nil], rfl, (fun c hc => by cases hc), hs⟩
  | d :: ds, acc, s, hs, hl => by
    obtain ⟨r, s1, e, r0, r1, h1⟩ := next_ok hs (n := 26) (by omega) (by omega)
    rw [List.length_cons] at hl
    obtain ⟨ws, s', e2, l2, k2, h2⟩ := word_go m ds (acc ++ [.str (sOf [97 + r.toNat])]) s1 h1 (by rw [List.length_append, List.length_singleton]; omega)
    refine ⟨(97 + r.toNat) :: ws, s', ?_, by rw [List.length_cons, List.length_cons, l2], fun c hc => ?_, h2⟩
    · have step : gIxP 2 (gFz (gCall m_law_next [.r 0, .d (gC (.int 26))])) [some s, some (.d (.int m)), some (.d (.str abc)), some (.d d)] = .ok (.str (sOf [97 + r.toNat])) [some s1, some (.d (.int m)), some (.d (.str abc)), some (.d d)] := by
        simp only [ev_seq, seqK_nx, seqK_rt, seqK_bk, seqK_ct, seqK_err, ev_next, ev_if, ifK_ok, ifK_err, ev_asg, asgK_ok, asgK_err, ev_ret, retK_ok, retK_err, ev_retN, ev_drop, dropK_ok, dropK_err, ev_c, ev_d, dK_ok, dK_err, ev_fz, fzK_d, fzK_l, fzK_err, ev_op, opK1_ok, opK1_err, opK2_ok, opK2_err, ev_un, unK_ok, unK_err, ev_isi, ev_b, bK_ok, bK_err, ev_and, andK_ok, andK_err, ev_or, orK_ok, orK_err, ev_not, notK_ok, ev_andV, andVK_ok, ev_orV, orVK_ok, ev_ifE, ifEK_ok, ev_nil, ev_cons, consK1_ok, consK1_err, consK2_ok, consK2_err, ev_lst, lstK_ok, ev_tup, tupK_ok, ev_var, varK_d, varK_l, ev_peek, peekK_d, peekK_l, peekK_s, ev_move, moveK_d, moveK_l, ev_ixP, ixK_ok, ixK1_ok, ixK1_err, ixK2_ok, dIx_nat, dIx_natT, dIx_l0, dIx_l1, dIx_l2, dIx_l3, dIx_l4, dIx_t0, dIx_t1, dIx_t2, dIx_t3, ev_setIx, setK0_ok, setK0_err, setK1_ok, setK2_ok, setK3_0, setK3_1, setK3_2, setK3_3, setK3_4, ev_sl, slK1_ok, slK2_ok, slK3_ok, ev_no, ev_so, soK_ok, soK_err, ev_join, joinK1_ok, joinK2_ok, ev_app, appK1_ok, appK2_ok, appK2_err, appK3_ok, ev_a0, ev_aD, ev_aR, eaK1_ok, eaK1_err, eaK3_ok, eaK2_ok, eaK2_err, ev_call, callK_d1, callK_d2, callK_d3, callK_d4, callK_d5, callK_d6, callK_d7, callK_d8, callK_r0, callK_r1, callK_r2, callK_r3, callK_r4, callK_r5, callK_r6, callK_r7, callK_err, backK_ok, backK_err, slotOf_d, slotOf_r, putBack_d, putBack_r, putBack_nil, refs_nil, refs_d, refs_r, ev_run, endOf_nx, endOf_rt, endOf_err, maskL_t, maskL_f, maskL_nil, ev_for, forK_ok, forGo_nil, turnK_nx, turnK_ct, turnK_bk, turnK_rt, turnK_err, bind_ok, asItems_l, asItems_t, asItems_s, ev_name, ev_fnil, ev_fcons, ev_ftup, some_bind, ev_asgT, asgTK_ok, asgTK2_ok, ev_lc, lcK_ok, wipeL_nil, wipeL_cons, ev_yes, lcGo_nil, dLt_i, dLe_i, dGt_i, dGe_i, dEq_i, dEq_s, dEq_b, dNe_i, dNe_s, dIs_b, dSub_i, dLen_l, dLen_t, dList_l, dList_t, dSl_l, dNot_b, ty_n_bool, ty_n_int, ty_n_str, ty_n_list, ty_n_tuple, ty_b_bool, ty_b_int, ty_b_str, ty_b_list, ty_b_tuple, ty_i_bool, ty_i_int, ty_i_str, ty_i_list, ty_i_tuple, ty_s_bool, ty_s_int, ty_s_str, ty_s_list, ty_s_tuple, ty_l_bool, ty_l_int, ty_l_str, ty_l_list, ty_l_tuple, ty_t_bool, ty_t_int, ty_t_str, ty_t_list, ty_t_tuple, dIs_nn, dIs_in, dIs_bn, dIs_sn, dIs_ln, dIs_tn, dNe_b, ev_A, aK_ok, aK_err, dMin_ok, dMax_ok, asZip_l, asZip_t, ev_pop, popK1_ok, ev_cnt, cntK1_ok, cntK2_ok, dAdd_int, ofO_some, ofO_none, List.getElem?_cons_zero, List.getElem?_cons_succ, List.set_cons_zero, List.set_cons_succ, List.length_cons, List.length_nil, List.cons_append, List.nil_append, List.replicate_succ, List.replicate_zero, List.map_cons, List.map_nil, Option.join_some, List.append_nil, Nat.reduceAdd, Nat.reduceLT, Nat.reduceLeDiff, Nat.reduceSub, Nat.reduceEqDiff, if_true, if_false, decide_true, decide_false, Bool.false_eq_true, Bool.not_true, Bool.not_false, e, ix_abc r0 r1]
      rw [lcGo_yes (L1 := [some s, some (.d (.int m)), some (.d (.str abc)), some (.d d)]) (L2 := [some s, some (.d (.int m)), some (.d (.str abc)), some (.d d)]) [3] (fName 3) gYes _ d ds acc rfl rfl step (by omega)]
      rw [show wipeL [some s1, some (.d (.int m)), some (.d (.str abc)), some (.d d)] [3] = [some s1, some (.d (.int m)), some (.d (.str abc)), none] from rfl, e2, List.map_cons, List.append_assoc]
      rfl
    · rcases List.mem_cons.mp hc with rfl | hc
      · omega
      · exact k2 c hc
theorem strs_map (ws : List Nat) : strsOf (ws.map fun c => PyData.str (sOf [c])) = some (ws.map fun c => sOf [c]) := by
  induction ws with
  | nil => rfl
  | cons c ws ih =>
    show (strsOf (ws.map fun c => PyData.str (sOf [c]))).map (sOf [c] :: ·) = _
    rw [ih]
    rfl
theorem joinL_nil : ∀ l : List (List Nat), TL.joinL [] l = l.flatten
  | [] => rfl
  | [p] => by simp [TL.joinL]
  | p :: q :: r => by
    show p ++ ([] ++ TL.joinL [] (q :: r)) = _
    rw [List.nil_append, joinL_nil (q :: r)]
    rfl
theorem empty_list : ("" : Str).cps.toList = [] := by decide +kernel
theorem join_empty (ys : List (List Nat)) : Txt.join ("" : Str) (ys.map sOf) = sOf ys.flatten := by
  rw [sOf_of (Txt.join _ _), TL.join_eq]
  congr 1
  show TL.tl (Str.join _ _) = _
  rw [TL.tl_join, show TL.tl ("" : Str) = [] from empty_list, joinL_nil, List.map_map]
  congr 1
  rw [show (TL.tl ∘ sOf) = id from funext sOf_list, List.map_id]
theorem flat_one (ws : List Nat) : (ws.map fun c => [c]).flatten = ws := by
  induction ws with
  | nil => rfl
  | cons c ws ih => rw [List.map_cons, List.flatten_cons, ih]; rfl
theorem sum_one (ws : List Nat) : ((ws.map fun c => sOf [c]).map (·.length)).sum = ws.length := by
  induction ws with
  | nil => rfl
  | cons c ws ih =>
    rw [List.map_cons, List.map_cons, List.sum_cons, ih, sOf_len]
    simp only [List.length_cons, List.length_nil]
    omega
theorem join_chars {ws : List Nat} (h : ws.length ≤ 100000) : dJoin (.str "") (.list (ws.map fun c => PyData.str (sOf [c]))) = some (.str (sOf ws)) := by
  show (strsOf _).bind _ = _
  rw [strs_map]
  show (if joinOk "" (ws.map fun c => sOf [c]) then some (PyData.str (Txt.join "" (ws.map fun c => sOf [c]))) else none) = _
  have hj : joinOk "" (ws.map fun c => sOf [c]) = true := by
    unfold joinOk
    rw [sum_one, List.length_map, show (("" : Str).length) = 0 from by decide +kernel]
    exact decide_eq_true (by omega)
  rw [if_pos hj]
  have e : (ws.map fun c => sOf [c]) = (ws.map fun c => [c]).map sOf := by rw [List.map_map]; rfl
  rw [e, join_empty, flat_one]
theorem word_ok {s : S} (hs : Src s) {m : Int} (h0 : 0 ≤ m) (h1 : m ≤ 1000) : ∃ ws s', m_law_word [some s, some (.d (.int m))] = .ok (.d (.str (sOf ws))) [some s', none] ∧ ws.length = m.toNat ∧ Small ws ∧ Src s' := by
  obtain ⟨ws, s', e, l, k, h⟩ := word_go m (intsD 0 m.toNat) [] s hs (by rw [intsD_len, PySem.sizeLine_eq, List.length_nil]; omega)
  rw [intsD_len] at l
  refine ⟨ws, s', ?_, l, k, h⟩
  unfold m_law_word g_law_word
  simp only [ev_seq, seqK_nx, seqK_rt, seqK_bk, seqK_ct, seqK_err, ev_next, ev_if, ifK_ok, ifK_err, ev_asg, asgK_ok, asgK_err, ev_ret, retK_ok, retK_err, ev_retN, ev_drop, dropK_ok, dropK_err, ev_c, ev_d, dK_ok, dK_err, ev_fz, fzK_d, fzK_l, fzK_err, ev_op, opK1_ok, opK1_err, opK2_ok, opK2_err, ev_un, unK_ok, unK_err, ev_isi, ev_b, bK_ok, bK_err, ev_and, andK_ok, andK_err, ev_or, orK_ok, orK_err, ev_not, notK_ok, ev_andV, andVK_ok, ev_orV, orVK_ok, ev_ifE, ifEK_ok, ev_nil, ev_cons, consK1_ok, consK1_err, consK2_ok, consK2_err, ev_lst, lstK_ok, ev_tup, tupK_ok, ev_var, varK_d, varK_l, ev_peek, peekK_d, peekK_l, peekK_s, ev_move, moveK_d, moveK_l, ev_ixP, ixK_ok, ixK1_ok, ixK1_err, ixK2_ok, dIx_nat, dIx_natT, dIx_l0, dIx_l1, dIx_l2, dIx_l3, dIx_l4, dIx_t0, dIx_t1, dIx_t2, dIx_t3, ev_setIx, setK0_ok, setK0_err, setK1_ok, setK2_ok, setK3_0, setK3_1, setK3_2, setK3_3, setK3_4, ev_sl, slK1_ok, slK2_ok, slK3_ok, ev_no, ev_so, soK_ok, soK_err, ev_join, joinK1_ok, joinK2_ok, ev_app, appK1_ok, appK2_ok, appK2_err, appK3_ok, ev_a0, ev_aD, ev_aR, eaK1_ok, eaK1_err, eaK3_ok, eaK2_ok, eaK2_err, ev_call, callK_d1, callK_d2, callK_d3, callK_d4, callK_d5, callK_d6, callK_d7, callK_d8, callK_r0, callK_r1, callK_r2, callK_r3, callK_r4, callK_r5, callK_r6, callK_r7, callK_err, backK_ok, backK_err, slotOf_d, slotOf_r, putBack_d, putBack_r, putBack_nil, refs_nil, refs_d, refs_r, ev_run, endOf_nx, endOf_rt, endOf_err, maskL_t, maskL_f, maskL_nil, ev_for, forK_ok, forGo_nil, turnK_nx, turnK_ct, turnK_bk, turnK_rt, turnK_err, bind_ok, asItems_l, asItems_t, asItems_s, ev_name, ev_fnil, ev_fcons, ev_ftup, some_bind, ev_asgT, asgTK_ok, asgTK2_ok, ev_lc, lcK_ok, wipeL_nil, wipeL_cons, ev_yes, lcGo_nil, dLt_i, dLe_i, dGt_i, dGe_i, dEq_i, dEq_s, dEq_b, dNe_i, dNe_s, dIs_b, dSub_i, dLen_l, dLen_t, dList_l, dList_t, dSl_l, dNot_b, ty_n_bool, ty_n_int, ty_n_str, ty_n_list, ty_n_tuple, ty_b_bool, ty_b_int, ty_b_str, ty_b_list, ty_b_tuple, ty_i_bool, ty_i_int, ty_i_str, ty_i_list, ty_i_tuple, ty_s_bool, ty_s_int, ty_s_str, ty_s_list, ty_s_tuple, ty_l_bool, ty_l_int, ty_l_str, ty_l_list, ty_l_tuple, ty_t_bool, ty_t_int, ty_t_str, ty_t_list, ty_t_tuple, dIs_nn, dIs_in, dIs_bn, dIs_sn, dIs_ln, dIs_tn, dNe_b, ev_A, aK_ok, aK_err, dMin_ok, dMax_ok, asZip_l, asZip_t, ev_pop, popK1_ok, ev_cnt, cntK1_ok, cntK2_ok, dAdd_int, ofO_some, ofO_none, List.getElem?_cons_zero, List.getElem?_cons_succ, List.set_cons_zero, List.set_cons_succ, List.length_cons, List.length_nil, List.cons_append, List.nil_append, List.replicate_succ, List.replicate_zero, List.map_cons, List.map_nil, Option.join_some, List.append_nil, Nat.reduceAdd, Nat.reduceLT, Nat.reduceLeDiff, Nat.reduceSub, Nat.reduceEqDiff, if_true, if_false, decide_true, decide_false, Bool.false_eq_true, Bool.not_true, Bool.not_false]
  rw [rng1_at h0 (by omega)]
  simp only [ev_seq, seqK_nx, seqK_rt, seqK_bk, seqK_ct, seqK_err, ev_next, ev_if, ifK_ok, ifK_err, ev_asg, asgK_ok, asgK_err, ev_ret, retK_ok, retK_err, ev_retN, ev_drop, dropK_ok, dropK_err, ev_c, ev_d, dK_ok, dK_err, ev_fz, fzK_d, fzK_l, fzK_err, ev_op, opK1_ok, opK1_err, opK2_ok, opK2_err, ev_un, unK_ok, unK_err, ev_isi, ev_b, bK_ok, bK_err, ev_and, andK_ok, andK_err, ev_or, orK_ok, orK_err, ev_not, notK_ok, ev_andV, andVK_ok, ev_orV, orVK_ok, ev_ifE, ifEK_ok, ev_nil, ev_cons, consK1_ok, consK1_err, consK2_ok, consK2_err, ev_lst, lstK_ok, ev_tup, tupK_ok, ev_var, varK_d, varK_l, ev_peek, peekK_d, peekK_l, peekK_s, ev_move, moveK_d, moveK_l, ev_ixP, ixK_ok, ixK1_ok, ixK1_err, ixK2_ok, dIx_nat, dIx_natT, dIx_l0, dIx_l1, dIx_l2, dIx_l3, dIx_l4, dIx_t0, dIx_t1, dIx_t2, dIx_t3, ev_setIx, setK0_ok, setK0_err, setK1_ok, setK2_ok, setK3_0, setK3_1, setK3_2, setK3_3, setK3_4, ev_sl, slK1_ok, slK2_ok, slK3_ok, ev_no, ev_so, soK_ok, soK_err, ev_join, joinK1_ok, joinK2_ok, ev_app, appK1_ok, appK2_ok, appK2_err, appK3_ok, ev_a0, ev_aD, ev_aR, eaK1_ok, eaK1_err, eaK3_ok, eaK2_ok, eaK2_err, ev_call, callK_d1, callK_d2, callK_d3, callK_d4, callK_d5, callK_d6, callK_d7, callK_d8, callK_r0, callK_r1, callK_r2, callK_r3, callK_r4, callK_r5, callK_r6, callK_r7, callK_err, backK_ok, backK_err, slotOf_d, slotOf_r, putBack_d, putBack_r, putBack_nil, refs_nil, refs_d, refs_r, ev_run, endOf_nx, endOf_rt, endOf_err, maskL_t, maskL_f, maskL_nil, ev_for, forK_ok, forGo_nil, turnK_nx, turnK_ct, turnK_bk, turnK_rt, turnK_err, bind_ok, asItems_l, asItems_t, asItems_s, ev_name, ev_fnil, ev_fcons, ev_ftup, some_bind, ev_asgT, asgTK_ok, asgTK2_ok, ev_lc, lcK_ok, wipeL_nil, wipeL_cons, ev_yes, lcGo_nil, dLt_i, dLe_i, dGt_i, dGe_i, dEq_i, dEq_s, dEq_b, dNe_i, dNe_s, dIs_b, dSub_i, dLen_l, dLen_t, dList_l, dList_t, dSl_l, dNot_b, ty_n_bool, ty_n_int, ty_n_str, ty_n_list, ty_n_tuple, ty_b_bool, ty_b_int, ty_b_str, ty_b_list, ty_b_tuple, ty_i_bool, ty_i_int, ty_i_str, ty_i_list, ty_i_tuple, ty_s_bool, ty_s_int, ty_s_str, ty_s_list, ty_s_tuple, ty_l_bool, ty_l_int, ty_l_str, ty_l_list, ty_l_tuple, ty_t_bool, ty_t_int, ty_t_str, ty_t_list, ty_t_tuple, dIs_nn, dIs_in, dIs_bn, dIs_sn, dIs_ln, dIs_tn, dNe_b, ev_A, aK_ok, aK_err, dMin_ok, dMax_ok, asZip_l, asZip_t, ev_pop, popK1_ok, ev_cnt, cntK1_ok, cntK2_ok, dAdd_int, ofO_some, ofO_none, List.getElem?_cons_zero, List.getElem?_cons_succ, List.set_cons_zero, List.set_cons_succ, List.length_cons, List.length_nil, List.cons_append, List.nil_append, List.replicate_succ, List.replicate_zero, List.map_cons, List.map_nil, Option.join_some, List.append_nil, Nat.reduceAdd, Nat.reduceLT, Nat.reduceLeDiff, Nat.reduceSub, Nat.reduceEqDiff, if_true, if_false, decide_true, decide_false, Bool.false_eq_true, Bool.not_true, Bool.not_false, e, join_chars (ws := ws) (by omega)]
end Lw

namespace Lw
open PySem VS
def Good (w : List Nat) : Prop := Small w ∧ 1 ≤ w.length ∧ w.length ≤ 12
abbrev nD (w : List Nat) : D := .str (sOf w)
theorem in_names (w : List Nat) (ns : List (List Nat)) : dInB (nD w) (.list (ns.map nD)) = some (decide (w ∈ ns)) := by
  have hf : ∀ l : List (List Nat), (l.map nD).all flatD = true := fun l => by
    induction l with
    | nil => rfl
    | cons x l ih => rw [List.map_cons, List.all_cons, ih]; rfl
  show (if inOk (nD w) (ns.map nD) then some ((ns.map nD).any fun z => z.eqv (nD w)) else none) = _
  rw [if_pos (.inl ⟨rfl, hf ns⟩)]
  congr 1
  induction ns with
  | nil => rfl
  | cons x l ih =>
    rw [List.map_cons, List.any_cons, ih, eqv_str]
    by_cases h : x = w
    · subst h
      simp
    · have h1 : ¬ sOf x = sOf w := fun z => h (sOf_inj z)
      have h2 : ¬ w = x := fun z => h z.symm
      simp [h1, h2]
theorem notIn_names (w : List Nat) (ns : List (List Nat)) : dNotIn (nD w) (.list (ns.map nD)) = some (.bool (!decide (w ∈ ns))) := by
  unfold dNotIn
  rw [in_names]
  rfl
theorem dLen_n {w : List Nat} (h : w.length ≤ 100000) : dLen (nD w) = some (.int w.length) := by
  rw [dLen_s (by rw [sOf_len, PySem.sizeLine_eq]; omega), sOf_len]
theorem dAdd_n {a b : List Nat} (h : a.length + b.length ≤ 100000) : dAdd (nD a) (nD b) = some (.d (nD (a ++ b))) := by
  show dAdd (.str (sOf a)) (.str (sOf b)) = _
  rw [dAdd_str, if_pos (by rw [sOf_len, sOf_len, PySem.sizeLine_eq]; omega), sOf_app]
theorem cut_to {w : List Nat} {k : Int} (h : 0 ≤ k) : L2.cutS (sOf w) none (some k) = sOf (w.take k.toNat) := by
  unfold L2.cutS
  rw [sOf_len, sOf_list]
  have e : HT.sIx w.length 0 none = 0 := rfl
  have e2 : HT.sIx w.length w.length (some k) = min k.toNat w.length := by
    show (if k < 0 then (k + w.length).toNat else min k.toNat w.length) = _
    rw [if_neg (by omega)]
  rw [e, e2, List.drop_zero, Nat.sub_zero]
  unfold sOf
  congr 1
  congr 1
  by_cases hk : k.toNat ≤ w.length
  · rw [Nat.min_eq_left hk]
  · rw [Nat.min_eq_right (by omega), List.take_length, List.take_of_length_le (by omega)]
theorem cut_from {w : List Nat} {k : Int} (h : 0 ≤ k) : L2.cutS (sOf w) (some k) none = sOf (w.drop k.toNat) := by
  unfold L2.cutS
  rw [sOf_len, sOf_list]
  have e : HT.sIx w.length w.length none = w.length := rfl
  have e2 : HT.sIx w.length 0 (some k) = min k.toNat w.length := by
    show (if k < 0 then (k + w.length).toNat else min k.toNat w.length) = _
    rw [if_neg (by omega)]
  rw [e, e2]
  unfold sOf
  congr 1
  congr 1
  by_cases hk : k.toNat ≤ w.length
  · rw [Nat.min_eq_left hk, List.take_of_length_le (by rw [List.length_drop]; omega)]
  · rw [Nat.min_eq_right (by omega), Nat.sub_self, List.take_zero, List.drop_of_length_le (by omega)]
theorem dSl_to {w : List Nat} {k : Int} (h : 0 ≤ k) (hl : w.length ≤ 100000) : dSl (nD w) none (some k) = some (.d (nD (w.take k.toNat))) := by
  rw [dSl_s none (some k) (by rw [sOf_len, PySem.sizeLine_eq]; omega), cut_to h]
theorem dSl_from {w : List Nat} {k : Int} (h : 0 ≤ k) (hl : w.length ≤ 100000) : dSl (nD w) (some k) none = some (.d (nD (w.drop k.toNat))) := by
  rw [dSl_s (some k) none (by rw [sOf_len, PySem.sizeLine_eq]; omega), cut_from h]
theorem intsD_succ (lo : Int) (m : Nat) : intsD lo (m + 1) = .int lo :: intsD (lo + 1) m := by
  unfold intsD
  rw [List.range_succ_eq_map, List.map_cons, List.map_map]
  congr 1
  · simp
  · apply List.map_congr_left
    intro a _
    show PyData.int (lo + ((a + 1 : Nat) : Int)) = PyData.int (lo + 1 + (a : Int))
    congr 1
    omega
theorem nodup_len {α : Type} [DecidableEq α] : ∀ (l ns : List α), l.Nodup → (∀ x ∈ l, x ∈ ns) → l.length ≤ ns.length
  | [], ns, _, _ => Nat.zero_le _
  | x :: l, ns, nd, h => by
    obtain ⟨h1, h2⟩ := List.nodup_cons.mp nd
    have hx : x ∈ ns := h x List.mem_cons_self
    have ih := nodup_len l (ns.erase x) h2 fun y hy => (List.mem_erase_of_ne (fun z => h1 (by rw [← z]; exact hy))).mpr (h y (List.mem_cons_of_mem _ hy))
    rw [List.length_erase_of_mem hx] at ih
    have : 0 < ns.length := List.length_pos_of_mem hx
    rw [List.length_cons]
    omega
def cand (stem : List Nat) (t : Nat) : List Nat := stem ++ [97 + t % 26, 97 + t / 26]
def tried (w stem : List Nat) : Nat → List Nat
  | 0 => w
  | t + 1 => cand stem t
theorem cand_inj {stem : List Nat} {a b : Nat} (h : cand stem a = cand stem b) : a = b := by
  have h' := List.append_cancel_left h
  injection h' with h1 h2
  injection h2 with h2 _
  omega
theorem unlike_go (ns : List (List Nat)) (w stem : List Nat) (hs : stem.length ≤ 10) (hw : w.length ≤ 12) : ∀ (k t : Nat) (o : Option S), t + k ≤ 600 → (∃ t' L, t ≤ t' ∧ t' < t + k ∧
      forGo (fName 4) (gSeq (gIf (gB (gOp dNotIn (gPeek 1) (gPeek 0))) (gRet (gMove 1)) gNext) (gAsg 1 (gOp dAdd (gFz (gOp dAdd (gVar 3) (gIxP 2 (gOp dMod (gVar 4) (gC (.int 26)))))) (gIxP 2 (gOp dDiv (gVar 4) (gC (.int 26)))))))
        (intsD t k) [some (.ol (ns.map nD)), some (.d (nD (tried w stem t))), some (.d (.str abc)), some (.d (nD stem)), o] = .ok (.rt (.d (nD (tried w stem t')))) (some (.ol (ns.map nD)) :: some (.d (nD (tried w stem t'))) :: L) ∧ tried w stem t' ∉ ns) ∨
    ((∀ j, t ≤ j → j < t + k → tried w stem j ∈ ns) ∧ ∃ o', forGo (fName 4) (gSeq (gIf (gB (gOp dNotIn (gPeek 1) (gPeek 0))) (gRet (gMove 1)) gNext) (gAsg 1 (gOp dAdd (gFz (gOp dAdd (gVar 3) (gIxP 2 (gOp dMod (gVar 4) (gC (.int 26)))))) (gIxP 2 (gOp dDiv (gVar 4) (gC (.int 26)))))))
        (intsD t k) [some (.ol (ns.map nD)), some (.d (nD (tried w stem t))), some (.d (.str abc)), some (.d (nD stem)), o] = .ok .nx [some (.ol (ns.map nD)), some (.d (nD (tried w stem (t + k)))), some (.d (.str abc)), some (.d (nD stem)), o'])
  | 0, t, o, _ => .inr ⟨fun j h1 h2 => by omega, o, rfl⟩
  | k + 1, t, o, hk => by
    rw [intsD_succ, forGo_cons (L1 := [some (.ol (ns.map nD)), some (.d (nD (tried w stem t))), some (.d (.str abc)), some (.d (nD stem)), some (.d (.int t))]) _ _ _ _ rfl]
    by_cases hin : tried w stem t ∈ ns
    · have e1 : (t : Int) % 26 = ((t % 26 : Nat) : Int) := by omega
      have e2 : (t : Int) / 26 = ((t / 26 : Nat) : Int) := by omega
      have step : gSeq (gIf (gB (gOp dNotIn (gPeek 1) (gPeek 0))) (gRet (gMove 1)) gNext) (gAsg 1 (gOp dAdd (gFz (gOp dAdd (gVar 3) (gIxP 2 (gOp dMod (gVar 4) (gC (.int 26)))))) (gIxP 2 (gOp dDiv (gVar 4) (gC (.int 26))))))
          [some (.ol (ns.map nD)), some (.d (nD (tried w stem t))), some (.d (.str abc)), some (.d (nD stem)), some (.d (.int t))] = .ok .nx [some (.ol (ns.map nD)), some (.d (nD (tried w stem (t + 1)))), some (.d (.str abc)), some (.d (nD stem)), some (.d (.int t))] := by
        simp only [ev_seq, seqK_nx, seqK_rt, seqK_bk, seqK_ct, seqK_err, ev_next, ev_if, ifK_ok, ifK_err, ev_asg, asgK_ok, asgK_err, ev_ret, retK_ok, retK_err, ev_retN, ev_drop, dropK_ok, dropK_err, ev_c, ev_d, dK_ok, dK_err, ev_fz, fzK_d, fzK_l, fzK_err, ev_op, opK1_ok, opK1_err, opK2_ok, opK2_err, ev_un, unK_ok, unK_err, ev_isi, ev_b, bK_ok, bK_err, ev_and, andK_ok, andK_err, ev_or, orK_ok, orK_err, ev_not, notK_ok, ev_andV, andVK_ok, ev_orV, orVK_ok, ev_ifE, ifEK_ok, ev_nil, ev_cons, consK1_ok, consK1_err, consK2_ok, consK2_err, ev_lst, lstK_ok, ev_tup, tupK_ok, ev_var, varK_d, varK_l, ev_peek, peekK_d, peekK_l, peekK_s, ev_move, moveK_d, moveK_l, ev_ixP, ixK_ok, ixK1_ok, ixK1_err, ixK2_ok, dIx_nat, dIx_natT, dIx_l0, dIx_l1, dIx_l2, dIx_l3, dIx_l4, dIx_t0, dIx_t1, dIx_t2, dIx_t3, ev_setIx, setK0_ok, setK0_err, setK1_ok, setK2_ok, setK3_0, setK3_1, setK3_2, setK3_3, setK3_4, ev_sl, slK1_ok, slK2_ok, slK3_ok, ev_no, ev_so, soK_ok, soK_err, ev_join, joinK1_ok, joinK2_ok, ev_app, appK1_ok, appK2_ok, appK2_err, appK3_ok, ev_a0, ev_aD, ev_aR, eaK1_ok, eaK1_err, eaK3_ok, eaK2_ok, eaK2_err, ev_call, callK_d1, callK_d2, callK_d3, callK_d4, callK_d5, callK_d6, callK_d7, callK_d8, callK_r0, callK_r1, callK_r2, callK_r3, callK_r4, callK_r5, callK_r6, callK_r7, callK_err, backK_ok, backK_err, slotOf_d, slotOf_r, putBack_d, putBack_r, putBack_nil, refs_nil, refs_d, refs_r, ev_run, endOf_nx, endOf_rt, endOf_err, maskL_t, maskL_f, maskL_nil, ev_for, forK_ok, forGo_nil, turnK_nx, turnK_ct, turnK_bk, turnK_rt, turnK_err, bind_ok, asItems_l, asItems_t, asItems_s, ev_name, ev_fnil, ev_fcons, ev_ftup, some_bind, ev_asgT, asgTK_ok, asgTK2_ok, ev_lc, lcK_ok, wipeL_nil, wipeL_cons, ev_yes, lcGo_nil, dLt_i, dLe_i, dGt_i, dGe_i, dEq_i, dEq_s, dEq_b, dNe_i, dNe_s, dIs_b, dSub_i, dLen_l, dLen_t, dList_l, dList_t, dSl_l, dNot_b, ty_n_bool, ty_n_int, ty_n_str, ty_n_list, ty_n_tuple, ty_b_bool, ty_b_int, ty_b_str, ty_b_list, ty_b_tuple, ty_i_bool, ty_i_int, ty_i_str, ty_i_list, ty_i_tuple, ty_s_bool, ty_s_int, ty_s_str, ty_s_list, ty_s_tuple, ty_l_bool, ty_l_int, ty_l_str, ty_l_list, ty_l_tuple, ty_t_bool, ty_t_int, ty_t_str, ty_t_list, ty_t_tuple, dIs_nn, dIs_in, dIs_bn, dIs_sn, dIs_ln, dIs_tn, dNe_b, ev_A, aK_ok, aK_err, dMin_ok, dMax_ok, asZip_l, asZip_t, ev_pop, popK1_ok, ev_cnt, cntK1_ok, cntK2_ok, dAdd_int, ofO_some, ofO_none, List.getElem?_cons_zero, List.getElem?_cons_succ, List.set_cons_zero, List.set_cons_succ, List.length_cons, List.length_nil, List.cons_append, List.nil_append, List.replicate_succ, List.replicate_zero, List.map_cons, List.map_nil, Option.join_some, List.append_nil, Nat.reduceAdd, Nat.reduceLT, Nat.reduceLeDiff, Nat.reduceSub, Nat.reduceEqDiff, if_true, if_false, decide_true, decide_false, Bool.false_eq_true, Bool.not_true, Bool.not_false, notIn_names, hin, dMod_ok (show (0 : Int) < 26 by decide), dDiv_ok (show (0 : Int) < 26 by decide) (show (26 : Int) < 1073741824 by decide)]
        rw [ix_abc (r := (t : Int) % 26) (by omega) (by omega)]
        simp only [ev_seq, seqK_nx, seqK_rt, seqK_bk, seqK_ct, seqK_err, ev_next, ev_if, ifK_ok, ifK_err, ev_asg, asgK_ok, asgK_err, ev_ret, retK_ok, retK_err, ev_retN, ev_drop, dropK_ok, dropK_err, ev_c, ev_d, dK_ok, dK_err, ev_fz, fzK_d, fzK_l, fzK_err, ev_op, opK1_ok, opK1_err, opK2_ok, opK2_err, ev_un, unK_ok, unK_err, ev_isi, ev_b, bK_ok, bK_err, ev_and, andK_ok, andK_err, ev_or, orK_ok, orK_err, ev_not, notK_ok, ev_andV, andVK_ok, ev_orV, orVK_ok, ev_ifE, ifEK_ok, ev_nil, ev_cons, consK1_ok, consK1_err, consK2_ok, consK2_err, ev_lst, lstK_ok, ev_tup, tupK_ok, ev_var, varK_d, varK_l, ev_peek, peekK_d, peekK_l, peekK_s, ev_move, moveK_d, moveK_l, ev_ixP, ixK_ok, ixK1_ok, ixK1_err, ixK2_ok, dIx_nat, dIx_natT, dIx_l0, dIx_l1, dIx_l2, dIx_l3, dIx_l4, dIx_t0, dIx_t1, dIx_t2, dIx_t3, ev_setIx, setK0_ok, setK0_err, setK1_ok, setK2_ok, setK3_0, setK3_1, setK3_2, setK3_3, setK3_4, ev_sl, slK1_ok, slK2_ok, slK3_ok, ev_no, ev_so, soK_ok, soK_err, ev_join, joinK1_ok, joinK2_ok, ev_app, appK1_ok, appK2_ok, appK2_err, appK3_ok, ev_a0, ev_aD, ev_aR, eaK1_ok, eaK1_err, eaK3_ok, eaK2_ok, eaK2_err, ev_call, callK_d1, callK_d2, callK_d3, callK_d4, callK_d5, callK_d6, callK_d7, callK_d8, callK_r0, callK_r1, callK_r2, callK_r3, callK_r4, callK_r5, callK_r6, callK_r7, callK_err, backK_ok, backK_err, slotOf_d, slotOf_r, putBack_d, putBack_r, putBack_nil, refs_nil, refs_d, refs_r, ev_run, endOf_nx, endOf_rt, endOf_err, maskL_t, maskL_f, maskL_nil, ev_for, forK_ok, forGo_nil, turnK_nx, turnK_ct, turnK_bk, turnK_rt, turnK_err, bind_ok, asItems_l, asItems_t, asItems_s, ev_name, ev_fnil, ev_fcons, ev_ftup, some_bind, ev_asgT, asgTK_ok, asgTK2_ok, ev_lc, lcK_ok, wipeL_nil, wipeL_cons, ev_yes, lcGo_nil, dLt_i, dLe_i, dGt_i, dGe_i, dEq_i, dEq_s, dEq_b, dNe_i, dNe_s, dIs_b, dSub_i, dLen_l, dLen_t, dList_l, dList_t, dSl_l, dNot_b, ty_n_bool, ty_n_int, ty_n_str, ty_n_list, ty_n_tuple, ty_b_bool, ty_b_int, ty_b_str, ty_b_list, ty_b_tuple, ty_i_bool, ty_i_int, ty_i_str, ty_i_list, ty_i_tuple, ty_s_bool, ty_s_int, ty_s_str, ty_s_list, ty_s_tuple, ty_l_bool, ty_l_int, ty_l_str, ty_l_list, ty_l_tuple, ty_t_bool, ty_t_int, ty_t_str, ty_t_list, ty_t_tuple, dIs_nn, dIs_in, dIs_bn, dIs_sn, dIs_ln, dIs_tn, dNe_b, ev_A, aK_ok, aK_err, dMin_ok, dMax_ok, asZip_l, asZip_t, ev_pop, popK1_ok, ev_cnt, cntK1_ok, cntK2_ok, dAdd_int, ofO_some, ofO_none, List.getElem?_cons_zero, List.getElem?_cons_succ, List.set_cons_zero, List.set_cons_succ, List.length_cons, List.length_nil, List.cons_append, List.nil_append, List.replicate_succ, List.replicate_zero, List.map_cons, List.map_nil, Option.join_some, List.append_nil, Nat.reduceAdd, Nat.reduceLT, Nat.reduceLeDiff, Nat.reduceSub, Nat.reduceEqDiff, if_true, if_false, decide_true, decide_false, Bool.false_eq_true, Bool.not_true, Bool.not_false]
        rw [dAdd_n (a := stem) (b := [97 + ((t : Int) % 26).toNat]) (by simp; omega)]
        simp only [ev_seq, seqK_nx, seqK_rt, seqK_bk, seqK_ct, seqK_err, ev_next, ev_if, ifK_ok, ifK_err, ev_asg, asgK_ok, asgK_err, ev_ret, retK_ok, retK_err, ev_retN, ev_drop, dropK_ok, dropK_err, ev_c, ev_d, dK_ok, dK_err, ev_fz, fzK_d, fzK_l, fzK_err, ev_op, opK1_ok, opK1_err, opK2_ok, opK2_err, ev_un, unK_ok, unK_err, ev_isi, ev_b, bK_ok, bK_err, ev_and, andK_ok, andK_err, ev_or, orK_ok, orK_err, ev_not, notK_ok, ev_andV, andVK_ok, ev_orV, orVK_ok, ev_ifE, ifEK_ok, ev_nil, ev_cons, consK1_ok, consK1_err, consK2_ok, consK2_err, ev_lst, lstK_ok, ev_tup, tupK_ok, ev_var, varK_d, varK_l, ev_peek, peekK_d, peekK_l, peekK_s, ev_move, moveK_d, moveK_l, ev_ixP, ixK_ok, ixK1_ok, ixK1_err, ixK2_ok, dIx_nat, dIx_natT, dIx_l0, dIx_l1, dIx_l2, dIx_l3, dIx_l4, dIx_t0, dIx_t1, dIx_t2, dIx_t3, ev_setIx, setK0_ok, setK0_err, setK1_ok, setK2_ok, setK3_0, setK3_1, setK3_2, setK3_3, setK3_4, ev_sl, slK1_ok, slK2_ok, slK3_ok, ev_no, ev_so, soK_ok, soK_err, ev_join, joinK1_ok, joinK2_ok, ev_app, appK1_ok, appK2_ok, appK2_err, appK3_ok, ev_a0, ev_aD, ev_aR, eaK1_ok, eaK1_err, eaK3_ok, eaK2_ok, eaK2_err, ev_call, callK_d1, callK_d2, callK_d3, callK_d4, callK_d5, callK_d6, callK_d7, callK_d8, callK_r0, callK_r1, callK_r2, callK_r3, callK_r4, callK_r5, callK_r6, callK_r7, callK_err, backK_ok, backK_err, slotOf_d, slotOf_r, putBack_d, putBack_r, putBack_nil, refs_nil, refs_d, refs_r, ev_run, endOf_nx, endOf_rt, endOf_err, maskL_t, maskL_f, maskL_nil, ev_for, forK_ok, forGo_nil, turnK_nx, turnK_ct, turnK_bk, turnK_rt, turnK_err, bind_ok, asItems_l, asItems_t, asItems_s, ev_name, ev_fnil, ev_fcons, ev_ftup, some_bind, ev_asgT, asgTK_ok, asgTK2_ok, ev_lc, lcK_ok, wipeL_nil, wipeL_cons, ev_yes, lcGo_nil, dLt_i, dLe_i, dGt_i, dGe_i, dEq_i, dEq_s, dEq_b, dNe_i, dNe_s, dIs_b, dSub_i, dLen_l, dLen_t, dList_l, dList_t, dSl_l, dNot_b, ty_n_bool, ty_n_int, ty_n_str, ty_n_list, ty_n_tuple, ty_b_bool, ty_b_int, ty_b_str, ty_b_list, ty_b_tuple, ty_i_bool, ty_i_int, ty_i_str, ty_i_list, ty_i_tuple, ty_s_bool, ty_s_int, ty_s_str, ty_s_list, ty_s_tuple, ty_l_bool, ty_l_int, ty_l_str, ty_l_list, ty_l_tuple, ty_t_bool, ty_t_int, ty_t_str, ty_t_list, ty_t_tuple, dIs_nn, dIs_in, dIs_bn, dIs_sn, dIs_ln, dIs_tn, dNe_b, ev_A, aK_ok, aK_err, dMin_ok, dMax_ok, asZip_l, asZip_t, ev_pop, popK1_ok, ev_cnt, cntK1_ok, cntK2_ok, dAdd_int, ofO_some, ofO_none, List.getElem?_cons_zero, List.getElem?_cons_succ, List.set_cons_zero, List.set_cons_succ, List.length_cons, List.length_nil, List.cons_append, List.nil_append, List.replicate_succ, List.replicate_zero, List.map_cons, List.map_nil, Option.join_some, List.append_nil, Nat.reduceAdd, Nat.reduceLT, Nat.reduceLeDiff, Nat.reduceSub, Nat.reduceEqDiff, if_true, if_false, decide_true, decide_false, Bool.false_eq_true, Bool.not_true, Bool.not_false, dMod_ok (show (0 : Int) < 26 by decide), dDiv_ok (show (0 : Int) < 26 by decide) (show (26 : Int) < 1073741824 by decide)]
        rw [ix_abc (r := (t : Int) / 26) (by omega) (by omega)]
        simp only [ev_seq, seqK_nx, seqK_rt, seqK_bk, seqK_ct, seqK_err, ev_next, ev_if, ifK_ok, ifK_err, ev_asg, asgK_ok, asgK_err, ev_ret, retK_ok, retK_err, ev_retN, ev_drop, dropK_ok, dropK_err, ev_c, ev_d, dK_ok, dK_err, ev_fz, fzK_d, fzK_l, fzK_err, ev_op, opK1_ok, opK1_err, opK2_ok, opK2_err, ev_un, unK_ok, unK_err, ev_isi, ev_b, bK_ok, bK_err, ev_and, andK_ok, andK_err, ev_or, orK_ok, orK_err, ev_not, notK_ok, ev_andV, andVK_ok, ev_orV, orVK_ok, ev_ifE, ifEK_ok, ev_nil, ev_cons, consK1_ok, consK1_err, consK2_ok, consK2_err, ev_lst, lstK_ok, ev_tup, tupK_ok, ev_var, varK_d, varK_l, ev_peek, peekK_d, peekK_l, peekK_s, ev_move, moveK_d, moveK_l, ev_ixP, ixK_ok, ixK1_ok, ixK1_err, ixK2_ok, dIx_nat, dIx_natT, dIx_l0, dIx_l1, dIx_l2, dIx_l3, dIx_l4, dIx_t0, dIx_t1, dIx_t2, dIx_t3, ev_setIx, setK0_ok, setK0_err, setK1_ok, setK2_ok, setK3_0, setK3_1, setK3_2, setK3_3, setK3_4, ev_sl, slK1_ok, slK2_ok, slK3_ok, ev_no, ev_so, soK_ok, soK_err, ev_join, joinK1_ok, joinK2_ok, ev_app, appK1_ok, appK2_ok, appK2_err, appK3_ok, ev_a0, ev_aD, ev_aR, eaK1_ok, eaK1_err, eaK3_ok, eaK2_ok, eaK2_err, ev_call, callK_d1, callK_d2, callK_d3, callK_d4, callK_d5, callK_d6, callK_d7, callK_d8, callK_r0, callK_r1, callK_r2, callK_r3, callK_r4, callK_r5, callK_r6, callK_r7, callK_err, backK_ok, backK_err, slotOf_d, slotOf_r, putBack_d, putBack_r, putBack_nil, refs_nil, refs_d, refs_r, ev_run, endOf_nx, endOf_rt, endOf_err, maskL_t, maskL_f, maskL_nil, ev_for, forK_ok, forGo_nil, turnK_nx, turnK_ct, turnK_bk, turnK_rt, turnK_err, bind_ok, asItems_l, asItems_t, asItems_s, ev_name, ev_fnil, ev_fcons, ev_ftup, some_bind, ev_asgT, asgTK_ok, asgTK2_ok, ev_lc, lcK_ok, wipeL_nil, wipeL_cons, ev_yes, lcGo_nil, dLt_i, dLe_i, dGt_i, dGe_i, dEq_i, dEq_s, dEq_b, dNe_i, dNe_s, dIs_b, dSub_i, dLen_l, dLen_t, dList_l, dList_t, dSl_l, dNot_b, ty_n_bool, ty_n_int, ty_n_str, ty_n_list, ty_n_tuple, ty_b_bool, ty_b_int, ty_b_str, ty_b_list, ty_b_tuple, ty_i_bool, ty_i_int, ty_i_str, ty_i_list, ty_i_tuple, ty_s_bool, ty_s_int, ty_s_str, ty_s_list, ty_s_tuple, ty_l_bool, ty_l_int, ty_l_str, ty_l_list, ty_l_tuple, ty_t_bool, ty_t_int, ty_t_str, ty_t_list, ty_t_tuple, dIs_nn, dIs_in, dIs_bn, dIs_sn, dIs_ln, dIs_tn, dNe_b, ev_A, aK_ok, aK_err, dMin_ok, dMax_ok, asZip_l, asZip_t, ev_pop, popK1_ok, ev_cnt, cntK1_ok, cntK2_ok, dAdd_int, ofO_some, ofO_none, List.getElem?_cons_zero, List.getElem?_cons_succ, List.set_cons_zero, List.set_cons_succ, List.length_cons, List.length_nil, List.cons_append, List.nil_append, List.replicate_succ, List.replicate_zero, List.map_cons, List.map_nil, Option.join_some, List.append_nil, Nat.reduceAdd, Nat.reduceLT, Nat.reduceLeDiff, Nat.reduceSub, Nat.reduceEqDiff, if_true, if_false, decide_true, decide_false, Bool.false_eq_true, Bool.not_true, Bool.not_false]
        rw [dAdd_n (a := stem ++ [97 + ((t : Int) % 26).toNat]) (b := [97 + ((t : Int) / 26).toNat]) (by simp; omega)]
        simp only [ev_seq, seqK_nx, seqK_rt, seqK_bk, seqK_ct, seqK_err, ev_next, ev_if, ifK_ok, ifK_err, ev_asg, asgK_ok, asgK_err, ev_ret, retK_ok, retK_err, ev_retN, ev_drop, dropK_ok, dropK_err, ev_c, ev_d, dK_ok, dK_err, ev_fz, fzK_d, fzK_l, fzK_err, ev_op, opK1_ok, opK1_err, opK2_ok, opK2_err, ev_un, unK_ok, unK_err, ev_isi, ev_b, bK_ok, bK_err, ev_and, andK_ok, andK_err, ev_or, orK_ok, orK_err, ev_not, notK_ok, ev_andV, andVK_ok, ev_orV, orVK_ok, ev_ifE, ifEK_ok, ev_nil, ev_cons, consK1_ok, consK1_err, consK2_ok, consK2_err, ev_lst, lstK_ok, ev_tup, tupK_ok, ev_var, varK_d, varK_l, ev_peek, peekK_d, peekK_l, peekK_s, ev_move, moveK_d, moveK_l, ev_ixP, ixK_ok, ixK1_ok, ixK1_err, ixK2_ok, dIx_nat, dIx_natT, dIx_l0, dIx_l1, dIx_l2, dIx_l3, dIx_l4, dIx_t0, dIx_t1, dIx_t2, dIx_t3, ev_setIx, setK0_ok, setK0_err, setK1_ok, setK2_ok, setK3_0, setK3_1, setK3_2, setK3_3, setK3_4, ev_sl, slK1_ok, slK2_ok, slK3_ok, ev_no, ev_so, soK_ok, soK_err, ev_join, joinK1_ok, joinK2_ok, ev_app, appK1_ok, appK2_ok, appK2_err, appK3_ok, ev_a0, ev_aD, ev_aR, eaK1_ok, eaK1_err, eaK3_ok, eaK2_ok, eaK2_err, ev_call, callK_d1, callK_d2, callK_d3, callK_d4, callK_d5, callK_d6, callK_d7, callK_d8, callK_r0, callK_r1, callK_r2, callK_r3, callK_r4, callK_r5, callK_r6, callK_r7, callK_err, backK_ok, backK_err, slotOf_d, slotOf_r, putBack_d, putBack_r, putBack_nil, refs_nil, refs_d, refs_r, ev_run, endOf_nx, endOf_rt, endOf_err, maskL_t, maskL_f, maskL_nil, ev_for, forK_ok, forGo_nil, turnK_nx, turnK_ct, turnK_bk, turnK_rt, turnK_err, bind_ok, asItems_l, asItems_t, asItems_s, ev_name, ev_fnil, ev_fcons, ev_ftup, some_bind, ev_asgT, asgTK_ok, asgTK2_ok, ev_lc, lcK_ok, wipeL_nil, wipeL_cons, ev_yes, lcGo_nil, dLt_i, dLe_i, dGt_i, dGe_i, dEq_i, dEq_s, dEq_b, dNe_i, dNe_s, dIs_b, dSub_i, dLen_l, dLen_t, dList_l, dList_t, dSl_l, dNot_b, ty_n_bool, ty_n_int, ty_n_str, ty_n_list, ty_n_tuple, ty_b_bool, ty_b_int, ty_b_str, ty_b_list, ty_b_tuple, ty_i_bool, ty_i_int, ty_i_str, ty_i_list, ty_i_tuple, ty_s_bool, ty_s_int, ty_s_str, ty_s_list, ty_s_tuple, ty_l_bool, ty_l_int, ty_l_str, ty_l_list, ty_l_tuple, ty_t_bool, ty_t_int, ty_t_str, ty_t_list, ty_t_tuple, dIs_nn, dIs_in, dIs_bn, dIs_sn, dIs_ln, dIs_tn, dNe_b, ev_A, aK_ok, aK_err, dMin_ok, dMax_ok, asZip_l, asZip_t, ev_pop, popK1_ok, ev_cnt, cntK1_ok, cntK2_ok, dAdd_int, ofO_some, ofO_none, List.getElem?_cons_zero, List.getElem?_cons_succ, List.set_cons_zero, List.set_cons_succ, List.length_cons, List.length_nil, List.cons_append, List.nil_append, List.replicate_succ, List.replicate_zero, List.map_cons, List.map_nil, Option.join_some, List.append_nil, Nat.reduceAdd, Nat.reduceLT, Nat.reduceLeDiff, Nat.reduceSub, Nat.reduceEqDiff, if_true, if_false, decide_true, decide_false, Bool.false_eq_true, Bool.not_true, Bool.not_false]
        rw [e1, e2, Int.toNat_natCast, Int.toNat_natCast, List.append_assoc]
        rfl
      rw [step, turnK_nx]
      rcases unlike_go ns w stem hs hw k (t + 1) (some (.d (.int t))) (by omega) with ⟨t', L, h1, h2, h3, h4⟩ | ⟨h1, o', h2⟩
      · exact .inl ⟨t', L, by omega, by omega, h3, h4⟩
      · refine .inr ⟨fun j h3 h4 => ?_, o', ?_⟩
        · by_cases hj : j = t
          · rw [hj]
            exact hin
          · exact h1 j (by omega) (by omega)
        · have e : t + 1 + k = t + (k + 1) := by omega
          rw [e] at h2
          exact h2
    · refine .inl ⟨t, [some (.d (.str abc)), some (.d (nD stem)), some (.d (.int t))], Nat.le_refl t, by omega, ?_, hin⟩
      have step : gSeq (gIf (gB (gOp dNotIn (gPeek 1) (gPeek 0))) (gRet (gMove 1)) gNext) (gAsg 1 (gOp dAdd (gFz (gOp dAdd (gVar 3) (gIxP 2 (gOp dMod (gVar 4) (gC (.int 26)))))) (gIxP 2 (gOp dDiv (gVar 4) (gC (.int 26))))))
          [some (.ol (ns.map nD)), some (.d (nD (tried w stem t))), some (.d (.str abc)), some (.d (nD stem)), some (.d (.int t))] = .ok (.rt (.d (nD (tried w stem t)))) [some (.ol (ns.map nD)), some (.d (nD (tried w stem t))), some (.d (.str abc)), some (.d (nD stem)), some (.d (.int t))] := by
        simp only [ev_seq, seqK_nx, seqK_rt, seqK_bk, seqK_ct, seqK_err, ev_next, ev_if, ifK_ok, ifK_err, ev_asg, asgK_ok, asgK_err, ev_ret, retK_ok, retK_err, ev_retN, ev_drop, dropK_ok, dropK_err, ev_c, ev_d, dK_ok, dK_err, ev_fz, fzK_d, fzK_l, fzK_err, ev_op, opK1_ok, opK1_err, opK2_ok, opK2_err, ev_un, unK_ok, unK_err, ev_isi, ev_b, bK_ok, bK_err, ev_and, andK_ok, andK_err, ev_or, orK_ok, orK_err, ev_not, notK_ok, ev_andV, andVK_ok, ev_orV, orVK_ok, ev_ifE, ifEK_ok, ev_nil, ev_cons, consK1_ok, consK1_err, consK2_ok, consK2_err, ev_lst, lstK_ok, ev_tup, tupK_ok, ev_var, varK_d, varK_l, ev_peek, peekK_d, peekK_l, peekK_s, ev_move, moveK_d, moveK_l, ev_ixP, ixK_ok, ixK1_ok, ixK1_err, ixK2_ok, dIx_nat, dIx_natT, dIx_l0, dIx_l1, dIx_l2, dIx_l3, dIx_l4, dIx_t0, dIx_t1, dIx_t2, dIx_t3, ev_setIx, setK0_ok, setK0_err, setK1_ok, setK2_ok, setK3_0, setK3_1, setK3_2, setK3_3, setK3_4, ev_sl, slK1_ok, slK2_ok, slK3_ok, ev_no, ev_so, soK_ok, soK_err, ev_join, joinK1_ok, joinK2_ok, ev_app, appK1_ok, appK2_ok, appK2_err, appK3_ok, ev_a0, ev_aD, ev_aR, eaK1_ok, eaK1_err, eaK3_ok, eaK2_ok, eaK2_err, ev_call, callK_d1, callK_d2, callK_d3, callK_d4, callK_d5, callK_d6, callK_d7, callK_d8, callK_r0, callK_r1, callK_r2, callK_r3, callK_r4, callK_r5, callK_r6, callK_r7, callK_err, backK_ok, backK_err, slotOf_d, slotOf_r, putBack_d, putBack_r, putBack_nil, refs_nil, refs_d, refs_r, ev_run, endOf_nx, endOf_rt, endOf_err, maskL_t, maskL_f, maskL_nil, ev_for, forK_ok, forGo_nil, turnK_nx, turnK_ct, turnK_bk, turnK_rt, turnK_err, bind_ok, asItems_l, asItems_t, asItems_s, ev_name, ev_fnil, ev_fcons, ev_ftup, some_bind, ev_asgT, asgTK_ok, asgTK2_ok, ev_lc, lcK_ok, wipeL_nil, wipeL_cons, ev_yes, lcGo_nil, dLt_i, dLe_i, dGt_i, dGe_i, dEq_i, dEq_s, dEq_b, dNe_i, dNe_s, dIs_b, dSub_i, dLen_l, dLen_t, dList_l, dList_t, dSl_l, dNot_b, ty_n_bool, ty_n_int, ty_n_str, ty_n_list, ty_n_tuple, ty_b_bool, ty_b_int, ty_b_str, ty_b_list, ty_b_tuple, ty_i_bool, ty_i_int, ty_i_str, ty_i_list, ty_i_tuple, ty_s_bool, ty_s_int, ty_s_str, ty_s_list, ty_s_tuple, ty_l_bool, ty_l_int, ty_l_str, ty_l_list, ty_l_tuple, ty_t_bool, ty_t_int, ty_t_str, ty_t_list, ty_t_tuple, dIs_nn, dIs_in, dIs_bn, dIs_sn, dIs_ln, dIs_tn, dNe_b, ev_A, aK_ok, aK_err, dMin_ok, dMax_ok, asZip_l, asZip_t, ev_pop, popK1_ok, ev_cnt, cntK1_ok, cntK2_ok, dAdd_int, ofO_some, ofO_none, List.getElem?_cons_zero, List.getElem?_cons_succ, List.set_cons_zero, List.set_cons_succ, List.length_cons, List.length_nil, List.cons_append, List.nil_append, List.replicate_succ, List.replicate_zero, List.map_cons, List.map_nil, Option.join_some, List.append_nil, Nat.reduceAdd, Nat.reduceLT, Nat.reduceLeDiff, Nat.reduceSub, Nat.reduceEqDiff, if_true, if_false, decide_true, decide_false, Bool.false_eq_true, Bool.not_true, Bool.not_false, notIn_names, hin]
      rw [step, turnK_rt]
theorem tried_good {w : List Nat} (hw : Good w) {t : Nat} (ht : t ≤ 600) : Good (tried w (w.take 10) t) := by
  cases t with
  | zero => exact hw
  | succ t =>
    refine ⟨(hw.1.take 10).app fun c hc => ?_, ?_, ?_⟩
    · rcases List.mem_cons.mp hc with rfl | hc
      · omega
      · rw [List.mem_singleton] at hc
        omega
    · show 1 ≤ (w.take 10 ++ _).length
      rw [List.length_append]
      simp
    · show (w.take 10 ++ _).length ≤ 12
      rw [List.length_append, List.length_take]
      simp
      omega
theorem unlike_pre (ns : List (List Nat)) (w : List Nat) (hw : w.length ≤ 12) (X : LS → R O) : runDef [true, false] 5 (gSeq (gAsg 2 (gD (gC (.str abc)))) (gSeq (gAsg 3 (gSl (gPeek 1) gNo (gSo (gC (.int 10))))) X)) [some (.ol (ns.map nD)), some (.d (nD w))] = endOf [true, false] (X [some (.ol (ns.map nD)), some (.d (nD w)), some (.d (.str abc)), some (.d (nD (w.take 10))), none]) := by
  have h10 : dSl (nD w) none (some 10) = some (.d (nD (w.take 10))) := dSl_to (by decide) (by omega)
  simp only [ev_seq, seqK_nx, seqK_rt, seqK_bk, seqK_ct, seqK_err, ev_next, ev_if, ifK_ok, ifK_err, ev_asg, asgK_ok, asgK_err, ev_ret, retK_ok, retK_err, ev_retN, ev_drop, dropK_ok, dropK_err, ev_c, ev_d, dK_ok, dK_err, ev_fz, fzK_d, fzK_l, fzK_err, ev_op, opK1_ok, opK1_err, opK2_ok, opK2_err, ev_un, unK_ok, unK_err, ev_isi, ev_b, bK_ok, bK_err, ev_and, andK_ok, andK_err, ev_or, orK_ok, orK_err, ev_not, notK_ok, ev_andV, andVK_ok, ev_orV, orVK_ok, ev_ifE, ifEK_ok, ev_nil, ev_cons, consK1_ok, consK1_err, consK2_ok, consK2_err, ev_lst, lstK_ok, ev_tup, tupK_ok, ev_var, varK_d, varK_l, ev_peek, peekK_d, peekK_l, peekK_s, ev_move, moveK_d, moveK_l, ev_ixP, ixK_ok, ixK1_ok, ixK1_err, ixK2_ok, dIx_nat, dIx_natT, dIx_l0, dIx_l1, dIx_l2, dIx_l3, dIx_l4, dIx_t0, dIx_t1, dIx_t2, dIx_t3, ev_setIx, setK0_ok, setK0_err, setK1_ok, setK2_ok, setK3_0, setK3_1, setK3_2, setK3_3, setK3_4, ev_sl, slK1_ok, slK2_ok, slK3_ok, ev_no, ev_so, soK_ok, soK_err, ev_join, joinK1_ok, joinK2_ok, ev_app, appK1_ok, appK2_ok, appK2_err, appK3_ok, ev_a0, ev_aD, ev_aR, eaK1_ok, eaK1_err, eaK3_ok, eaK2_ok, eaK2_err, ev_call, callK_d1, callK_d2, callK_d3, callK_d4, callK_d5, callK_d6, callK_d7, callK_d8, callK_r0, callK_r1, callK_r2, callK_r3, callK_r4, callK_r5, callK_r6, callK_r7, callK_err, backK_ok, backK_err, slotOf_d, slotOf_r, putBack_d, putBack_r, putBack_nil, refs_nil, refs_d, refs_r, ev_run, endOf_nx, endOf_rt, endOf_err, maskL_t, maskL_f, maskL_nil, ev_for, forK_ok, forGo_nil, turnK_nx, turnK_ct, turnK_bk, turnK_rt, turnK_err, bind_ok, asItems_l, asItems_t, asItems_s, ev_name, ev_fnil, ev_fcons, ev_ftup, some_bind, ev_asgT, asgTK_ok, asgTK2_ok, ev_lc, lcK_ok, wipeL_nil, wipeL_cons, ev_yes, lcGo_nil, dLt_i, dLe_i, dGt_i, dGe_i, dEq_i, dEq_s, dEq_b, dNe_i, dNe_s, dIs_b, dSub_i, dLen_l, dLen_t, dList_l, dList_t, dSl_l, dNot_b, ty_n_bool, ty_n_int, ty_n_str, ty_n_list, ty_n_tuple, ty_b_bool, ty_b_int, ty_b_str, ty_b_list, ty_b_tuple, ty_i_bool, ty_i_int, ty_i_str, ty_i_list, ty_i_tuple, ty_s_bool, ty_s_int, ty_s_str, ty_s_list, ty_s_tuple, ty_l_bool, ty_l_int, ty_l_str, ty_l_list, ty_l_tuple, ty_t_bool, ty_t_int, ty_t_str, ty_t_list, ty_t_tuple, dIs_nn, dIs_in, dIs_bn, dIs_sn, dIs_ln, dIs_tn, dNe_b, ev_A, aK_ok, aK_err, dMin_ok, dMax_ok, asZip_l, asZip_t, ev_pop, popK1_ok, ev_cnt, cntK1_ok, cntK2_ok, dAdd_int, ofO_some, ofO_none, List.getElem?_cons_zero, List.getElem?_cons_succ, List.set_cons_zero, List.set_cons_succ, List.length_cons, List.length_nil, List.cons_append, List.nil_append, List.replicate_succ, List.replicate_zero, List.map_cons, List.map_nil, Option.join_some, List.append_nil, Nat.reduceAdd, Nat.reduceLT, Nat.reduceLeDiff, Nat.reduceSub, Nat.reduceEqDiff, if_true, if_false, decide_true, decide_false, Bool.false_eq_true, Bool.not_true, Bool.not_false, h10]
theorem len_rng1 (ns : List D) (o p q r : Option S) : gFz (gOp dAdd (gUn dLen (gPeek 0)) (gC (.int 1))) [some (.ol ns), o, p, q, r] = .ok (.int ((ns.length : Int) + 1)) [some (.ol ns), o, p, q, r] := by
  simp only [ev_seq, seqK_nx, seqK_rt, seqK_bk, seqK_ct, seqK_err, ev_next, ev_if, ifK_ok, ifK_err, ev_asg, asgK_ok, asgK_err, ev_ret, retK_ok, retK_err, ev_retN, ev_drop, dropK_ok, dropK_err, ev_c, ev_d, dK_ok, dK_err, ev_fz, fzK_d, fzK_l, fzK_err, ev_op, opK1_ok, opK1_err, opK2_ok, opK2_err, ev_un, unK_ok, unK_err, ev_isi, ev_b, bK_ok, bK_err, ev_and, andK_ok, andK_err, ev_or, orK_ok, orK_err, ev_not, notK_ok, ev_andV, andVK_ok, ev_orV, orVK_ok, ev_ifE, ifEK_ok, ev_nil, ev_cons, consK1_ok, consK1_err, consK2_ok, consK2_err, ev_lst, lstK_ok, ev_tup, tupK_ok, ev_var, varK_d, varK_l, ev_peek, peekK_d, peekK_l, peekK_s, ev_move, moveK_d, moveK_l, ev_ixP, ixK_ok, ixK1_ok, ixK1_err, ixK2_ok, dIx_nat, dIx_natT, dIx_l0, dIx_l1, dIx_l2, dIx_l3, dIx_l4, dIx_t0, dIx_t1, dIx_t2, dIx_t3, ev_setIx, setK0_ok, setK0_err, setK1_ok, setK2_ok, setK3_0, setK3_1, setK3_2, setK3_3, setK3_4, ev_sl, slK1_ok, slK2_ok, slK3_ok, ev_no, ev_so, soK_ok, soK_err, ev_join, joinK1_ok, joinK2_ok, ev_app, appK1_ok, appK2_ok, appK2_err, appK3_ok, ev_a0, ev_aD, ev_aR, eaK1_ok, eaK1_err, eaK3_ok, eaK2_ok, eaK2_err, ev_call, callK_d1, callK_d2, callK_d3, callK_d4, callK_d5, callK_d6, callK_d7, callK_d8, callK_r0, callK_r1, callK_r2, callK_r3, callK_r4, callK_r5, callK_r6, callK_r7, callK_err, backK_ok, backK_err, slotOf_d, slotOf_r, putBack_d, putBack_r, putBack_nil, refs_nil, refs_d, refs_r, ev_run, endOf_nx, endOf_rt, endOf_err, maskL_t, maskL_f, maskL_nil, ev_for, forK_ok, forGo_nil, turnK_nx, turnK_ct, turnK_bk, turnK_rt, turnK_err, bind_ok, asItems_l, asItems_t, asItems_s, ev_name, ev_fnil, ev_fcons, ev_ftup, some_bind, ev_asgT, asgTK_ok, asgTK2_ok, ev_lc, lcK_ok, wipeL_nil, wipeL_cons, ev_yes, lcGo_nil, dLt_i, dLe_i, dGt_i, dGe_i, dEq_i, dEq_s, dEq_b, dNe_i, dNe_s, dIs_b, dSub_i, dLen_l, dLen_t, dList_l, dList_t, dSl_l, dNot_b, ty_n_bool, ty_n_int, ty_n_str, ty_n_list, ty_n_tuple, ty_b_bool, ty_b_int, ty_b_str, ty_b_list, ty_b_tuple, ty_i_bool, ty_i_int, ty_i_str, ty_i_list, ty_i_tuple, ty_s_bool, ty_s_int, ty_s_str, ty_s_list, ty_s_tuple, ty_l_bool, ty_l_int, ty_l_str, ty_l_list, ty_l_tuple, ty_t_bool, ty_t_int, ty_t_str, ty_t_list, ty_t_tuple, dIs_nn, dIs_in, dIs_bn, dIs_sn, dIs_ln, dIs_tn, dNe_b, ev_A, aK_ok, aK_err, dMin_ok, dMax_ok, asZip_l, asZip_t, ev_pop, popK1_ok, ev_cnt, cntK1_ok, cntK2_ok, dAdd_int, ofO_some, ofO_none, List.getElem?_cons_zero, List.getElem?_cons_succ, List.set_cons_zero, List.set_cons_succ, List.length_cons, List.length_nil, List.cons_append, List.nil_append, List.replicate_succ, List.replicate_zero, List.map_cons, List.map_nil, Option.join_some, List.append_nil, Nat.reduceAdd, Nat.reduceLT, Nat.reduceLeDiff, Nat.reduceSub, Nat.reduceEqDiff, if_true, if_false, decide_true, decide_false, Bool.false_eq_true, Bool.not_true, Bool.not_false]
theorem len_rng2 (ns : List D) (o p q r : Option S) : (gCons (gFz (gOp dAdd (gUn dLen (gPeek 0)) (gC (.int 1)))) gNil [some (.ol ns), o, p, q, r]) = .ok [.int ((ns.length : Int) + 1)] [some (.ol ns), o, p, q, r] := by
  rw [ev_cons, len_rng1]
  rfl
theorem len_rng (ns : List D) (hn : ns.length ≤ 500) (o p q r : Option S) : (gCons (gFz (gOp dAdd (gUn dLen (gPeek 0)) (gC (.int 1)))) gNil [some (.ol ns), o, p, q, r]).bind rng1 = .ok (intsD 0 ((ns.length : Int) + 1).toNat) [some (.ol ns), o, p, q, r] := by
  rw [len_rng2, bind_ok, rng1_at (by omega) (by omega)]
theorem unlike_rng (ns : List (List Nat)) (w st : List Nat) (hn : ns.length ≤ 500) : (gCons (gFz (gOp dAdd (gUn dLen (gPeek 0)) (gC (.int 1)))) gNil [some (.ol (ns.map nD)), some (.d (nD w)), some (.d (.str abc)), some (.d (nD st)), none]).bind rng1 = .ok (intsD 0 (ns.length + 1)) [some (.ol (ns.map nD)), some (.d (nD w)), some (.d (.str abc)), some (.d (nD st)), none] := by
  rw [len_rng _ (by rw [List.length_map]; exact hn), List.length_map, show ((ns.length : Int) + 1).toNat = ns.length + 1 by omega]
theorem unlike_ok {ns : List (List Nat)} {w : List Nat} (hn : ns.length ≤ 500) (hw : Good w) : ∃ w', m_law_unlike [some (.ol (ns.map nD)), some (.d (nD w))] = .ok (.d (nD w')) [some (.ol (ns.map nD)), none] ∧ Good w' ∧ w' ∉ ns := by
  have hs : (w.take 10).length ≤ 10 := by rw [List.length_take]; omega
  unfold m_law_unlike g_law_unlike
  rw [unlike_pre ns w hw.2.2, ev_seq, ev_for, unlike_rng ns w (w.take 10) hn, forK_ok]
  rcases unlike_go ns w (w.take 10) hs hw.2.2 (ns.length + 1) 0 none (by omega) with ⟨t', L, h1, h2, h3, h4⟩ | ⟨h1, o', h2⟩
  · have h3' := h3
    rw [show tried w (w.take 10) 0 = w from rfl] at h3'
    rw [show ((0 : Nat) : Int) = 0 from rfl] at h3'
    rw [h3', seqK_rt]
    exact ⟨tried w (w.take 10) t', rfl, tried_good hw (by omega), h4⟩
  · have h2' := h2
    rw [show tried w (w.take 10) 0 = w from rfl] at h2'
    rw [show ((0 : Nat) : Int) = 0 from rfl] at h2'
    rw [h2', seqK_nx]
    refine ⟨tried w (w.take 10) (0 + (ns.length + 1)), rfl, tried_good hw (by omega), fun hin => ?_⟩
    have nd : ((List.range (ns.length + 1)).map (cand (w.take 10))).Nodup := by
      rw [List.nodup_iff_pairwise_ne, List.pairwise_map]
      exact (List.nodup_iff_pairwise_ne.mp List.nodup_range).imp fun h z => h (cand_inj z)
    have := nodup_len _ ns nd fun x hx => by
      obtain ⟨t, ht, rfl⟩ := List.mem_map.mp hx
      have ht' := List.mem_range.mp ht
      by_cases e : t = ns.length
      · subst e
        rw [Nat.zero_add] at hin
        exact hin
      · exact h1 (t + 1) (by omega) (by omega)
    rw [List.length_map, List.length_range] at this
    omega
end Lw

namespace Lw
open PySem VS
theorem small_mix {st x : List Nat} {a : Nat} (hs : Small st) (hx : Small x) (h : a < st.length) (hl : x.length = 1) (hle : st.length ≤ 12) : Good (st.take a ++ x ++ st.drop (a + 1)) := by
  refine ⟨((hs.take a).app hx).app (hs.drop (a + 1)), ?_, ?_⟩
  · rw [List.length_append, List.length_append, List.length_take, List.length_drop, hl]; omega
  · rw [List.length_append, List.length_append, List.length_take, List.length_drop, hl]; omega
abbrev namesBody : LS → R O := (gSeq (gAsg 7 (gOp dAdd (gFz (gOp dAdd (gFz (gSl (gPeek 3) gNo (gSo (gVar 4)))) (gFz (gCall m_law_word [.r 0, .d (gC (.int 1))])))) (gFz (gSl (gPeek 3) (gSo (gFz (gOp dAdd (gVar 4) (gC (.int 1))))) gNo))))
    (gSeq (gIf (gB (gOp dEq (gPeek 2) (gC (.int 1)))) (gAsg 7 (gSl (gVar 3) gNo (gSo (gFz (gOp dAdd (gC (.int 1)) (gFz (gCall m_law_next [.r 0, .d (gUn dLen (gPeek 3))]))))))) gNext)
    (gSeq (gIf (gB (gOp dEq (gPeek 2) (gC (.int 2)))) (gAsg 7 (gCall m_law_word [.r 0, .d (gFz (gOp dAdd (gC (.int 1)) (gFz (gCall m_law_next [.r 0, .d (gC (.int 12))]))))])) gNext)
    (gDrop (gApp 5 (gFz (gCall m_law_unlike [.r 5, .d (gVar 7)])))))))
theorem names_turn {many style : Int} {st : List Nat} {a : Nat} (hst : Small st) (ha : a < st.length) (hle : st.length ≤ 11) {s : S} (hs : Src s) {ns : List (List Nat)} (hn : ns.length ≤ 500) (o6 o7 : Option S) :
    ∃ w' s' o7', namesBody [some s, some (.d (.int many)), some (.d (.int style)), some (.d (nD st)), some (.d (.int a)), some (.ol (ns.map nD)), o6, o7]
      = .ok .nx [some s', some (.d (.int many)), some (.d (.int style)), some (.d (nD st)), some (.d (.int a)), some (.ol ((ns ++ [w']).map nD)), o6, o7'] ∧ Good w' ∧ w' ∉ ns ∧ Src s' := by
  obtain ⟨x, s1, e1, l1, k1, hs1⟩ := word_ok hs (m := 1) (by decide) (by decide)
  have l1' : x.length = 1 := l1
  have hmix := small_mix hst k1 ha l1' (by omega)
  have c1 : dSl (nD st) none (some (a : Int)) = some (.d (nD (st.take a))) := dSl_to (by omega) (by omega)
  have c2 : dSl (nD st) (some ((a : Int) + 1)) none = some (.d (nD (st.drop (a + 1)))) := dSl_from (k := (a : Int) + 1) (by omega) (by omega)
  have a1 : dAdd (nD (st.take a)) (nD x) = some (.d (nD (st.take a ++ x))) := dAdd_n (by rw [List.length_take]; omega)
  have a2 : dAdd (nD (st.take a ++ x)) (nD (st.drop (a + 1))) = some (.d (nD (st.take a ++ x ++ st.drop (a + 1)))) := dAdd_n (by rw [List.length_append, List.length_take, List.length_drop]; omega)
  have fin : ∀ (w : List Nat) (s : S), Good w → Src s → ∃ w', (gDrop (gApp 5 (gFz (gCall m_law_unlike [.r 5, .d (gVar 7)])))) [some s, some (.d (.int many)), some (.d (.int style)), some (.d (nD st)), some (.d (.int a)), some (.ol (ns.map nD)), o6, some (.d (nD w))]
      = .ok .nx [some s, some (.d (.int many)), some (.d (.int style)), some (.d (nD st)), some (.d (.int a)), some (.ol ((ns ++ [w']).map nD)), o6, some (.d (nD w))] ∧ Good w' ∧ w' ∉ ns := fun w s hw hs => by
    obtain ⟨w', e, g, ni⟩ := unlike_ok hn hw
    refine ⟨w', ?_, g, ni⟩
    have hz : (ns.map nD).length < sizeLine := by rw [List.length_map, PySem.sizeLine_eq]; omega
    simp only [ev_seq, seqK_nx, seqK_rt, seqK_bk, seqK_ct, seqK_err, ev_next, ev_if, ifK_ok, ifK_err, ev_asg, asgK_ok, asgK_err, ev_ret, retK_ok, retK_err, ev_retN, ev_drop, dropK_ok, dropK_err, ev_c, ev_d, dK_ok, dK_err, ev_fz, fzK_d, fzK_l, fzK_err, ev_op, opK1_ok, opK1_err, opK2_ok, opK2_err, ev_un, unK_ok, unK_err, ev_isi, ev_b, bK_ok, bK_err, ev_and, andK_ok, andK_err, ev_or, orK_ok, orK_err, ev_not, notK_ok, ev_andV, andVK_ok, ev_orV, orVK_ok, ev_ifE, ifEK_ok, ev_nil, ev_cons, consK1_ok, consK1_err, consK2_ok, consK2_err, ev_lst, lstK_ok, ev_tup, tupK_ok, ev_var, varK_d, varK_l, ev_peek, peekK_d, peekK_l, peekK_s, ev_move, moveK_d, moveK_l, ev_ixP, ixK_ok, ixK1_ok, ixK1_err, ixK2_ok, dIx_nat, dIx_natT, dIx_l0, dIx_l1, dIx_l2, dIx_l3, dIx_l4, dIx_t0, dIx_t1, dIx_t2, dIx_t3, ev_setIx, setK0_ok, setK0_err, setK1_ok, setK2_ok, setK3_0, setK3_1, setK3_2, setK3_3, setK3_4, ev_sl, slK1_ok, slK2_ok, slK3_ok, ev_no, ev_so, soK_ok, soK_err, ev_join, joinK1_ok, joinK2_ok, ev_app, appK1_ok, appK2_ok, appK2_err, appK3_ok, ev_a0, ev_aD, ev_aR, eaK1_ok, eaK1_err, eaK3_ok, eaK2_ok, eaK2_err, ev_call, callK_d1, callK_d2, callK_d3, callK_d4, callK_d5, callK_d6, callK_d7, callK_d8, callK_r0, callK_r1, callK_r2, callK_r3, callK_r4, callK_r5, callK_r6, callK_r7, callK_err, backK_ok, backK_err, slotOf_d, slotOf_r, putBack_d, putBack_r, putBack_nil, refs_nil, refs_d, refs_r, ev_run, endOf_nx, endOf_rt, endOf_err, maskL_t, maskL_f, maskL_nil, ev_for, forK_ok, forGo_nil, turnK_nx, turnK_ct, turnK_bk, turnK_rt, turnK_err, bind_ok, asItems_l, asItems_t, asItems_s, ev_name, ev_fnil, ev_fcons, ev_ftup, some_bind, ev_asgT, asgTK_ok, asgTK2_ok, ev_lc, lcK_ok, wipeL_nil, wipeL_cons, ev_yes, lcGo_nil, dLt_i, dLe_i, dGt_i, dGe_i, dEq_i, dEq_s, dEq_b, dNe_i, dNe_s, dIs_b, dSub_i, dLen_l, dLen_t, dList_l, dList_t, dSl_l, dNot_b, ty_n_bool, ty_n_int, ty_n_str, ty_n_list, ty_n_tuple, ty_b_bool, ty_b_int, ty_b_str, ty_b_list, ty_b_tuple, ty_i_bool, ty_i_int, ty_i_str, ty_i_list, ty_i_tuple, ty_s_bool, ty_s_int, ty_s_str, ty_s_list, ty_s_tuple, ty_l_bool, ty_l_int, ty_l_str, ty_l_list, ty_l_tuple, ty_t_bool, ty_t_int, ty_t_str, ty_t_list, ty_t_tuple, dIs_nn, dIs_in, dIs_bn, dIs_sn, dIs_ln, dIs_tn, dNe_b, ev_A, aK_ok, aK_err, dMin_ok, dMax_ok, asZip_l, asZip_t, ev_pop, popK1_ok, ev_cnt, cntK1_ok, cntK2_ok, dAdd_int, ofO_some, ofO_none, List.getElem?_cons_zero, List.getElem?_cons_succ, List.set_cons_zero, List.set_cons_succ, List.length_cons, List.length_nil, List.cons_append, List.nil_append, List.replicate_succ, List.replicate_zero, List.map_cons, List.map_nil, Option.join_some, List.append_nil, Nat.reduceAdd, Nat.reduceLT, Nat.reduceLeDiff, Nat.reduceSub, Nat.reduceEqDiff, if_true, if_false, decide_true, decide_false, Bool.false_eq_true, Bool.not_true, Bool.not_false, e, hz]
    rw [List.map_append]
    rfl
  have s0 : gAsg 7 (gOp dAdd (gFz (gOp dAdd (gFz (gSl (gPeek 3) gNo (gSo (gVar 4)))) (gFz (gCall m_law_word [.r 0, .d (gC (.int 1))])))) (gFz (gSl (gPeek 3) (gSo (gFz (gOp dAdd (gVar 4) (gC (.int 1))))) gNo))) [some s, some (.d (.int many)), some (.d (.int style)), some (.d (nD st)), some (.d (.int a)), some (.ol (ns.map nD)), o6, o7]
      = .ok .nx [some s1, some (.d (.int many)), some (.d (.int style)), some (.d (nD st)), some (.d (.int a)), some (.ol (ns.map nD)), o6, some (.d (nD (st.take a ++ x ++ st.drop (a + 1))))] := by
    simp only [ev_seq, seqK_nx, seqK_rt, seqK_bk, seqK_ct, seqK_err, ev_next, ev_if, ifK_ok, ifK_err, ev_asg, asgK_ok, asgK_err, ev_ret, retK_ok, retK_err, ev_retN, ev_drop, dropK_ok, dropK_err, ev_c, ev_d, dK_ok, dK_err, ev_fz, fzK_d, fzK_l, fzK_err, ev_op, opK1_ok, opK1_err, opK2_ok, opK2_err, ev_un, unK_ok, unK_err, ev_isi, ev_b, bK_ok, bK_err, ev_and, andK_ok, andK_err, ev_or, orK_ok, orK_err, ev_not, notK_ok, ev_andV, andVK_ok, ev_orV, orVK_ok, ev_ifE, ifEK_ok, ev_nil, ev_cons, consK1_ok, consK1_err, consK2_ok, consK2_err, ev_lst, lstK_ok, ev_tup, tupK_ok, ev_var, varK_d, varK_l, ev_peek, peekK_d, peekK_l, peekK_s, ev_move, moveK_d, moveK_l, ev_ixP, ixK_ok, ixK1_ok, ixK1_err, ixK2_ok, dIx_nat, dIx_natT, dIx_l0, dIx_l1, dIx_l2, dIx_l3, dIx_l4, dIx_t0, dIx_t1, dIx_t2, dIx_t3, ev_setIx, setK0_ok, setK0_err, setK1_ok, setK2_ok, setK3_0, setK3_1, setK3_2, setK3_3, setK3_4, ev_sl, slK1_ok, slK2_ok, slK3_ok, ev_no, ev_so, soK_ok, soK_err, ev_join, joinK1_ok, joinK2_ok, ev_app, appK1_ok, appK2_ok, appK2_err, appK3_ok, ev_a0, ev_aD, ev_aR, eaK1_ok, eaK1_err, eaK3_ok, eaK2_ok, eaK2_err, ev_call, callK_d1, callK_d2, callK_d3, callK_d4, callK_d5, callK_d6, callK_d7, callK_d8, callK_r0, callK_r1, callK_r2, callK_r3, callK_r4, callK_r5, callK_r6, callK_r7, callK_err, backK_ok, backK_err, slotOf_d, slotOf_r, putBack_d, putBack_r, putBack_nil, refs_nil, refs_d, refs_r, ev_run, endOf_nx, endOf_rt, endOf_err, maskL_t, maskL_f, maskL_nil, ev_for, forK_ok, forGo_nil, turnK_nx, turnK_ct, turnK_bk, turnK_rt, turnK_err, bind_ok, asItems_l, asItems_t, asItems_s, ev_name, ev_fnil, ev_fcons, ev_ftup, some_bind, ev_asgT, asgTK_ok, asgTK2_ok, ev_lc, lcK_ok, wipeL_nil, wipeL_cons, ev_yes, lcGo_nil, dLt_i, dLe_i, dGt_i, dGe_i, dEq_i, dEq_s, dEq_b, dNe_i, dNe_s, dIs_b, dSub_i, dLen_l, dLen_t, dList_l, dList_t, dSl_l, dNot_b, ty_n_bool, ty_n_int, ty_n_str, ty_n_list, ty_n_tuple, ty_b_bool, ty_b_int, ty_b_str, ty_b_list, ty_b_tuple, ty_i_bool, ty_i_int, ty_i_str, ty_i_list, ty_i_tuple, ty_s_bool, ty_s_int, ty_s_str, ty_s_list, ty_s_tuple, ty_l_bool, ty_l_int, ty_l_str, ty_l_list, ty_l_tuple, ty_t_bool, ty_t_int, ty_t_str, ty_t_list, ty_t_tuple, dIs_nn, dIs_in, dIs_bn, dIs_sn, dIs_ln, dIs_tn, dNe_b, ev_A, aK_ok, aK_err, dMin_ok, dMax_ok, asZip_l, asZip_t, ev_pop, popK1_ok, ev_cnt, cntK1_ok, cntK2_ok, dAdd_int, ofO_some, ofO_none, List.getElem?_cons_zero, List.getElem?_cons_succ, List.set_cons_zero, List.set_cons_succ, List.length_cons, List.length_nil, List.cons_append, List.nil_append, List.replicate_succ, List.replicate_zero, List.map_cons, List.map_nil, Option.join_some, List.append_nil, Nat.reduceAdd, Nat.reduceLT, Nat.reduceLeDiff, Nat.reduceSub, Nat.reduceEqDiff, if_true, if_false, decide_true, decide_false, Bool.false_eq_true, Bool.not_true, Bool.not_false, c1, e1, c2, a1, a2]
  unfold namesBody
  rw [ev_seq, s0, seqK_nx]
  by_cases h1 : style = 1
  · subst h1
    obtain ⟨r, s2, e2, r0, r1, hs2⟩ := next_ok hs1 (n := st.length) (by omega) (by omega)
    have c3 : dSl (nD st) none (some (1 + r)) = some (.d (nD (st.take (1 + r).toNat))) := dSl_to (by omega) (by omega)
    have hg : Good (st.take (1 + r).toNat) := ⟨hst.take _, by rw [List.length_take]; omega, by rw [List.length_take]; omega⟩
    obtain ⟨w', f1, f2, f3⟩ := fin _ s2 hg hs2
    refine ⟨w', s2, some (.d (nD (st.take (1 + r).toNat))), ?_, f2, f3, hs2⟩
    have hl : dLen (nD st) = some (.int st.length) := dLen_n (by omega)
    have s1' : gIf (gB (gOp dEq (gPeek 2) (gC (.int 1)))) (gAsg 7 (gSl (gVar 3) gNo (gSo (gFz (gOp dAdd (gC (.int 1)) (gFz (gCall m_law_next [.r 0, .d (gUn dLen (gPeek 3))]))))))) gNext [some s1, some (.d (.int many)), some (.d (.int 1)), some (.d (nD st)), some (.d (.int a)), some (.ol (ns.map nD)), o6, some (.d (nD (st.take a ++ x ++ st.drop (a + 1))))]
        = .ok .nx [some s2, some (.d (.int many)), some (.d (.int 1)), some (.d (nD st)), some (.d (.int a)), some (.ol (ns.map nD)), o6, some (.d (nD (st.take (1 + r).toNat)))] := by
      simp only [ev_seq, seqK_nx, seqK_rt, seqK_bk, seqK_ct, seqK_err, ev_next, ev_if, ifK_ok, ifK_err, ev_asg, asgK_ok, asgK_err, ev_ret, retK_ok, retK_err, ev_retN, ev_drop, dropK_ok, dropK_err, ev_c, ev_d, dK_ok, dK_err, ev_fz, fzK_d, fzK_l, fzK_err, ev_op, opK1_ok, opK1_err, opK2_ok, opK2_err, ev_un, unK_ok, unK_err, ev_isi, ev_b, bK_ok, bK_err, ev_and, andK_ok, andK_err, ev_or, orK_ok, orK_err, ev_not, notK_ok, ev_andV, andVK_ok, ev_orV, orVK_ok, ev_ifE, ifEK_ok, ev_nil, ev_cons, consK1_ok, consK1_err, consK2_ok, consK2_err, ev_lst, lstK_ok, ev_tup, tupK_ok, ev_var, varK_d, varK_l, ev_peek, peekK_d, peekK_l, peekK_s, ev_move, moveK_d, moveK_l, ev_ixP, ixK_ok, ixK1_ok, ixK1_err, ixK2_ok, dIx_nat, dIx_natT, dIx_l0, dIx_l1, dIx_l2, dIx_l3, dIx_l4, dIx_t0, dIx_t1, dIx_t2, dIx_t3, ev_setIx, setK0_ok, setK0_err, setK1_ok, setK2_ok, setK3_0, setK3_1, setK3_2, setK3_3, setK3_4, ev_sl, slK1_ok, slK2_ok, slK3_ok, ev_no, ev_so, soK_ok, soK_err, ev_join, joinK1_ok, joinK2_ok, ev_app, appK1_ok, appK2_ok, appK2_err, appK3_ok, ev_a0, ev_aD, ev_aR, eaK1_ok, eaK1_err, eaK3_ok, eaK2_ok, eaK2_err, ev_call, callK_d1, callK_d2, callK_d3, callK_d4, callK_d5, callK_d6, callK_d7, callK_d8, callK_r0, callK_r1, callK_r2, callK_r3, callK_r4, callK_r5, callK_r6, callK_r7, callK_err, backK_ok, backK_err, slotOf_d, slotOf_r, putBack_d, putBack_r, putBack_nil, refs_nil, refs_d, refs_r, ev_run, endOf_nx, endOf_rt, endOf_err, maskL_t, maskL_f, maskL_nil, ev_for, forK_ok, forGo_nil, turnK_nx, turnK_ct, turnK_bk, turnK_rt, turnK_err, bind_ok, asItems_l, asItems_t, asItems_s, ev_name, ev_fnil, ev_fcons, ev_ftup, some_bind, ev_asgT, asgTK_ok, asgTK2_ok, ev_lc, lcK_ok, wipeL_nil, wipeL_cons, ev_yes, lcGo_nil, dLt_i, dLe_i, dGt_i, dGe_i, dEq_i, dEq_s, dEq_b, dNe_i, dNe_s, dIs_b, dSub_i, dLen_l, dLen_t, dList_l, dList_t, dSl_l, dNot_b, ty_n_bool, ty_n_int, ty_n_str, ty_n_list, ty_n_tuple, ty_b_bool, ty_b_int, ty_b_str, ty_b_list, ty_b_tuple, ty_i_bool, ty_i_int, ty_i_str, ty_i_list, ty_i_tuple, ty_s_bool, ty_s_int, ty_s_str, ty_s_list, ty_s_tuple, ty_l_bool, ty_l_int, ty_l_str, ty_l_list, ty_l_tuple, ty_t_bool, ty_t_int, ty_t_str, ty_t_list, ty_t_tuple, dIs_nn, dIs_in, dIs_bn, dIs_sn, dIs_ln, dIs_tn, dNe_b, ev_A, aK_ok, aK_err, dMin_ok, dMax_ok, asZip_l, asZip_t, ev_pop, popK1_ok, ev_cnt, cntK1_ok, cntK2_ok, dAdd_int, ofO_some, ofO_none, List.getElem?_cons_zero, List.getElem?_cons_succ, List.set_cons_zero, List.set_cons_succ, List.length_cons, List.length_nil, List.cons_append, List.nil_append, List.replicate_succ, List.replicate_zero, List.map_cons, List.map_nil, Option.join_some, List.append_nil, Nat.reduceAdd, Nat.reduceLT, Nat.reduceLeDiff, Nat.reduceSub, Nat.reduceEqDiff, if_true, if_false, decide_true, decide_false, Bool.false_eq_true, Bool.not_true, Bool.not_false, hl, e2, c3]
    have s2' : gIf (gB (gOp dEq (gPeek 2) (gC (.int 2)))) (gAsg 7 (gCall m_law_word [.r 0, .d (gFz (gOp dAdd (gC (.int 1)) (gFz (gCall m_law_next [.r 0, .d (gC (.int 12))]))))])) gNext [some s2, some (.d (.int many)), some (.d (.int 1)), some (.d (nD st)), some (.d (.int a)), some (.ol (ns.map nD)), o6, some (.d (nD (st.take (1 + r).toNat)))]
        = .ok .nx [some s2, some (.d (.int many)), some (.d (.int 1)), some (.d (nD st)), some (.d (.int a)), some (.ol (ns.map nD)), o6, some (.d (nD (st.take (1 + r).toNat)))] := rfl
    rw [ev_seq, s1', seqK_nx, ev_seq, s2', seqK_nx, f1]
  · have s1' : gIf (gB (gOp dEq (gPeek 2) (gC (.int 1)))) (gAsg 7 (gSl (gVar 3) gNo (gSo (gFz (gOp dAdd (gC (.int 1)) (gFz (gCall m_law_next [.r 0, .d (gUn dLen (gPeek 3))]))))))) gNext [some s1, some (.d (.int many)), some (.d (.int style)), some (.d (nD st)), some (.d (.int a)), some (.ol (ns.map nD)), o6, some (.d (nD (st.take a ++ x ++ st.drop (a + 1))))]
        = .ok .nx [some s1, some (.d (.int many)), some (.d (.int style)), some (.d (nD st)), some (.d (.int a)), some (.ol (ns.map nD)), o6, some (.d (nD (st.take a ++ x ++ st.drop (a + 1))))] := by
      simp only [ev_seq, seqK_nx, seqK_rt, seqK_bk, seqK_ct, seqK_err, ev_next, ev_if, ifK_ok, ifK_err, ev_asg, asgK_ok, asgK_err, ev_ret, retK_ok, retK_err, ev_retN, ev_drop, dropK_ok, dropK_err, ev_c, ev_d, dK_ok, dK_err, ev_fz, fzK_d, fzK_l, fzK_err, ev_op, opK1_ok, opK1_err, opK2_ok, opK2_err, ev_un, unK_ok, unK_err, ev_isi, ev_b, bK_ok, bK_err, ev_and, andK_ok, andK_err, ev_or, orK_ok, orK_err, ev_not, notK_ok, ev_andV, andVK_ok, ev_orV, orVK_ok, ev_ifE, ifEK_ok, ev_nil, ev_cons, consK1_ok, consK1_err, consK2_ok, consK2_err, ev_lst, lstK_ok, ev_tup, tupK_ok, ev_var, varK_d, varK_l, ev_peek, peekK_d, peekK_l, peekK_s, ev_move, moveK_d, moveK_l, ev_ixP, ixK_ok, ixK1_ok, ixK1_err, ixK2_ok, dIx_nat, dIx_natT, dIx_l0, dIx_l1, dIx_l2, dIx_l3, dIx_l4, dIx_t0, dIx_t1, dIx_t2, dIx_t3, ev_setIx, setK0_ok, setK0_err, setK1_ok, setK2_ok, setK3_0, setK3_1, setK3_2, setK3_3, setK3_4, ev_sl, slK1_ok, slK2_ok, slK3_ok, ev_no, ev_so, soK_ok, soK_err, ev_join, joinK1_ok, joinK2_ok, ev_app, appK1_ok, appK2_ok, appK2_err, appK3_ok, ev_a0, ev_aD, ev_aR, eaK1_ok, eaK1_err, eaK3_ok, eaK2_ok, eaK2_err, ev_call, callK_d1, callK_d2, callK_d3, callK_d4, callK_d5, callK_d6, callK_d7, callK_d8, callK_r0, callK_r1, callK_r2, callK_r3, callK_r4, callK_r5, callK_r6, callK_r7, callK_err, backK_ok, backK_err, slotOf_d, slotOf_r, putBack_d, putBack_r, putBack_nil, refs_nil, refs_d, refs_r, ev_run, endOf_nx, endOf_rt, endOf_err, maskL_t, maskL_f, maskL_nil, ev_for, forK_ok, forGo_nil, turnK_nx, turnK_ct, turnK_bk, turnK_rt, turnK_err, bind_ok, asItems_l, asItems_t, asItems_s, ev_name, ev_fnil, ev_fcons, ev_ftup, some_bind, ev_asgT, asgTK_ok, asgTK2_ok, ev_lc, lcK_ok, wipeL_nil, wipeL_cons, ev_yes, lcGo_nil, dLt_i, dLe_i, dGt_i, dGe_i, dEq_i, dEq_s, dEq_b, dNe_i, dNe_s, dIs_b, dSub_i, dLen_l, dLen_t, dList_l, dList_t, dSl_l, dNot_b, ty_n_bool, ty_n_int, ty_n_str, ty_n_list, ty_n_tuple, ty_b_bool, ty_b_int, ty_b_str, ty_b_list, ty_b_tuple, ty_i_bool, ty_i_int, ty_i_str, ty_i_list, ty_i_tuple, ty_s_bool, ty_s_int, ty_s_str, ty_s_list, ty_s_tuple, ty_l_bool, ty_l_int, ty_l_str, ty_l_list, ty_l_tuple, ty_t_bool, ty_t_int, ty_t_str, ty_t_list, ty_t_tuple, dIs_nn, dIs_in, dIs_bn, dIs_sn, dIs_ln, dIs_tn, dNe_b, ev_A, aK_ok, aK_err, dMin_ok, dMax_ok, asZip_l, asZip_t, ev_pop, popK1_ok, ev_cnt, cntK1_ok, cntK2_ok, dAdd_int, ofO_some, ofO_none, List.getElem?_cons_zero, List.getElem?_cons_succ, List.set_cons_zero, List.set_cons_succ, List.length_cons, List.length_nil, List.cons_append, List.nil_append, List.replicate_succ, List.replicate_zero, List.map_cons, List.map_nil, Option.join_some, List.append_nil, Nat.reduceAdd, Nat.reduceLT, Nat.reduceLeDiff, Nat.reduceSub, Nat.reduceEqDiff, if_true, if_false, decide_true, decide_false, Bool.false_eq_true, Bool.not_true, Bool.not_false, h1]
    rw [ev_seq, s1', seqK_nx]
    by_cases h2 : style = 2
    · subst h2
      obtain ⟨r, s2, e2, r0, r1, hs2⟩ := next_ok hs1 (n := 12) (by omega) (by omega)
      obtain ⟨y, s3, e3, l3, k3, hs3⟩ := word_ok hs2 (m := 1 + r) (by omega) (by omega)
      obtain ⟨w', f1, f2, f3⟩ := fin y s3 ⟨k3, by omega, by omega⟩ hs3
      refine ⟨w', s3, some (.d (nD y)), ?_, f2, f3, hs3⟩
      have s2' : gIf (gB (gOp dEq (gPeek 2) (gC (.int 2)))) (gAsg 7 (gCall m_law_word [.r 0, .d (gFz (gOp dAdd (gC (.int 1)) (gFz (gCall m_law_next [.r 0, .d (gC (.int 12))]))))])) gNext [some s1, some (.d (.int many)), some (.d (.int 2)), some (.d (nD st)), some (.d (.int a)), some (.ol (ns.map nD)), o6, some (.d (nD (st.take a ++ x ++ st.drop (a + 1))))]
          = .ok .nx [some s3, some (.d (.int many)), some (.d (.int 2)), some (.d (nD st)), some (.d (.int a)), some (.ol (ns.map nD)), o6, some (.d (nD y))] := by
        simp only [ev_seq, seqK_nx, seqK_rt, seqK_bk, seqK_ct, seqK_err, ev_next, ev_if, ifK_ok, ifK_err, ev_asg, asgK_ok, asgK_err, ev_ret, retK_ok, retK_err, ev_retN, ev_drop, dropK_ok, dropK_err, ev_c, ev_d, dK_ok, dK_err, ev_fz, fzK_d, fzK_l, fzK_err, ev_op, opK1_ok, opK1_err, opK2_ok, opK2_err, ev_un, unK_ok, unK_err, ev_isi, ev_b, bK_ok, bK_err, ev_and, andK_ok, andK_err, ev_or, orK_ok, orK_err, ev_not, notK_ok, ev_andV, andVK_ok, ev_orV, orVK_ok, ev_ifE, ifEK_ok, ev_nil, ev_cons, consK1_ok, consK1_err, consK2_ok, consK2_err, ev_lst, lstK_ok, ev_tup, tupK_ok, ev_var, varK_d, varK_l, ev_peek, peekK_d, peekK_l, peekK_s, ev_move, moveK_d, moveK_l, ev_ixP, ixK_ok, ixK1_ok, ixK1_err, ixK2_ok, dIx_nat, dIx_natT, dIx_l0, dIx_l1, dIx_l2, dIx_l3, dIx_l4, dIx_t0, dIx_t1, dIx_t2, dIx_t3, ev_setIx, setK0_ok, setK0_err, setK1_ok, setK2_ok, setK3_0, setK3_1, setK3_2, setK3_3, setK3_4, ev_sl, slK1_ok, slK2_ok, slK3_ok, ev_no, ev_so, soK_ok, soK_err, ev_join, joinK1_ok, joinK2_ok, ev_app, appK1_ok, appK2_ok, appK2_err, appK3_ok, ev_a0, ev_aD, ev_aR, eaK1_ok, eaK1_err, eaK3_ok, eaK2_ok, eaK2_err, ev_call, callK_d1, callK_d2, callK_d3, callK_d4, callK_d5, callK_d6, callK_d7, callK_d8, callK_r0, callK_r1, callK_r2, callK_r3, callK_r4, callK_r5, callK_r6, callK_r7, callK_err, backK_ok, backK_err, slotOf_d, slotOf_r, putBack_d, putBack_r, putBack_nil, refs_nil, refs_d, refs_r, ev_run, endOf_nx, endOf_rt, endOf_err, maskL_t, maskL_f, maskL_nil, ev_for, forK_ok, forGo_nil, turnK_nx, turnK_ct, turnK_bk, turnK_rt, turnK_err, bind_ok, asItems_l, asItems_t, asItems_s, ev_name, ev_fnil, ev_fcons, ev_ftup, some_bind, ev_asgT, asgTK_ok, asgTK2_ok, ev_lc, lcK_ok, wipeL_nil, wipeL_cons, ev_yes, lcGo_nil, dLt_i, dLe_i, dGt_i, dGe_i, dEq_i, dEq_s, dEq_b, dNe_i, dNe_s, dIs_b, dSub_i, dLen_l, dLen_t, dList_l, dList_t, dSl_l, dNot_b, ty_n_bool, ty_n_int, ty_n_str, ty_n_list, ty_n_tuple, ty_b_bool, ty_b_int, ty_b_str, ty_b_list, ty_b_tuple, ty_i_bool, ty_i_int, ty_i_str, ty_i_list, ty_i_tuple, ty_s_bool, ty_s_int, ty_s_str, ty_s_list, ty_s_tuple, ty_l_bool, ty_l_int, ty_l_str, ty_l_list, ty_l_tuple, ty_t_bool, ty_t_int, ty_t_str, ty_t_list, ty_t_tuple, dIs_nn, dIs_in, dIs_bn, dIs_sn, dIs_ln, dIs_tn, dNe_b, ev_A, aK_ok, aK_err, dMin_ok, dMax_ok, asZip_l, asZip_t, ev_pop, popK1_ok, ev_cnt, cntK1_ok, cntK2_ok, dAdd_int, ofO_some, ofO_none, List.getElem?_cons_zero, List.getElem?_cons_succ, List.set_cons_zero, List.set_cons_succ, List.length_cons, List.length_nil, List.cons_append, List.nil_append, List.replicate_succ, List.replicate_zero, List.map_cons, List.map_nil, Option.join_some, List.append_nil, Nat.reduceAdd, Nat.reduceLT, Nat.reduceLeDiff, Nat.reduceSub, Nat.reduceEqDiff, if_true, if_false, decide_true, decide_false, Bool.false_eq_true, Bool.not_true, Bool.not_false, e2, e3]
      rw [ev_seq, s2', seqK_nx, f1]
    · obtain ⟨w', f1, f2, f3⟩ := fin _ s1 hmix hs1
      refine ⟨w', s1, some (.d (nD (st.take a ++ x ++ st.drop (a + 1)))), ?_, f2, f3, hs1⟩
      have s2' : gIf (gB (gOp dEq (gPeek 2) (gC (.int 2)))) (gAsg 7 (gCall m_law_word [.r 0, .d (gFz (gOp dAdd (gC (.int 1)) (gFz (gCall m_law_next [.r 0, .d (gC (.int 12))]))))])) gNext [some s1, some (.d (.int many)), some (.d (.int style)), some (.d (nD st)), some (.d (.int a)), some (.ol (ns.map nD)), o6, some (.d (nD (st.take a ++ x ++ st.drop (a + 1))))]
          = .ok .nx [some s1, some (.d (.int many)), some (.d (.int style)), some (.d (nD st)), some (.d (.int a)), some (.ol (ns.map nD)), o6, some (.d (nD (st.take a ++ x ++ st.drop (a + 1))))] := by
        simp only [ev_seq, seqK_nx, seqK_rt, seqK_bk, seqK_ct, seqK_err, ev_next, ev_if, ifK_ok, ifK_err, ev_asg, asgK_ok, asgK_err, ev_ret, retK_ok, retK_err, ev_retN, ev_drop, dropK_ok, dropK_err, ev_c, ev_d, dK_ok, dK_err, ev_fz, fzK_d, fzK_l, fzK_err, ev_op, opK1_ok, opK1_err, opK2_ok, opK2_err, ev_un, unK_ok, unK_err, ev_isi, ev_b, bK_ok, bK_err, ev_and, andK_ok, andK_err, ev_or, orK_ok, orK_err, ev_not, notK_ok, ev_andV, andVK_ok, ev_orV, orVK_ok, ev_ifE, ifEK_ok, ev_nil, ev_cons, consK1_ok, consK1_err, consK2_ok, consK2_err, ev_lst, lstK_ok, ev_tup, tupK_ok, ev_var, varK_d, varK_l, ev_peek, peekK_d, peekK_l, peekK_s, ev_move, moveK_d, moveK_l, ev_ixP, ixK_ok, ixK1_ok, ixK1_err, ixK2_ok, dIx_nat, dIx_natT, dIx_l0, dIx_l1, dIx_l2, dIx_l3, dIx_l4, dIx_t0, dIx_t1, dIx_t2, dIx_t3, ev_setIx, setK0_ok, setK0_err, setK1_ok, setK2_ok, setK3_0, setK3_1, setK3_2, setK3_3, setK3_4, ev_sl, slK1_ok, slK2_ok, slK3_ok, ev_no, ev_so, soK_ok, soK_err, ev_join, joinK1_ok, joinK2_ok, ev_app, appK1_ok, appK2_ok, appK2_err, appK3_ok, ev_a0, ev_aD, ev_aR, eaK1_ok, eaK1_err, eaK3_ok, eaK2_ok, eaK2_err, ev_call, callK_d1, callK_d2, callK_d3, callK_d4, callK_d5, callK_d6, callK_d7, callK_d8, callK_r0, callK_r1, callK_r2, callK_r3, callK_r4, callK_r5, callK_r6, callK_r7, callK_err, backK_ok, backK_err, slotOf_d, slotOf_r, putBack_d, putBack_r, putBack_nil, refs_nil, refs_d, refs_r, ev_run, endOf_nx, endOf_rt, endOf_err, maskL_t, maskL_f, maskL_nil, ev_for, forK_ok, forGo_nil, turnK_nx, turnK_ct, turnK_bk, turnK_rt, turnK_err, bind_ok, asItems_l, asItems_t, asItems_s, ev_name, ev_fnil, ev_fcons, ev_ftup, some_bind, ev_asgT, asgTK_ok, asgTK2_ok, ev_lc, lcK_ok, wipeL_nil, wipeL_cons, ev_yes, lcGo_nil, dLt_i, dLe_i, dGt_i, dGe_i, dEq_i, dEq_s, dEq_b, dNe_i, dNe_s, dIs_b, dSub_i, dLen_l, dLen_t, dList_l, dList_t, dSl_l, dNot_b, ty_n_bool, ty_n_int, ty_n_str, ty_n_list, ty_n_tuple, ty_b_bool, ty_b_int, ty_b_str, ty_b_list, ty_b_tuple, ty_i_bool, ty_i_int, ty_i_str, ty_i_list, ty_i_tuple, ty_s_bool, ty_s_int, ty_s_str, ty_s_list, ty_s_tuple, ty_l_bool, ty_l_int, ty_l_str, ty_l_list, ty_l_tuple, ty_t_bool, ty_t_int, ty_t_str, ty_t_list, ty_t_tuple, dIs_nn, dIs_in, dIs_bn, dIs_sn, dIs_ln, dIs_tn, dNe_b, ev_A, aK_ok, aK_err, dMin_ok, dMax_ok, asZip_l, asZip_t, ev_pop, popK1_ok, ev_cnt, cntK1_ok, cntK2_ok, dAdd_int, ofO_some, ofO_none, List.getElem?_cons_zero, List.getElem?_cons_succ, List.set_cons_zero, List.set_cons_succ, List.length_cons, List.length_nil, List.cons_append, List.nil_append, List.replicate_succ, List.replicate_zero, List.map_cons, List.map_nil, Option.join_some, List.append_nil, Nat.reduceAdd, Nat.reduceLT, Nat.reduceLeDiff, Nat.reduceSub, Nat.reduceEqDiff, if_true, if_false, decide_true, decide_false, Bool.false_eq_true, Bool.not_true, Bool.not_false, h2]
      rw [ev_seq, s2', seqK_nx, f1]
theorem names_go {many style : Int} {st : List Nat} {a : Nat} (hst : Small st) (ha : a < st.length) (hle : st.length ≤ 11) : ∀ (k : Nat) (lo : Int) {s : S} (hs : Src s) {ns : List (List Nat)} (hn : ns.length + k ≤ 500) (hd : ns.Nodup) (hg : ∀ n ∈ ns, Good n) (o6 o7 : Option S),
    ∃ (ns' : List (List Nat)) (s' : S) (o6' o7' : Option S), forGo (fName 6) namesBody (intsD lo k) [some s, some (.d (.int many)), some (.d (.int style)), some (.d (nD st)), some (.d (.int a)), some (.ol (ns.map nD)), o6, o7]
      = .ok .nx [some s', some (.d (.int many)), some (.d (.int style)), some (.d (nD st)), some (.d (.int a)), some (.ol (ns'.map nD)), o6', o7'] ∧ ns'.length = ns.length + k ∧ ns'.Nodup ∧ (∀ n ∈ ns', Good n) ∧ Src s'
  | 0, lo, s, hs, ns, hn, hd, hg, o6, o7 => ⟨ns, s, o6, o7, rfl, rfl, hd, hg, hs⟩
  | k + 1, lo, s, hs, ns, hn, hd, hg, o6, o7 => by
    obtain ⟨w', s1, o7', e, g, ni, hs1⟩ := names_turn (many := many) (style := style) hst ha hle hs (ns := ns) (by omega) (some (.d (.int lo))) o7
    obtain ⟨ns', s', o6', o7'', e2, l2, d2, g2, hs2⟩ := names_go (many := many) (style := style) hst ha hle k (lo + 1) hs1 (ns := ns ++ [w']) (by rw [List.length_append, List.length_singleton]; omega)
      (by
        rw [List.nodup_append]
        refine ⟨hd, List.nodup_cons.mpr ⟨List.not_mem_nil, List.nodup_nil⟩, fun x hx y hy z => ?_⟩
        rw [List.mem_singleton] at hy
        subst hy
        subst z
        exact ni hx)
      (fun n hn => by
        rcases List.mem_append.mp hn with h | h
        · exact hg n h
        · rw [List.mem_singleton] at h
          rw [h]
          exact g) (some (.d (.int lo))) o7'
    refine ⟨ns', s', o6', o7'', ?_, by rw [l2, List.length_append, List.length_singleton]; omega, d2, g2, hs2⟩
    rw [intsD_succ, forGo_cons (L1 := [some s, some (.d (.int many)), some (.d (.int style)), some (.d (nD st)), some (.d (.int a)), some (.ol (ns.map nD)), some (.d (.int lo)), o7]) _ _ _ _ rfl, e, turnK_nx, e2]
theorem names_ok {s : S} (hs : Src s) {many : Int} (h0 : 0 ≤ many) (h1 : many ≤ 500) : ∃ (ns : List (List Nat)) (s' : S), m_law_names [some s, some (.d (.int many))] = .ok (.ol (ns.map nD)) [some s', none] ∧ ns.length = many.toNat ∧ ns.Nodup ∧ (∀ n ∈ ns, Good n) ∧ Src s' := by
  obtain ⟨style, s1, e1, _, _, hs1⟩ := next_ok hs (n := 3) (by omega) (by omega)
  obtain ⟨r, s2, e2, r0, r1, hs2⟩ := next_ok hs1 (n := 11) (by omega) (by omega)
  obtain ⟨st, s3, e3, l3, k3, hs3⟩ := word_ok hs2 (m := 1 + r) (by omega) (by omega)
  obtain ⟨a, s4, e4, a0, a1, hs4⟩ := next_ok hs3 (n := st.length) (by omega) (by omega)
  obtain ⟨j, rfl⟩ := Int.eq_ofNat_of_zero_le a0
  obtain ⟨ns, s', o6, o7, e5, l5, d5, g5, hs5⟩ := names_go (many := many) (style := style) (a := j) k3 (by omega) (by omega) many.toNat 0 hs4 (ns := []) (by simp; omega) List.nodup_nil (fun n hn => by cases hn) none none
  refine ⟨ns, s', ?_, by rw [l5]; simp, d5, g5, hs5⟩
  have hl : dLen (nD st) = some (.int st.length) := dLen_n (by omega)
  unfold m_law_names g_law_names
  have pre : ∀ X : LS → R O, runDef [true, false] 8 (gSeq (gAsg 2 (gCall m_law_next [.r 0, .d (gC (.int 3))]))
    (gSeq (gAsg 3 (gCall m_law_word [.r 0, .d (gFz (gOp dAdd (gC (.int 1)) (gFz (gCall m_law_next [.r 0, .d (gC (.int 11))]))))]))
    (gSeq (gAsg 4 (gCall m_law_next [.r 0, .d (gUn dLen (gPeek 3))]))
    (gSeq (gAsg 5 (gLst gNil)) X)))) [some s, some (.d (.int many))] = endOf [true, false] (X [some s4, some (.d (.int many)), some (.d (.int style)), some (.d (nD st)), some (.d (.int j)), some (.ol []), none, none]) := fun X => by
    simp only [ev_seq, seqK_nx, seqK_rt, seqK_bk, seqK_ct, seqK_err, ev_next, ev_if, ifK_ok, ifK_err, ev_asg, asgK_ok, asgK_err, ev_ret, retK_ok, retK_err, ev_retN, ev_drop, dropK_ok, dropK_err, ev_c, ev_d, dK_ok, dK_err, ev_fz, fzK_d, fzK_l, fzK_err, ev_op, opK1_ok, opK1_err, opK2_ok, opK2_err, ev_un, unK_ok, unK_err, ev_isi, ev_b, bK_ok, bK_err, ev_and, andK_ok, andK_err, ev_or, orK_ok, orK_err, ev_not, notK_ok, ev_andV, andVK_ok, ev_orV, orVK_ok, ev_ifE, ifEK_ok, ev_nil, ev_cons, consK1_ok, consK1_err, consK2_ok, consK2_err, ev_lst, lstK_ok, ev_tup, tupK_ok, ev_var, varK_d, varK_l, ev_peek, peekK_d, peekK_l, peekK_s, ev_move, moveK_d, moveK_l, ev_ixP, ixK_ok, ixK1_ok, ixK1_err, ixK2_ok, dIx_nat, dIx_natT, dIx_l0, dIx_l1, dIx_l2, dIx_l3, dIx_l4, dIx_t0, dIx_t1, dIx_t2, dIx_t3, ev_setIx, setK0_ok, setK0_err, setK1_ok, setK2_ok, setK3_0, setK3_1, setK3_2, setK3_3, setK3_4, ev_sl, slK1_ok, slK2_ok, slK3_ok, ev_no, ev_so, soK_ok, soK_err, ev_join, joinK1_ok, joinK2_ok, ev_app, appK1_ok, appK2_ok, appK2_err, appK3_ok, ev_a0, ev_aD, ev_aR, eaK1_ok, eaK1_err, eaK3_ok, eaK2_ok, eaK2_err, ev_call, callK_d1, callK_d2, callK_d3, callK_d4, callK_d5, callK_d6, callK_d7, callK_d8, callK_r0, callK_r1, callK_r2, callK_r3, callK_r4, callK_r5, callK_r6, callK_r7, callK_err, backK_ok, backK_err, slotOf_d, slotOf_r, putBack_d, putBack_r, putBack_nil, refs_nil, refs_d, refs_r, ev_run, endOf_nx, endOf_rt, endOf_err, maskL_t, maskL_f, maskL_nil, ev_for, forK_ok, forGo_nil, turnK_nx, turnK_ct, turnK_bk, turnK_rt, turnK_err, bind_ok, asItems_l, asItems_t, asItems_s, ev_name, ev_fnil, ev_fcons, ev_ftup, some_bind, ev_asgT, asgTK_ok, asgTK2_ok, ev_lc, lcK_ok, wipeL_nil, wipeL_cons, ev_yes, lcGo_nil, dLt_i, dLe_i, dGt_i, dGe_i, dEq_i, dEq_s, dEq_b, dNe_i, dNe_s, dIs_b, dSub_i, dLen_l, dLen_t, dList_l, dList_t, dSl_l, dNot_b, ty_n_bool, ty_n_int, ty_n_str, ty_n_list, ty_n_tuple, ty_b_bool, ty_b_int, ty_b_str, ty_b_list, ty_b_tuple, ty_i_bool, ty_i_int, ty_i_str, ty_i_list, ty_i_tuple, ty_s_bool, ty_s_int, ty_s_str, ty_s_list, ty_s_tuple, ty_l_bool, ty_l_int, ty_l_str, ty_l_list, ty_l_tuple, ty_t_bool, ty_t_int, ty_t_str, ty_t_list, ty_t_tuple, dIs_nn, dIs_in, dIs_bn, dIs_sn, dIs_ln, dIs_tn, dNe_b, ev_A, aK_ok, aK_err, dMin_ok, dMax_ok, asZip_l, asZip_t, ev_pop, popK1_ok, ev_cnt, cntK1_ok, cntK2_ok, dAdd_int, ofO_some, ofO_none, List.getElem?_cons_zero, List.getElem?_cons_succ, List.set_cons_zero, List.set_cons_succ, List.length_cons, List.length_nil, List.cons_append, List.nil_append, List.replicate_succ, List.replicate_zero, List.map_cons, List.map_nil, Option.join_some, List.append_nil, Nat.reduceAdd, Nat.reduceLT, Nat.reduceLeDiff, Nat.reduceSub, Nat.reduceEqDiff, if_true, if_false, decide_true, decide_false, Bool.false_eq_true, Bool.not_true, Bool.not_false, e1, e2, e3, hl, e4, small_len (show 0 ≤ 1000000 by decide)]
  have hr : (gCons (gVar 1) gNil [some s4, some (.d (.int many)), some (.d (.int style)), some (.d (nD st)), some (.d (.int j)), some (.ol []), none, none]).bind rng1 = .ok (intsD 0 many.toNat) [some s4, some (.d (.int many)), some (.d (.int style)), some (.d (nD st)), some (.d (.int j)), some (.ol []), none, none] := by
    have e : gCons (gVar 1) gNil [some s4, some (.d (.int many)), some (.d (.int style)), some (.d (nD st)), some (.d (.int j)), some (.ol []), none, none] = .ok [.int many] [some s4, some (.d (.int many)), some (.d (.int style)), some (.d (nD st)), some (.d (.int j)), some (.ol []), none, none] := rfl
    rw [e, bind_ok, rng1_at h0 (by omega)]
  rw [pre, ev_seq, ev_for, hr, forK_ok]
  have e5' := e5
  unfold namesBody at e5'
  rw [List.map_nil] at e5'
  rw [e5', seqK_nx]
  rfl
end Lw

namespace Lw
open PySem VS
theorem mem_abc (k : Nat) : k ∈ abc.cps.toList ↔ 97 ≤ k ∧ k ≤ 122 := by
  constructor
  · intro h
    obtain ⟨i, hi, e⟩ := List.mem_iff_getElem.mp h
    rw [abc_len] at hi
    have := abc_at i (List.mem_range.mpr hi)
    rw [List.getElem?_eq_getElem (by rw [abc_len]; exact hi), e] at this
    have := Option.some.inj this
    omega
  · intro h
    have := abc_at (k - 97) (List.mem_range.mpr (by omega))
    have e : 97 + (k - 97) = k := by omega
    rw [e] at this
    exact List.mem_of_getElem? this
def smallB (c : Nat) : Bool := decide (97 ≤ c ∧ c ≤ 122)
def isN (w : List Nat) : Bool := decide (1 ≤ w.length ∧ w.length ≤ 12) && w.all smallB
theorem isN_good {w : List Nat} (h : Good w) : isN w = true := by
  unfold isN
  rw [Bool.and_eq_true, List.all_eq_true]
  exact ⟨decide_eq_true ⟨h.2.1, h.2.2⟩, fun c hc => decide_eq_true (h.1 c hc)⟩
theorem sign_in (c : Nat) : dNotIn (.str ⟨#[c]⟩) (.str abc) = some (.bool (!smallB c)) := by
  have e : dInB (.str ⟨#[c]⟩) (.str abc) = some (decide (c ∈ abc.cps.toList)) := rfl
  unfold dNotIn
  rw [e]
  unfold smallB
  rw [decide_eq_decide.mpr (mem_abc c)]
  rfl
theorem signs_sOf (w : List Nat) : signs (sOf w) = w.map fun c => PyData.str ⟨#[c]⟩ := by
  unfold signs
  rw [sOf_list]
theorem is_name_go : ∀ (w : List Nat) (t : D) (o : Option S), ∃ o', forGo (fName 1) (gIf (gB (gOp dNotIn (gPeek 1) (gC (.str abc)))) (gRet (gD (gC (.bool false)))) gNext) (w.map fun c => PyData.str ⟨#[c]⟩) [some (.d t), o]
    = if w.all smallB then .ok .nx [some (.d t), o'] else .ok (.rt (.d (.bool false))) [some (.d t), o']
  | [], t, o => ⟨o, rfl⟩
  | c :: w, t, o => by
    obtain ⟨o', e⟩ := is_name_go w t (some (.d (.str ⟨#[c]⟩)))
    rw [List.map_cons, forGo_cons (L1 := [some (.d t), some (.d (.str ⟨#[c]⟩))]) _ _ _ _ rfl]
    by_cases h : smallB c = true
    · refine ⟨o', ?_⟩
      have step : gIf (gB (gOp dNotIn (gPeek 1) (gC (.str abc)))) (gRet (gD (gC (.bool false)))) gNext [some (.d t), some (.d (.str ⟨#[c]⟩))] = .ok .nx [some (.d t), some (.d (.str ⟨#[c]⟩))] := by
        simp only [ev_seq, seqK_nx, seqK_rt, seqK_bk, seqK_ct, seqK_err, ev_next, ev_if, ifK_ok, ifK_err, ev_asg, asgK_ok, asgK_err, ev_ret, retK_ok, retK_err, ev_retN, ev_drop, dropK_ok, dropK_err, ev_c, ev_d, dK_ok, dK_err, ev_fz, fzK_d, fzK_l, fzK_err, ev_op, opK1_ok, opK1_err, opK2_ok, opK2_err, ev_un, unK_ok, unK_err, ev_isi, ev_b, bK_ok, bK_err, ev_and, andK_ok, andK_err, ev_or, orK_ok, orK_err, ev_not, notK_ok, ev_andV, andVK_ok, ev_orV, orVK_ok, ev_ifE, ifEK_ok, ev_nil, ev_cons, consK1_ok, consK1_err, consK2_ok, consK2_err, ev_lst, lstK_ok, ev_tup, tupK_ok, ev_var, varK_d, varK_l, ev_peek, peekK_d, peekK_l, peekK_s, ev_move, moveK_d, moveK_l, ev_ixP, ixK_ok, ixK1_ok, ixK1_err, ixK2_ok, dIx_nat, dIx_natT, dIx_l0, dIx_l1, dIx_l2, dIx_l3, dIx_l4, dIx_t0, dIx_t1, dIx_t2, dIx_t3, ev_setIx, setK0_ok, setK0_err, setK1_ok, setK2_ok, setK3_0, setK3_1, setK3_2, setK3_3, setK3_4, ev_sl, slK1_ok, slK2_ok, slK3_ok, ev_no, ev_so, soK_ok, soK_err, ev_join, joinK1_ok, joinK2_ok, ev_app, appK1_ok, appK2_ok, appK2_err, appK3_ok, ev_a0, ev_aD, ev_aR, eaK1_ok, eaK1_err, eaK3_ok, eaK2_ok, eaK2_err, ev_call, callK_d1, callK_d2, callK_d3, callK_d4, callK_d5, callK_d6, callK_d7, callK_d8, callK_r0, callK_r1, callK_r2, callK_r3, callK_r4, callK_r5, callK_r6, callK_r7, callK_err, backK_ok, backK_err, slotOf_d, slotOf_r, putBack_d, putBack_r, putBack_nil, refs_nil, refs_d, refs_r, ev_run, endOf_nx, endOf_rt, endOf_err, maskL_t, maskL_f, maskL_nil, ev_for, forK_ok, forGo_nil, turnK_nx, turnK_ct, turnK_bk, turnK_rt, turnK_err, bind_ok, asItems_l, asItems_t, asItems_s, ev_name, ev_fnil, ev_fcons, ev_ftup, some_bind, ev_asgT, asgTK_ok, asgTK2_ok, ev_lc, lcK_ok, wipeL_nil, wipeL_cons, ev_yes, lcGo_nil, dLt_i, dLe_i, dGt_i, dGe_i, dEq_i, dEq_s, dEq_b, dNe_i, dNe_s, dIs_b, dSub_i, dLen_l, dLen_t, dList_l, dList_t, dSl_l, dNot_b, ty_n_bool, ty_n_int, ty_n_str, ty_n_list, ty_n_tuple, ty_b_bool, ty_b_int, ty_b_str, ty_b_list, ty_b_tuple, ty_i_bool, ty_i_int, ty_i_str, ty_i_list, ty_i_tuple, ty_s_bool, ty_s_int, ty_s_str, ty_s_list, ty_s_tuple, ty_l_bool, ty_l_int, ty_l_str, ty_l_list, ty_l_tuple, ty_t_bool, ty_t_int, ty_t_str, ty_t_list, ty_t_tuple, dIs_nn, dIs_in, dIs_bn, dIs_sn, dIs_ln, dIs_tn, dNe_b, ev_A, aK_ok, aK_err, dMin_ok, dMax_ok, asZip_l, asZip_t, ev_pop, popK1_ok, ev_cnt, cntK1_ok, cntK2_ok, dAdd_int, ofO_some, ofO_none, List.getElem?_cons_zero, List.getElem?_cons_succ, List.set_cons_zero, List.set_cons_succ, List.length_cons, List.length_nil, List.cons_append, List.nil_append, List.replicate_succ, List.replicate_zero, List.map_cons, List.map_nil, Option.join_some, List.append_nil, Nat.reduceAdd, Nat.reduceLT, Nat.reduceLeDiff, Nat.reduceSub, Nat.reduceEqDiff, if_true, if_false, decide_true, decide_false, Bool.false_eq_true, Bool.not_true, Bool.not_false, sign_in, h]
      rw [step, turnK_nx, e, List.all_cons, h, Bool.true_and]
    · refine ⟨some (.d (.str ⟨#[c]⟩)), ?_⟩
      have h' : smallB c = false := by simpa using h
      have step : gIf (gB (gOp dNotIn (gPeek 1) (gC (.str abc)))) (gRet (gD (gC (.bool false)))) gNext [some (.d t), some (.d (.str ⟨#[c]⟩))] = .ok (.rt (.d (.bool false))) [some (.d t), some (.d (.str ⟨#[c]⟩))] := by
        simp only [ev_seq, seqK_nx, seqK_rt, seqK_bk, seqK_ct, seqK_err, ev_next, ev_if, ifK_ok, ifK_err, ev_asg, asgK_ok, asgK_err, ev_ret, retK_ok, retK_err, ev_retN, ev_drop, dropK_ok, dropK_err, ev_c, ev_d, dK_ok, dK_err, ev_fz, fzK_d, fzK_l, fzK_err, ev_op, opK1_ok, opK1_err, opK2_ok, opK2_err, ev_un, unK_ok, unK_err, ev_isi, ev_b, bK_ok, bK_err, ev_and, andK_ok, andK_err, ev_or, orK_ok, orK_err, ev_not, notK_ok, ev_andV, andVK_ok, ev_orV, orVK_ok, ev_ifE, ifEK_ok, ev_nil, ev_cons, consK1_ok, consK1_err, consK2_ok, consK2_err, ev_lst, lstK_ok, ev_tup, tupK_ok, ev_var, varK_d, varK_l, ev_peek, peekK_d, peekK_l, peekK_s, ev_move, moveK_d, moveK_l, ev_ixP, ixK_ok, ixK1_ok, ixK1_err, ixK2_ok, dIx_nat, dIx_natT, dIx_l0, dIx_l1, dIx_l2, dIx_l3, dIx_l4, dIx_t0, dIx_t1, dIx_t2, dIx_t3, ev_setIx, setK0_ok, setK0_err, setK1_ok, setK2_ok, setK3_0, setK3_1, setK3_2, setK3_3, setK3_4, ev_sl, slK1_ok, slK2_ok, slK3_ok, ev_no, ev_so, soK_ok, soK_err, ev_join, joinK1_ok, joinK2_ok, ev_app, appK1_ok, appK2_ok, appK2_err, appK3_ok, ev_a0, ev_aD, ev_aR, eaK1_ok, eaK1_err, eaK3_ok, eaK2_ok, eaK2_err, ev_call, callK_d1, callK_d2, callK_d3, callK_d4, callK_d5, callK_d6, callK_d7, callK_d8, callK_r0, callK_r1, callK_r2, callK_r3, callK_r4, callK_r5, callK_r6, callK_r7, callK_err, backK_ok, backK_err, slotOf_d, slotOf_r, putBack_d, putBack_r, putBack_nil, refs_nil, refs_d, refs_r, ev_run, endOf_nx, endOf_rt, endOf_err, maskL_t, maskL_f, maskL_nil, ev_for, forK_ok, forGo_nil, turnK_nx, turnK_ct, turnK_bk, turnK_rt, turnK_err, bind_ok, asItems_l, asItems_t, asItems_s, ev_name, ev_fnil, ev_fcons, ev_ftup, some_bind, ev_asgT, asgTK_ok, asgTK2_ok, ev_lc, lcK_ok, wipeL_nil, wipeL_cons, ev_yes, lcGo_nil, dLt_i, dLe_i, dGt_i, dGe_i, dEq_i, dEq_s, dEq_b, dNe_i, dNe_s, dIs_b, dSub_i, dLen_l, dLen_t, dList_l, dList_t, dSl_l, dNot_b, ty_n_bool, ty_n_int, ty_n_str, ty_n_list, ty_n_tuple, ty_b_bool, ty_b_int, ty_b_str, ty_b_list, ty_b_tuple, ty_i_bool, ty_i_int, ty_i_str, ty_i_list, ty_i_tuple, ty_s_bool, ty_s_int, ty_s_str, ty_s_list, ty_s_tuple, ty_l_bool, ty_l_int, ty_l_str, ty_l_list, ty_l_tuple, ty_t_bool, ty_t_int, ty_t_str, ty_t_list, ty_t_tuple, dIs_nn, dIs_in, dIs_bn, dIs_sn, dIs_ln, dIs_tn, dNe_b, ev_A, aK_ok, aK_err, dMin_ok, dMax_ok, asZip_l, asZip_t, ev_pop, popK1_ok, ev_cnt, cntK1_ok, cntK2_ok, dAdd_int, ofO_some, ofO_none, List.getElem?_cons_zero, List.getElem?_cons_succ, List.set_cons_zero, List.set_cons_succ, List.length_cons, List.length_nil, List.cons_append, List.nil_append, List.replicate_succ, List.replicate_zero, List.map_cons, List.map_nil, Option.join_some, List.append_nil, Nat.reduceAdd, Nat.reduceLT, Nat.reduceLeDiff, Nat.reduceSub, Nat.reduceEqDiff, if_true, if_false, decide_true, decide_false, Bool.false_eq_true, Bool.not_true, Bool.not_false, sign_in, h']
      rw [step, turnK_rt, List.all_cons, h', Bool.false_and]
      rfl
theorem is_name_ok {w : List Nat} (h : w.length ≤ 100000) : m_is_name [some (.d (.str (sOf w)))] = .ok (.d (.bool (isN w))) [none] := by
  have hl : dLen (.str (sOf w)) = some (.int w.length) := dLen_n h
  unfold m_is_name g_is_name
  by_cases hb : 1 ≤ w.length ∧ w.length ≤ 12
  · have h1 : ¬ ((w.length : Int) < 1) := by omega
    have h2 : ¬ ((12 : Int) < (w.length : Int)) := by omega
    obtain ⟨o', e⟩ := is_name_go w (.str (sOf w)) none
    have hr : (gVar 0 [some (.d (.str (sOf w))), none]).bind asItems = .ok (w.map fun c => PyData.str ⟨#[c]⟩) [some (.d (.str (sOf w))), none] := by
      simp only [ev_seq, seqK_nx, seqK_rt, seqK_bk, seqK_ct, seqK_err, ev_next, ev_if, ifK_ok, ifK_err, ev_asg, asgK_ok, asgK_err, ev_ret, retK_ok, retK_err, ev_retN, ev_drop, dropK_ok, dropK_err, ev_c, ev_d, dK_ok, dK_err, ev_fz, fzK_d, fzK_l, fzK_err, ev_op, opK1_ok, opK1_err, opK2_ok, opK2_err, ev_un, unK_ok, unK_err, ev_isi, ev_b, bK_ok, bK_err, ev_and, andK_ok, andK_err, ev_or, orK_ok, orK_err, ev_not, notK_ok, ev_andV, andVK_ok, ev_orV, orVK_ok, ev_ifE, ifEK_ok, ev_nil, ev_cons, consK1_ok, consK1_err, consK2_ok, consK2_err, ev_lst, lstK_ok, ev_tup, tupK_ok, ev_var, varK_d, varK_l, ev_peek, peekK_d, peekK_l, peekK_s, ev_move, moveK_d, moveK_l, ev_ixP, ixK_ok, ixK1_ok, ixK1_err, ixK2_ok, dIx_nat, dIx_natT, dIx_l0, dIx_l1, dIx_l2, dIx_l3, dIx_l4, dIx_t0, dIx_t1, dIx_t2, dIx_t3, ev_setIx, setK0_ok, setK0_err, setK1_ok, setK2_ok, setK3_0, setK3_1, setK3_2, setK3_3, setK3_4, ev_sl, slK1_ok, slK2_ok, slK3_ok, ev_no, ev_so, soK_ok, soK_err, ev_join, joinK1_ok, joinK2_ok, ev_app, appK1_ok, appK2_ok, appK2_err, appK3_ok, ev_a0, ev_aD, ev_aR, eaK1_ok, eaK1_err, eaK3_ok, eaK2_ok, eaK2_err, ev_call, callK_d1, callK_d2, callK_d3, callK_d4, callK_d5, callK_d6, callK_d7, callK_d8, callK_r0, callK_r1, callK_r2, callK_r3, callK_r4, callK_r5, callK_r6, callK_r7, callK_err, backK_ok, backK_err, slotOf_d, slotOf_r, putBack_d, putBack_r, putBack_nil, refs_nil, refs_d, refs_r, ev_run, endOf_nx, endOf_rt, endOf_err, maskL_t, maskL_f, maskL_nil, ev_for, forK_ok, forGo_nil, turnK_nx, turnK_ct, turnK_bk, turnK_rt, turnK_err, bind_ok, asItems_l, asItems_t, asItems_s, ev_name, ev_fnil, ev_fcons, ev_ftup, some_bind, ev_asgT, asgTK_ok, asgTK2_ok, ev_lc, lcK_ok, wipeL_nil, wipeL_cons, ev_yes, lcGo_nil, dLt_i, dLe_i, dGt_i, dGe_i, dEq_i, dEq_s, dEq_b, dNe_i, dNe_s, dIs_b, dSub_i, dLen_l, dLen_t, dList_l, dList_t, dSl_l, dNot_b, ty_n_bool, ty_n_int, ty_n_str, ty_n_list, ty_n_tuple, ty_b_bool, ty_b_int, ty_b_str, ty_b_list, ty_b_tuple, ty_i_bool, ty_i_int, ty_i_str, ty_i_list, ty_i_tuple, ty_s_bool, ty_s_int, ty_s_str, ty_s_list, ty_s_tuple, ty_l_bool, ty_l_int, ty_l_str, ty_l_list, ty_l_tuple, ty_t_bool, ty_t_int, ty_t_str, ty_t_list, ty_t_tuple, dIs_nn, dIs_in, dIs_bn, dIs_sn, dIs_ln, dIs_tn, dNe_b, ev_A, aK_ok, aK_err, dMin_ok, dMax_ok, asZip_l, asZip_t, ev_pop, popK1_ok, ev_cnt, cntK1_ok, cntK2_ok, dAdd_int, ofO_some, ofO_none, List.getElem?_cons_zero, List.getElem?_cons_succ, List.set_cons_zero, List.set_cons_succ, List.length_cons, List.length_nil, List.cons_append, List.nil_append, List.replicate_succ, List.replicate_zero, List.map_cons, List.map_nil, Option.join_some, List.append_nil, Nat.reduceAdd, Nat.reduceLT, Nat.reduceLeDiff, Nat.reduceSub, Nat.reduceEqDiff, if_true, if_false, decide_true, decide_false, Bool.false_eq_true, Bool.not_true, Bool.not_false, signs_sOf]
    have s0 : ∀ X : LS → R O, runDef [false] 2 (gSeq (gIf (gOr (gB (gOp dLt (gUn dLen (gPeek 0)) (gC (.int 1)))) (gB (gOp dGt (gUn dLen (gPeek 0)) (gC (.int 12))))) (gRet (gD (gC (.bool false)))) gNext) X) [some (.d (.str (sOf w)))] = endOf [false] (X [some (.d (.str (sOf w))), none]) := fun X => by
      simp only [ev_seq, seqK_nx, seqK_rt, seqK_bk, seqK_ct, seqK_err, ev_next, ev_if, ifK_ok, ifK_err, ev_asg, asgK_ok, asgK_err, ev_ret, retK_ok, retK_err, ev_retN, ev_drop, dropK_ok, dropK_err, ev_c, ev_d, dK_ok, dK_err, ev_fz, fzK_d, fzK_l, fzK_err, ev_op, opK1_ok, opK1_err, opK2_ok, opK2_err, ev_un, unK_ok, unK_err, ev_isi, ev_b, bK_ok, bK_err, ev_and, andK_ok, andK_err, ev_or, orK_ok, orK_err, ev_not, notK_ok, ev_andV, andVK_ok, ev_orV, orVK_ok, ev_ifE, ifEK_ok, ev_nil, ev_cons, consK1_ok, consK1_err, consK2_ok, consK2_err, ev_lst, lstK_ok, ev_tup, tupK_ok, ev_var, varK_d, varK_l, ev_peek, peekK_d, peekK_l, peekK_s, ev_move, moveK_d, moveK_l, ev_ixP, ixK_ok, ixK1_ok, ixK1_err, ixK2_ok, dIx_nat, dIx_natT, dIx_l0, dIx_l1, dIx_l2, dIx_l3, dIx_l4, dIx_t0, dIx_t1, dIx_t2, dIx_t3, ev_setIx, setK0_ok, setK0_err, setK1_ok, setK2_ok, setK3_0, setK3_1, setK3_2, setK3_3, setK3_4, ev_sl, slK1_ok, slK2_ok, slK3_ok, ev_no, ev_so, soK_ok, soK_err, ev_join, joinK1_ok, joinK2_ok, ev_app, appK1_ok, appK2_ok, appK2_err, appK3_ok, ev_a0, ev_aD, ev_aR, eaK1_ok, eaK1_err, eaK3_ok, eaK2_ok, eaK2_err, ev_call, callK_d1, callK_d2, callK_d3, callK_d4, callK_d5, callK_d6, callK_d7, callK_d8, callK_r0, callK_r1, callK_r2, callK_r3, callK_r4, callK_r5, callK_r6, callK_r7, callK_err, backK_ok, backK_err, slotOf_d, slotOf_r, putBack_d, putBack_r, putBack_nil, refs_nil, refs_d, refs_r, ev_run, endOf_nx, endOf_rt, endOf_err, maskL_t, maskL_f, maskL_nil, ev_for, forK_ok, forGo_nil, turnK_nx, turnK_ct, turnK_bk, turnK_rt, turnK_err, bind_ok, asItems_l, asItems_t, asItems_s, ev_name, ev_fnil, ev_fcons, ev_ftup, some_bind, ev_asgT, asgTK_ok, asgTK2_ok, ev_lc, lcK_ok, wipeL_nil, wipeL_cons, ev_yes, lcGo_nil, dLt_i, dLe_i, dGt_i, dGe_i, dEq_i, dEq_s, dEq_b, dNe_i, dNe_s, dIs_b, dSub_i, dLen_l, dLen_t, dList_l, dList_t, dSl_l, dNot_b, ty_n_bool, ty_n_int, ty_n_str, ty_n_list, ty_n_tuple, ty_b_bool, ty_b_int, ty_b_str, ty_b_list, ty_b_tuple, ty_i_bool, ty_i_int, ty_i_str, ty_i_list, ty_i_tuple, ty_s_bool, ty_s_int, ty_s_str, ty_s_list, ty_s_tuple, ty_l_bool, ty_l_int, ty_l_str, ty_l_list, ty_l_tuple, ty_t_bool, ty_t_int, ty_t_str, ty_t_list, ty_t_tuple, dIs_nn, dIs_in, dIs_bn, dIs_sn, dIs_ln, dIs_tn, dNe_b, ev_A, aK_ok, aK_err, dMin_ok, dMax_ok, asZip_l, asZip_t, ev_pop, popK1_ok, ev_cnt, cntK1_ok, cntK2_ok, dAdd_int, ofO_some, ofO_none, List.getElem?_cons_zero, List.getElem?_cons_succ, List.set_cons_zero, List.set_cons_succ, List.length_cons, List.length_nil, List.cons_append, List.nil_append, List.replicate_succ, List.replicate_zero, List.map_cons, List.map_nil, Option.join_some, List.append_nil, Nat.reduceAdd, Nat.reduceLT, Nat.reduceLeDiff, Nat.reduceSub, Nat.reduceEqDiff, if_true, if_false, decide_true, decide_false, Bool.false_eq_true, Bool.not_true, Bool.not_false, hl, h1, h2]
    rw [s0, ev_seq, ev_for, hr, forK_ok, e]
    unfold isN
    rw [decide_eq_true hb, Bool.true_and]
    by_cases ha : w.all smallB = true
    · rw [if_pos ha, ha]
      rfl
    · have ha' : w.all smallB = false := by simpa using ha
      rw [if_neg ha, ha']
      rfl
  · have hf : isN w = false := by
      unfold isN
      rw [decide_eq_false hb, Bool.false_and]
    rw [hf]
    by_cases h1 : (w.length : Int) < 1
    · simp only [ev_seq, seqK_nx, seqK_rt, seqK_bk, seqK_ct, seqK_err, ev_next, ev_if, ifK_ok, ifK_err, ev_asg, asgK_ok, asgK_err, ev_ret, retK_ok, retK_err, ev_retN, ev_drop, dropK_ok, dropK_err, ev_c, ev_d, dK_ok, dK_err, ev_fz, fzK_d, fzK_l, fzK_err, ev_op, opK1_ok, opK1_err, opK2_ok, opK2_err, ev_un, unK_ok, unK_err, ev_isi, ev_b, bK_ok, bK_err, ev_and, andK_ok, andK_err, ev_or, orK_ok, orK_err, ev_not, notK_ok, ev_andV, andVK_ok, ev_orV, orVK_ok, ev_ifE, ifEK_ok, ev_nil, ev_cons, consK1_ok, consK1_err, consK2_ok, consK2_err, ev_lst, lstK_ok, ev_tup, tupK_ok, ev_var, varK_d, varK_l, ev_peek, peekK_d, peekK_l, peekK_s, ev_move, moveK_d, moveK_l, ev_ixP, ixK_ok, ixK1_ok, ixK1_err, ixK2_ok, dIx_nat, dIx_natT, dIx_l0, dIx_l1, dIx_l2, dIx_l3, dIx_l4, dIx_t0, dIx_t1, dIx_t2, dIx_t3, ev_setIx, setK0_ok, setK0_err, setK1_ok, setK2_ok, setK3_0, setK3_1, setK3_2, setK3_3, setK3_4, ev_sl, slK1_ok, slK2_ok, slK3_ok, ev_no, ev_so, soK_ok, soK_err, ev_join, joinK1_ok, joinK2_ok, ev_app, appK1_ok, appK2_ok, appK2_err, appK3_ok, ev_a0, ev_aD, ev_aR, eaK1_ok, eaK1_err, eaK3_ok, eaK2_ok, eaK2_err, ev_call, callK_d1, callK_d2, callK_d3, callK_d4, callK_d5, callK_d6, callK_d7, callK_d8, callK_r0, callK_r1, callK_r2, callK_r3, callK_r4, callK_r5, callK_r6, callK_r7, callK_err, backK_ok, backK_err, slotOf_d, slotOf_r, putBack_d, putBack_r, putBack_nil, refs_nil, refs_d, refs_r, ev_run, endOf_nx, endOf_rt, endOf_err, maskL_t, maskL_f, maskL_nil, ev_for, forK_ok, forGo_nil, turnK_nx, turnK_ct, turnK_bk, turnK_rt, turnK_err, bind_ok, asItems_l, asItems_t, asItems_s, ev_name, ev_fnil, ev_fcons, ev_ftup, some_bind, ev_asgT, asgTK_ok, asgTK2_ok, ev_lc, lcK_ok, wipeL_nil, wipeL_cons, ev_yes, lcGo_nil, dLt_i, dLe_i, dGt_i, dGe_i, dEq_i, dEq_s, dEq_b, dNe_i, dNe_s, dIs_b, dSub_i, dLen_l, dLen_t, dList_l, dList_t, dSl_l, dNot_b, ty_n_bool, ty_n_int, ty_n_str, ty_n_list, ty_n_tuple, ty_b_bool, ty_b_int, ty_b_str, ty_b_list, ty_b_tuple, ty_i_bool, ty_i_int, ty_i_str, ty_i_list, ty_i_tuple, ty_s_bool, ty_s_int, ty_s_str, ty_s_list, ty_s_tuple, ty_l_bool, ty_l_int, ty_l_str, ty_l_list, ty_l_tuple, ty_t_bool, ty_t_int, ty_t_str, ty_t_list, ty_t_tuple, dIs_nn, dIs_in, dIs_bn, dIs_sn, dIs_ln, dIs_tn, dNe_b, ev_A, aK_ok, aK_err, dMin_ok, dMax_ok, asZip_l, asZip_t, ev_pop, popK1_ok, ev_cnt, cntK1_ok, cntK2_ok, dAdd_int, ofO_some, ofO_none, List.getElem?_cons_zero, List.getElem?_cons_succ, List.set_cons_zero, List.set_cons_succ, List.length_cons, List.length_nil, List.cons_append, List.nil_append, List.replicate_succ, List.replicate_zero, List.map_cons, List.map_nil, Option.join_some, List.append_nil, Nat.reduceAdd, Nat.reduceLT, Nat.reduceLeDiff, Nat.reduceSub, Nat.reduceEqDiff, if_true, if_false, decide_true, decide_false, Bool.false_eq_true, Bool.not_true, Bool.not_false, hl, h1]
    · have h2 : (12 : Int) < (w.length : Int) := by omega
      simp only [ev_seq, seqK_nx, seqK_rt, seqK_bk, seqK_ct, seqK_err, ev_next, ev_if, ifK_ok, ifK_err, ev_asg, asgK_ok, asgK_err, ev_ret, retK_ok, retK_err, ev_retN, ev_drop, dropK_ok, dropK_err, ev_c, ev_d, dK_ok, dK_err, ev_fz, fzK_d, fzK_l, fzK_err, ev_op, opK1_ok, opK1_err, opK2_ok, opK2_err, ev_un, unK_ok, unK_err, ev_isi, ev_b, bK_ok, bK_err, ev_and, andK_ok, andK_err, ev_or, orK_ok, orK_err, ev_not, notK_ok, ev_andV, andVK_ok, ev_orV, orVK_ok, ev_ifE, ifEK_ok, ev_nil, ev_cons, consK1_ok, consK1_err, consK2_ok, consK2_err, ev_lst, lstK_ok, ev_tup, tupK_ok, ev_var, varK_d, varK_l, ev_peek, peekK_d, peekK_l, peekK_s, ev_move, moveK_d, moveK_l, ev_ixP, ixK_ok, ixK1_ok, ixK1_err, ixK2_ok, dIx_nat, dIx_natT, dIx_l0, dIx_l1, dIx_l2, dIx_l3, dIx_l4, dIx_t0, dIx_t1, dIx_t2, dIx_t3, ev_setIx, setK0_ok, setK0_err, setK1_ok, setK2_ok, setK3_0, setK3_1, setK3_2, setK3_3, setK3_4, ev_sl, slK1_ok, slK2_ok, slK3_ok, ev_no, ev_so, soK_ok, soK_err, ev_join, joinK1_ok, joinK2_ok, ev_app, appK1_ok, appK2_ok, appK2_err, appK3_ok, ev_a0, ev_aD, ev_aR, eaK1_ok, eaK1_err, eaK3_ok, eaK2_ok, eaK2_err, ev_call, callK_d1, callK_d2, callK_d3, callK_d4, callK_d5, callK_d6, callK_d7, callK_d8, callK_r0, callK_r1, callK_r2, callK_r3, callK_r4, callK_r5, callK_r6, callK_r7, callK_err, backK_ok, backK_err, slotOf_d, slotOf_r, putBack_d, putBack_r, putBack_nil, refs_nil, refs_d, refs_r, ev_run, endOf_nx, endOf_rt, endOf_err, maskL_t, maskL_f, maskL_nil, ev_for, forK_ok, forGo_nil, turnK_nx, turnK_ct, turnK_bk, turnK_rt, turnK_err, bind_ok, asItems_l, asItems_t, asItems_s, ev_name, ev_fnil, ev_fcons, ev_ftup, some_bind, ev_asgT, asgTK_ok, asgTK2_ok, ev_lc, lcK_ok, wipeL_nil, wipeL_cons, ev_yes, lcGo_nil, dLt_i, dLe_i, dGt_i, dGe_i, dEq_i, dEq_s, dEq_b, dNe_i, dNe_s, dIs_b, dSub_i, dLen_l, dLen_t, dList_l, dList_t, dSl_l, dNot_b, ty_n_bool, ty_n_int, ty_n_str, ty_n_list, ty_n_tuple, ty_b_bool, ty_b_int, ty_b_str, ty_b_list, ty_b_tuple, ty_i_bool, ty_i_int, ty_i_str, ty_i_list, ty_i_tuple, ty_s_bool, ty_s_int, ty_s_str, ty_s_list, ty_s_tuple, ty_l_bool, ty_l_int, ty_l_str, ty_l_list, ty_l_tuple, ty_t_bool, ty_t_int, ty_t_str, ty_t_list, ty_t_tuple, dIs_nn, dIs_in, dIs_bn, dIs_sn, dIs_ln, dIs_tn, dNe_b, ev_A, aK_ok, aK_err, dMin_ok, dMax_ok, asZip_l, asZip_t, ev_pop, popK1_ok, ev_cnt, cntK1_ok, cntK2_ok, dAdd_int, ofO_some, ofO_none, List.getElem?_cons_zero, List.getElem?_cons_succ, List.set_cons_zero, List.set_cons_succ, List.length_cons, List.length_nil, List.cons_append, List.nil_append, List.replicate_succ, List.replicate_zero, List.map_cons, List.map_nil, Option.join_some, List.append_nil, Nat.reduceAdd, Nat.reduceLT, Nat.reduceLeDiff, Nat.reduceSub, Nat.reduceEqDiff, if_true, if_false, decide_true, decide_false, Bool.false_eq_true, Bool.not_true, Bool.not_false, hl, h1, h2]
end Lw

namespace Lw
open PySem VS
theorem cut_all (ns : List Int) (h : ns.length ≤ 63) : cutD (ns.map PyData.int) none (some 63) = ns.map PyData.int := by
  unfold cutD
  have e : HT.sIx (ns.map PyData.int).length 0 none = 0 := rfl
  have e2 : HT.sIx (ns.map PyData.int).length (ns.map PyData.int).length (some 63) = min (63 : Int).toNat (ns.map PyData.int).length := rfl
  rw [e, e2, List.drop_zero, List.length_map, Nat.sub_zero, List.take_of_length_le]
  rw [List.length_map]
  have : (63 : Int).toNat = 63 := rfl
  omega
theorem src_ok {ns : List Int} (h : ns.length ≤ 63) : m_law_src [some (.scr ns)] = .ok (srcS ns 0 0 1 0) [some (.scr ns)] := by
  unfold m_law_src g_law_src
  simp only [ev_seq, seqK_nx, seqK_rt, seqK_bk, seqK_ct, seqK_err, ev_next, ev_if, ifK_ok, ifK_err, ev_asg, asgK_ok, asgK_err, ev_ret, retK_ok, retK_err, ev_retN, ev_drop, dropK_ok, dropK_err, ev_c, ev_d, dK_ok, dK_err, ev_fz, fzK_d, fzK_l, fzK_err, ev_op, opK1_ok, opK1_err, opK2_ok, opK2_err, ev_un, unK_ok, unK_err, ev_isi, ev_b, bK_ok, bK_err, ev_and, andK_ok, andK_err, ev_or, orK_ok, orK_err, ev_not, notK_ok, ev_andV, andVK_ok, ev_orV, orVK_ok, ev_ifE, ifEK_ok, ev_nil, ev_cons, consK1_ok, consK1_err, consK2_ok, consK2_err, ev_lst, lstK_ok, ev_tup, tupK_ok, ev_var, varK_d, varK_l, ev_peek, peekK_d, peekK_l, peekK_s, ev_move, moveK_d, moveK_l, ev_ixP, ixK_ok, ixK1_ok, ixK1_err, ixK2_ok, dIx_nat, dIx_natT, dIx_l0, dIx_l1, dIx_l2, dIx_l3, dIx_l4, dIx_t0, dIx_t1, dIx_t2, dIx_t3, ev_setIx, setK0_ok, setK0_err, setK1_ok, setK2_ok, setK3_0, setK3_1, setK3_2, setK3_3, setK3_4, ev_sl, slK1_ok, slK2_ok, slK3_ok, ev_no, ev_so, soK_ok, soK_err, ev_join, joinK1_ok, joinK2_ok, ev_app, appK1_ok, appK2_ok, appK2_err, appK3_ok, ev_a0, ev_aD, ev_aR, eaK1_ok, eaK1_err, eaK3_ok, eaK2_ok, eaK2_err, ev_call, callK_d1, callK_d2, callK_d3, callK_d4, callK_d5, callK_d6, callK_d7, callK_d8, callK_r0, callK_r1, callK_r2, callK_r3, callK_r4, callK_r5, callK_r6, callK_r7, callK_err, backK_ok, backK_err, slotOf_d, slotOf_r, putBack_d, putBack_r, putBack_nil, refs_nil, refs_d, refs_r, ev_run, endOf_nx, endOf_rt, endOf_err, maskL_t, maskL_f, maskL_nil, ev_for, forK_ok, forGo_nil, turnK_nx, turnK_ct, turnK_bk, turnK_rt, turnK_err, bind_ok, asItems_l, asItems_t, asItems_s, ev_name, ev_fnil, ev_fcons, ev_ftup, some_bind, ev_asgT, asgTK_ok, asgTK2_ok, ev_lc, lcK_ok, wipeL_nil, wipeL_cons, ev_yes, lcGo_nil, dLt_i, dLe_i, dGt_i, dGe_i, dEq_i, dEq_s, dEq_b, dNe_i, dNe_s, dIs_b, dSub_i, dLen_l, dLen_t, dList_l, dList_t, dSl_l, dNot_b, ty_n_bool, ty_n_int, ty_n_str, ty_n_list, ty_n_tuple, ty_b_bool, ty_b_int, ty_b_str, ty_b_list, ty_b_tuple, ty_i_bool, ty_i_int, ty_i_str, ty_i_list, ty_i_tuple, ty_s_bool, ty_s_int, ty_s_str, ty_s_list, ty_s_tuple, ty_l_bool, ty_l_int, ty_l_str, ty_l_list, ty_l_tuple, ty_t_bool, ty_t_int, ty_t_str, ty_t_list, ty_t_tuple, dIs_nn, dIs_in, dIs_bn, dIs_sn, dIs_ln, dIs_tn, dNe_b, ev_A, aK_ok, aK_err, dMin_ok, dMax_ok, asZip_l, asZip_t, ev_pop, popK1_ok, ev_cnt, cntK1_ok, cntK2_ok, dAdd_int, ofO_some, ofO_none, List.getElem?_cons_zero, List.getElem?_cons_succ, List.set_cons_zero, List.set_cons_succ, List.length_cons, List.length_nil, List.cons_append, List.nil_append, List.replicate_succ, List.replicate_zero, List.map_cons, List.map_nil, Option.join_some, List.append_nil, Nat.reduceAdd, Nat.reduceLT, Nat.reduceLeDiff, Nat.reduceSub, Nat.reduceEqDiff, if_true, if_false, decide_true, decide_false, Bool.false_eq_true, Bool.not_true, Bool.not_false, cut_all ns h, small_len (show 0 + 1 + 1 + 1 + 1 + 1 ≤ 1000000 by decide)]
  rfl
theorem src_start {ns : List Int} (h : ns.length ≤ 63) : Src (srcS ns 0 0 1 0) := ⟨ns, 0, 0, 1, 0, rfl, h, by omega, by omega, by omega, by omega, by omega⟩
end Lw

namespace Lw
open PySem PySem.Spec PyProof.Rows L2 VS
def g_law_whole : LS → R O := (gRet (gD (gAndV (gIsi "int" (gPeek 0)) (gUn dNot (gIsi "bool" (gPeek 0))))))
def m_law_whole : LS → R S := runDef [false] 1 g_law_whole
def m_law_same : Nat → LS → R S
  | 0 => fun _ => .stuck
  | k_ + 1 => runDef [false, false] 4 ((gSeq (gIf (gB (gOp dIs (gPeek 1) (gC .none))) (gRet (gD (gOp dIs (gPeek 0) (gC .none)))) gNext)
    (gSeq (gIf (gB (gIsi "bool" (gPeek 1))) (gRet (gD (gAndV (gIsi "bool" (gPeek 0)) (gOp dEq (gPeek 0) (gPeek 1))))) gNext)
    (gSeq (gIf (gB (gIsi "int" (gPeek 1))) (gRet (gD (gAndV (gFz (gCall Lw.m_law_whole [.d (gVar 0)])) (gOp dEq (gPeek 0) (gPeek 1))))) gNext)
    (gSeq (gIf (gB (gIsi "str" (gPeek 1))) (gRet (gD (gAndV (gIsi "str" (gPeek 0)) (gOp dEq (gPeek 0) (gPeek 1))))) gNext)
    (gSeq (gIf (gOr (gB (gOp dNe (gIsi "list" (gPeek 1)) (gIsi "list" (gPeek 0)))) (gB (gOp dNe (gIsi "tuple" (gPeek 1)) (gIsi "tuple" (gPeek 0))))) (gRet (gD (gC (.bool false)))) gNext)
    (gSeq (gIf (gB (gOp dNe (gUn dLen (gPeek 0)) (gUn dLen (gPeek 1)))) (gRet (gD (gC (.bool false)))) gNext)
    (gSeq (gFor (fun L => ((gCons (gVar 0) (gCons (gVar 1) gNil)) L).bind asZip) (fTup 2 (fCons (fName 2) (fCons (fName 3) fNil))) (gIf (gNot (gB (gFz (gCall (m_law_same k_) [.d (gVar 2), .d (gVar 3)])))) (gRet (gD (gC (.bool false)))) gNext))
    (gRet (gD (gC (.bool true))))))))))))
end Lw

namespace Lw
open PySem VS
def Pl : Nat → D → Prop
  | 0, _ => False
  | k + 1, d => match d with
    | .none => True
    | .bool _ => True
    | .int _ => True
    | .str _ => True
    | .list xs => ∀ x ∈ xs, Pl k x
    | .tuple xs => ∀ x ∈ xs, Pl k x
    | _ => False
theorem whole_int (i : Int) : m_law_whole [some (.d (.int i))] = .ok (.d (.bool true)) [none] := by
  unfold m_law_whole g_law_whole
  simp only [ev_seq, seqK_nx, seqK_rt, seqK_bk, seqK_ct, seqK_err, ev_next, ev_if, ifK_ok, ifK_err, ev_asg, asgK_ok, asgK_err, ev_ret, retK_ok, retK_err, ev_retN, ev_drop, dropK_ok, dropK_err, ev_c, ev_d, dK_ok, dK_err, ev_fz, fzK_d, fzK_l, fzK_err, ev_op, opK1_ok, opK1_err, opK2_ok, opK2_err, ev_un, unK_ok, unK_err, ev_isi, ev_b, bK_ok, bK_err, ev_and, andK_ok, andK_err, ev_or, orK_ok, orK_err, ev_not, notK_ok, ev_andV, andVK_ok, ev_orV, orVK_ok, ev_ifE, ifEK_ok, ev_nil, ev_cons, consK1_ok, consK1_err, consK2_ok, consK2_err, ev_lst, lstK_ok, ev_tup, tupK_ok, ev_var, varK_d, varK_l, ev_peek, peekK_d, peekK_l, peekK_s, ev_move, moveK_d, moveK_l, ev_ixP, ixK_ok, ixK1_ok, ixK1_err, ixK2_ok, dIx_nat, dIx_natT, dIx_l0, dIx_l1, dIx_l2, dIx_l3, dIx_l4, dIx_t0, dIx_t1, dIx_t2, dIx_t3, ev_setIx, setK0_ok, setK0_err, setK1_ok, setK2_ok, setK3_0, setK3_1, setK3_2, setK3_3, setK3_4, ev_sl, slK1_ok, slK2_ok, slK3_ok, ev_no, ev_so, soK_ok, soK_err, ev_join, joinK1_ok, joinK2_ok, ev_app, appK1_ok, appK2_ok, appK2_err, appK3_ok, ev_a0, ev_aD, ev_aR, eaK1_ok, eaK1_err, eaK3_ok, eaK2_ok, eaK2_err, ev_call, callK_d1, callK_d2, callK_d3, callK_d4, callK_d5, callK_d6, callK_d7, callK_d8, callK_r0, callK_r1, callK_r2, callK_r3, callK_r4, callK_r5, callK_r6, callK_r7, callK_err, backK_ok, backK_err, slotOf_d, slotOf_r, putBack_d, putBack_r, putBack_nil, refs_nil, refs_d, refs_r, ev_run, endOf_nx, endOf_rt, endOf_err, maskL_t, maskL_f, maskL_nil, ev_for, forK_ok, forGo_nil, turnK_nx, turnK_ct, turnK_bk, turnK_rt, turnK_err, bind_ok, asItems_l, asItems_t, asItems_s, ev_name, ev_fnil, ev_fcons, ev_ftup, some_bind, ev_asgT, asgTK_ok, asgTK2_ok, ev_lc, lcK_ok, wipeL_nil, wipeL_cons, ev_yes, lcGo_nil, dLt_i, dLe_i, dGt_i, dGe_i, dEq_i, dEq_s, dEq_b, dNe_i, dNe_s, dIs_b, dSub_i, dLen_l, dLen_t, dList_l, dList_t, dSl_l, dNot_b, ty_n_bool, ty_n_int, ty_n_str, ty_n_list, ty_n_tuple, ty_b_bool, ty_b_int, ty_b_str, ty_b_list, ty_b_tuple, ty_i_bool, ty_i_int, ty_i_str, ty_i_list, ty_i_tuple, ty_s_bool, ty_s_int, ty_s_str, ty_s_list, ty_s_tuple, ty_l_bool, ty_l_int, ty_l_str, ty_l_list, ty_l_tuple, ty_t_bool, ty_t_int, ty_t_str, ty_t_list, ty_t_tuple, dIs_nn, dIs_in, dIs_bn, dIs_sn, dIs_ln, dIs_tn, dNe_b, ev_A, aK_ok, aK_err, dMin_ok, dMax_ok, asZip_l, asZip_t, ev_pop, popK1_ok, ev_cnt, cntK1_ok, cntK2_ok, dAdd_int, ofO_some, ofO_none, List.getElem?_cons_zero, List.getElem?_cons_succ, List.set_cons_zero, List.set_cons_succ, List.length_cons, List.length_nil, List.cons_append, List.nil_append, List.replicate_succ, List.replicate_zero, List.map_cons, List.map_nil, Option.join_some, List.append_nil, Nat.reduceAdd, Nat.reduceLT, Nat.reduceLeDiff, Nat.reduceSub, Nat.reduceEqDiff, if_true, if_false, decide_true, decide_false, Bool.false_eq_true, Bool.not_true, Bool.not_false]
end Lw

namespace Lw
open PySem VS
noncomputable def eqb (d e : D) : Bool := @decide (d = e) (Classical.propDecidable _)
theorem eqb_iff {d e : D} : eqb d e = true ↔ d = e := by unfold eqb; exact @decide_eq_true_iff _ (Classical.propDecidable _)
theorem eqb_self (d : D) : eqb d d = true := eqb_iff.mpr rfl
theorem eqb_ne {d e : D} (h : d ≠ e) : eqb d e = false := by
  cases z : eqb d e with
  | false => rfl
  | true => exact absurd (eqb_iff.mp z) h
theorem whole_no {d : D} (h : ∀ i, d ≠ .int i) (h2 : ∀ i, d ≠ .dict i) : m_law_whole [some (.d d)] = .ok (.d (.bool false)) [none] := by
  unfold m_law_whole g_law_whole
  cases d with
  | int i => exact absurd rfl (h i)
  | dict i => exact absurd rfl (h2 i)
  | _ => simp only [ev_seq, seqK_nx, seqK_rt, seqK_bk, seqK_ct, seqK_err, ev_next, ev_if, ifK_ok, ifK_err, ev_asg, asgK_ok, asgK_err, ev_ret, retK_ok, retK_err, ev_retN, ev_drop, dropK_ok, dropK_err, ev_c, ev_d, dK_ok, dK_err, ev_fz, fzK_d, fzK_l, fzK_err, ev_op, opK1_ok, opK1_err, opK2_ok, opK2_err, ev_un, unK_ok, unK_err, ev_isi, ev_b, bK_ok, bK_err, ev_and, andK_ok, andK_err, ev_or, orK_ok, orK_err, ev_not, notK_ok, ev_andV, andVK_ok, ev_orV, orVK_ok, ev_ifE, ifEK_ok, ev_nil, ev_cons, consK1_ok, consK1_err, consK2_ok, consK2_err, ev_lst, lstK_ok, ev_tup, tupK_ok, ev_var, varK_d, varK_l, ev_peek, peekK_d, peekK_l, peekK_s, ev_move, moveK_d, moveK_l, ev_ixP, ixK_ok, ixK1_ok, ixK1_err, ixK2_ok, dIx_nat, dIx_natT, dIx_l0, dIx_l1, dIx_l2, dIx_l3, dIx_l4, dIx_t0, dIx_t1, dIx_t2, dIx_t3, ev_setIx, setK0_ok, setK0_err, setK1_ok, setK2_ok, setK3_0, setK3_1, setK3_2, setK3_3, setK3_4, ev_sl, slK1_ok, slK2_ok, slK3_ok, ev_no, ev_so, soK_ok, soK_err, ev_join, joinK1_ok, joinK2_ok, ev_app, appK1_ok, appK2_ok, appK2_err, appK3_ok, ev_a0, ev_aD, ev_aR, eaK1_ok, eaK1_err, eaK3_ok, eaK2_ok, eaK2_err, ev_call, callK_d1, callK_d2, callK_d3, callK_d4, callK_d5, callK_d6, callK_d7, callK_d8, callK_r0, callK_r1, callK_r2, callK_r3, callK_r4, callK_r5, callK_r6, callK_r7, callK_err, backK_ok, backK_err, slotOf_d, slotOf_r, putBack_d, putBack_r, putBack_nil, refs_nil, refs_d, refs_r, ev_run, endOf_nx, endOf_rt, endOf_err, maskL_t, maskL_f, maskL_nil, ev_for, forK_ok, forGo_nil, turnK_nx, turnK_ct, turnK_bk, turnK_rt, turnK_err, bind_ok, asItems_l, asItems_t, asItems_s, ev_name, ev_fnil, ev_fcons, ev_ftup, some_bind, ev_asgT, asgTK_ok, asgTK2_ok, ev_lc, lcK_ok, wipeL_nil, wipeL_cons, ev_yes, lcGo_nil, dLt_i, dLe_i, dGt_i, dGe_i, dEq_i, dEq_s, dEq_b, dNe_i, dNe_s, dIs_b, dSub_i, dLen_l, dLen_t, dList_l, dList_t, dSl_l, dNot_b, ty_n_bool, ty_n_int, ty_n_str, ty_n_list, ty_n_tuple, ty_b_bool, ty_b_int, ty_b_str, ty_b_list, ty_b_tuple, ty_i_bool, ty_i_int, ty_i_str, ty_i_list, ty_i_tuple, ty_s_bool, ty_s_int, ty_s_str, ty_s_list, ty_s_tuple, ty_l_bool, ty_l_int, ty_l_str, ty_l_list, ty_l_tuple, ty_t_bool, ty_t_int, ty_t_str, ty_t_list, ty_t_tuple, dIs_nn, dIs_in, dIs_bn, dIs_sn, dIs_ln, dIs_tn, dNe_b, ev_A, aK_ok, aK_err, dMin_ok, dMax_ok, asZip_l, asZip_t, ev_pop, popK1_ok, ev_cnt, cntK1_ok, cntK2_ok, dAdd_int, ofO_some, ofO_none, List.getElem?_cons_zero, List.getElem?_cons_succ, List.set_cons_zero, List.set_cons_succ, List.length_cons, List.length_nil, List.cons_append, List.nil_append, List.replicate_succ, List.replicate_zero, List.map_cons, List.map_nil, Option.join_some, List.append_nil, Nat.reduceAdd, Nat.reduceLT, Nat.reduceLeDiff, Nat.reduceSub, Nat.reduceEqDiff, if_true, if_false, decide_true, decide_false, Bool.false_eq_true, Bool.not_true, Bool.not_false]
theorem same_go2 {m : LS → R S} {d0 d1 : Option S} : ∀ (zs : List (D × D)) (o2 o3 : Option S), (∀ z ∈ zs, m [some (.d z.1), some (.d z.2)] = .ok (.d (.bool (eqb z.1 z.2))) [none, none]) →
    ∃ o2' o3', forGo (fTup 2 (fCons (fName 2) (fCons (fName 3) fNil))) (gIf (gNot (gB (gFz (gCall m [.d (gVar 2), .d (gVar 3)])))) (gRet (gD (gC (.bool false)))) gNext) (zs.map fun z => .tuple [z.1, z.2]) [d0, d1, o2, o3] = .ok (if (zs.all fun z => eqb z.1 z.2) = true then .nx else .rt (.d (.bool false))) [d0, d1, o2', o3']
  | [], o2, o3, _ => ⟨o2, o3, by rw [List.map_nil, forGo_nil]; rfl⟩
  | z :: zs, o2, o3, h => by
    rw [List.map_cons, forGo_cons (L1 := [d0, d1, some (.d z.1), some (.d z.2)]) _ _ _ _ rfl, List.all_cons]
    have hx := h z List.mem_cons_self
    cases hz : eqb z.1 z.2 with
    | true =>
      obtain ⟨o2', o3', e⟩ := same_go2 (m := m) (d0 := d0) (d1 := d1) zs (some (.d z.1)) (some (.d z.2)) fun y hy => h y (List.mem_cons_of_mem _ hy)
      refine ⟨o2', o3', ?_⟩
      rw [hz] at hx
      have step : gIf (gNot (gB (gFz (gCall m [.d (gVar 2), .d (gVar 3)])))) (gRet (gD (gC (.bool false)))) gNext [d0, d1, some (.d z.1), some (.d z.2)] = .ok .nx [d0, d1, some (.d z.1), some (.d z.2)] := by
        simp only [ev_seq, seqK_nx, seqK_rt, seqK_bk, seqK_ct, seqK_err, ev_next, ev_if, ifK_ok, ifK_err, ev_asg, asgK_ok, asgK_err, ev_ret, retK_ok, retK_err, ev_retN, ev_drop, dropK_ok, dropK_err, ev_c, ev_d, dK_ok, dK_err, ev_fz, fzK_d, fzK_l, fzK_err, ev_op, opK1_ok, opK1_err, opK2_ok, opK2_err, ev_un, unK_ok, unK_err, ev_isi, ev_b, bK_ok, bK_err, ev_and, andK_ok, andK_err, ev_or, orK_ok, orK_err, ev_not, notK_ok, ev_andV, andVK_ok, ev_orV, orVK_ok, ev_ifE, ifEK_ok, ev_nil, ev_cons, consK1_ok, consK1_err, consK2_ok, consK2_err, ev_lst, lstK_ok, ev_tup, tupK_ok, ev_var, varK_d, varK_l, ev_peek, peekK_d, peekK_l, peekK_s, ev_move, moveK_d, moveK_l, ev_ixP, ixK_ok, ixK1_ok, ixK1_err, ixK2_ok, dIx_nat, dIx_natT, dIx_l0, dIx_l1, dIx_l2, dIx_l3, dIx_l4, dIx_t0, dIx_t1, dIx_t2, dIx_t3, ev_setIx, setK0_ok, setK0_err, setK1_ok, setK2_ok, setK3_0, setK3_1, setK3_2, setK3_3, setK3_4, ev_sl, slK1_ok, slK2_ok, slK3_ok, ev_no, ev_so, soK_ok, soK_err, ev_join, joinK1_ok, joinK2_ok, ev_app, appK1_ok, appK2_ok, appK2_err, appK3_ok, ev_a0, ev_aD, ev_aR, eaK1_ok, eaK1_err, eaK3_ok, eaK2_ok, eaK2_err, ev_call, callK_d1, callK_d2, callK_d3, callK_d4, callK_d5, callK_d6, callK_d7, callK_d8, callK_r0, callK_r1, callK_r2, callK_r3, callK_r4, callK_r5, callK_r6, callK_r7, callK_err, backK_ok, backK_err, slotOf_d, slotOf_r, putBack_d, putBack_r, putBack_nil, refs_nil, refs_d, refs_r, ev_run, endOf_nx, endOf_rt, endOf_err, maskL_t, maskL_f, maskL_nil, ev_for, forK_ok, forGo_nil, turnK_nx, turnK_ct, turnK_bk, turnK_rt, turnK_err, bind_ok, asItems_l, asItems_t, asItems_s, ev_name, ev_fnil, ev_fcons, ev_ftup, some_bind, ev_asgT, asgTK_ok, asgTK2_ok, ev_lc, lcK_ok, wipeL_nil, wipeL_cons, ev_yes, lcGo_nil, dLt_i, dLe_i, dGt_i, dGe_i, dEq_i, dEq_s, dEq_b, dNe_i, dNe_s, dIs_b, dSub_i, dLen_l, dLen_t, dList_l, dList_t, dSl_l, dNot_b, ty_n_bool, ty_n_int, ty_n_str, ty_n_list, ty_n_tuple, ty_b_bool, ty_b_int, ty_b_str, ty_b_list, ty_b_tuple, ty_i_bool, ty_i_int, ty_i_str, ty_i_list, ty_i_tuple, ty_s_bool, ty_s_int, ty_s_str, ty_s_list, ty_s_tuple, ty_l_bool, ty_l_int, ty_l_str, ty_l_list, ty_l_tuple, ty_t_bool, ty_t_int, ty_t_str, ty_t_list, ty_t_tuple, dIs_nn, dIs_in, dIs_bn, dIs_sn, dIs_ln, dIs_tn, dNe_b, ev_A, aK_ok, aK_err, dMin_ok, dMax_ok, asZip_l, asZip_t, ev_pop, popK1_ok, ev_cnt, cntK1_ok, cntK2_ok, dAdd_int, ofO_some, ofO_none, List.getElem?_cons_zero, List.getElem?_cons_succ, List.set_cons_zero, List.set_cons_succ, List.length_cons, List.length_nil, List.cons_append, List.nil_append, List.replicate_succ, List.replicate_zero, List.map_cons, List.map_nil, Option.join_some, List.append_nil, Nat.reduceAdd, Nat.reduceLT, Nat.reduceLeDiff, Nat.reduceSub, Nat.reduceEqDiff, if_true, if_false, decide_true, decide_false, Bool.false_eq_true, Bool.not_true, Bool.not_false, hx]
      rw [step, turnK_nx, e, Bool.true_and]
    | false =>
      refine ⟨some (.d z.1), some (.d z.2), ?_⟩
      rw [hz] at hx
      have step : gIf (gNot (gB (gFz (gCall m [.d (gVar 2), .d (gVar 3)])))) (gRet (gD (gC (.bool false)))) gNext [d0, d1, some (.d z.1), some (.d z.2)] = .ok (.rt (.d (.bool false))) [d0, d1, some (.d z.1), some (.d z.2)] := by
        simp only [ev_seq, seqK_nx, seqK_rt, seqK_bk, seqK_ct, seqK_err, ev_next, ev_if, ifK_ok, ifK_err, ev_asg, asgK_ok, asgK_err, ev_ret, retK_ok, retK_err, ev_retN, ev_drop, dropK_ok, dropK_err, ev_c, ev_d, dK_ok, dK_err, ev_fz, fzK_d, fzK_l, fzK_err, ev_op, opK1_ok, opK1_err, opK2_ok, opK2_err, ev_un, unK_ok, unK_err, ev_isi, ev_b, bK_ok, bK_err, ev_and, andK_ok, andK_err, ev_or, orK_ok, orK_err, ev_not, notK_ok, ev_andV, andVK_ok, ev_orV, orVK_ok, ev_ifE, ifEK_ok, ev_nil, ev_cons, consK1_ok, consK1_err, consK2_ok, consK2_err, ev_lst, lstK_ok, ev_tup, tupK_ok, ev_var, varK_d, varK_l, ev_peek, peekK_d, peekK_l, peekK_s, ev_move, moveK_d, moveK_l, ev_ixP, ixK_ok, ixK1_ok, ixK1_err, ixK2_ok, dIx_nat, dIx_natT, dIx_l0, dIx_l1, dIx_l2, dIx_l3, dIx_l4, dIx_t0, dIx_t1, dIx_t2, dIx_t3, ev_setIx, setK0_ok, setK0_err, setK1_ok, setK2_ok, setK3_0, setK3_1, setK3_2, setK3_3, setK3_4, ev_sl, slK1_ok, slK2_ok, slK3_ok, ev_no, ev_so, soK_ok, soK_err, ev_join, joinK1_ok, joinK2_ok, ev_app, appK1_ok, appK2_ok, appK2_err, appK3_ok, ev_a0, ev_aD, ev_aR, eaK1_ok, eaK1_err, eaK3_ok, eaK2_ok, eaK2_err, ev_call, callK_d1, callK_d2, callK_d3, callK_d4, callK_d5, callK_d6, callK_d7, callK_d8, callK_r0, callK_r1, callK_r2, callK_r3, callK_r4, callK_r5, callK_r6, callK_r7, callK_err, backK_ok, backK_err, slotOf_d, slotOf_r, putBack_d, putBack_r, putBack_nil, refs_nil, refs_d, refs_r, ev_run, endOf_nx, endOf_rt, endOf_err, maskL_t, maskL_f, maskL_nil, ev_for, forK_ok, forGo_nil, turnK_nx, turnK_ct, turnK_bk, turnK_rt, turnK_err, bind_ok, asItems_l, asItems_t, asItems_s, ev_name, ev_fnil, ev_fcons, ev_ftup, some_bind, ev_asgT, asgTK_ok, asgTK2_ok, ev_lc, lcK_ok, wipeL_nil, wipeL_cons, ev_yes, lcGo_nil, dLt_i, dLe_i, dGt_i, dGe_i, dEq_i, dEq_s, dEq_b, dNe_i, dNe_s, dIs_b, dSub_i, dLen_l, dLen_t, dList_l, dList_t, dSl_l, dNot_b, ty_n_bool, ty_n_int, ty_n_str, ty_n_list, ty_n_tuple, ty_b_bool, ty_b_int, ty_b_str, ty_b_list, ty_b_tuple, ty_i_bool, ty_i_int, ty_i_str, ty_i_list, ty_i_tuple, ty_s_bool, ty_s_int, ty_s_str, ty_s_list, ty_s_tuple, ty_l_bool, ty_l_int, ty_l_str, ty_l_list, ty_l_tuple, ty_t_bool, ty_t_int, ty_t_str, ty_t_list, ty_t_tuple, dIs_nn, dIs_in, dIs_bn, dIs_sn, dIs_ln, dIs_tn, dNe_b, ev_A, aK_ok, aK_err, dMin_ok, dMax_ok, asZip_l, asZip_t, ev_pop, popK1_ok, ev_cnt, cntK1_ok, cntK2_ok, dAdd_int, ofO_some, ofO_none, List.getElem?_cons_zero, List.getElem?_cons_succ, List.set_cons_zero, List.set_cons_succ, List.length_cons, List.length_nil, List.cons_append, List.nil_append, List.replicate_succ, List.replicate_zero, List.map_cons, List.map_nil, Option.join_some, List.append_nil, Nat.reduceAdd, Nat.reduceLT, Nat.reduceLeDiff, Nat.reduceSub, Nat.reduceEqDiff, if_true, if_false, decide_true, decide_false, Bool.false_eq_true, Bool.not_true, Bool.not_false, hx]
      rw [step]
      rfl
theorem zipD_zip (xs ys : List D) : zipD xs ys = (xs.zip ys).map fun z => .tuple [z.1, z.2] := rfl
theorem zip_all : ∀ {xs ys : List D}, xs.length = ys.length → (((xs.zip ys).all fun z => eqb z.1 z.2) = true ↔ xs = ys)
  | [], [], _ => by simp
  | [], _ :: _, h => by cases h
  | _ :: _, [], h => by cases h
  | x :: xs, y :: ys, h => by
    rw [List.zip_cons_cons, List.all_cons, Bool.and_eq_true, eqb_iff, zip_all (xs := xs) (ys := ys) (by simpa using h)]
    simp
theorem tfd : (!decide ((true : Bool) = false)) = true := rfl
theorem ftd : (!decide ((false : Bool) = true)) = true := rfl
theorem same_ok2 : ∀ (k : Nat) (d e : D), Pl k d → Pl k e → m_law_same k [some (.d d), some (.d e)] = .ok (.d (.bool (eqb d e))) [none, none]
  | 0, _, _, h, _ => h.elim
  | k + 1, d, e, h, h' => by
    rw [m_law_same]
    cases e with
    | none =>
      cases d with
      | none => rw [eqb_self]; simp only [ev_seq, seqK_nx, seqK_rt, seqK_bk, seqK_ct, seqK_err, ev_next, ev_if, ifK_ok, ifK_err, ev_asg, asgK_ok, asgK_err, ev_ret, retK_ok, retK_err, ev_retN, ev_drop, dropK_ok, dropK_err, ev_c, ev_d, dK_ok, dK_err, ev_fz, fzK_d, fzK_l, fzK_err, ev_op, opK1_ok, opK1_err, opK2_ok, opK2_err, ev_un, unK_ok, unK_err, ev_isi, ev_b, bK_ok, bK_err, ev_and, andK_ok, andK_err, ev_or, orK_ok, orK_err, ev_not, notK_ok, ev_andV, andVK_ok, ev_orV, orVK_ok, ev_ifE, ifEK_ok, ev_nil, ev_cons, consK1_ok, consK1_err, consK2_ok, consK2_err, ev_lst, lstK_ok, ev_tup, tupK_ok, ev_var, varK_d, varK_l, ev_peek, peekK_d, peekK_l, peekK_s, ev_move, moveK_d, moveK_l, ev_ixP, ixK_ok, ixK1_ok, ixK1_err, ixK2_ok, dIx_nat, dIx_natT, dIx_l0, dIx_l1, dIx_l2, dIx_l3, dIx_l4, dIx_t0, dIx_t1, dIx_t2, dIx_t3, ev_setIx, setK0_ok, setK0_err, setK1_ok, setK2_ok, setK3_0, setK3_1, setK3_2, setK3_3, setK3_4, ev_sl, slK1_ok, slK2_ok, slK3_ok, ev_no, ev_so, soK_ok, soK_err, ev_join, joinK1_ok, joinK2_ok, ev_app, appK1_ok, appK2_ok, appK2_err, appK3_ok, ev_a0, ev_aD, ev_aR, eaK1_ok, eaK1_err, eaK3_ok, eaK2_ok, eaK2_err, ev_call, callK_d1, callK_d2, callK_d3, callK_d4, callK_d5, callK_d6, callK_d7, callK_d8, callK_r0, callK_r1, callK_r2, callK_r3, callK_r4, callK_r5, callK_r6, callK_r7, callK_err, backK_ok, backK_err, slotOf_d, slotOf_r, putBack_d, putBack_r, putBack_nil, refs_nil, refs_d, refs_r, ev_run, endOf_nx, endOf_rt, endOf_err, maskL_t, maskL_f, maskL_nil, ev_for, forK_ok, forGo_nil, turnK_nx, turnK_ct, turnK_bk, turnK_rt, turnK_err, bind_ok, asItems_l, asItems_t, asItems_s, ev_name, ev_fnil, ev_fcons, ev_ftup, some_bind, ev_asgT, asgTK_ok, asgTK2_ok, ev_lc, lcK_ok, wipeL_nil, wipeL_cons, ev_yes, lcGo_nil, dLt_i, dLe_i, dGt_i, dGe_i, dEq_i, dEq_s, dEq_b, dNe_i, dNe_s, dIs_b, dSub_i, dLen_l, dLen_t, dList_l, dList_t, dSl_l, dNot_b, ty_n_bool, ty_n_int, ty_n_str, ty_n_list, ty_n_tuple, ty_b_bool, ty_b_int, ty_b_str, ty_b_list, ty_b_tuple, ty_i_bool, ty_i_int, ty_i_str, ty_i_list, ty_i_tuple, ty_s_bool, ty_s_int, ty_s_str, ty_s_list, ty_s_tuple, ty_l_bool, ty_l_int, ty_l_str, ty_l_list, ty_l_tuple, ty_t_bool, ty_t_int, ty_t_str, ty_t_list, ty_t_tuple, dIs_nn, dIs_in, dIs_bn, dIs_sn, dIs_ln, dIs_tn, dNe_b, ev_A, aK_ok, aK_err, dMin_ok, dMax_ok, asZip_l, asZip_t, ev_pop, popK1_ok, ev_cnt, cntK1_ok, cntK2_ok, dAdd_int, ofO_some, ofO_none, List.getElem?_cons_zero, List.getElem?_cons_succ, List.set_cons_zero, List.set_cons_succ, List.length_cons, List.length_nil, List.cons_append, List.nil_append, List.replicate_succ, List.replicate_zero, List.map_cons, List.map_nil, Option.join_some, List.append_nil, Nat.reduceAdd, Nat.reduceLT, Nat.reduceLeDiff, Nat.reduceSub, Nat.reduceEqDiff, if_true, if_false, decide_true, decide_false, Bool.false_eq_true, Bool.not_true, Bool.not_false]
      | dict x => exact h.elim
      | _ => rw [eqb_ne (by intro z; cases z)]; simp only [ev_seq, seqK_nx, seqK_rt, seqK_bk, seqK_ct, seqK_err, ev_next, ev_if, ifK_ok, ifK_err, ev_asg, asgK_ok, asgK_err, ev_ret, retK_ok, retK_err, ev_retN, ev_drop, dropK_ok, dropK_err, ev_c, ev_d, dK_ok, dK_err, ev_fz, fzK_d, fzK_l, fzK_err, ev_op, opK1_ok, opK1_err, opK2_ok, opK2_err, ev_un, unK_ok, unK_err, ev_isi, ev_b, bK_ok, bK_err, ev_and, andK_ok, andK_err, ev_or, orK_ok, orK_err, ev_not, notK_ok, ev_andV, andVK_ok, ev_orV, orVK_ok, ev_ifE, ifEK_ok, ev_nil, ev_cons, consK1_ok, consK1_err, consK2_ok, consK2_err, ev_lst, lstK_ok, ev_tup, tupK_ok, ev_var, varK_d, varK_l, ev_peek, peekK_d, peekK_l, peekK_s, ev_move, moveK_d, moveK_l, ev_ixP, ixK_ok, ixK1_ok, ixK1_err, ixK2_ok, dIx_nat, dIx_natT, dIx_l0, dIx_l1, dIx_l2, dIx_l3, dIx_l4, dIx_t0, dIx_t1, dIx_t2, dIx_t3, ev_setIx, setK0_ok, setK0_err, setK1_ok, setK2_ok, setK3_0, setK3_1, setK3_2, setK3_3, setK3_4, ev_sl, slK1_ok, slK2_ok, slK3_ok, ev_no, ev_so, soK_ok, soK_err, ev_join, joinK1_ok, joinK2_ok, ev_app, appK1_ok, appK2_ok, appK2_err, appK3_ok, ev_a0, ev_aD, ev_aR, eaK1_ok, eaK1_err, eaK3_ok, eaK2_ok, eaK2_err, ev_call, callK_d1, callK_d2, callK_d3, callK_d4, callK_d5, callK_d6, callK_d7, callK_d8, callK_r0, callK_r1, callK_r2, callK_r3, callK_r4, callK_r5, callK_r6, callK_r7, callK_err, backK_ok, backK_err, slotOf_d, slotOf_r, putBack_d, putBack_r, putBack_nil, refs_nil, refs_d, refs_r, ev_run, endOf_nx, endOf_rt, endOf_err, maskL_t, maskL_f, maskL_nil, ev_for, forK_ok, forGo_nil, turnK_nx, turnK_ct, turnK_bk, turnK_rt, turnK_err, bind_ok, asItems_l, asItems_t, asItems_s, ev_name, ev_fnil, ev_fcons, ev_ftup, some_bind, ev_asgT, asgTK_ok, asgTK2_ok, ev_lc, lcK_ok, wipeL_nil, wipeL_cons, ev_yes, lcGo_nil, dLt_i, dLe_i, dGt_i, dGe_i, dEq_i, dEq_s, dEq_b, dNe_i, dNe_s, dIs_b, dSub_i, dLen_l, dLen_t, dList_l, dList_t, dSl_l, dNot_b, ty_n_bool, ty_n_int, ty_n_str, ty_n_list, ty_n_tuple, ty_b_bool, ty_b_int, ty_b_str, ty_b_list, ty_b_tuple, ty_i_bool, ty_i_int, ty_i_str, ty_i_list, ty_i_tuple, ty_s_bool, ty_s_int, ty_s_str, ty_s_list, ty_s_tuple, ty_l_bool, ty_l_int, ty_l_str, ty_l_list, ty_l_tuple, ty_t_bool, ty_t_int, ty_t_str, ty_t_list, ty_t_tuple, dIs_nn, dIs_in, dIs_bn, dIs_sn, dIs_ln, dIs_tn, dNe_b, ev_A, aK_ok, aK_err, dMin_ok, dMax_ok, asZip_l, asZip_t, ev_pop, popK1_ok, ev_cnt, cntK1_ok, cntK2_ok, dAdd_int, ofO_some, ofO_none, List.getElem?_cons_zero, List.getElem?_cons_succ, List.set_cons_zero, List.set_cons_succ, List.length_cons, List.length_nil, List.cons_append, List.nil_append, List.replicate_succ, List.replicate_zero, List.map_cons, List.map_nil, Option.join_some, List.append_nil, Nat.reduceAdd, Nat.reduceLT, Nat.reduceLeDiff, Nat.reduceSub, Nat.reduceEqDiff, if_true, if_false, decide_true, decide_false, Bool.false_eq_true, Bool.not_true, Bool.not_false]
    | bool b =>
      cases d with
      | bool c =>
        have : eqb (.bool c) (.bool b) = decide (c = b) := by
          by_cases z : c = b
          · rw [z, eqb_self]; simp
          · rw [eqb_ne (fun q => z (by cases q; rfl))]; simp [z]
        rw [this]
        simp only [ev_seq, seqK_nx, seqK_rt, seqK_bk, seqK_ct, seqK_err, ev_next, ev_if, ifK_ok, ifK_err, ev_asg, asgK_ok, asgK_err, ev_ret, retK_ok, retK_err, ev_retN, ev_drop, dropK_ok, dropK_err, ev_c, ev_d, dK_ok, dK_err, ev_fz, fzK_d, fzK_l, fzK_err, ev_op, opK1_ok, opK1_err, opK2_ok, opK2_err, ev_un, unK_ok, unK_err, ev_isi, ev_b, bK_ok, bK_err, ev_and, andK_ok, andK_err, ev_or, orK_ok, orK_err, ev_not, notK_ok, ev_andV, andVK_ok, ev_orV, orVK_ok, ev_ifE, ifEK_ok, ev_nil, ev_cons, consK1_ok, consK1_err, consK2_ok, consK2_err, ev_lst, lstK_ok, ev_tup, tupK_ok, ev_var, varK_d, varK_l, ev_peek, peekK_d, peekK_l, peekK_s, ev_move, moveK_d, moveK_l, ev_ixP, ixK_ok, ixK1_ok, ixK1_err, ixK2_ok, dIx_nat, dIx_natT, dIx_l0, dIx_l1, dIx_l2, dIx_l3, dIx_l4, dIx_t0, dIx_t1, dIx_t2, dIx_t3, ev_setIx, setK0_ok, setK0_err, setK1_ok, setK2_ok, setK3_0, setK3_1, setK3_2, setK3_3, setK3_4, ev_sl, slK1_ok, slK2_ok, slK3_ok, ev_no, ev_so, soK_ok, soK_err, ev_join, joinK1_ok, joinK2_ok, ev_app, appK1_ok, appK2_ok, appK2_err, appK3_ok, ev_a0, ev_aD, ev_aR, eaK1_ok, eaK1_err, eaK3_ok, eaK2_ok, eaK2_err, ev_call, callK_d1, callK_d2, callK_d3, callK_d4, callK_d5, callK_d6, callK_d7, callK_d8, callK_r0, callK_r1, callK_r2, callK_r3, callK_r4, callK_r5, callK_r6, callK_r7, callK_err, backK_ok, backK_err, slotOf_d, slotOf_r, putBack_d, putBack_r, putBack_nil, refs_nil, refs_d, refs_r, ev_run, endOf_nx, endOf_rt, endOf_err, maskL_t, maskL_f, maskL_nil, ev_for, forK_ok, forGo_nil, turnK_nx, turnK_ct, turnK_bk, turnK_rt, turnK_err, bind_ok, asItems_l, asItems_t, asItems_s, ev_name, ev_fnil, ev_fcons, ev_ftup, some_bind, ev_asgT, asgTK_ok, asgTK2_ok, ev_lc, lcK_ok, wipeL_nil, wipeL_cons, ev_yes, lcGo_nil, dLt_i, dLe_i, dGt_i, dGe_i, dEq_i, dEq_s, dEq_b, dNe_i, dNe_s, dIs_b, dSub_i, dLen_l, dLen_t, dList_l, dList_t, dSl_l, dNot_b, ty_n_bool, ty_n_int, ty_n_str, ty_n_list, ty_n_tuple, ty_b_bool, ty_b_int, ty_b_str, ty_b_list, ty_b_tuple, ty_i_bool, ty_i_int, ty_i_str, ty_i_list, ty_i_tuple, ty_s_bool, ty_s_int, ty_s_str, ty_s_list, ty_s_tuple, ty_l_bool, ty_l_int, ty_l_str, ty_l_list, ty_l_tuple, ty_t_bool, ty_t_int, ty_t_str, ty_t_list, ty_t_tuple, dIs_nn, dIs_in, dIs_bn, dIs_sn, dIs_ln, dIs_tn, dNe_b, ev_A, aK_ok, aK_err, dMin_ok, dMax_ok, asZip_l, asZip_t, ev_pop, popK1_ok, ev_cnt, cntK1_ok, cntK2_ok, dAdd_int, ofO_some, ofO_none, List.getElem?_cons_zero, List.getElem?_cons_succ, List.set_cons_zero, List.set_cons_succ, List.length_cons, List.length_nil, List.cons_append, List.nil_append, List.replicate_succ, List.replicate_zero, List.map_cons, List.map_nil, Option.join_some, List.append_nil, Nat.reduceAdd, Nat.reduceLT, Nat.reduceLeDiff, Nat.reduceSub, Nat.reduceEqDiff, if_true, if_false, decide_true, decide_false, Bool.false_eq_true, Bool.not_true, Bool.not_false]
      | dict x => exact h.elim
      | _ => rw [eqb_ne (by intro z; cases z)]; simp only [ev_seq, seqK_nx, seqK_rt, seqK_bk, seqK_ct, seqK_err, ev_next, ev_if, ifK_ok, ifK_err, ev_asg, asgK_ok, asgK_err, ev_ret, retK_ok, retK_err, ev_retN, ev_drop, dropK_ok, dropK_err, ev_c, ev_d, dK_ok, dK_err, ev_fz, fzK_d, fzK_l, fzK_err, ev_op, opK1_ok, opK1_err, opK2_ok, opK2_err, ev_un, unK_ok, unK_err, ev_isi, ev_b, bK_ok, bK_err, ev_and, andK_ok, andK_err, ev_or, orK_ok, orK_err, ev_not, notK_ok, ev_andV, andVK_ok, ev_orV, orVK_ok, ev_ifE, ifEK_ok, ev_nil, ev_cons, consK1_ok, consK1_err, consK2_ok, consK2_err, ev_lst, lstK_ok, ev_tup, tupK_ok, ev_var, varK_d, varK_l, ev_peek, peekK_d, peekK_l, peekK_s, ev_move, moveK_d, moveK_l, ev_ixP, ixK_ok, ixK1_ok, ixK1_err, ixK2_ok, dIx_nat, dIx_natT, dIx_l0, dIx_l1, dIx_l2, dIx_l3, dIx_l4, dIx_t0, dIx_t1, dIx_t2, dIx_t3, ev_setIx, setK0_ok, setK0_err, setK1_ok, setK2_ok, setK3_0, setK3_1, setK3_2, setK3_3, setK3_4, ev_sl, slK1_ok, slK2_ok, slK3_ok, ev_no, ev_so, soK_ok, soK_err, ev_join, joinK1_ok, joinK2_ok, ev_app, appK1_ok, appK2_ok, appK2_err, appK3_ok, ev_a0, ev_aD, ev_aR, eaK1_ok, eaK1_err, eaK3_ok, eaK2_ok, eaK2_err, ev_call, callK_d1, callK_d2, callK_d3, callK_d4, callK_d5, callK_d6, callK_d7, callK_d8, callK_r0, callK_r1, callK_r2, callK_r3, callK_r4, callK_r5, callK_r6, callK_r7, callK_err, backK_ok, backK_err, slotOf_d, slotOf_r, putBack_d, putBack_r, putBack_nil, refs_nil, refs_d, refs_r, ev_run, endOf_nx, endOf_rt, endOf_err, maskL_t, maskL_f, maskL_nil, ev_for, forK_ok, forGo_nil, turnK_nx, turnK_ct, turnK_bk, turnK_rt, turnK_err, bind_ok, asItems_l, asItems_t, asItems_s, ev_name, ev_fnil, ev_fcons, ev_ftup, some_bind, ev_asgT, asgTK_ok, asgTK2_ok, ev_lc, lcK_ok, wipeL_nil, wipeL_cons, ev_yes, lcGo_nil, dLt_i, dLe_i, dGt_i, dGe_i, dEq_i, dEq_s, dEq_b, dNe_i, dNe_s, dIs_b, dSub_i, dLen_l, dLen_t, dList_l, dList_t, dSl_l, dNot_b, ty_n_bool, ty_n_int, ty_n_str, ty_n_list, ty_n_tuple, ty_b_bool, ty_b_int, ty_b_str, ty_b_list, ty_b_tuple, ty_i_bool, ty_i_int, ty_i_str, ty_i_list, ty_i_tuple, ty_s_bool, ty_s_int, ty_s_str, ty_s_list, ty_s_tuple, ty_l_bool, ty_l_int, ty_l_str, ty_l_list, ty_l_tuple, ty_t_bool, ty_t_int, ty_t_str, ty_t_list, ty_t_tuple, dIs_nn, dIs_in, dIs_bn, dIs_sn, dIs_ln, dIs_tn, dNe_b, ev_A, aK_ok, aK_err, dMin_ok, dMax_ok, asZip_l, asZip_t, ev_pop, popK1_ok, ev_cnt, cntK1_ok, cntK2_ok, dAdd_int, ofO_some, ofO_none, List.getElem?_cons_zero, List.getElem?_cons_succ, List.set_cons_zero, List.set_cons_succ, List.length_cons, List.length_nil, List.cons_append, List.nil_append, List.replicate_succ, List.replicate_zero, List.map_cons, List.map_nil, Option.join_some, List.append_nil, Nat.reduceAdd, Nat.reduceLT, Nat.reduceLeDiff, Nat.reduceSub, Nat.reduceEqDiff, if_true, if_false, decide_true, decide_false, Bool.false_eq_true, Bool.not_true, Bool.not_false]
    | int i =>
      cases d with
      | int j =>
        have : eqb (.int j) (.int i) = decide (j = i) := by
          by_cases z : j = i
          · rw [z, eqb_self]; simp
          · rw [eqb_ne (fun q => z (by cases q; rfl))]; simp [z]
        rw [this]
        simp only [ev_seq, seqK_nx, seqK_rt, seqK_bk, seqK_ct, seqK_err, ev_next, ev_if, ifK_ok, ifK_err, ev_asg, asgK_ok, asgK_err, ev_ret, retK_ok, retK_err, ev_retN, ev_drop, dropK_ok, dropK_err, ev_c, ev_d, dK_ok, dK_err, ev_fz, fzK_d, fzK_l, fzK_err, ev_op, opK1_ok, opK1_err, opK2_ok, opK2_err, ev_un, unK_ok, unK_err, ev_isi, ev_b, bK_ok, bK_err, ev_and, andK_ok, andK_err, ev_or, orK_ok, orK_err, ev_not, notK_ok, ev_andV, andVK_ok, ev_orV, orVK_ok, ev_ifE, ifEK_ok, ev_nil, ev_cons, consK1_ok, consK1_err, consK2_ok, consK2_err, ev_lst, lstK_ok, ev_tup, tupK_ok, ev_var, varK_d, varK_l, ev_peek, peekK_d, peekK_l, peekK_s, ev_move, moveK_d, moveK_l, ev_ixP, ixK_ok, ixK1_ok, ixK1_err, ixK2_ok, dIx_nat, dIx_natT, dIx_l0, dIx_l1, dIx_l2, dIx_l3, dIx_l4, dIx_t0, dIx_t1, dIx_t2, dIx_t3, ev_setIx, setK0_ok, setK0_err, setK1_ok, setK2_ok, setK3_0, setK3_1, setK3_2, setK3_3, setK3_4, ev_sl, slK1_ok, slK2_ok, slK3_ok, ev_no, ev_so, soK_ok, soK_err, ev_join, joinK1_ok, joinK2_ok, ev_app, appK1_ok, appK2_ok, appK2_err, appK3_ok, ev_a0, ev_aD, ev_aR, eaK1_ok, eaK1_err, eaK3_ok, eaK2_ok, eaK2_err, ev_call, callK_d1, callK_d2, callK_d3, callK_d4, callK_d5, callK_d6, callK_d7, callK_d8, callK_r0, callK_r1, callK_r2, callK_r3, callK_r4, callK_r5, callK_r6, callK_r7, callK_err, backK_ok, backK_err, slotOf_d, slotOf_r, putBack_d, putBack_r, putBack_nil, refs_nil, refs_d, refs_r, ev_run, endOf_nx, endOf_rt, endOf_err, maskL_t, maskL_f, maskL_nil, ev_for, forK_ok, forGo_nil, turnK_nx, turnK_ct, turnK_bk, turnK_rt, turnK_err, bind_ok, asItems_l, asItems_t, asItems_s, ev_name, ev_fnil, ev_fcons, ev_ftup, some_bind, ev_asgT, asgTK_ok, asgTK2_ok, ev_lc, lcK_ok, wipeL_nil, wipeL_cons, ev_yes, lcGo_nil, dLt_i, dLe_i, dGt_i, dGe_i, dEq_i, dEq_s, dEq_b, dNe_i, dNe_s, dIs_b, dSub_i, dLen_l, dLen_t, dList_l, dList_t, dSl_l, dNot_b, ty_n_bool, ty_n_int, ty_n_str, ty_n_list, ty_n_tuple, ty_b_bool, ty_b_int, ty_b_str, ty_b_list, ty_b_tuple, ty_i_bool, ty_i_int, ty_i_str, ty_i_list, ty_i_tuple, ty_s_bool, ty_s_int, ty_s_str, ty_s_list, ty_s_tuple, ty_l_bool, ty_l_int, ty_l_str, ty_l_list, ty_l_tuple, ty_t_bool, ty_t_int, ty_t_str, ty_t_list, ty_t_tuple, dIs_nn, dIs_in, dIs_bn, dIs_sn, dIs_ln, dIs_tn, dNe_b, ev_A, aK_ok, aK_err, dMin_ok, dMax_ok, asZip_l, asZip_t, ev_pop, popK1_ok, ev_cnt, cntK1_ok, cntK2_ok, dAdd_int, ofO_some, ofO_none, List.getElem?_cons_zero, List.getElem?_cons_succ, List.set_cons_zero, List.set_cons_succ, List.length_cons, List.length_nil, List.cons_append, List.nil_append, List.replicate_succ, List.replicate_zero, List.map_cons, List.map_nil, Option.join_some, List.append_nil, Nat.reduceAdd, Nat.reduceLT, Nat.reduceLeDiff, Nat.reduceSub, Nat.reduceEqDiff, if_true, if_false, decide_true, decide_false, Bool.false_eq_true, Bool.not_true, Bool.not_false, whole_int]
      | none => rw [eqb_ne (by intro z; cases z)]; simp only [ev_seq, seqK_nx, seqK_rt, seqK_bk, seqK_ct, seqK_err, ev_next, ev_if, ifK_ok, ifK_err, ev_asg, asgK_ok, asgK_err, ev_ret, retK_ok, retK_err, ev_retN, ev_drop, dropK_ok, dropK_err, ev_c, ev_d, dK_ok, dK_err, ev_fz, fzK_d, fzK_l, fzK_err, ev_op, opK1_ok, opK1_err, opK2_ok, opK2_err, ev_un, unK_ok, unK_err, ev_isi, ev_b, bK_ok, bK_err, ev_and, andK_ok, andK_err, ev_or, orK_ok, orK_err, ev_not, notK_ok, ev_andV, andVK_ok, ev_orV, orVK_ok, ev_ifE, ifEK_ok, ev_nil, ev_cons, consK1_ok, consK1_err, consK2_ok, consK2_err, ev_lst, lstK_ok, ev_tup, tupK_ok, ev_var, varK_d, varK_l, ev_peek, peekK_d, peekK_l, peekK_s, ev_move, moveK_d, moveK_l, ev_ixP, ixK_ok, ixK1_ok, ixK1_err, ixK2_ok, dIx_nat, dIx_natT, dIx_l0, dIx_l1, dIx_l2, dIx_l3, dIx_l4, dIx_t0, dIx_t1, dIx_t2, dIx_t3, ev_setIx, setK0_ok, setK0_err, setK1_ok, setK2_ok, setK3_0, setK3_1, setK3_2, setK3_3, setK3_4, ev_sl, slK1_ok, slK2_ok, slK3_ok, ev_no, ev_so, soK_ok, soK_err, ev_join, joinK1_ok, joinK2_ok, ev_app, appK1_ok, appK2_ok, appK2_err, appK3_ok, ev_a0, ev_aD, ev_aR, eaK1_ok, eaK1_err, eaK3_ok, eaK2_ok, eaK2_err, ev_call, callK_d1, callK_d2, callK_d3, callK_d4, callK_d5, callK_d6, callK_d7, callK_d8, callK_r0, callK_r1, callK_r2, callK_r3, callK_r4, callK_r5, callK_r6, callK_r7, callK_err, backK_ok, backK_err, slotOf_d, slotOf_r, putBack_d, putBack_r, putBack_nil, refs_nil, refs_d, refs_r, ev_run, endOf_nx, endOf_rt, endOf_err, maskL_t, maskL_f, maskL_nil, ev_for, forK_ok, forGo_nil, turnK_nx, turnK_ct, turnK_bk, turnK_rt, turnK_err, bind_ok, asItems_l, asItems_t, asItems_s, ev_name, ev_fnil, ev_fcons, ev_ftup, some_bind, ev_asgT, asgTK_ok, asgTK2_ok, ev_lc, lcK_ok, wipeL_nil, wipeL_cons, ev_yes, lcGo_nil, dLt_i, dLe_i, dGt_i, dGe_i, dEq_i, dEq_s, dEq_b, dNe_i, dNe_s, dIs_b, dSub_i, dLen_l, dLen_t, dList_l, dList_t, dSl_l, dNot_b, ty_n_bool, ty_n_int, ty_n_str, ty_n_list, ty_n_tuple, ty_b_bool, ty_b_int, ty_b_str, ty_b_list, ty_b_tuple, ty_i_bool, ty_i_int, ty_i_str, ty_i_list, ty_i_tuple, ty_s_bool, ty_s_int, ty_s_str, ty_s_list, ty_s_tuple, ty_l_bool, ty_l_int, ty_l_str, ty_l_list, ty_l_tuple, ty_t_bool, ty_t_int, ty_t_str, ty_t_list, ty_t_tuple, dIs_nn, dIs_in, dIs_bn, dIs_sn, dIs_ln, dIs_tn, dNe_b, ev_A, aK_ok, aK_err, dMin_ok, dMax_ok, asZip_l, asZip_t, ev_pop, popK1_ok, ev_cnt, cntK1_ok, cntK2_ok, dAdd_int, ofO_some, ofO_none, List.getElem?_cons_zero, List.getElem?_cons_succ, List.set_cons_zero, List.set_cons_succ, List.length_cons, List.length_nil, List.cons_append, List.nil_append, List.replicate_succ, List.replicate_zero, List.map_cons, List.map_nil, Option.join_some, List.append_nil, Nat.reduceAdd, Nat.reduceLT, Nat.reduceLeDiff, Nat.reduceSub, Nat.reduceEqDiff, if_true, if_false, decide_true, decide_false, Bool.false_eq_true, Bool.not_true, Bool.not_false, whole_no (d := .none) (by intro i z; cases z) (by intro i z; cases z)]
      | bool x => rw [eqb_ne (by intro z; cases z)]; simp only [ev_seq, seqK_nx, seqK_rt, seqK_bk, seqK_ct, seqK_err, ev_next, ev_if, ifK_ok, ifK_err, ev_asg, asgK_ok, asgK_err, ev_ret, retK_ok, retK_err, ev_retN, ev_drop, dropK_ok, dropK_err, ev_c, ev_d, dK_ok, dK_err, ev_fz, fzK_d, fzK_l, fzK_err, ev_op, opK1_ok, opK1_err, opK2_ok, opK2_err, ev_un, unK_ok, unK_err, ev_isi, ev_b, bK_ok, bK_err, ev_and, andK_ok, andK_err, ev_or, orK_ok, orK_err, ev_not, notK_ok, ev_andV, andVK_ok, ev_orV, orVK_ok, ev_ifE, ifEK_ok, ev_nil, ev_cons, consK1_ok, consK1_err, consK2_ok, consK2_err, ev_lst, lstK_ok, ev_tup, tupK_ok, ev_var, varK_d, varK_l, ev_peek, peekK_d, peekK_l, peekK_s, ev_move, moveK_d, moveK_l, ev_ixP, ixK_ok, ixK1_ok, ixK1_err, ixK2_ok, dIx_nat, dIx_natT, dIx_l0, dIx_l1, dIx_l2, dIx_l3, dIx_l4, dIx_t0, dIx_t1, dIx_t2, dIx_t3, ev_setIx, setK0_ok, setK0_err, setK1_ok, setK2_ok, setK3_0, setK3_1, setK3_2, setK3_3, setK3_4, ev_sl, slK1_ok, slK2_ok, slK3_ok, ev_no, ev_so, soK_ok, soK_err, ev_join, joinK1_ok, joinK2_ok, ev_app, appK1_ok, appK2_ok, appK2_err, appK3_ok, ev_a0, ev_aD, ev_aR, eaK1_ok, eaK1_err, eaK3_ok, eaK2_ok, eaK2_err, ev_call, callK_d1, callK_d2, callK_d3, callK_d4, callK_d5, callK_d6, callK_d7, callK_d8, callK_r0, callK_r1, callK_r2, callK_r3, callK_r4, callK_r5, callK_r6, callK_r7, callK_err, backK_ok, backK_err, slotOf_d, slotOf_r, putBack_d, putBack_r, putBack_nil, refs_nil, refs_d, refs_r, ev_run, endOf_nx, endOf_rt, endOf_err, maskL_t, maskL_f, maskL_nil, ev_for, forK_ok, forGo_nil, turnK_nx, turnK_ct, turnK_bk, turnK_rt, turnK_err, bind_ok, asItems_l, asItems_t, asItems_s, ev_name, ev_fnil, ev_fcons, ev_ftup, some_bind, ev_asgT, asgTK_ok, asgTK2_ok, ev_lc, lcK_ok, wipeL_nil, wipeL_cons, ev_yes, lcGo_nil, dLt_i, dLe_i, dGt_i, dGe_i, dEq_i, dEq_s, dEq_b, dNe_i, dNe_s, dIs_b, dSub_i, dLen_l, dLen_t, dList_l, dList_t, dSl_l, dNot_b, ty_n_bool, ty_n_int, ty_n_str, ty_n_list, ty_n_tuple, ty_b_bool, ty_b_int, ty_b_str, ty_b_list, ty_b_tuple, ty_i_bool, ty_i_int, ty_i_str, ty_i_list, ty_i_tuple, ty_s_bool, ty_s_int, ty_s_str, ty_s_list, ty_s_tuple, ty_l_bool, ty_l_int, ty_l_str, ty_l_list, ty_l_tuple, ty_t_bool, ty_t_int, ty_t_str, ty_t_list, ty_t_tuple, dIs_nn, dIs_in, dIs_bn, dIs_sn, dIs_ln, dIs_tn, dNe_b, ev_A, aK_ok, aK_err, dMin_ok, dMax_ok, asZip_l, asZip_t, ev_pop, popK1_ok, ev_cnt, cntK1_ok, cntK2_ok, dAdd_int, ofO_some, ofO_none, List.getElem?_cons_zero, List.getElem?_cons_succ, List.set_cons_zero, List.set_cons_succ, List.length_cons, List.length_nil, List.cons_append, List.nil_append, List.replicate_succ, List.replicate_zero, List.map_cons, List.map_nil, Option.join_some, List.append_nil, Nat.reduceAdd, Nat.reduceLT, Nat.reduceLeDiff, Nat.reduceSub, Nat.reduceEqDiff, if_true, if_false, decide_true, decide_false, Bool.false_eq_true, Bool.not_true, Bool.not_false, whole_no (d := .bool x) (by intro i z; cases z) (by intro i z; cases z)]
      | str x => rw [eqb_ne (by intro z; cases z)]; simp only [ev_seq, seqK_nx, seqK_rt, seqK_bk, seqK_ct, seqK_err, ev_next, ev_if, ifK_ok, ifK_err, ev_asg, asgK_ok, asgK_err, ev_ret, retK_ok, retK_err, ev_retN, ev_drop, dropK_ok, dropK_err, ev_c, ev_d, dK_ok, dK_err, ev_fz, fzK_d, fzK_l, fzK_err, ev_op, opK1_ok, opK1_err, opK2_ok, opK2_err, ev_un, unK_ok, unK_err, ev_isi, ev_b, bK_ok, bK_err, ev_and, andK_ok, andK_err, ev_or, orK_ok, orK_err, ev_not, notK_ok, ev_andV, andVK_ok, ev_orV, orVK_ok, ev_ifE, ifEK_ok, ev_nil, ev_cons, consK1_ok, consK1_err, consK2_ok, consK2_err, ev_lst, lstK_ok, ev_tup, tupK_ok, ev_var, varK_d, varK_l, ev_peek, peekK_d, peekK_l, peekK_s, ev_move, moveK_d, moveK_l, ev_ixP, ixK_ok, ixK1_ok, ixK1_err, ixK2_ok, dIx_nat, dIx_natT, dIx_l0, dIx_l1, dIx_l2, dIx_l3, dIx_l4, dIx_t0, dIx_t1, dIx_t2, dIx_t3, ev_setIx, setK0_ok, setK0_err, setK1_ok, setK2_ok, setK3_0, setK3_1, setK3_2, setK3_3, setK3_4, ev_sl, slK1_ok, slK2_ok, slK3_ok, ev_no, ev_so, soK_ok, soK_err, ev_join, joinK1_ok, joinK2_ok, ev_app, appK1_ok, appK2_ok, appK2_err, appK3_ok, ev_a0, ev_aD, ev_aR, eaK1_ok, eaK1_err, eaK3_ok, eaK2_ok, eaK2_err, ev_call, callK_d1, callK_d2, callK_d3, callK_d4, callK_d5, callK_d6, callK_d7, callK_d8, callK_r0, callK_r1, callK_r2, callK_r3, callK_r4, callK_r5, callK_r6, callK_r7, callK_err, backK_ok, backK_err, slotOf_d, slotOf_r, putBack_d, putBack_r, putBack_nil, refs_nil, refs_d, refs_r, ev_run, endOf_nx, endOf_rt, endOf_err, maskL_t, maskL_f, maskL_nil, ev_for, forK_ok, forGo_nil, turnK_nx, turnK_ct, turnK_bk, turnK_rt, turnK_err, bind_ok, asItems_l, asItems_t, asItems_s, ev_name, ev_fnil, ev_fcons, ev_ftup, some_bind, ev_asgT, asgTK_ok, asgTK2_ok, ev_lc, lcK_ok, wipeL_nil, wipeL_cons, ev_yes, lcGo_nil, dLt_i, dLe_i, dGt_i, dGe_i, dEq_i, dEq_s, dEq_b, dNe_i, dNe_s, dIs_b, dSub_i, dLen_l, dLen_t, dList_l, dList_t, dSl_l, dNot_b, ty_n_bool, ty_n_int, ty_n_str, ty_n_list, ty_n_tuple, ty_b_bool, ty_b_int, ty_b_str, ty_b_list, ty_b_tuple, ty_i_bool, ty_i_int, ty_i_str, ty_i_list, ty_i_tuple, ty_s_bool, ty_s_int, ty_s_str, ty_s_list, ty_s_tuple, ty_l_bool, ty_l_int, ty_l_str, ty_l_list, ty_l_tuple, ty_t_bool, ty_t_int, ty_t_str, ty_t_list, ty_t_tuple, dIs_nn, dIs_in, dIs_bn, dIs_sn, dIs_ln, dIs_tn, dNe_b, ev_A, aK_ok, aK_err, dMin_ok, dMax_ok, asZip_l, asZip_t, ev_pop, popK1_ok, ev_cnt, cntK1_ok, cntK2_ok, dAdd_int, ofO_some, ofO_none, List.getElem?_cons_zero, List.getElem?_cons_succ, List.set_cons_zero, List.set_cons_succ, List.length_cons, List.length_nil, List.cons_append, List.nil_append, List.replicate_succ, List.replicate_zero, List.map_cons, List.map_nil, Option.join_some, List.append_nil, Nat.reduceAdd, Nat.reduceLT, Nat.reduceLeDiff, Nat.reduceSub, Nat.reduceEqDiff, if_true, if_false, decide_true, decide_false, Bool.false_eq_true, Bool.not_true, Bool.not_false, whole_no (d := .str x) (by intro i z; cases z) (by intro i z; cases z)]
      | list x => rw [eqb_ne (by intro z; cases z)]; simp only [ev_seq, seqK_nx, seqK_rt, seqK_bk, seqK_ct, seqK_err, ev_next, ev_if, ifK_ok, ifK_err, ev_asg, asgK_ok, asgK_err, ev_ret, retK_ok, retK_err, ev_retN, ev_drop, dropK_ok, dropK_err, ev_c, ev_d, dK_ok, dK_err, ev_fz, fzK_d, fzK_l, fzK_err, ev_op, opK1_ok, opK1_err, opK2_ok, opK2_err, ev_un, unK_ok, unK_err, ev_isi, ev_b, bK_ok, bK_err, ev_and, andK_ok, andK_err, ev_or, orK_ok, orK_err, ev_not, notK_ok, ev_andV, andVK_ok, ev_orV, orVK_ok, ev_ifE, ifEK_ok, ev_nil, ev_cons, consK1_ok, consK1_err, consK2_ok, consK2_err, ev_lst, lstK_ok, ev_tup, tupK_ok, ev_var, varK_d, varK_l, ev_peek, peekK_d, peekK_l, peekK_s, ev_move, moveK_d, moveK_l, ev_ixP, ixK_ok, ixK1_ok, ixK1_err, ixK2_ok, dIx_nat, dIx_natT, dIx_l0, dIx_l1, dIx_l2, dIx_l3, dIx_l4, dIx_t0, dIx_t1, dIx_t2, dIx_t3, ev_setIx, setK0_ok, setK0_err, setK1_ok, setK2_ok, setK3_0, setK3_1, setK3_2, setK3_3, setK3_4, ev_sl, slK1_ok, slK2_ok, slK3_ok, ev_no, ev_so, soK_ok, soK_err, ev_join, joinK1_ok, joinK2_ok, ev_app, appK1_ok, appK2_ok, appK2_err, appK3_ok, ev_a0, ev_aD, ev_aR, eaK1_ok, eaK1_err, eaK3_ok, eaK2_ok, eaK2_err, ev_call, callK_d1, callK_d2, callK_d3, callK_d4, callK_d5, callK_d6, callK_d7, callK_d8, callK_r0, callK_r1, callK_r2, callK_r3, callK_r4, callK_r5, callK_r6, callK_r7, callK_err, backK_ok, backK_err, slotOf_d, slotOf_r, putBack_d, putBack_r, putBack_nil, refs_nil, refs_d, refs_r, ev_run, endOf_nx, endOf_rt, endOf_err, maskL_t, maskL_f, maskL_nil, ev_for, forK_ok, forGo_nil, turnK_nx, turnK_ct, turnK_bk, turnK_rt, turnK_err, bind_ok, asItems_l, asItems_t, asItems_s, ev_name, ev_fnil, ev_fcons, ev_ftup, some_bind, ev_asgT, asgTK_ok, asgTK2_ok, ev_lc, lcK_ok, wipeL_nil, wipeL_cons, ev_yes, lcGo_nil, dLt_i, dLe_i, dGt_i, dGe_i, dEq_i, dEq_s, dEq_b, dNe_i, dNe_s, dIs_b, dSub_i, dLen_l, dLen_t, dList_l, dList_t, dSl_l, dNot_b, ty_n_bool, ty_n_int, ty_n_str, ty_n_list, ty_n_tuple, ty_b_bool, ty_b_int, ty_b_str, ty_b_list, ty_b_tuple, ty_i_bool, ty_i_int, ty_i_str, ty_i_list, ty_i_tuple, ty_s_bool, ty_s_int, ty_s_str, ty_s_list, ty_s_tuple, ty_l_bool, ty_l_int, ty_l_str, ty_l_list, ty_l_tuple, ty_t_bool, ty_t_int, ty_t_str, ty_t_list, ty_t_tuple, dIs_nn, dIs_in, dIs_bn, dIs_sn, dIs_ln, dIs_tn, dNe_b, ev_A, aK_ok, aK_err, dMin_ok, dMax_ok, asZip_l, asZip_t, ev_pop, popK1_ok, ev_cnt, cntK1_ok, cntK2_ok, dAdd_int, ofO_some, ofO_none, List.getElem?_cons_zero, List.getElem?_cons_succ, List.set_cons_zero, List.set_cons_succ, List.length_cons, List.length_nil, List.cons_append, List.nil_append, List.replicate_succ, List.replicate_zero, List.map_cons, List.map_nil, Option.join_some, List.append_nil, Nat.reduceAdd, Nat.reduceLT, Nat.reduceLeDiff, Nat.reduceSub, Nat.reduceEqDiff, if_true, if_false, decide_true, decide_false, Bool.false_eq_true, Bool.not_true, Bool.not_false, whole_no (d := .list x) (by intro i z; cases z) (by intro i z; cases z)]
      | tuple x => rw [eqb_ne (by intro z; cases z)]; simp only [ev_seq, seqK_nx, seqK_rt, seqK_bk, seqK_ct, seqK_err, ev_next, ev_if, ifK_ok, ifK_err, ev_asg, asgK_ok, asgK_err, ev_ret, retK_ok, retK_err, ev_retN, ev_drop, dropK_ok, dropK_err, ev_c, ev_d, dK_ok, dK_err, ev_fz, fzK_d, fzK_l, fzK_err, ev_op, opK1_ok, opK1_err, opK2_ok, opK2_err, ev_un, unK_ok, unK_err, ev_isi, ev_b, bK_ok, bK_err, ev_and, andK_ok, andK_err, ev_or, orK_ok, orK_err, ev_not, notK_ok, ev_andV, andVK_ok, ev_orV, orVK_ok, ev_ifE, ifEK_ok, ev_nil, ev_cons, consK1_ok, consK1_err, consK2_ok, consK2_err, ev_lst, lstK_ok, ev_tup, tupK_ok, ev_var, varK_d, varK_l, ev_peek, peekK_d, peekK_l, peekK_s, ev_move, moveK_d, moveK_l, ev_ixP, ixK_ok, ixK1_ok, ixK1_err, ixK2_ok, dIx_nat, dIx_natT, dIx_l0, dIx_l1, dIx_l2, dIx_l3, dIx_l4, dIx_t0, dIx_t1, dIx_t2, dIx_t3, ev_setIx, setK0_ok, setK0_err, setK1_ok, setK2_ok, setK3_0, setK3_1, setK3_2, setK3_3, setK3_4, ev_sl, slK1_ok, slK2_ok, slK3_ok, ev_no, ev_so, soK_ok, soK_err, ev_join, joinK1_ok, joinK2_ok, ev_app, appK1_ok, appK2_ok, appK2_err, appK3_ok, ev_a0, ev_aD, ev_aR, eaK1_ok, eaK1_err, eaK3_ok, eaK2_ok, eaK2_err, ev_call, callK_d1, callK_d2, callK_d3, callK_d4, callK_d5, callK_d6, callK_d7, callK_d8, callK_r0, callK_r1, callK_r2, callK_r3, callK_r4, callK_r5, callK_r6, callK_r7, callK_err, backK_ok, backK_err, slotOf_d, slotOf_r, putBack_d, putBack_r, putBack_nil, refs_nil, refs_d, refs_r, ev_run, endOf_nx, endOf_rt, endOf_err, maskL_t, maskL_f, maskL_nil, ev_for, forK_ok, forGo_nil, turnK_nx, turnK_ct, turnK_bk, turnK_rt, turnK_err, bind_ok, asItems_l, asItems_t, asItems_s, ev_name, ev_fnil, ev_fcons, ev_ftup, some_bind, ev_asgT, asgTK_ok, asgTK2_ok, ev_lc, lcK_ok, wipeL_nil, wipeL_cons, ev_yes, lcGo_nil, dLt_i, dLe_i, dGt_i, dGe_i, dEq_i, dEq_s, dEq_b, dNe_i, dNe_s, dIs_b, dSub_i, dLen_l, dLen_t, dList_l, dList_t, dSl_l, dNot_b, ty_n_bool, ty_n_int, ty_n_str, ty_n_list, ty_n_tuple, ty_b_bool, ty_b_int, ty_b_str, ty_b_list, ty_b_tuple, ty_i_bool, ty_i_int, ty_i_str, ty_i_list, ty_i_tuple, ty_s_bool, ty_s_int, ty_s_str, ty_s_list, ty_s_tuple, ty_l_bool, ty_l_int, ty_l_str, ty_l_list, ty_l_tuple, ty_t_bool, ty_t_int, ty_t_str, ty_t_list, ty_t_tuple, dIs_nn, dIs_in, dIs_bn, dIs_sn, dIs_ln, dIs_tn, dNe_b, ev_A, aK_ok, aK_err, dMin_ok, dMax_ok, asZip_l, asZip_t, ev_pop, popK1_ok, ev_cnt, cntK1_ok, cntK2_ok, dAdd_int, ofO_some, ofO_none, List.getElem?_cons_zero, List.getElem?_cons_succ, List.set_cons_zero, List.set_cons_succ, List.length_cons, List.length_nil, List.cons_append, List.nil_append, List.replicate_succ, List.replicate_zero, List.map_cons, List.map_nil, Option.join_some, List.append_nil, Nat.reduceAdd, Nat.reduceLT, Nat.reduceLeDiff, Nat.reduceSub, Nat.reduceEqDiff, if_true, if_false, decide_true, decide_false, Bool.false_eq_true, Bool.not_true, Bool.not_false, whole_no (d := .tuple x) (by intro i z; cases z) (by intro i z; cases z)]
      | dict x => exact h.elim
    | str s =>
      cases d with
      | str t =>
        have : eqb (.str t) (.str s) = decide (t = s) := by
          by_cases z : t = s
          · rw [z, eqb_self]; simp
          · rw [eqb_ne (fun q => z (by cases q; rfl))]; simp [z]
        rw [this]
        simp only [ev_seq, seqK_nx, seqK_rt, seqK_bk, seqK_ct, seqK_err, ev_next, ev_if, ifK_ok, ifK_err, ev_asg, asgK_ok, asgK_err, ev_ret, retK_ok, retK_err, ev_retN, ev_drop, dropK_ok, dropK_err, ev_c, ev_d, dK_ok, dK_err, ev_fz, fzK_d, fzK_l, fzK_err, ev_op, opK1_ok, opK1_err, opK2_ok, opK2_err, ev_un, unK_ok, unK_err, ev_isi, ev_b, bK_ok, bK_err, ev_and, andK_ok, andK_err, ev_or, orK_ok, orK_err, ev_not, notK_ok, ev_andV, andVK_ok, ev_orV, orVK_ok, ev_ifE, ifEK_ok, ev_nil, ev_cons, consK1_ok, consK1_err, consK2_ok, consK2_err, ev_lst, lstK_ok, ev_tup, tupK_ok, ev_var, varK_d, varK_l, ev_peek, peekK_d, peekK_l, peekK_s, ev_move, moveK_d, moveK_l, ev_ixP, ixK_ok, ixK1_ok, ixK1_err, ixK2_ok, dIx_nat, dIx_natT, dIx_l0, dIx_l1, dIx_l2, dIx_l3, dIx_l4, dIx_t0, dIx_t1, dIx_t2, dIx_t3, ev_setIx, setK0_ok, setK0_err, setK1_ok, setK2_ok, setK3_0, setK3_1, setK3_2, setK3_3, setK3_4, ev_sl, slK1_ok, slK2_ok, slK3_ok, ev_no, ev_so, soK_ok, soK_err, ev_join, joinK1_ok, joinK2_ok, ev_app, appK1_ok, appK2_ok, appK2_err, appK3_ok, ev_a0, ev_aD, ev_aR, eaK1_ok, eaK1_err, eaK3_ok, eaK2_ok, eaK2_err, ev_call, callK_d1, callK_d2, callK_d3, callK_d4, callK_d5, callK_d6, callK_d7, callK_d8, callK_r0, callK_r1, callK_r2, callK_r3, callK_r4, callK_r5, callK_r6, callK_r7, callK_err, backK_ok, backK_err, slotOf_d, slotOf_r, putBack_d, putBack_r, putBack_nil, refs_nil, refs_d, refs_r, ev_run, endOf_nx, endOf_rt, endOf_err, maskL_t, maskL_f, maskL_nil, ev_for, forK_ok, forGo_nil, turnK_nx, turnK_ct, turnK_bk, turnK_rt, turnK_err, bind_ok, asItems_l, asItems_t, asItems_s, ev_name, ev_fnil, ev_fcons, ev_ftup, some_bind, ev_asgT, asgTK_ok, asgTK2_ok, ev_lc, lcK_ok, wipeL_nil, wipeL_cons, ev_yes, lcGo_nil, dLt_i, dLe_i, dGt_i, dGe_i, dEq_i, dEq_s, dEq_b, dNe_i, dNe_s, dIs_b, dSub_i, dLen_l, dLen_t, dList_l, dList_t, dSl_l, dNot_b, ty_n_bool, ty_n_int, ty_n_str, ty_n_list, ty_n_tuple, ty_b_bool, ty_b_int, ty_b_str, ty_b_list, ty_b_tuple, ty_i_bool, ty_i_int, ty_i_str, ty_i_list, ty_i_tuple, ty_s_bool, ty_s_int, ty_s_str, ty_s_list, ty_s_tuple, ty_l_bool, ty_l_int, ty_l_str, ty_l_list, ty_l_tuple, ty_t_bool, ty_t_int, ty_t_str, ty_t_list, ty_t_tuple, dIs_nn, dIs_in, dIs_bn, dIs_sn, dIs_ln, dIs_tn, dNe_b, ev_A, aK_ok, aK_err, dMin_ok, dMax_ok, asZip_l, asZip_t, ev_pop, popK1_ok, ev_cnt, cntK1_ok, cntK2_ok, dAdd_int, ofO_some, ofO_none, List.getElem?_cons_zero, List.getElem?_cons_succ, List.set_cons_zero, List.set_cons_succ, List.length_cons, List.length_nil, List.cons_append, List.nil_append, List.replicate_succ, List.replicate_zero, List.map_cons, List.map_nil, Option.join_some, List.append_nil, Nat.reduceAdd, Nat.reduceLT, Nat.reduceLeDiff, Nat.reduceSub, Nat.reduceEqDiff, if_true, if_false, decide_true, decide_false, Bool.false_eq_true, Bool.not_true, Bool.not_false]
      | dict x => exact h.elim
      | _ => rw [eqb_ne (by intro z; cases z)]; simp only [ev_seq, seqK_nx, seqK_rt, seqK_bk, seqK_ct, seqK_err, ev_next, ev_if, ifK_ok, ifK_err, ev_asg, asgK_ok, asgK_err, ev_ret, retK_ok, retK_err, ev_retN, ev_drop, dropK_ok, dropK_err, ev_c, ev_d, dK_ok, dK_err, ev_fz, fzK_d, fzK_l, fzK_err, ev_op, opK1_ok, opK1_err, opK2_ok, opK2_err, ev_un, unK_ok, unK_err, ev_isi, ev_b, bK_ok, bK_err, ev_and, andK_ok, andK_err, ev_or, orK_ok, orK_err, ev_not, notK_ok, ev_andV, andVK_ok, ev_orV, orVK_ok, ev_ifE, ifEK_ok, ev_nil, ev_cons, consK1_ok, consK1_err, consK2_ok, consK2_err, ev_lst, lstK_ok, ev_tup, tupK_ok, ev_var, varK_d, varK_l, ev_peek, peekK_d, peekK_l, peekK_s, ev_move, moveK_d, moveK_l, ev_ixP, ixK_ok, ixK1_ok, ixK1_err, ixK2_ok, dIx_nat, dIx_natT, dIx_l0, dIx_l1, dIx_l2, dIx_l3, dIx_l4, dIx_t0, dIx_t1, dIx_t2, dIx_t3, ev_setIx, setK0_ok, setK0_err, setK1_ok, setK2_ok, setK3_0, setK3_1, setK3_2, setK3_3, setK3_4, ev_sl, slK1_ok, slK2_ok, slK3_ok, ev_no, ev_so, soK_ok, soK_err, ev_join, joinK1_ok, joinK2_ok, ev_app, appK1_ok, appK2_ok, appK2_err, appK3_ok, ev_a0, ev_aD, ev_aR, eaK1_ok, eaK1_err, eaK3_ok, eaK2_ok, eaK2_err, ev_call, callK_d1, callK_d2, callK_d3, callK_d4, callK_d5, callK_d6, callK_d7, callK_d8, callK_r0, callK_r1, callK_r2, callK_r3, callK_r4, callK_r5, callK_r6, callK_r7, callK_err, backK_ok, backK_err, slotOf_d, slotOf_r, putBack_d, putBack_r, putBack_nil, refs_nil, refs_d, refs_r, ev_run, endOf_nx, endOf_rt, endOf_err, maskL_t, maskL_f, maskL_nil, ev_for, forK_ok, forGo_nil, turnK_nx, turnK_ct, turnK_bk, turnK_rt, turnK_err, bind_ok, asItems_l, asItems_t, asItems_s, ev_name, ev_fnil, ev_fcons, ev_ftup, some_bind, ev_asgT, asgTK_ok, asgTK2_ok, ev_lc, lcK_ok, wipeL_nil, wipeL_cons, ev_yes, lcGo_nil, dLt_i, dLe_i, dGt_i, dGe_i, dEq_i, dEq_s, dEq_b, dNe_i, dNe_s, dIs_b, dSub_i, dLen_l, dLen_t, dList_l, dList_t, dSl_l, dNot_b, ty_n_bool, ty_n_int, ty_n_str, ty_n_list, ty_n_tuple, ty_b_bool, ty_b_int, ty_b_str, ty_b_list, ty_b_tuple, ty_i_bool, ty_i_int, ty_i_str, ty_i_list, ty_i_tuple, ty_s_bool, ty_s_int, ty_s_str, ty_s_list, ty_s_tuple, ty_l_bool, ty_l_int, ty_l_str, ty_l_list, ty_l_tuple, ty_t_bool, ty_t_int, ty_t_str, ty_t_list, ty_t_tuple, dIs_nn, dIs_in, dIs_bn, dIs_sn, dIs_ln, dIs_tn, dNe_b, ev_A, aK_ok, aK_err, dMin_ok, dMax_ok, asZip_l, asZip_t, ev_pop, popK1_ok, ev_cnt, cntK1_ok, cntK2_ok, dAdd_int, ofO_some, ofO_none, List.getElem?_cons_zero, List.getElem?_cons_succ, List.set_cons_zero, List.set_cons_succ, List.length_cons, List.length_nil, List.cons_append, List.nil_append, List.replicate_succ, List.replicate_zero, List.map_cons, List.map_nil, Option.join_some, List.append_nil, Nat.reduceAdd, Nat.reduceLT, Nat.reduceLeDiff, Nat.reduceSub, Nat.reduceEqDiff, if_true, if_false, decide_true, decide_false, Bool.false_eq_true, Bool.not_true, Bool.not_false]
    | list ys =>
      cases d with
      | list xs =>
        by_cases hl : xs.length = ys.length
        · obtain ⟨o2, o3, e⟩ := same_go2 (m := m_law_same k) (d0 := some (.d (.list xs))) (d1 := some (.d (.list ys))) (xs.zip ys) none none fun z hz => same_ok2 k z.1 z.2 (h _ (List.of_mem_zip hz).1) (h' _ (List.of_mem_zip hz).2)
          have key : eqb (.list xs) (.list ys) = ((xs.zip ys).all fun z => eqb z.1 z.2) := by
            rw [Bool.eq_iff_iff, eqb_iff, zip_all hl]
            exact ⟨fun z => by cases z; rfl, fun z => by rw [z]⟩
          rw [key]
          cases hb : ((xs.zip ys).all fun z => eqb z.1 z.2) with
          | true => rw [hb] at e; simp only [ev_seq, seqK_nx, seqK_rt, seqK_bk, seqK_ct, seqK_err, ev_next, ev_if, ifK_ok, ifK_err, ev_asg, asgK_ok, asgK_err, ev_ret, retK_ok, retK_err, ev_retN, ev_drop, dropK_ok, dropK_err, ev_c, ev_d, dK_ok, dK_err, ev_fz, fzK_d, fzK_l, fzK_err, ev_op, opK1_ok, opK1_err, opK2_ok, opK2_err, ev_un, unK_ok, unK_err, ev_isi, ev_b, bK_ok, bK_err, ev_and, andK_ok, andK_err, ev_or, orK_ok, orK_err, ev_not, notK_ok, ev_andV, andVK_ok, ev_orV, orVK_ok, ev_ifE, ifEK_ok, ev_nil, ev_cons, consK1_ok, consK1_err, consK2_ok, consK2_err, ev_lst, lstK_ok, ev_tup, tupK_ok, ev_var, varK_d, varK_l, ev_peek, peekK_d, peekK_l, peekK_s, ev_move, moveK_d, moveK_l, ev_ixP, ixK_ok, ixK1_ok, ixK1_err, ixK2_ok, dIx_nat, dIx_natT, dIx_l0, dIx_l1, dIx_l2, dIx_l3, dIx_l4, dIx_t0, dIx_t1, dIx_t2, dIx_t3, ev_setIx, setK0_ok, setK0_err, setK1_ok, setK2_ok, setK3_0, setK3_1, setK3_2, setK3_3, setK3_4, ev_sl, slK1_ok, slK2_ok, slK3_ok, ev_no, ev_so, soK_ok, soK_err, ev_join, joinK1_ok, joinK2_ok, ev_app, appK1_ok, appK2_ok, appK2_err, appK3_ok, ev_a0, ev_aD, ev_aR, eaK1_ok, eaK1_err, eaK3_ok, eaK2_ok, eaK2_err, ev_call, callK_d1, callK_d2, callK_d3, callK_d4, callK_d5, callK_d6, callK_d7, callK_d8, callK_r0, callK_r1, callK_r2, callK_r3, callK_r4, callK_r5, callK_r6, callK_r7, callK_err, backK_ok, backK_err, slotOf_d, slotOf_r, putBack_d, putBack_r, putBack_nil, refs_nil, refs_d, refs_r, ev_run, endOf_nx, endOf_rt, endOf_err, maskL_t, maskL_f, maskL_nil, ev_for, forK_ok, forGo_nil, turnK_nx, turnK_ct, turnK_bk, turnK_rt, turnK_err, bind_ok, asItems_l, asItems_t, asItems_s, ev_name, ev_fnil, ev_fcons, ev_ftup, some_bind, ev_asgT, asgTK_ok, asgTK2_ok, ev_lc, lcK_ok, wipeL_nil, wipeL_cons, ev_yes, lcGo_nil, dLt_i, dLe_i, dGt_i, dGe_i, dEq_i, dEq_s, dEq_b, dNe_i, dNe_s, dIs_b, dSub_i, dLen_l, dLen_t, dList_l, dList_t, dSl_l, dNot_b, ty_n_bool, ty_n_int, ty_n_str, ty_n_list, ty_n_tuple, ty_b_bool, ty_b_int, ty_b_str, ty_b_list, ty_b_tuple, ty_i_bool, ty_i_int, ty_i_str, ty_i_list, ty_i_tuple, ty_s_bool, ty_s_int, ty_s_str, ty_s_list, ty_s_tuple, ty_l_bool, ty_l_int, ty_l_str, ty_l_list, ty_l_tuple, ty_t_bool, ty_t_int, ty_t_str, ty_t_list, ty_t_tuple, dIs_nn, dIs_in, dIs_bn, dIs_sn, dIs_ln, dIs_tn, dNe_b, ev_A, aK_ok, aK_err, dMin_ok, dMax_ok, asZip_l, asZip_t, ev_pop, popK1_ok, ev_cnt, cntK1_ok, cntK2_ok, dAdd_int, ofO_some, ofO_none, List.getElem?_cons_zero, List.getElem?_cons_succ, List.set_cons_zero, List.set_cons_succ, List.length_cons, List.length_nil, List.cons_append, List.nil_append, List.replicate_succ, List.replicate_zero, List.map_cons, List.map_nil, Option.join_some, List.append_nil, Nat.reduceAdd, Nat.reduceLT, Nat.reduceLeDiff, Nat.reduceSub, Nat.reduceEqDiff, if_true, if_false, decide_true, decide_false, Bool.false_eq_true, Bool.not_true, Bool.not_false, zipD_zip, e, hl]
          | false => rw [hb] at e; simp only [ev_seq, seqK_nx, seqK_rt, seqK_bk, seqK_ct, seqK_err, ev_next, ev_if, ifK_ok, ifK_err, ev_asg, asgK_ok, asgK_err, ev_ret, retK_ok, retK_err, ev_retN, ev_drop, dropK_ok, dropK_err, ev_c, ev_d, dK_ok, dK_err, ev_fz, fzK_d, fzK_l, fzK_err, ev_op, opK1_ok, opK1_err, opK2_ok, opK2_err, ev_un, unK_ok, unK_err, ev_isi, ev_b, bK_ok, bK_err, ev_and, andK_ok, andK_err, ev_or, orK_ok, orK_err, ev_not, notK_ok, ev_andV, andVK_ok, ev_orV, orVK_ok, ev_ifE, ifEK_ok, ev_nil, ev_cons, consK1_ok, consK1_err, consK2_ok, consK2_err, ev_lst, lstK_ok, ev_tup, tupK_ok, ev_var, varK_d, varK_l, ev_peek, peekK_d, peekK_l, peekK_s, ev_move, moveK_d, moveK_l, ev_ixP, ixK_ok, ixK1_ok, ixK1_err, ixK2_ok, dIx_nat, dIx_natT, dIx_l0, dIx_l1, dIx_l2, dIx_l3, dIx_l4, dIx_t0, dIx_t1, dIx_t2, dIx_t3, ev_setIx, setK0_ok, setK0_err, setK1_ok, setK2_ok, setK3_0, setK3_1, setK3_2, setK3_3, setK3_4, ev_sl, slK1_ok, slK2_ok, slK3_ok, ev_no, ev_so, soK_ok, soK_err, ev_join, joinK1_ok, joinK2_ok, ev_app, appK1_ok, appK2_ok, appK2_err, appK3_ok, ev_a0, ev_aD, ev_aR, eaK1_ok, eaK1_err, eaK3_ok, eaK2_ok, eaK2_err, ev_call, callK_d1, callK_d2, callK_d3, callK_d4, callK_d5, callK_d6, callK_d7, callK_d8, callK_r0, callK_r1, callK_r2, callK_r3, callK_r4, callK_r5, callK_r6, callK_r7, callK_err, backK_ok, backK_err, slotOf_d, slotOf_r, putBack_d, putBack_r, putBack_nil, refs_nil, refs_d, refs_r, ev_run, endOf_nx, endOf_rt, endOf_err, maskL_t, maskL_f, maskL_nil, ev_for, forK_ok, forGo_nil, turnK_nx, turnK_ct, turnK_bk, turnK_rt, turnK_err, bind_ok, asItems_l, asItems_t, asItems_s, ev_name, ev_fnil, ev_fcons, ev_ftup, some_bind, ev_asgT, asgTK_ok, asgTK2_ok, ev_lc, lcK_ok, wipeL_nil, wipeL_cons, ev_yes, lcGo_nil, dLt_i, dLe_i, dGt_i, dGe_i, dEq_i, dEq_s, dEq_b, dNe_i, dNe_s, dIs_b, dSub_i, dLen_l, dLen_t, dList_l, dList_t, dSl_l, dNot_b, ty_n_bool, ty_n_int, ty_n_str, ty_n_list, ty_n_tuple, ty_b_bool, ty_b_int, ty_b_str, ty_b_list, ty_b_tuple, ty_i_bool, ty_i_int, ty_i_str, ty_i_list, ty_i_tuple, ty_s_bool, ty_s_int, ty_s_str, ty_s_list, ty_s_tuple, ty_l_bool, ty_l_int, ty_l_str, ty_l_list, ty_l_tuple, ty_t_bool, ty_t_int, ty_t_str, ty_t_list, ty_t_tuple, dIs_nn, dIs_in, dIs_bn, dIs_sn, dIs_ln, dIs_tn, dNe_b, ev_A, aK_ok, aK_err, dMin_ok, dMax_ok, asZip_l, asZip_t, ev_pop, popK1_ok, ev_cnt, cntK1_ok, cntK2_ok, dAdd_int, ofO_some, ofO_none, List.getElem?_cons_zero, List.getElem?_cons_succ, List.set_cons_zero, List.set_cons_succ, List.length_cons, List.length_nil, List.cons_append, List.nil_append, List.replicate_succ, List.replicate_zero, List.map_cons, List.map_nil, Option.join_some, List.append_nil, Nat.reduceAdd, Nat.reduceLT, Nat.reduceLeDiff, Nat.reduceSub, Nat.reduceEqDiff, if_true, if_false, decide_true, decide_false, Bool.false_eq_true, Bool.not_true, Bool.not_false, zipD_zip, e, hl]
        · rw [eqb_ne (fun z => hl (by cases z; rfl))]
          have hi : ((xs.length : Nat) : Int) ≠ ((ys.length : Nat) : Int) := by omega
          simp only [ev_seq, seqK_nx, seqK_rt, seqK_bk, seqK_ct, seqK_err, ev_next, ev_if, ifK_ok, ifK_err, ev_asg, asgK_ok, asgK_err, ev_ret, retK_ok, retK_err, ev_retN, ev_drop, dropK_ok, dropK_err, ev_c, ev_d, dK_ok, dK_err, ev_fz, fzK_d, fzK_l, fzK_err, ev_op, opK1_ok, opK1_err, opK2_ok, opK2_err, ev_un, unK_ok, unK_err, ev_isi, ev_b, bK_ok, bK_err, ev_and, andK_ok, andK_err, ev_or, orK_ok, orK_err, ev_not, notK_ok, ev_andV, andVK_ok, ev_orV, orVK_ok, ev_ifE, ifEK_ok, ev_nil, ev_cons, consK1_ok, consK1_err, consK2_ok, consK2_err, ev_lst, lstK_ok, ev_tup, tupK_ok, ev_var, varK_d, varK_l, ev_peek, peekK_d, peekK_l, peekK_s, ev_move, moveK_d, moveK_l, ev_ixP, ixK_ok, ixK1_ok, ixK1_err, ixK2_ok, dIx_nat, dIx_natT, dIx_l0, dIx_l1, dIx_l2, dIx_l3, dIx_l4, dIx_t0, dIx_t1, dIx_t2, dIx_t3, ev_setIx, setK0_ok, setK0_err, setK1_ok, setK2_ok, setK3_0, setK3_1, setK3_2, setK3_3, setK3_4, ev_sl, slK1_ok, slK2_ok, slK3_ok, ev_no, ev_so, soK_ok, soK_err, ev_join, joinK1_ok, joinK2_ok, ev_app, appK1_ok, appK2_ok, appK2_err, appK3_ok, ev_a0, ev_aD, ev_aR, eaK1_ok, eaK1_err, eaK3_ok, eaK2_ok, eaK2_err, ev_call, callK_d1, callK_d2, callK_d3, callK_d4, callK_d5, callK_d6, callK_d7, callK_d8, callK_r0, callK_r1, callK_r2, callK_r3, callK_r4, callK_r5, callK_r6, callK_r7, callK_err, backK_ok, backK_err, slotOf_d, slotOf_r, putBack_d, putBack_r, putBack_nil, refs_nil, refs_d, refs_r, ev_run, endOf_nx, endOf_rt, endOf_err, maskL_t, maskL_f, maskL_nil, ev_for, forK_ok, forGo_nil, turnK_nx, turnK_ct, turnK_bk, turnK_rt, turnK_err, bind_ok, asItems_l, asItems_t, asItems_s, ev_name, ev_fnil, ev_fcons, ev_ftup, some_bind, ev_asgT, asgTK_ok, asgTK2_ok, ev_lc, lcK_ok, wipeL_nil, wipeL_cons, ev_yes, lcGo_nil, dLt_i, dLe_i, dGt_i, dGe_i, dEq_i, dEq_s, dEq_b, dNe_i, dNe_s, dIs_b, dSub_i, dLen_l, dLen_t, dList_l, dList_t, dSl_l, dNot_b, ty_n_bool, ty_n_int, ty_n_str, ty_n_list, ty_n_tuple, ty_b_bool, ty_b_int, ty_b_str, ty_b_list, ty_b_tuple, ty_i_bool, ty_i_int, ty_i_str, ty_i_list, ty_i_tuple, ty_s_bool, ty_s_int, ty_s_str, ty_s_list, ty_s_tuple, ty_l_bool, ty_l_int, ty_l_str, ty_l_list, ty_l_tuple, ty_t_bool, ty_t_int, ty_t_str, ty_t_list, ty_t_tuple, dIs_nn, dIs_in, dIs_bn, dIs_sn, dIs_ln, dIs_tn, dNe_b, ev_A, aK_ok, aK_err, dMin_ok, dMax_ok, asZip_l, asZip_t, ev_pop, popK1_ok, ev_cnt, cntK1_ok, cntK2_ok, dAdd_int, ofO_some, ofO_none, List.getElem?_cons_zero, List.getElem?_cons_succ, List.set_cons_zero, List.set_cons_succ, List.length_cons, List.length_nil, List.cons_append, List.nil_append, List.replicate_succ, List.replicate_zero, List.map_cons, List.map_nil, Option.join_some, List.append_nil, Nat.reduceAdd, Nat.reduceLT, Nat.reduceLeDiff, Nat.reduceSub, Nat.reduceEqDiff, if_true, if_false, decide_true, decide_false, Bool.false_eq_true, Bool.not_true, Bool.not_false, hi, decide_false, Bool.not_false]
      | dict x => exact h.elim
      | _ => rw [eqb_ne (by intro z; cases z)]; simp only [ev_seq, seqK_nx, seqK_rt, seqK_bk, seqK_ct, seqK_err, ev_next, ev_if, ifK_ok, ifK_err, ev_asg, asgK_ok, asgK_err, ev_ret, retK_ok, retK_err, ev_retN, ev_drop, dropK_ok, dropK_err, ev_c, ev_d, dK_ok, dK_err, ev_fz, fzK_d, fzK_l, fzK_err, ev_op, opK1_ok, opK1_err, opK2_ok, opK2_err, ev_un, unK_ok, unK_err, ev_isi, ev_b, bK_ok, bK_err, ev_and, andK_ok, andK_err, ev_or, orK_ok, orK_err, ev_not, notK_ok, ev_andV, andVK_ok, ev_orV, orVK_ok, ev_ifE, ifEK_ok, ev_nil, ev_cons, consK1_ok, consK1_err, consK2_ok, consK2_err, ev_lst, lstK_ok, ev_tup, tupK_ok, ev_var, varK_d, varK_l, ev_peek, peekK_d, peekK_l, peekK_s, ev_move, moveK_d, moveK_l, ev_ixP, ixK_ok, ixK1_ok, ixK1_err, ixK2_ok, dIx_nat, dIx_natT, dIx_l0, dIx_l1, dIx_l2, dIx_l3, dIx_l4, dIx_t0, dIx_t1, dIx_t2, dIx_t3, ev_setIx, setK0_ok, setK0_err, setK1_ok, setK2_ok, setK3_0, setK3_1, setK3_2, setK3_3, setK3_4, ev_sl, slK1_ok, slK2_ok, slK3_ok, ev_no, ev_so, soK_ok, soK_err, ev_join, joinK1_ok, joinK2_ok, ev_app, appK1_ok, appK2_ok, appK2_err, appK3_ok, ev_a0, ev_aD, ev_aR, eaK1_ok, eaK1_err, eaK3_ok, eaK2_ok, eaK2_err, ev_call, callK_d1, callK_d2, callK_d3, callK_d4, callK_d5, callK_d6, callK_d7, callK_d8, callK_r0, callK_r1, callK_r2, callK_r3, callK_r4, callK_r5, callK_r6, callK_r7, callK_err, backK_ok, backK_err, slotOf_d, slotOf_r, putBack_d, putBack_r, putBack_nil, refs_nil, refs_d, refs_r, ev_run, endOf_nx, endOf_rt, endOf_err, maskL_t, maskL_f, maskL_nil, ev_for, forK_ok, forGo_nil, turnK_nx, turnK_ct, turnK_bk, turnK_rt, turnK_err, bind_ok, asItems_l, asItems_t, asItems_s, ev_name, ev_fnil, ev_fcons, ev_ftup, some_bind, ev_asgT, asgTK_ok, asgTK2_ok, ev_lc, lcK_ok, wipeL_nil, wipeL_cons, ev_yes, lcGo_nil, dLt_i, dLe_i, dGt_i, dGe_i, dEq_i, dEq_s, dEq_b, dNe_i, dNe_s, dIs_b, dSub_i, dLen_l, dLen_t, dList_l, dList_t, dSl_l, dNot_b, ty_n_bool, ty_n_int, ty_n_str, ty_n_list, ty_n_tuple, ty_b_bool, ty_b_int, ty_b_str, ty_b_list, ty_b_tuple, ty_i_bool, ty_i_int, ty_i_str, ty_i_list, ty_i_tuple, ty_s_bool, ty_s_int, ty_s_str, ty_s_list, ty_s_tuple, ty_l_bool, ty_l_int, ty_l_str, ty_l_list, ty_l_tuple, ty_t_bool, ty_t_int, ty_t_str, ty_t_list, ty_t_tuple, dIs_nn, dIs_in, dIs_bn, dIs_sn, dIs_ln, dIs_tn, dNe_b, ev_A, aK_ok, aK_err, dMin_ok, dMax_ok, asZip_l, asZip_t, ev_pop, popK1_ok, ev_cnt, cntK1_ok, cntK2_ok, dAdd_int, ofO_some, ofO_none, List.getElem?_cons_zero, List.getElem?_cons_succ, List.set_cons_zero, List.set_cons_succ, List.length_cons, List.length_nil, List.cons_append, List.nil_append, List.replicate_succ, List.replicate_zero, List.map_cons, List.map_nil, Option.join_some, List.append_nil, Nat.reduceAdd, Nat.reduceLT, Nat.reduceLeDiff, Nat.reduceSub, Nat.reduceEqDiff, if_true, if_false, decide_true, decide_false, Bool.false_eq_true, Bool.not_true, Bool.not_false, tfd, ftd]
    | tuple ys =>
      cases d with
      | tuple xs =>
        by_cases hl : xs.length = ys.length
        · obtain ⟨o2, o3, e⟩ := same_go2 (m := m_law_same k) (d0 := some (.d (.tuple xs))) (d1 := some (.d (.tuple ys))) (xs.zip ys) none none fun z hz => same_ok2 k z.1 z.2 (h _ (List.of_mem_zip hz).1) (h' _ (List.of_mem_zip hz).2)
          have key : eqb (.tuple xs) (.tuple ys) = ((xs.zip ys).all fun z => eqb z.1 z.2) := by
            rw [Bool.eq_iff_iff, eqb_iff, zip_all hl]
            exact ⟨fun z => by cases z; rfl, fun z => by rw [z]⟩
          rw [key]
          cases hb : ((xs.zip ys).all fun z => eqb z.1 z.2) with
          | true => rw [hb] at e; simp only [ev_seq, seqK_nx, seqK_rt, seqK_bk, seqK_ct, seqK_err, ev_next, ev_if, ifK_ok, ifK_err, ev_asg, asgK_ok, asgK_err, ev_ret, retK_ok, retK_err, ev_retN, ev_drop, dropK_ok, dropK_err, ev_c, ev_d, dK_ok, dK_err, ev_fz, fzK_d, fzK_l, fzK_err, ev_op, opK1_ok, opK1_err, opK2_ok, opK2_err, ev_un, unK_ok, unK_err, ev_isi, ev_b, bK_ok, bK_err, ev_and, andK_ok, andK_err, ev_or, orK_ok, orK_err, ev_not, notK_ok, ev_andV, andVK_ok, ev_orV, orVK_ok, ev_ifE, ifEK_ok, ev_nil, ev_cons, consK1_ok, consK1_err, consK2_ok, consK2_err, ev_lst, lstK_ok, ev_tup, tupK_ok, ev_var, varK_d, varK_l, ev_peek, peekK_d, peekK_l, peekK_s, ev_move, moveK_d, moveK_l, ev_ixP, ixK_ok, ixK1_ok, ixK1_err, ixK2_ok, dIx_nat, dIx_natT, dIx_l0, dIx_l1, dIx_l2, dIx_l3, dIx_l4, dIx_t0, dIx_t1, dIx_t2, dIx_t3, ev_setIx, setK0_ok, setK0_err, setK1_ok, setK2_ok, setK3_0, setK3_1, setK3_2, setK3_3, setK3_4, ev_sl, slK1_ok, slK2_ok, slK3_ok, ev_no, ev_so, soK_ok, soK_err, ev_join, joinK1_ok, joinK2_ok, ev_app, appK1_ok, appK2_ok, appK2_err, appK3_ok, ev_a0, ev_aD, ev_aR, eaK1_ok, eaK1_err, eaK3_ok, eaK2_ok, eaK2_err, ev_call, callK_d1, callK_d2, callK_d3, callK_d4, callK_d5, callK_d6, callK_d7, callK_d8, callK_r0, callK_r1, callK_r2, callK_r3, callK_r4, callK_r5, callK_r6, callK_r7, callK_err, backK_ok, backK_err, slotOf_d, slotOf_r, putBack_d, putBack_r, putBack_nil, refs_nil, refs_d, refs_r, ev_run, endOf_nx, endOf_rt, endOf_err, maskL_t, maskL_f, maskL_nil, ev_for, forK_ok, forGo_nil, turnK_nx, turnK_ct, turnK_bk, turnK_rt, turnK_err, bind_ok, asItems_l, asItems_t, asItems_s, ev_name, ev_fnil, ev_fcons, ev_ftup, some_bind, ev_asgT, asgTK_ok, asgTK2_ok, ev_lc, lcK_ok, wipeL_nil, wipeL_cons, ev_yes, lcGo_nil, dLt_i, dLe_i, dGt_i, dGe_i, dEq_i, dEq_s, dEq_b, dNe_i, dNe_s, dIs_b, dSub_i, dLen_l, dLen_t, dList_l, dList_t, dSl_l, dNot_b, ty_n_bool, ty_n_int, ty_n_str, ty_n_list, ty_n_tuple, ty_b_bool, ty_b_int, ty_b_str, ty_b_list, ty_b_tuple, ty_i_bool, ty_i_int, ty_i_str, ty_i_list, ty_i_tuple, ty_s_bool, ty_s_int, ty_s_str, ty_s_list, ty_s_tuple, ty_l_bool, ty_l_int, ty_l_str, ty_l_list, ty_l_tuple, ty_t_bool, ty_t_int, ty_t_str, ty_t_list, ty_t_tuple, dIs_nn, dIs_in, dIs_bn, dIs_sn, dIs_ln, dIs_tn, dNe_b, ev_A, aK_ok, aK_err, dMin_ok, dMax_ok, asZip_l, asZip_t, ev_pop, popK1_ok, ev_cnt, cntK1_ok, cntK2_ok, dAdd_int, ofO_some, ofO_none, List.getElem?_cons_zero, List.getElem?_cons_succ, List.set_cons_zero, List.set_cons_succ, List.length_cons, List.length_nil, List.cons_append, List.nil_append, List.replicate_succ, List.replicate_zero, List.map_cons, List.map_nil, Option.join_some, List.append_nil, Nat.reduceAdd, Nat.reduceLT, Nat.reduceLeDiff, Nat.reduceSub, Nat.reduceEqDiff, if_true, if_false, decide_true, decide_false, Bool.false_eq_true, Bool.not_true, Bool.not_false, zipD_zip, e, hl]
          | false => rw [hb] at e; simp only [ev_seq, seqK_nx, seqK_rt, seqK_bk, seqK_ct, seqK_err, ev_next, ev_if, ifK_ok, ifK_err, ev_asg, asgK_ok, asgK_err, ev_ret, retK_ok, retK_err, ev_retN, ev_drop, dropK_ok, dropK_err, ev_c, ev_d, dK_ok, dK_err, ev_fz, fzK_d, fzK_l, fzK_err, ev_op, opK1_ok, opK1_err, opK2_ok, opK2_err, ev_un, unK_ok, unK_err, ev_isi, ev_b, bK_ok, bK_err, ev_and, andK_ok, andK_err, ev_or, orK_ok, orK_err, ev_not, notK_ok, ev_andV, andVK_ok, ev_orV, orVK_ok, ev_ifE, ifEK_ok, ev_nil, ev_cons, consK1_ok, consK1_err, consK2_ok, consK2_err, ev_lst, lstK_ok, ev_tup, tupK_ok, ev_var, varK_d, varK_l, ev_peek, peekK_d, peekK_l, peekK_s, ev_move, moveK_d, moveK_l, ev_ixP, ixK_ok, ixK1_ok, ixK1_err, ixK2_ok, dIx_nat, dIx_natT, dIx_l0, dIx_l1, dIx_l2, dIx_l3, dIx_l4, dIx_t0, dIx_t1, dIx_t2, dIx_t3, ev_setIx, setK0_ok, setK0_err, setK1_ok, setK2_ok, setK3_0, setK3_1, setK3_2, setK3_3, setK3_4, ev_sl, slK1_ok, slK2_ok, slK3_ok, ev_no, ev_so, soK_ok, soK_err, ev_join, joinK1_ok, joinK2_ok, ev_app, appK1_ok, appK2_ok, appK2_err, appK3_ok, ev_a0, ev_aD, ev_aR, eaK1_ok, eaK1_err, eaK3_ok, eaK2_ok, eaK2_err, ev_call, callK_d1, callK_d2, callK_d3, callK_d4, callK_d5, callK_d6, callK_d7, callK_d8, callK_r0, callK_r1, callK_r2, callK_r3, callK_r4, callK_r5, callK_r6, callK_r7, callK_err, backK_ok, backK_err, slotOf_d, slotOf_r, putBack_d, putBack_r, putBack_nil, refs_nil, refs_d, refs_r, ev_run, endOf_nx, endOf_rt, endOf_err, maskL_t, maskL_f, maskL_nil, ev_for, forK_ok, forGo_nil, turnK_nx, turnK_ct, turnK_bk, turnK_rt, turnK_err, bind_ok, asItems_l, asItems_t, asItems_s, ev_name, ev_fnil, ev_fcons, ev_ftup, some_bind, ev_asgT, asgTK_ok, asgTK2_ok, ev_lc, lcK_ok, wipeL_nil, wipeL_cons, ev_yes, lcGo_nil, dLt_i, dLe_i, dGt_i, dGe_i, dEq_i, dEq_s, dEq_b, dNe_i, dNe_s, dIs_b, dSub_i, dLen_l, dLen_t, dList_l, dList_t, dSl_l, dNot_b, ty_n_bool, ty_n_int, ty_n_str, ty_n_list, ty_n_tuple, ty_b_bool, ty_b_int, ty_b_str, ty_b_list, ty_b_tuple, ty_i_bool, ty_i_int, ty_i_str, ty_i_list, ty_i_tuple, ty_s_bool, ty_s_int, ty_s_str, ty_s_list, ty_s_tuple, ty_l_bool, ty_l_int, ty_l_str, ty_l_list, ty_l_tuple, ty_t_bool, ty_t_int, ty_t_str, ty_t_list, ty_t_tuple, dIs_nn, dIs_in, dIs_bn, dIs_sn, dIs_ln, dIs_tn, dNe_b, ev_A, aK_ok, aK_err, dMin_ok, dMax_ok, asZip_l, asZip_t, ev_pop, popK1_ok, ev_cnt, cntK1_ok, cntK2_ok, dAdd_int, ofO_some, ofO_none, List.getElem?_cons_zero, List.getElem?_cons_succ, List.set_cons_zero, List.set_cons_succ, List.length_cons, List.length_nil, List.cons_append, List.nil_append, List.replicate_succ, List.replicate_zero, List.map_cons, List.map_nil, Option.join_some, List.append_nil, Nat.reduceAdd, Nat.reduceLT, Nat.reduceLeDiff, Nat.reduceSub, Nat.reduceEqDiff, if_true, if_false, decide_true, decide_false, Bool.false_eq_true, Bool.not_true, Bool.not_false, zipD_zip, e, hl]
        · rw [eqb_ne (fun z => hl (by cases z; rfl))]
          have hi : ((xs.length : Nat) : Int) ≠ ((ys.length : Nat) : Int) := by omega
          simp only [ev_seq, seqK_nx, seqK_rt, seqK_bk, seqK_ct, seqK_err, ev_next, ev_if, ifK_ok, ifK_err, ev_asg, asgK_ok, asgK_err, ev_ret, retK_ok, retK_err, ev_retN, ev_drop, dropK_ok, dropK_err, ev_c, ev_d, dK_ok, dK_err, ev_fz, fzK_d, fzK_l, fzK_err, ev_op, opK1_ok, opK1_err, opK2_ok, opK2_err, ev_un, unK_ok, unK_err, ev_isi, ev_b, bK_ok, bK_err, ev_and, andK_ok, andK_err, ev_or, orK_ok, orK_err, ev_not, notK_ok, ev_andV, andVK_ok, ev_orV, orVK_ok, ev_ifE, ifEK_ok, ev_nil, ev_cons, consK1_ok, consK1_err, consK2_ok, consK2_err, ev_lst, lstK_ok, ev_tup, tupK_ok, ev_var, varK_d, varK_l, ev_peek, peekK_d, peekK_l, peekK_s, ev_move, moveK_d, moveK_l, ev_ixP, ixK_ok, ixK1_ok, ixK1_err, ixK2_ok, dIx_nat, dIx_natT, dIx_l0, dIx_l1, dIx_l2, dIx_l3, dIx_l4, dIx_t0, dIx_t1, dIx_t2, dIx_t3, ev_setIx, setK0_ok, setK0_err, setK1_ok, setK2_ok, setK3_0, setK3_1, setK3_2, setK3_3, setK3_4, ev_sl, slK1_ok, slK2_ok, slK3_ok, ev_no, ev_so, soK_ok, soK_err, ev_join, joinK1_ok, joinK2_ok, ev_app, appK1_ok, appK2_ok, appK2_err, appK3_ok, ev_a0, ev_aD, ev_aR, eaK1_ok, eaK1_err, eaK3_ok, eaK2_ok, eaK2_err, ev_call, callK_d1, callK_d2, callK_d3, callK_d4, callK_d5, callK_d6, callK_d7, callK_d8, callK_r0, callK_r1, callK_r2, callK_r3, callK_r4, callK_r5, callK_r6, callK_r7, callK_err, backK_ok, backK_err, slotOf_d, slotOf_r, putBack_d, putBack_r, putBack_nil, refs_nil, refs_d, refs_r, ev_run, endOf_nx, endOf_rt, endOf_err, maskL_t, maskL_f, maskL_nil, ev_for, forK_ok, forGo_nil, turnK_nx, turnK_ct, turnK_bk, turnK_rt, turnK_err, bind_ok, asItems_l, asItems_t, asItems_s, ev_name, ev_fnil, ev_fcons, ev_ftup, some_bind, ev_asgT, asgTK_ok, asgTK2_ok, ev_lc, lcK_ok, wipeL_nil, wipeL_cons, ev_yes, lcGo_nil, dLt_i, dLe_i, dGt_i, dGe_i, dEq_i, dEq_s, dEq_b, dNe_i, dNe_s, dIs_b, dSub_i, dLen_l, dLen_t, dList_l, dList_t, dSl_l, dNot_b, ty_n_bool, ty_n_int, ty_n_str, ty_n_list, ty_n_tuple, ty_b_bool, ty_b_int, ty_b_str, ty_b_list, ty_b_tuple, ty_i_bool, ty_i_int, ty_i_str, ty_i_list, ty_i_tuple, ty_s_bool, ty_s_int, ty_s_str, ty_s_list, ty_s_tuple, ty_l_bool, ty_l_int, ty_l_str, ty_l_list, ty_l_tuple, ty_t_bool, ty_t_int, ty_t_str, ty_t_list, ty_t_tuple, dIs_nn, dIs_in, dIs_bn, dIs_sn, dIs_ln, dIs_tn, dNe_b, ev_A, aK_ok, aK_err, dMin_ok, dMax_ok, asZip_l, asZip_t, ev_pop, popK1_ok, ev_cnt, cntK1_ok, cntK2_ok, dAdd_int, ofO_some, ofO_none, List.getElem?_cons_zero, List.getElem?_cons_succ, List.set_cons_zero, List.set_cons_succ, List.length_cons, List.length_nil, List.cons_append, List.nil_append, List.replicate_succ, List.replicate_zero, List.map_cons, List.map_nil, Option.join_some, List.append_nil, Nat.reduceAdd, Nat.reduceLT, Nat.reduceLeDiff, Nat.reduceSub, Nat.reduceEqDiff, if_true, if_false, decide_true, decide_false, Bool.false_eq_true, Bool.not_true, Bool.not_false, hi, decide_false, Bool.not_false]
      | dict x => exact h.elim
      | _ => rw [eqb_ne (by intro z; cases z)]; simp only [ev_seq, seqK_nx, seqK_rt, seqK_bk, seqK_ct, seqK_err, ev_next, ev_if, ifK_ok, ifK_err, ev_asg, asgK_ok, asgK_err, ev_ret, retK_ok, retK_err, ev_retN, ev_drop, dropK_ok, dropK_err, ev_c, ev_d, dK_ok, dK_err, ev_fz, fzK_d, fzK_l, fzK_err, ev_op, opK1_ok, opK1_err, opK2_ok, opK2_err, ev_un, unK_ok, unK_err, ev_isi, ev_b, bK_ok, bK_err, ev_and, andK_ok, andK_err, ev_or, orK_ok, orK_err, ev_not, notK_ok, ev_andV, andVK_ok, ev_orV, orVK_ok, ev_ifE, ifEK_ok, ev_nil, ev_cons, consK1_ok, consK1_err, consK2_ok, consK2_err, ev_lst, lstK_ok, ev_tup, tupK_ok, ev_var, varK_d, varK_l, ev_peek, peekK_d, peekK_l, peekK_s, ev_move, moveK_d, moveK_l, ev_ixP, ixK_ok, ixK1_ok, ixK1_err, ixK2_ok, dIx_nat, dIx_natT, dIx_l0, dIx_l1, dIx_l2, dIx_l3, dIx_l4, dIx_t0, dIx_t1, dIx_t2, dIx_t3, ev_setIx, setK0_ok, setK0_err, setK1_ok, setK2_ok, setK3_0, setK3_1, setK3_2, setK3_3, setK3_4, ev_sl, slK1_ok, slK2_ok, slK3_ok, ev_no, ev_so, soK_ok, soK_err, ev_join, joinK1_ok, joinK2_ok, ev_app, appK1_ok, appK2_ok, appK2_err, appK3_ok, ev_a0, ev_aD, ev_aR, eaK1_ok, eaK1_err, eaK3_ok, eaK2_ok, eaK2_err, ev_call, callK_d1, callK_d2, callK_d3, callK_d4, callK_d5, callK_d6, callK_d7, callK_d8, callK_r0, callK_r1, callK_r2, callK_r3, callK_r4, callK_r5, callK_r6, callK_r7, callK_err, backK_ok, backK_err, slotOf_d, slotOf_r, putBack_d, putBack_r, putBack_nil, refs_nil, refs_d, refs_r, ev_run, endOf_nx, endOf_rt, endOf_err, maskL_t, maskL_f, maskL_nil, ev_for, forK_ok, forGo_nil, turnK_nx, turnK_ct, turnK_bk, turnK_rt, turnK_err, bind_ok, asItems_l, asItems_t, asItems_s, ev_name, ev_fnil, ev_fcons, ev_ftup, some_bind, ev_asgT, asgTK_ok, asgTK2_ok, ev_lc, lcK_ok, wipeL_nil, wipeL_cons, ev_yes, lcGo_nil, dLt_i, dLe_i, dGt_i, dGe_i, dEq_i, dEq_s, dEq_b, dNe_i, dNe_s, dIs_b, dSub_i, dLen_l, dLen_t, dList_l, dList_t, dSl_l, dNot_b, ty_n_bool, ty_n_int, ty_n_str, ty_n_list, ty_n_tuple, ty_b_bool, ty_b_int, ty_b_str, ty_b_list, ty_b_tuple, ty_i_bool, ty_i_int, ty_i_str, ty_i_list, ty_i_tuple, ty_s_bool, ty_s_int, ty_s_str, ty_s_list, ty_s_tuple, ty_l_bool, ty_l_int, ty_l_str, ty_l_list, ty_l_tuple, ty_t_bool, ty_t_int, ty_t_str, ty_t_list, ty_t_tuple, dIs_nn, dIs_in, dIs_bn, dIs_sn, dIs_ln, dIs_tn, dNe_b, ev_A, aK_ok, aK_err, dMin_ok, dMax_ok, asZip_l, asZip_t, ev_pop, popK1_ok, ev_cnt, cntK1_ok, cntK2_ok, dAdd_int, ofO_some, ofO_none, List.getElem?_cons_zero, List.getElem?_cons_succ, List.set_cons_zero, List.set_cons_succ, List.length_cons, List.length_nil, List.cons_append, List.nil_append, List.replicate_succ, List.replicate_zero, List.map_cons, List.map_nil, Option.join_some, List.append_nil, Nat.reduceAdd, Nat.reduceLT, Nat.reduceLeDiff, Nat.reduceSub, Nat.reduceEqDiff, if_true, if_false, decide_true, decide_false, Bool.false_eq_true, Bool.not_true, Bool.not_false, tfd, ftd]
    | dict _ => exact h'.elim
end Lw

namespace Lw
open PySem PySem.Spec PyProof.Rows L2 VS
end Lw

namespace Lw
open PySem PySem.Spec PyProof.Rows L2 VS
end Lw

namespace Lw
open PySem PySem.Spec PyProof.Rows L2 VS
end Lw

namespace Lw
open PySem PySem.Spec PyProof.Rows L2 VS
end Lw

namespace Lw
open PySem PySem.Spec PyProof.Rows L2 VS
end Lw

namespace Lw
open PySem PySem.Spec PyProof.Rows L2 VS
end Lw

namespace Lw
open PySem PySem.Spec PyProof.Rows L2 VS
end Lw

namespace Lw
open PySem PySem.Spec PyProof.Rows L2 VS
end Lw

namespace Lw
open PySem PySem.Spec PyProof.Rows L2 VS
end Lw

namespace Lw
open PySem PySem.Spec PyProof.Rows L2 VS
end Lw

namespace Lw
open PySem PySem.Spec PyProof.Rows L2 VS
end Lw

namespace Lw
open PySem PySem.Spec PyProof.Rows L2 VS
end Lw

namespace Lw
open PySem PySem.Spec PyProof.Rows L2 VS
end Lw

namespace Lw
open PySem PySem.Spec PyProof.Rows L2 VS
end Lw

namespace Lw
open PySem PySem.Spec PyProof.Rows L2 VS
def g_Folk_init : LS → R O := (gSeq (gFst 0 0 "arrivals" gNewK)
    (gSeq (gFst 0 0 "ranks" (gLst gNil))
    (gFst 0 0 "deaths" gNewK)))
def m_Folk_init : LS → R S := runDef [true] 1 g_Folk_init
def g_measure : LS → R O := (gIf (gOr (gB (gOp dLt (gPeek 0) (gPeek 1))) (gB (gOp dGt (gPeek 0) (gPeek 2)))) gNever gNext)
def m_measure : LS → R S := runDef [false, false, false] 3 g_measure
def g_Folk_come : LS → R O := (gSeq (gIf (gNot (gB (gFz (gCall Lw.m_is_name [.d (gVar 1)])))) gNever gNext)
    (gSeq (gDrop (gCall Lw.m_measure [.d (gVar 2), .d (gC (.int 0)), .d (gC (.int 9999))]))
    (gSeq (gDrop (gCall Lw.m_measure [.d (gVar 3), .d (gC (.int 1)), .d (gC (.int 1000))]))
    (gSeq (gIf (gB (gDIn false 4 (gVar 1))) gNever gNext)
    (gSeq (gIf (gB (gOp dGe (gOnS sLen (gLk 4)) (gC (.int 40)))) gNever gNext)
    (gSeq (gDPut 4 (gVar 1) (gVar 2))
    (gDrop (gApp 5 (gTup (gCons (gVar 1) (gCons (gVar 2) (gCons (gVar 3) gNil))))))))))))
def m_Folk_come : LS → R S := runDef [true, false, false, false, true, true, true] 7 g_Folk_come
def g_Folk_known : LS → R O := (gIf (gB (gDIn true 2 (gVar 1))) gNever gNext)
def m_Folk_known : LS → R S := runDef [true, false, true, true, true] 5 g_Folk_known
def g_Folk_after_coming : LS → R O := (gIf (gB (gOp dLt (gPeek 2) (gDGet 3 (gVar 1)))) gNever gNext)
def m_Folk_after_coming : LS → R S := runDef [true, false, false, true, true, true] 6 g_Folk_after_coming
end Lw

namespace Lw
open PySem PySem.Spec PyProof.Rows L2 VS
def g_Folk_dead : LS → R O := (gSeq (gDrop (gCall Lw.m_measure [.d (gVar 2), .d (gC (.int 0)), .d (gC (.int 9999))]))
    (gSeq (gDrop (gCallG Lw.m_Folk_known [.o 0, .d (gVar 1)] [3, 4, 5]))
    (gRet (gD (gAndV (gDIn false 5 (gVar 1)) (gOp dLe (gOp dIx (gDGet 5 (gVar 1)) (gC (.int 0))) (gPeek 2)))))))
def m_Folk_dead : LS → R S := runDef [true, false, false, true, true, true] 6 g_Folk_dead
def g_law_death : LS → R O := (gSeq (gForO 0 (fName 2) (gIf (gAnd (gB (gOp dEq (gIxP 2 (gC (.int 0))) (gC (.str "die")))) (gB (gOp dEq (gIxP 2 (gC (.int 1))) (gPeek 1)))) (gRet (gD (gTup (gCons (gIxP 2 (gC (.int 2))) (gCons (gIxP 2 (gC (.int 3))) gNil))))) gNext))
    (gRet (gD (gC .none))))
def m_law_death : LS → R S := runDef [true, false] 3 g_law_death
def g_law_is_dead : LS → R O := (gSeq (gAsg 3 (gCallG Lw.m_law_death [.r 0, .d (gVar 1)] []))
    (gRet (gD (gAndV (gOp dIsN (gPeek 3) (gC .none)) (gOp dLe (gIxP 3 (gC (.int 0))) (gPeek 2))))))
def m_law_is_dead : LS → R S := runDef [true, false, false] 4 g_law_is_dead
def g_law_heir : LS → R O := (gSeq (gFor (fun L => ((gCons (gC (.int 41)) gNil) L).bind rng1) (fName 3) (gSeq (gIf (gNot (gB (gFz (gCall Lw.m_law_is_dead [.r 0, .d (gVar 1), .d (gVar 2)])))) (gRet (gMove 1)) gNext)
    (gAsg 1 (gD (gOp dIx (gFz (gCallG Lw.m_law_death [.r 0, .d (gVar 1)] [])) (gC (.int 1)))))))
    (gRet (gMove 1)))
def m_law_heir : LS → R S := runDef [true, false, false] 4 g_law_heir
def g_Folk_die : LS → R O := (gSeq (gDrop (gCall Lw.m_measure [.d (gVar 2), .d (gC (.int 0)), .d (gC (.int 9999))]))
    (gSeq (gDrop (gCallG Lw.m_Folk_known [.o 0, .d (gVar 1)] [4, 5, 6]))
    (gSeq (gDrop (gCallG Lw.m_Folk_known [.o 0, .d (gVar 3)] [4, 5, 6]))
    (gSeq (gDrop (gCallG Lw.m_Folk_after_coming [.o 0, .d (gVar 1), .d (gVar 2)] [4, 5, 6]))
    (gSeq (gDrop (gCallG Lw.m_Folk_after_coming [.o 0, .d (gVar 3), .d (gVar 2)] [4, 5, 6]))
    (gSeq (gIf (gB (gDIn false 6 (gVar 1))) gNever gNext)
    (gSeq (gIf (gOr (gB (gOp dEq (gPeek 3) (gPeek 1))) (gB (gDIn false 6 (gVar 3)))) gNever gNext)
    (gDPut 6 (gVar 1) (gTup (gCons (gVar 2) (gCons (gVar 3) gNil)))))))))))
def m_Folk_die : LS → R S := runDef [true, false, false, false, true, true, true] 7 g_Folk_die
end Lw

namespace Lw
open PySem PySem.Spec PyProof.Rows L2 VS
end Lw

namespace Lw
open PySem PySem.Spec PyProof.Rows L2 VS
def g_law_folk : LS → R O := (gSeq (gAsg 6 (gLst gNil))
    (gSeq (gFor (fun L => ((gVar 1) L).bind asItems) (fName 7) (gSeq (gAsg 8 (gCall Lw.m_law_next [.r 0, .d (gC (.int 6))]))
    (gSeq (gDrop (gCallG Lw.m_Folk_come [.o 2, .d (gVar 7), .d (gVar 8), .d (gC (.int 1))] [3, 4, 5]))
    (gDrop (gApp 6 (gTup (gCons (gC (.str "come")) (gCons (gVar 7) (gCons (gVar 8) (gCons (gC (.int 1)) gNil))))))))))
    (gSeq (gAsg 9 (gUn dList (gPeek 1)))
    (gSeq (gFor (fun L => ((gCons (gFz (gCall Lw.m_law_next [.r 0, .d (gC (.int 6))])) gNil) L).bind rng1) (fName 10) (gIf (gB (gOp dGt (gUn dLen (gPeek 9)) (gC (.int 1)))) (gSeq (gAsg 7 (gD (gPopAt 9 (gFz (gCall Lw.m_law_next [.r 0, .d (gUn dLen (gPeek 9))])))))
    (gSeq (gAsg 11 (gD (gIxP 9 (gFz (gCall Lw.m_law_next [.r 0, .d (gUn dLen (gPeek 9))])))))
    (gSeq (gAsg 8 (gOp dAdd (gC (.int 6)) (gFz (gCall Lw.m_law_next [.r 0, .d (gC (.int 20))]))))
    (gSeq (gDrop (gCallG Lw.m_Folk_die [.o 2, .d (gVar 7), .d (gVar 8), .d (gVar 11)] [3, 4, 5]))
    (gDrop (gApp 6 (gTup (gCons (gC (.str "die")) (gCons (gVar 7) (gCons (gVar 8) (gCons (gVar 11) gNil))))))))))) gNext))
    (gRet (gMove 6))))))
def m_law_folk : LS → R S := runDef [true, true, true, true, true, true] 12 g_law_folk
def g_law_events : LS → R O := (gSeq (gAsg 5 (gLst gNil))
    (gSeq (gAsgT (fTup 2 (fCons (fName 6) (fCons (fName 7) fNil))) (gVar 3))
    (gSeq (gFor (fun L => ((gCons (gVar 4) gNil) L).bind rng1) (fName 8) (gSeq (gAsg 9 (gOp dAdd (gVar 7) (gFz (gCall Lw.m_law_next [.r 0, .d (gC (.int 20))]))))
    (gSeq (gAsg 10 (gD (gIxP 2 (gFz (gCall Lw.m_law_next [.r 0, .d (gUn dLen (gPeek 2))])))))
    (gSeq (gAsg 11 (gD (gIxP 2 (gFz (gCall Lw.m_law_next [.r 0, .d (gUn dLen (gPeek 2))])))))
    (gSeq (gIf (gB (gOp dGt (gFz (gCall Lw.m_law_next [.r 0, .d (gC (.int 3))])) (gC (.int 0)))) (gAsg 11 (gCall Lw.m_law_heir [.r 1, .d (gVar 6), .d (gVar 9)])) gNext)
    (gSeq (gIf (gB (gOp dEq (gFz (gCall Lw.m_law_next [.r 0, .d (gC (.int 3))])) (gC (.int 0)))) (gDrop (gApp 5 (gTup (gCons (gVar 9) (gCons (gC (.str "won")) (gCons (gC .none) (gCons (gVar 10) gNil))))))) (gDrop (gApp 5 (gTup (gCons (gVar 9) (gCons (gC (.str "given")) (gCons (gVar 11) (gCons (gVar 10) gNil))))))))
    (gAsg 6 (gD (gVar 10)))))))))
    (gSeq (gIf (gB (gOp dEq (gFz (gCall Lw.m_law_next [.r 0, .d (gC (.int 2))])) (gC (.int 0)))) (gRet (gMove 5)) gNext)
    (gSeq (gAsg 12 (gLst gNil))
    (gSeq (gFrz 5 (gFor (fun L => ((gCons (gVar 7) (gCons (gFz (gOp dAdd (gVar 7) (gC (.int 20)))) gNil)) L).bind rng2) (fName 13) (gDrop (gExt 12 (gFz (gLc [14] (fun L => ((gVar 5) L).bind asItems) (fName 14) (gB (gOp dEq (gIxP 14 (gC (.int 0))) (gPeek 13))) (gVar 14)))))))
    (gRet (gMove 12))))))))
def m_law_events : LS → R S := runDef [true, true, true, false, false] 15 g_law_events
def g_day_of : LS → R O := (gRet (gD (gIxP 0 (gC (.int 0)))))
def m_day_of : LS → R S := runDef [true] 1 g_day_of
def g_Folk_death : LS → R O := (gRet (gD (gDGetN 4 (gVar 1))))
def m_Folk_death : LS → R S := runDef [true, false, true, true, true] 5 g_Folk_death
def g_leave : LS → R O := (gWhile (fun _ => 100) (gB (gFz (gCallG Lw.m_Folk_dead [.o 1, .d (gOp dIx (gIxP 0 (gUn dNeg (gC (.int 1)))) (gC (.int 3))), .d (gVar 2)] [3, 4, 5]))) (gSeq (gAsg 6 (gD (gOp dIx (gIxP 0 (gUn dNeg (gC (.int 1)))) (gC (.int 3)))))
    (gSeq (gAsgT (fTup 2 (fCons (fName 7) (fCons (fName 8) fNil))) (gFz (gCallG Lw.m_Folk_death [.o 1, .d (gVar 6)] [3, 4, 5])))
    (gDrop (gApp 0 (gTup (gCons (gA dMax (gCons (gVar 7) (gCons (gOp dIx (gIxP 0 (gUn dNeg (gC (.int 1)))) (gC (.int 0))) gNil))) (gCons (gC (.str "left")) (gCons (gVar 6) (gCons (gVar 8) gNil))))))))))
def m_leave : LS → R S := runDef [true, true, false, true, true, true] 9 g_leave
def g_road : LS → R O := (gSeq (gIf (gB (gOp dLt (gPeek 3) (gIxP 0 (gC (.int 1))))) (gRet (gLst gNil)) gNext)
    (gSeq (gAsg 7 (gLst (gCons (gTup (gCons (gIxP 0 (gC (.int 1))) (gCons (gC (.str "brought")) (gCons (gC .none) (gCons (gIxP 0 (gC (.int 0))) gNil))))) gNil)))
    (gSeq (gFor (fun L => ((gFz (gUn dSortK0 (gVar 1))) L).bind asItems) (fTup 4 (fCons (fName 8) (fCons (fName 9) (fCons (fName 10) (fCons (fName 11) fNil))))) (gSeq (gIf (gB (gOp dGt (gPeek 8) (gPeek 3))) (fun L => .ok .bk L) gNext)
    (gSeq (gDrop (gCallG Lw.m_leave [.r 7, .o 2, .d (gVar 8)] [4, 5, 6]))
    (gSeq (gAsg 12 (gD (gOp dIx (gIxP 7 (gUn dNeg (gC (.int 1)))) (gC (.int 3)))))
    (gIf (gB (gOp dEq (gPeek 9) (gC (.str "won")))) (gDrop (gApp 7 (gTup (gCons (gVar 8) (gCons (gC (.str "won")) (gCons (gVar 12) (gCons (gVar 11) gNil))))))) (gIf (gB (gOp dEq (gPeek 12) (gPeek 10))) (gDrop (gApp 7 (gTup (gCons (gVar 8) (gCons (gC (.str "given")) (gCons (gVar 10) (gCons (gVar 11) gNil))))))) gNext))))))
    (gSeq (gDrop (gCallG Lw.m_leave [.r 7, .o 2, .d (gVar 3)] [4, 5, 6]))
    (gRet (gMove 7))))))
def m_road : LS → R S := runDef [false, false, true, false, true, true, true] 13 g_road
def g_holder : LS → R O := (gSeq (gAsg 7 (gCallG Lw.m_road [.d (gVar 0), .d (gVar 1), .o 2, .d (gVar 3)] [4, 5, 6]))
    (gSeq (gIf (gB (gOp dEq (gUn dLen (gPeek 7)) (gC (.int 0)))) (gRet (gD (gC .none))) gNext)
    (gRet (gD (gOp dIx (gIxP 7 (gUn dNeg (gC (.int 1)))) (gC (.int 3)))))))
def m_holder : LS → R S := runDef [false, false, true, false, true, true, true] 8 g_holder
end Lw

namespace Lw
open PySem PySem.Spec PyProof.Rows L2 VS
def g_law_step_fits : LS → R O := (gSeq (gIf (gOr (gNot (gB (gIsi "tuple" (gPeek 2)))) (gOr (gB (gOp dNe (gUn dLen (gPeek 2)) (gC (.int 4)))) (gNot (gB (gFz (gCall Lw.m_law_whole [.d (gIxP 2 (gC (.int 0)))])))))) (gRet (gD (gC (.bool false)))) gNext)
    (gSeq (gAsgT (fTup 4 (fCons (fName 4) (fCons (fName 5) (fCons (fName 6) (fCons (fName 7) fNil))))) (gVar 2))
    (gSeq (gIf (gOr (gB (gOp dLt (gPeek 4) (gIxP 3 (gC (.int 0))))) (gNot (gB (gFz (gCall (Lw.m_law_same 12) [.d (gVar 6), .d (gIxP 3 (gC (.int 3)))]))))) (gRet (gD (gC (.bool false)))) gNext)
    (gSeq (gIf (gB (gOp dEq (gPeek 5) (gC (.str "given")))) (gRet (gD (gOp dIn (gTup (gCons (gVar 4) (gCons (gC (.str "given")) (gCons (gVar 6) (gCons (gVar 7) gNil))))) (gPeek 1)))) gNext)
    (gSeq (gIf (gB (gOp dEq (gPeek 5) (gC (.str "won")))) (gRet (gD (gOp dIn (gTup (gCons (gVar 4) (gCons (gC (.str "won")) (gCons (gC .none) (gCons (gVar 7) gNil))))) (gPeek 1)))) gNext)
    (gSeq (gIf (gOr (gB (gOp dNe (gPeek 5) (gC (.str "left")))) (gNot (gB (gFz (gCall Lw.m_law_is_dead [.r 0, .d (gVar 6), .d (gVar 4)]))))) (gRet (gD (gC (.bool false)))) gNext)
    (gSeq (gAsgT (fTup 2 (fCons (fName 8) (fCons (fName 9) fNil))) (gFz (gCallG Lw.m_law_death [.r 0, .d (gVar 6)] [])))
    (gRet (gD (gAndV (gFz (gCall (Lw.m_law_same 12) [.d (gVar 7), .d (gVar 9)])) (gOrV (gOp dEq (gPeek 4) (gPeek 8)) (gOp dEq (gPeek 4) (gIxP 3 (gC (.int 0)))))))))))))))
def m_law_step_fits : LS → R S := runDef [true, true, false, false] 10 g_law_step_fits
def g_law_walks : LS → R O := (gSeq (gIf (gOr (gNot (gB (gIsi "list" (gPeek 3)))) (gB (gOp dEq (gUn dLen (gPeek 3)) (gC (.int 0))))) (gRet (gD (gC (.bool false)))) gNext)
    (gSeq (gIf (gNot (gB (gFz (gCall (Lw.m_law_same 12) [.d (gIxP 3 (gC (.int 0))), .d (gTup (gCons (gIxP 1 (gC (.int 1))) (gCons (gC (.str "brought")) (gCons (gC .none) (gCons (gIxP 1 (gC (.int 0))) gNil)))))])))) (gRet (gD (gC (.bool false)))) gNext)
    (gSeq (gFor (fun L => ((gCons (gC (.int 1)) (gCons (gUn dLen (gPeek 3)) gNil)) L).bind rng2) (fName 5) (gIf (gNot (gB (gFz (gCall Lw.m_law_step_fits [.r 0, .r 2, .d (gIxP 3 (gVar 5)), .d (gIxP 3 (gOp dSub (gVar 5) (gC (.int 1))))])))) (gRet (gD (gC (.bool false)))) gNext))
    (gRet (gD (gAndV (gOp dLe (gOp dIx (gIxP 3 (gUn dNeg (gC (.int 1)))) (gC (.int 0))) (gPeek 4)) (gUn dNot (gFz (gCall Lw.m_law_is_dead [.r 0, .d (gOp dIx (gIxP 3 (gUn dNeg (gC (.int 1)))) (gC (.int 3))), .d (gVar 4)])))))))))
def m_law_walks : LS → R S := runDef [true, true, true, true, false] 6 g_law_walks
def g_main_k25 : LS → R O := (gSeq (gAsg 1 (gCall Lw.m_law_src [.r 0]))
    (gSeq (gAsg 2 (gD (gFz (gCall Lw.m_law_names [.r 1, .d (gFz (gOp dAdd (gC (.int 2)) (gFz (gCall Lw.m_law_next [.r 1, .d (gC (.int 5))]))))]))))
    (gNewO 3 0 (fl_ ["arrivals", "ranks", "deaths"] [10, 11, 12]) (gNewOb 0 Lw.m_Folk_init)
    (gSeq (gAsg 4 (gCallG Lw.m_law_folk [.r 1, .r 2, .o 3] [10, 11, 12]))
    (gSeq (gAsg 5 (gD (gTup (gCons (gIxP 2 (gFz (gCall Lw.m_law_next [.r 1, .d (gUn dLen (gPeek 2))]))) (gCons (gFz (gOp dAdd (gC (.int 5)) (gFz (gCall Lw.m_law_next [.r 1, .d (gC (.int 8))])))) gNil)))))
    (gSeq (gAsg 6 (gD (gFz (gCall Lw.m_law_events [.r 1, .r 4, .r 2, .d (gVar 5), .d (gFz (gCall Lw.m_law_next [.r 1, .d (gC (.int 15))]))]))))
    (gSeq (gAsg 7 (gD (gFz (gLst gNil))))
    (gSeq (gFor (fun L => ((gCons (gIxP 5 (gC (.int 1))) (gCons (gFz (gOp dAdd (gIxP 5 (gC (.int 1))) (gC (.int 22)))) gNil)) L).bind rng2) (fName 8) (gSeq (gAsg 9 (gD (gFz (gCallG Lw.m_road [.d (gVar 5), .d (gFz (gUn dList (gPeek 6))), .o 3, .d (gVar 8)] [10, 11, 12]))))
    (gSeq (gIf (gNot (gB (gFz (gCall Lw.m_law_walks [.r 4, .r 5, .r 6, .r 9, .d (gVar 8)])))) (gRet (gD (gC (.bool false)))) gNext)
    (gSeq (gIf (gNot (gB (gFz (gCall (Lw.m_law_same 12) [.d (gFz (gSl (gPeek 9) gNo (gSo (gUn dLen (gPeek 7))))), .d (gVar 7)])))) (gRet (gD (gC (.bool false)))) gNext)
    (gSeq (gIf (gNot (gB (gFz (gCall (Lw.m_law_same 12) [.d (gFz (gCallG Lw.m_holder [.d (gVar 5), .d (gFz (gUn dList (gPeek 6))), .o 3, .d (gVar 8)] [10, 11, 12])), .d (gOp dIx (gIxP 9 (gUn dNeg (gC (.int 1)))) (gC (.int 3)))])))) (gRet (gD (gC (.bool false)))) gNext)
    (gAsg 7 (gD (gVar 9))))))))
    (gRet (gD (gOp dEq (gFz (gCallG Lw.m_road [.d (gVar 5), .d (gFz (gUn dList (gPeek 6))), .o 3, .d (gOp dSub (gIxP 5 (gC (.int 1))) (gC (.int 1)))] [10, 11, 12])) (gFz (gLst gNil)))))))))))))
def m_main_k25 : LS → R S := runDef [true] 13 g_main_k25
end Lw

namespace VS
open PySem PySem.Spec PyProof.Rows L2
inductive T (ε α : Type) where
  | ok (a : α)
  | er (c : Nat) (e : ε)
  | no
namespace T
variable {ε ε' α β γ ν ρ : Type}
def bind (t : T ε α) (k : α → T ε β) : T ε β := match t with
  | .ok a => k a
  | .er c e => .er c e
  | .no => .no
theorem ok_bind (a : α) (k : α → T ε β) : (T.ok a).bind k = k a := rfl
def ofO (o : Option α) : T ε α := match o with
  | some a => .ok a
  | none => .no
@[irreducible] def gd (p : Prop) [Decidable p] (t : T ε α) : T ε α := if p then t else .no
theorem gd_of {p : Prop} [Decidable p] (h : p) (t : T ε α) : gd p t = t := by
  unfold gd
  exact if_pos h
def lift (f : ε' → ε) (t : T ε' α) : T ε α := match t with
  | .ok a => .ok a
  | .er c e => .er c (f e)
  | .no => .no
def forM : List α → ν → (α → ν → T ε ν) → T ε ν
  | [], v, _ => .ok v
  | x :: xs, v, f => (f x v).bind fun v' => forM xs v' f
inductive Lp (ν ρ : Type) where
  | nx (v : ν)
  | bk (v : ν)
  | rt (r : ρ)
inductive Le (ν ρ : Type) where
  | nx (v : ν)
  | rt (r : ρ)
def forL : List α → ν → (α → ν → T ε (Lp ν ρ)) → T ε (Le ν ρ)
  | [], v, _ => .ok (.nx v)
  | x :: xs, v, f => (f x v).bind fun r => match r with
    | .nx v' => forL xs v' f
    | .bk v' => .ok (.nx v')
    | .rt r => .ok (.rt r)
def bindL (t : T ε (Le ν ρ)) (n : ν → T ε α) (r : ρ → T ε α) : T ε α := t.bind fun z => match z with
  | .nx v => n v
  | .rt x => r x
theorem bindL_nx (v : ν) (n : ν → T ε α) (r : ρ → T ε α) : bindL (.ok (.nx v)) n r = n v := rfl
def whileM : Nat → ν → (ν → T ε Bool) → (ν → T ε ν) → T ε ν
  | 0, _, _, _ => .no
  | n + 1, v, c, f => (c v).bind fun b => if b = true then (f v).bind fun v' => whileM n v' c f else .ok v
end T

def Mt (A L : LS) : Prop := L.length = A.length ∧ ∀ (i : Nat) (s : S), A[i]? = some (some s) → L[i]? = some (some s)
theorem Mt.refl (A : LS) : Mt A A := ⟨rfl, fun _ _ h => h⟩
theorem Mt.trans {A B C : LS} (h : Mt A B) (k : Mt B C) : Mt A C := ⟨k.1.trans h.1, fun i s e => k.2 i s (h.2 i s e)⟩
theorem Mt.set {A L : LS} (h : Mt A L) (i : Nat) (x : Option S) : Mt (A.set i x) (L.set i x) := ⟨by rw [List.length_set, List.length_set]; exact h.1, fun j s e => by
  rcases set_get e with ⟨rfl, hs⟩ | ⟨hj, hs⟩
  · have hlt : i < A.length := by
      have := (List.getElem?_eq_some_iff.mp e).1
      rwa [List.length_set] at this
    rw [List.getElem?_set_self (by rw [h.1]; exact hlt), hs]
  · rw [List.getElem?_set_ne hj]
    exact h.2 j s hs⟩
theorem Mt.off {A L : LS} (h : Mt A L) (i : Nat) : Mt (A.set i none) L := ⟨by rw [List.length_set]; exact h.1, fun j s e => by
  rcases set_get e with ⟨_, hs⟩ | ⟨hj, hs⟩
  · cases hs
  · exact h.2 j s hs⟩
theorem Mt.offL {A L : LS} (h : Mt A L) (i : Nat) (x : Option S) : Mt (A.set i none) (L.set i x) := ⟨by rw [List.length_set, List.length_set]; exact h.1, fun j s e => by
  rcases set_get e with ⟨_, hs⟩ | ⟨hj, hs⟩
  · cases hs
  · rw [List.getElem?_set_ne hj]
    exact h.2 j s hs⟩
theorem mt_nil : Mt [] [] := Mt.refl _
theorem mt_k {A L : LS} {x : Option S} (h : Mt A L) : Mt (x :: A) (x :: L) := ⟨by rw [List.length_cons, List.length_cons, h.1], fun i s e => by
  cases i with
  | zero => exact e
  | succ i => exact h.2 i s e⟩
theorem mt_w {A L : LS} {x : Option S} (h : Mt A L) : Mt (none :: A) (x :: L) := ⟨by rw [List.length_cons, List.length_cons, h.1], fun i s e => by
  cases i with
  | zero => cases e
  | succ i => exact h.2 i s e⟩
theorem Mt.app {A L B M : LS} (h : Mt A L) (k : Mt B M) : Mt (A ++ B) (L ++ M) := ⟨by rw [List.length_append, List.length_append, h.1, k.1], fun i s e => by
  by_cases hi : i < A.length
  · rw [List.getElem?_append_left hi] at e
    rw [List.getElem?_append_left (by rw [h.1]; exact hi)]
    exact h.2 i s e
  · rw [List.getElem?_append_right (Nat.le_of_not_lt hi)] at e
    rw [List.getElem?_append_right (by rw [h.1]; exact Nat.le_of_not_lt hi), h.1]
    exact k.2 _ s e⟩
theorem Mt.mask : ∀ {md : List Bool} {A L : LS}, Mt A L → Mt (maskL md A) (maskL md L)
  | [], A, L, h => by cases A <;> cases L <;> exact mt_nil
  | b :: md, [], [], h => Mt.refl _
  | b :: md, [], _ :: _, h => by cases h.1
  | b :: md, _ :: _, [], h => by cases h.1
  | b :: md, x :: A, y :: L, h => by
    have ht : Mt A L := ⟨Nat.succ.inj h.1, fun i s e => h.2 (i + 1) s e⟩
    show Mt ((if b then x else none) :: maskL md A) ((if b then y else none) :: maskL md L)
    cases b with
    | false => exact mt_k (Mt.mask ht)
    | true =>
      cases x with
      | none => exact mt_w (Mt.mask ht)
      | some s =>
        have := h.2 0 s rfl
        have hy : y = some s := Option.some.inj this
        rw [hy]
        exact mt_k (Mt.mask ht)

section
variable {ε ε' α β γ δ ω ω' ν ρ : Type}
def SimR (r : R ω) (t : T ε β) (F : β → ω) (B : β → LS) (X : ε → LS) : Prop := match t with
  | .ok b => ∃ L, r = .ok (F b) L ∧ Mt (B b) L
  | .er c e => ∃ L, r = .err c L ∧ Mt (X e) L
  | .no => True
def SK (A : LS) (k : LS → R ω) (t : T ε β) (F : β → ω) (B : β → LS) (X : ε → LS) : Prop := ∀ L, Mt A L → SimR (k L) t F B X
def Pu {α : Type} (A : LS) (g : LS → R α) (a : α) : Prop := ∀ L, Mt A L → g L = .ok a L
structure Kont (ω : Type) where
  nx : LS → R ω
  rt : S → LS → R ω
  bk : LS → R ω
  ct : LS → R ω
def fin (K : Kont ω) (r : R O) : R ω := match r with
  | .ok .nx L => K.nx L
  | .ok (.rt s) L => K.rt s L
  | .ok .bk L => K.bk L
  | .ok .ct L => K.ct L
  | .err c L => .err c L
  | .stuck => .stuck
def Kont.next (K : Kont ω) (g : LS → R O) : Kont ω := { K with nx := fun L => fin K (g L) }
variable {A A' : LS} {F : β → ω} {B : β → LS} {X : ε → LS} {t : T ε β}

theorem k_ok {w : ω} {b : β} (hw : w = F b) (hB : Mt (B b) A) : SK A (fun L => .ok w L) (.ok b) F B X := fun L hL => ⟨L, by rw [hw], hB.trans hL⟩
theorem k_no {k : LS → R ω} : SK A k (.no) F B X := fun _ _ => trivial
theorem k_gd {k : LS → R ω} {p : Prop} [Decidable p] (h : p → SK A k t F B X) : SK A k (T.gd p t) F B X := by
  unfold T.gd
  split
  · exact h (by assumption)
  · exact k_no
theorem e_pu {g : LS → R α} {a : α} {k : α → LS → R ω} (h : Pu A g a) (h2 : SK A (k a) t F B X) : SK A (fun L => (g L).bind k) t F B X := fun L hL => by
  show SimR ((g L).bind k) t F B X
  rw [h L hL]
  exact h2 L hL
theorem e_ok {a : α} {k : α → LS → R ω} (h2 : SK A (k a) t F B X) : SK A (fun L => (R.ok a L).bind k) t F B X := h2
theorem bind_assoc' {r : R α} {k : α → LS → R γ} {j : γ → LS → R ω} : (r.bind k).bind j = r.bind fun a L => (k a L).bind j := by cases r <;> rfl
theorem e_bind {g : LS → R α} {k : α → LS → R γ} {j : γ → LS → R ω} (h : SK A (fun L => (g L).bind fun a L1 => (k a L1).bind j) t F B X) : SK A (fun L => ((g L).bind k).bind j) t F B X := fun L hL => by
  show SimR (((g L).bind k).bind j) t F B X
  rw [bind_assoc']
  exact h L hL
theorem e_d {g : LS → R D} {k : S → LS → R ω} (h : SK A (fun L => (g L).bind fun d L1 => k (.d d) L1) t F B X) : SK A (fun L => (gD g L).bind k) t F B X := e_bind h
theorem e_fz {g : LS → R S} {k : D → LS → R ω} (h : SK A (fun L => (g L).bind fun s L1 => (frS s L1).bind k) t F B X) : SK A (fun L => (gFz g L).bind k) t F B X := e_bind h
theorem e_B {g : LS → R D} {k : Bool → LS → R ω} (h : SK A (fun L => (g L).bind fun d L1 => (asB d L1).bind k) t F B X) : SK A (fun L => (gB g L).bind k) t F B X := e_bind h
theorem e_op {f : D → D → Option α} {ga gb : LS → R D} {k : α → LS → R ω} (h : SK A (fun L => (ga L).bind fun d L1 => (gb L1).bind fun e L2 => (ofO (f d e) L2).bind k) t F B X) : SK A (fun L => (gOp f ga gb L).bind k) t F B X := fun L hL => by
  show SimR (((ga L).bind fun d L1 => (gb L1).bind fun e L2 => ofO (f d e) L2).bind k) t F B X
  rw [bind_assoc']
  have := h L hL
  dsimp only at this
  cases e : ga L with
  | stuck => rw [e] at this; exact this
  | err c L1 => rw [e] at this; exact this
  | ok d L1 =>
    rw [e] at this
    show SimR (((gb L1).bind fun e L2 => ofO (f d e) L2).bind k) t F B X
    rw [bind_assoc']
    exact this
theorem e_un {f : D → Option α} {ga : LS → R D} {k : α → LS → R ω} (h : SK A (fun L => (ga L).bind fun d L1 => (ofO (f d) L1).bind k) t F B X) : SK A (fun L => (gUn f ga L).bind k) t F B X := e_bind h
theorem e_gA {f : List D → Option α} {gs : LS → R (List D)} {k : α → LS → R ω} (h : SK A (fun L => (gs L).bind fun ds L1 => (ofO (f ds) L1).bind k) t F B X) : SK A (fun L => (gA f gs L).bind k) t F B X := e_bind h
theorem e_o {o : Option α} {z : α} {k : α → LS → R ω} (h : o = some z) (h2 : SK A (k z) t F B X) : SK A (fun L => (ofO o L).bind k) t F B X := by
  rw [h]
  exact h2
theorem e_oO {o : Option α} {p : Option γ} {f : γ → α} {k : α → LS → R ω} {t' : γ → T ε β} (h : o = p.map f) (h2 : ∀ z, SK A (k (f z)) (t' z) F B X) : SK A (fun L => (ofO o L).bind k) ((T.ofO p).bind t') F B X := by
  rw [h]
  cases p with
  | none => exact k_no
  | some z => exact h2 z
theorem e_cons {a : LS → R D} {r : LS → R (List D)} {k : List D → LS → R ω} (h : SK A (fun L => (a L).bind fun d L1 => (r L1).bind fun ds L2 => k (d :: ds) L2) t F B X) : SK A (fun L => (gCons a r L).bind k) t F B X := fun L hL => by
  show SimR (((a L).bind fun d L1 => (r L1).bind fun ds L2 => R.ok (d :: ds) L2).bind k) t F B X
  rw [bind_assoc']
  have := h L hL
  dsimp only at this
  cases e : a L with
  | stuck => rw [e] at this; exact this
  | err c L1 => rw [e] at this; exact this
  | ok d L1 =>
    rw [e] at this
    show SimR (((r L1).bind fun ds L2 => R.ok (d :: ds) L2).bind k) t F B X
    rw [bind_assoc']
    exact this
theorem e_tup {a : LS → R (List D)} {k : D → LS → R ω} (h : SK A (fun L => (a L).bind fun ds L1 => (if ds.length ≤ sizeLine then R.ok (PyData.tuple ds) L1 else .stuck).bind k) t F B X) : SK A (fun L => (gTup a L).bind k) t F B X := e_bind h
theorem e_iteP {p : Prop} [Decidable p] {r : LS → R α} {k : α → LS → R ω} (hp : p) (h : SK A (fun L => (r L).bind k) t F B X) : SK A (fun L => (if p then r L else R.stuck).bind k) t F B X := by
  simp only [if_pos hp]
  exact h
theorem e_move {i : Nat} {s : S} {k : S → LS → R ω} (h : A[i]? = some (some s)) (hs : ∀ ns, s ≠ .scr ns) (h2 : SK (A.set i none) (k s) t F B X) (hb : s.own = true := by rfl) : SK A (fun L => (gMove i L).bind k) t F B X := fun L hL => by
  show SimR ((gMove i L).bind k) t F B X
  unfold gMove
  rw [hL.2 i _ h]
  cases s with
  | d d => exact h2 _ (hL.off i)
  | scr ns => exact absurd rfl (hs ns)
  | ol _ => exact h2 _ (hL.offL i _)
  | odK _ => exact h2 _ (hL.offL i _)
  | odT _ => exact h2 _ (hL.offL i _)
  | ob _ _ => exact h2 _ (hL.offL i _)
  | os _ => exact h2 _ (hL.offL i _)
  | ot _ => exact h2 _ (hL.offL i _)
  | b _ => cases hb
  | bl _ => cases hb
theorem e_not {a : LS → R Bool} {k : Bool → LS → R ω} (h : SK A (fun L => (a L).bind fun x L1 => k (!x) L1) t F B X) : SK A (fun L => (gNot a L).bind k) t F B X := e_bind h
theorem e_cut {g : LS → R α} {k : α → LS → R ω} {t1 : T ε γ} {F1 : γ → α} {B1 : γ → LS} {t' : γ → T ε β} (h1 : SK A g t1 F1 B1 X) (h2 : ∀ c, SK (B1 c) (k (F1 c)) (t' c) F B X) : SK A (fun L => (g L).bind k) (t1.bind t') F B X := fun L hL => by
  show SimR ((g L).bind k) (t1.bind t') F B X
  have h := h1 L hL
  cases t1 with
  | no => trivial
  | er c e =>
    obtain ⟨L1, h3, h4⟩ := h
    try dsimp only at h3
    rw [h3]
    exact ⟨L1, rfl, h4⟩
  | ok b =>
    obtain ⟨L1, h3, h4⟩ := h
    try dsimp only at h3
    rw [h3]
    exact h2 b L1 h4
theorem e_id {g : LS → R ω} (h : SK A (fun L => (g L).bind fun a L1 => R.ok a L1) t F B X) : SK A g t F B X := fun L hL => by
  have := h L hL
  dsimp only at this
  cases e : g L with
  | _ => simp only [e] at this; exact this

abbrev SS (A : LS) (g : LS → R O) (K : Kont ω) (t : T ε β) (F : β → ω) (B : β → LS) (X : ε → LS) : Prop := SK A (fun L => fin K (g L)) t F B X
theorem s_then {K : Kont ω} {g : LS → R O} (h : SS A g K t F B X) : SK A (K.next g).nx t F B X := h
theorem s_seq {K : Kont ω} {g1 g2 : LS → R O} (h : SS A g1 (K.next g2) t F B X) : SS A (gSeq g1 g2) K t F B X := fun L hL => by
  have := h L hL
  dsimp only at this
  show SimR (fin K (gSeq g1 g2 L)) t F B X
  unfold gSeq
  cases e : g1 L with
  | stuck => simp only [e] at this; exact this
  | err c L1 => simp only [e] at this; exact this
  | ok o L1 =>
    simp only [e] at this
    cases o <;> exact this
theorem s_next {K : Kont ω} (h : SK A K.nx t F B X) : SS A gNext K t F B X := h
theorem fin_bind {K : Kont ω} {r : R α} {k : α → LS → R O} : fin K (r.bind k) = r.bind fun a L => fin K (k a L) := by cases r <;> rfl
theorem s_bind {K : Kont ω} {g : LS → R α} {k : α → LS → R O} (h : SK A (fun L => (g L).bind fun a L1 => fin K (k a L1)) t F B X) : SS A (fun L => (g L).bind k) K t F B X := fun L hL => by
  show SimR (fin K ((g L).bind k)) t F B X
  rw [fin_bind]
  exact h L hL
theorem s_asg {K : Kont ω} {i : Nat} {g : LS → R S} (h : SK A (fun L => (g L).bind fun s L1 => K.nx (L1.set i (some s))) t F B X) : SS A (gAsg i g) K t F B X := s_bind h
theorem s_set {K : Kont ω} {i : Nat} {s : S} {A' : LS} (hA : A.set i (some s) = A') (h : SK A' K.nx t F B X) : SK A (fun L => K.nx (L.set i (some s))) t F B X := fun L hL => h _ (by rw [← hA]; exact hL.set i _)
theorem s_drop {K : Kont ω} {g : LS → R α} (h : SK A (fun L => (g L).bind fun _ L1 => K.nx L1) t F B X) : SS A (gDrop g) K t F B X := s_bind h
theorem s_ret {K : Kont ω} {g : LS → R S} (h : SK A (fun L => (g L).bind fun s L1 => K.rt s L1) t F B X) : SS A (gRet g) K t F B X := s_bind h
theorem s_bk {K : Kont ω} (h : SK A K.bk t F B X) : SS A (fun L => .ok .bk L) K t F B X := h
theorem s_if {K : Kont ω} {c : LS → R Bool} {g1 g2 : LS → R O} {x : Bool} {t1 t2 : T ε β} (hc : Pu A c x) (h1 : SS A g1 K t1 F B X) (h2 : SS A g2 K t2 F B X) : SS A (gIf c g1 g2) K (if x = true then t1 else t2) F B X := s_bind (e_pu hc (by
  cases x with
  | true => exact h1
  | false => exact h2))
theorem s_ifE {K : Kont ω} {c : LS → R Bool} {g1 g2 : LS → R O} (h : SK A (fun L => (c L).bind fun b L1 => fin K (if b = true then g1 L1 else g2 L1)) t F B X) : SS A (gIf c g1 g2) K t F B X := s_bind h
theorem s_ite {K : Kont ω} {g1 g2 : LS → R O} {x : Bool} {t1 t2 : T ε β} (h1 : SS A g1 K t1 F B X) (h2 : SS A g2 K t2 F B X) : SK A (fun L => fin K (if x = true then g1 L else g2 L)) (if x = true then t1 else t2) F B X := by
  cases x with
  | true => exact h1
  | false => exact h2
def KN : Kont Unit := ⟨fun L => .ok () L, fun _ _ => .stuck, fun _ => .stuck, fun _ => .stuck⟩
theorem s_cut {K : Kont ω} {g : LS → R O} {t1 : T ε γ} {B1 : γ → LS} {t' : γ → T ε β} (h1 : SS A g KN t1 (fun _ => ()) B1 X) (h2 : ∀ c, SK (B1 c) K.nx (t' c) F B X) : SS A g K (t1.bind t') F B X := fun L hL => by
  show SimR (fin K (g L)) (t1.bind t') F B X
  have h := h1 L hL
  cases t1 with
  | no => trivial
  | er c e =>
    obtain ⟨L1, h3, h4⟩ := h
    try dsimp only at h3
    cases e : g L with
    | ok o L2 => rw [e] at h3; cases o <;> cases h3
    | stuck => rw [e] at h3; cases h3
    | err c' L2 => rw [e] at h3; cases h3; exact ⟨L1, rfl, h4⟩
  | ok b =>
    obtain ⟨L1, h3, h4⟩ := h
    try dsimp only at h3
    cases e : g L with
    | ok o L2 => rw [e] at h3; cases o <;> cases h3; exact h2 b _ h4
    | stuck => rw [e] at h3; cases h3
    | err c' L2 => rw [e] at h3; cases h3
def leO (f : ρ → S) : T.Le ν ρ → O
  | .nx _ => .nx
  | .rt r => .rt (f r)
def leB (Bn : ν → LS) (Br : ρ → LS) : T.Le ν ρ → LS
  | .nx v => Bn v
  | .rt r => Br r
def Kf (md : List Bool) : Kont S := ⟨fun L => .ok (.d .none) (maskL md L), fun s L => .ok s (maskL md L), fun _ => .stuck, fun _ => .stuck⟩
theorem f_def {md : List Bool} {N : Nat} {g : LS → R O} {A0 : LS} {F : β → S} {X' : ε → LS} (h : SS (A0 ++ List.replicate (N - A0.length) none) g (Kf md) t F B X') (hX : ∀ e, Mt (X e) (maskL md (X' e))) : SK A0 (runDef md N g) t F B X := fun L hL => by
  have h1 := h (L ++ List.replicate (N - L.length) none) (by rw [hL.1]; exact hL.app (Mt.refl _))
  unfold runDef
  cases t with
  | no => trivial
  | er c e =>
    obtain ⟨L1, h3, h4⟩ := h1
    try dsimp only at h3
    cases e' : g (L ++ List.replicate (N - L.length) none) with
    | ok o L2 => rw [e'] at h3; cases o <;> cases h3
    | stuck => rw [e'] at h3; cases h3
    | err c' L2 => rw [e'] at h3; cases h3; exact ⟨_, rfl, (hX e).trans h4.mask⟩
  | ok b =>
    obtain ⟨L1, h3, h4⟩ := h1
    try dsimp only at h3
    cases e' : g (L ++ List.replicate (N - L.length) none) with
    | stuck => rw [e'] at h3; cases h3
    | err c' L2 => rw [e'] at h3; cases h3
    | ok o L2 =>
      rw [e'] at h3
      cases o with
      | nx => injection h3 with h5 h6; exact ⟨_, by show R.ok _ _ = _; rw [h5], by rw [h6]; exact h4⟩
      | rt s => injection h3 with h5 h6; exact ⟨_, by show R.ok _ _ = _; rw [h5], by rw [h6]; exact h4⟩
      | bk => cases h3
      | ct => cases h3
theorem f_rt {md : List Bool} {s : S} {b : β} {F : β → S} (hs : s = F b) (hB : Mt (B b) (maskL md A)) : SK A (fun L => (Kf md).rt s L) (.ok b) F B X := fun L hL => ⟨_, by show R.ok _ _ = _; rw [hs], hB.trans hL.mask⟩
theorem f_nx {md : List Bool} {b : β} {F : β → S} (hs : S.d .none = F b) (hB : Mt (B b) (maskL md A)) : SK A (Kf md).nx (.ok b) F B X := fun L hL => ⟨_, by show R.ok _ _ = _; rw [hs], hB.trans hL.mask⟩

theorem e_call {m : LS → R S} {as : List Ar} {k : S → LS → R ω} (h : SK A (fun L => (evArgs as L).bind fun xs L1 => (if (refs xs).Nodup then callAt m xs L1 else .stuck).bind k) t F B X) : SK A (fun L => (gCall m as L).bind k) t F B X := e_bind h
theorem a_nil {k : List Av → LS → R ω} (h : SK A (k []) t F B X) : SK A (fun L => (evArgs [] L).bind k) t F B X := h
theorem a_d {g : LS → R D} {as : List Ar} {k : List Av → LS → R ω} (h : SK A (fun L => (g L).bind fun d L1 => (evArgs as L1).bind fun xs L2 => k (.d d :: xs) L2) t F B X) : SK A (fun L => (evArgs (.d g :: as) L).bind k) t F B X := fun L hL => by
  have h := h L hL
  dsimp only at h
  show SimR (((g L).bind fun d L1 => (evArgs as L1).bind fun xs L2 => R.ok (Av.d d :: xs) L2).bind k) t F B X
  rw [bind_assoc']
  cases e : g L with
  | stuck => rw [e] at h; exact h
  | err c L1 => rw [e] at h; exact h
  | ok d L1 =>
    rw [e] at h
    show SimR (((evArgs as L1).bind fun xs L2 => R.ok (Av.d d :: xs) L2).bind k) t F B X
    rw [bind_assoc']
    exact h
theorem a_r {i : Nat} {s : S} {as : List Ar} {k : List Av → LS → R ω} (hi : A[i]? = some (some s)) (h : SK A (fun L => (evArgs as L).bind fun xs L2 => k (.r i :: xs) L2) t F B X) : SK A (fun L => (evArgs (.r i :: as) L).bind k) t F B X := fun L hL => by
  have h := h L hL
  dsimp only at h
  show SimR ((match L[i]? with
    | some (some _) => (evArgs as L).bind fun xs L2 => R.ok (Av.r i :: xs) L2
    | _ => .stuck).bind k) t F B X
  rw [hL.2 i s hi]
  show SimR (((evArgs as L).bind fun xs L2 => R.ok (Av.r i :: xs) L2).bind k) t F B X
  rw [bind_assoc']
  exact h
theorem Mt.join {A L : LS} (h : Mt A L) (i : Nat) {s : S} (e : (A[i]?).join = some s) : (L[i]?).join = some s := by
  cases e1 : A[i]? with
  | none => rw [e1] at e; cases e
  | some o =>
    rw [e1] at e
    have e : o = some s := e
    subst e
    rw [h.2 i s e1]
    rfl
theorem Mt.slots {A L : LS} (h : Mt A L) : ∀ xs : List Av, Mt (xs.map (slotOf A)) (xs.map (slotOf L))
  | [] => mt_nil
  | .d d :: xs => mt_k (h.slots xs)
  | .r i :: xs => by
    show Mt ((A[i]?).join :: xs.map (slotOf A)) ((L[i]?).join :: xs.map (slotOf L))
    cases e : (A[i]?).join with
    | none => exact mt_w (h.slots xs)
    | some s =>
      rw [h.join i e]
      exact mt_k (h.slots xs)
theorem Mt.set2 {A L : LS} {x y : Option S} (h : Mt A L) (i : Nat) (hx : ∀ s, x = some s → y = some s) : Mt (A.set i x) (L.set i y) := by
  cases x with
  | none => exact h.offL i y
  | some s => rw [hx s rfl]; exact h.set i _
theorem Mt.back : ∀ (xs : List Av) {A L ss zs : LS}, Mt A L → Mt ss zs → Mt (putBack xs ss A) (putBack xs zs L)
  | [], A, L, ss, zs, h, k => by cases ss <;> cases zs <;> exact h
  | .r i :: xs, A, L, [], [], h, k => h
  | .d d :: xs, A, L, [], [], h, k => h
  | .r i :: xs, A, L, [], _ :: _, h, k => by cases k.1
  | .d _ :: xs, A, L, [], _ :: _, h, k => by cases k.1
  | .r i :: xs, A, L, _ :: _, [], h, k => by cases k.1
  | .d _ :: xs, A, L, _ :: _, [], h, k => by cases k.1
  | .d d :: xs, A, L, x :: ss, y :: zs, h, k => Mt.back xs (ss := ss) (zs := zs) h ⟨Nat.succ.inj k.1, fun i s e => k.2 (i + 1) s e⟩
  | .r i :: xs, A, L, x :: ss, y :: zs, h, k => Mt.back xs (ss := ss) (zs := zs) (h.set2 i fun s e => by
      have := k.2 0 s (by rw [e]; rfl)
      exact Option.some.inj this) ⟨Nat.succ.inj k.1, fun i s e => k.2 (i + 1) s e⟩
theorem c_call {m : LS → R S} {xs : List Av} {k : S → LS → R ω} {A0 : LS} {tm : T ε γ} {Fm : γ → S} {Bm : γ → LS} {Xm : ε → LS} {t' : γ → T ε β} (nd : (refs xs).Nodup) (hA : xs.map (slotOf A) = A0) (hm : SK A0 m tm Fm Bm Xm) (hX : ∀ e, Mt (X e) (putBack xs (Xm e) A))
    (h : ∀ c, SK (putBack xs (Bm c) A) (k (Fm c)) (t' c) F B X) : SK A (fun L => (if (refs xs).Nodup then callAt m xs L else .stuck).bind k) (tm.bind t') F B X := fun L hL => by
  have h1 := hm (xs.map (slotOf L)) (by rw [← hA]; exact hL.slots xs)
  show SimR ((if (refs xs).Nodup then callAt m xs L else .stuck).bind k) (tm.bind t') F B X
  rw [if_pos nd]
  unfold callAt
  cases tm with
  | no => trivial
  | er c e =>
    obtain ⟨L1, h2, h3⟩ := h1
    try dsimp only at h2
    rw [h2]
    exact ⟨_, rfl, (hX e).trans (Mt.back xs hL h3)⟩
  | ok b =>
    obtain ⟨L1, h2, h3⟩ := h1
    try dsimp only at h2
    rw [h2]
    exact h b _ (Mt.back xs hL h3)
def Tg (A : LS) (f : D → LS → Option LS) (d : D) (A' : LS) : Prop := ∀ L, Mt A L → ∃ L', f d L = some L' ∧ Mt A' L'
def Tgs (A : LS) (f : List D → LS → Option LS) (ds : List D) (A' : LS) : Prop := ∀ L, Mt A L → ∃ L', f ds L = some L' ∧ Mt A' L'
theorem tg_name {i : Nat} {d : D} : Tg A (fName i) d (A.set i (some (.d d))) := fun L hL => ⟨_, rfl, hL.set i _⟩
theorem tgs_nil : Tgs A fNil [] A := fun L hL => ⟨L, rfl, hL⟩
theorem tgs_cons {f : D → LS → Option LS} {r : List D → LS → Option LS} {d : D} {ds : List D} {A1 A2 : LS} (h : Tg A f d A1) (k : Tgs A1 r ds A2) : Tgs A (fCons f r) (d :: ds) A2 := fun L hL => by
  obtain ⟨L1, h1, h2⟩ := h L hL
  obtain ⟨L2, k1, k2⟩ := k L1 h2
  exact ⟨L2, by show (f d L).bind (r ds) = _; rw [h1]; exact k1, k2⟩
theorem tg_tup {m : Nat} {f : List D → LS → Option LS} {ds : List D} {A1 : LS} (h : Tgs A f ds A1) (hm : ds.length = m) : Tg A (fTup m f) (.tuple ds) A1 := fun L hL => by
  obtain ⟨L1, h1, h2⟩ := h L hL
  exact ⟨L1, by show (if ds.length = m then f ds L else none) = _; rw [if_pos hm]; exact h1, h2⟩
theorem s_asgT {K : Kont ω} {f : D → LS → Option LS} {g : LS → R D} {d : D} {A1 : LS} (hg : Pu A g d) (hf : Tg A f d A1) (h : SK A1 K.nx t F B X) : SS A (gAsgT f g) K t F B X := fun L hL => by
  show SimR (fin K ((g L).bind fun d L1 => match f d L1 with
    | some L2 => R.ok .nx L2
    | none => .stuck)) t F B X
  rw [hg L hL]
  obtain ⟨L1, h1, h2⟩ := hf L hL
  show SimR (fin K (match f d L with
    | some L2 => R.ok .nx L2
    | none => .stuck)) t F B X
  rw [h1]
  exact h _ h2
def asgTQ (K : Kont ω) (f : D → LS → Option LS) (d : D) (L : LS) : R ω := fin K (match f d L with
    | some L2 => R.ok .nx L2
    | none => .stuck)
theorem s_asgTE {K : Kont ω} {f : D → LS → Option LS} {g : LS → R D} (h : SK A (fun L => (g L).bind (asgTQ K f)) t F B X) : SS A (gAsgT f g) K t F B X := s_bind h
theorem s_asgTQ {K : Kont ω} {f : D → LS → Option LS} {d : D} {A1 : LS} (hf : Tg A f d A1) (h : SK A1 K.nx t F B X) : SK A (asgTQ K f d) t F B X := fun L hL => by
  obtain ⟨L1, h1, h2⟩ := hf L hL
  unfold asgTQ
  rw [h1]
  exact h _ h2
def KL : Kont Unit := ⟨fun L => .ok () L, fun _ _ => .stuck, fun _ => .stuck, fun L => .ok () L⟩
theorem forGo_M {f : D → LS → Option LS} {g : LS → R O} {e : α → D} {Inv : ν → LS} {A1 : α → ν → LS} {tb : α → ν → T ε ν} (hf : ∀ x v, Tg (Inv v) f (e x) (A1 x v)) (hb : ∀ x v, SS (A1 x v) g KL (tb x v) (fun _ => ()) Inv X) :
    ∀ (xs : List α) (v : ν), SK (Inv v) (forGo f g (xs.map e)) (T.forM xs v tb) (fun _ => O.nx) Inv X
  | [], v => fun L hL => ⟨L, rfl, hL⟩
  | x :: xs, v => fun L hL => by
    obtain ⟨L1, h1, h2⟩ := hf x v L hL
    have h3 := hb x v L1 h2
    have ih := forGo_M hf hb xs
    show SimR (forGo f g (e x :: xs.map e) L) ((tb x v).bind fun v' => T.forM xs v' tb) _ _ _
    unfold forGo
    rw [h1]
    show SimR (match g L1 with
      | .ok .nx L2 => forGo f g (xs.map e) L2
      | .ok .ct L2 => forGo f g (xs.map e) L2
      | .ok .bk L2 => .ok .nx L2
      | r => r) _ _ _ _
    cases ht : tb x v with
    | no => trivial
    | er c z =>
      rw [ht] at h3
      obtain ⟨L3, h4, h5⟩ := h3
      try dsimp only at h4
      cases hg : g L1 with
      | ok o L2 => rw [hg] at h4; cases o <;> cases h4
      | stuck => rw [hg] at h4; cases h4
      | err c' L2 => rw [hg] at h4; cases h4; exact ⟨_, rfl, h5⟩
    | ok v' =>
      rw [ht] at h3
      obtain ⟨L3, h4, h5⟩ := h3
      try dsimp only at h4
      cases hg : g L1 with
      | stuck => rw [hg] at h4; cases h4
      | err c' L2 => rw [hg] at h4; cases h4
      | ok o L2 =>
        rw [hg] at h4
        cases o <;> cases h4
        · exact ih v' _ h5
        · exact ih v' _ h5
def KB : Kont O := ⟨fun L => .ok .nx L, fun s L => .ok (.rt s) L, fun L => .ok .bk L, fun L => .ok .nx L⟩
def lpO (f : ρ → S) : T.Lp ν ρ → O
  | .nx _ => .nx
  | .bk _ => .bk
  | .rt r => .rt (f r)
def lpB (Bn : ν → LS) (Br : ρ → LS) : T.Lp ν ρ → LS
  | .nx v => Bn v
  | .bk v => Bn v
  | .rt r => Br r
theorem forGo_L {f : D → LS → Option LS} {g : LS → R O} {e : α → D} {Inv : ν → LS} {Br : ρ → LS} {fr : ρ → S} {A1 : α → ν → LS} {tb : α → ν → T ε (T.Lp ν ρ)} (hf : ∀ x v, Tg (Inv v) f (e x) (A1 x v)) (hb : ∀ x v, SS (A1 x v) g KB (tb x v) (lpO fr) (lpB Inv Br) X) :
    ∀ (xs : List α) (v : ν), SK (Inv v) (forGo f g (xs.map e)) (T.forL xs v tb) (leO fr) (leB Inv Br) X
  | [], v => fun L hL => ⟨L, rfl, hL⟩
  | x :: xs, v => fun L hL => by
    obtain ⟨L1, h1, h2⟩ := hf x v L hL
    have h3 := hb x v L1 h2
    have ih := forGo_L hf hb xs
    show SimR (forGo f g (e x :: xs.map e) L) ((tb x v).bind _) _ _ _
    unfold forGo
    rw [h1]
    show SimR (match g L1 with
      | .ok .nx L2 => forGo f g (xs.map e) L2
      | .ok .ct L2 => forGo f g (xs.map e) L2
      | .ok .bk L2 => .ok .nx L2
      | r => r) _ _ _ _
    cases ht : tb x v with
    | no => trivial
    | er c z =>
      rw [ht] at h3
      obtain ⟨L3, h4, h5⟩ := h3
      try dsimp only at h4
      cases hg : g L1 with
      | ok o L2 => rw [hg] at h4; cases o <;> cases h4
      | stuck => rw [hg] at h4; cases h4
      | err c' L2 => rw [hg] at h4; cases h4; exact ⟨_, rfl, h5⟩
    | ok r =>
      rw [ht] at h3
      obtain ⟨L3, h4, h5⟩ := h3
      try dsimp only at h4
      cases hg : g L1 with
      | stuck => rw [hg] at h4; cases h4
      | err c' L2 => rw [hg] at h4; cases h4
      | ok o L2 =>
        rw [hg] at h4
        cases r with
        | nx v' =>
          cases o <;> cases h4
          · exact ih v' _ h5
          · exact ih v' _ h5
        | bk v' => cases o <;> cases h4; exact ⟨_, rfl, h5⟩
        | rt r => cases o <;> cases h4; exact ⟨_, rfl, h5⟩
theorem whGo_M {c : LS → R Bool} {g : LS → R O} {Inv : ν → LS} {tc : ν → T ε Bool} {tb : ν → T ε ν} (hc : ∀ v, SK (Inv v) c (tc v) id (fun _ => Inv v) X) (hb : ∀ v, SS (Inv v) g KL (tb v) (fun _ => ()) Inv X) :
    ∀ (n : Nat) (v : ν), SK (Inv v) (whGo c g n) (T.whileM n v tc tb) (fun _ => O.nx) Inv X
  | 0, v => k_no
  | n + 1, v => fun L hL => by
    have h1 := hc v L hL
    have ih := whGo_M hc hb n
    show SimR ((c L).bind fun b L1 => if b = true then (match g L1 with
      | .ok .nx L2 => whGo c g n L2
      | .ok .ct L2 => whGo c g n L2
      | .ok .bk L2 => .ok .nx L2
      | r => r) else .ok .nx L1) ((tc v).bind fun b => if b = true then (tb v).bind fun v' => T.whileM n v' tc tb else .ok v) _ _ _
    cases ht : tc v with
    | no => trivial
    | er k z =>
      rw [ht] at h1
      obtain ⟨L3, h4, h5⟩ := h1
      try dsimp only at h4
      rw [h4]
      exact ⟨_, rfl, h5⟩
    | ok b =>
      rw [ht] at h1
      obtain ⟨L3, h4, h5⟩ := h1
      try dsimp only at h4
      rw [h4]
      cases b with
      | false => exact ⟨_, rfl, h5⟩
      | true =>
        have h6 := hb v L3 h5
        show SimR (match g L3 with
          | .ok .nx L2 => whGo c g n L2
          | .ok .ct L2 => whGo c g n L2
          | .ok .bk L2 => .ok .nx L2
          | r => r) ((tb v).bind fun v' => T.whileM n v' tc tb) _ _ _
        cases hv : tb v with
        | no => trivial
        | er k z =>
          rw [hv] at h6
          obtain ⟨L4, h7, h8⟩ := h6
          try dsimp only at h7
          cases hg : g L3 with
          | ok o L2 => rw [hg] at h7; cases o <;> cases h7
          | stuck => rw [hg] at h7; cases h7
          | err c' L2 => rw [hg] at h7; cases h7; exact ⟨_, rfl, h8⟩
        | ok v' =>
          rw [hv] at h6
          obtain ⟨L4, h7, h8⟩ := h6
          try dsimp only at h7
          cases hg : g L3 with
          | stuck => rw [hg] at h7; cases h7
          | err c' L2 => rw [hg] at h7; cases h7
          | ok o L2 =>
            rw [hg] at h7
            cases o <;> cases h7
            · exact ih v' _ h8
            · exact ih v' _ h8
theorem s_while {K : Kont ω} {m : Nat} {c : LS → R Bool} {g : LS → R O} {v : ν} {t' : ν → T ε β} (Inv : ν → LS) {tc : ν → T ε Bool} {tb : ν → T ε ν} (h0 : Mt (Inv v) A) (hc : ∀ v, SK (Inv v) c (tc v) id (fun _ => Inv v) X) (hb : ∀ v, SS (Inv v) g KL (tb v) (fun _ => ()) Inv X) (h : ∀ v, SK (Inv v) K.nx (t' v) F B X) :
    SS A (gWhile (fun _ => m) c g) K ((T.whileM m v tc tb).bind t') F B X := fun L hL => by
  have h1 := whGo_M hc hb m v L (h0.trans hL)
  show SimR (fin K (whGo c g m L)) _ F B X
  cases ht : T.whileM m v tc tb with
  | no => trivial
  | er c z =>
    rw [ht] at h1
    obtain ⟨L3, h4, h5⟩ := h1
    try dsimp only at h4
    rw [h4]
    exact ⟨_, rfl, h5⟩
  | ok v' =>
    rw [ht] at h1
    obtain ⟨L3, h4, h5⟩ := h1
    try dsimp only at h4
    rw [h4]
    exact h v' _ h5
end
end VS

namespace VS
open PySem PySem.Spec PyProof.Rows L2
structure Tx where
  cs : List (Fin 1114112)
deriving DecidableEq
def Tx.s (x : Tx) : Str := ⟨(x.cs.map (·.val)).toArray⟩
theorem Tx.s_list (x : Tx) : x.s.cps.toList = x.cs.map (·.val) := by simp [Tx.s]
theorem fin_map_inj {n : Nat} : ∀ {a b : List (Fin n)}, a.map (·.val) = b.map (·.val) → a = b
  | [], [], _ => rfl
  | [], _ :: _, h => by cases h
  | _ :: _, [], h => by cases h
  | x :: a, y :: b, h => by
    rw [List.map_cons, List.map_cons] at h
    injection h with h1 h2
    rw [Fin.ext h1, fin_map_inj h2]
theorem Tx.s_inj {x y : Tx} (h : x.s = y.s) : x = y := by
  have h1 : x.s.cps.toList = y.s.cps.toList := by rw [h]
  rw [Tx.s_list, Tx.s_list] at h1
  obtain ⟨a⟩ := x
  obtain ⟨b⟩ := y
  exact congrArg Tx.mk (fin_map_inj h1)
def Tx.of (l : List Nat) : Tx := ⟨l.map fun n => if h : n < 1114112 then ⟨n, h⟩ else ⟨0, by decide⟩⟩
theorem Tx.of_s {l : List Nat} (h : ∀ c ∈ l, c < 1114112) : (Tx.of l).s = ⟨l.toArray⟩ := by
  unfold Tx.s Tx.of
  rw [List.map_map]
  congr 2
  refine (List.map_congr_left (g := id) fun c hc => ?_).trans (List.map_id _)
  show (if h : c < 1114112 then (⟨c, h⟩ : Fin 1114112) else _).val = c
  rw [dif_pos (h c hc)]
def tx (z : String) : Tx := ⟨z.toList.map fun c => ⟨c.toNat, by
  have h := c.valid
  rcases h with h | ⟨_, h⟩
  · have : c.toNat < 0xd800 := h
    omega
  · exact h⟩⟩
theorem tx_s (z : String) : (tx z).s = Str.ofString z := by
  rw [Str.ofString_eq_toList]
  unfold Tx.s tx
  rw [List.map_map]
  rfl
def Tx.app (x y : Tx) : Tx := ⟨x.cs ++ y.cs⟩
instance : Append Tx := ⟨Tx.app⟩
structure Tp3 (α β γ : Type) where
  a : α
  b : β
  c : γ
deriving DecidableEq
structure Tp4 (α β γ δ : Type) where
  a : α
  b : β
  c : γ
  d : δ
deriving DecidableEq
structure Tp5 (α β γ δ ζ : Type) where
  a : α
  b : β
  c : γ
  d : δ
  e : ζ
deriving DecidableEq
class Enc (α : Type) where
  enc : α → D
instance : Enc D := ⟨id⟩
instance : Enc Unit := ⟨fun _ => .none⟩
instance : Enc Int := ⟨.int⟩
instance : Enc Bool := ⟨.bool⟩
instance : Enc Tx := ⟨fun x => .str x.s⟩
instance {α : Type} [Enc α] : Enc (List α) := ⟨fun xs => .list (xs.map Enc.enc)⟩
instance {α : Type} [Enc α] : Enc (Option α) := ⟨fun x => match x with
  | none => .none
  | some a => Enc.enc a⟩
instance {α β : Type} [Enc α] [Enc β] : Enc (α × β) := ⟨fun p => .tuple [Enc.enc p.1, Enc.enc p.2]⟩
instance {α β γ : Type} [Enc α] [Enc β] [Enc γ] : Enc (Tp3 α β γ) := ⟨fun p => .tuple [Enc.enc p.a, Enc.enc p.b, Enc.enc p.c]⟩
instance {α β γ δ : Type} [Enc α] [Enc β] [Enc γ] [Enc δ] : Enc (Tp4 α β γ δ) := ⟨fun p => .tuple [Enc.enc p.a, Enc.enc p.b, Enc.enc p.c, Enc.enc p.d]⟩
instance {α β γ δ ζ : Type} [Enc α] [Enc β] [Enc γ] [Enc δ] [Enc ζ] : Enc (Tp5 α β γ δ ζ) := ⟨fun p => .tuple [Enc.enc p.a, Enc.enc p.b, Enc.enc p.c, Enc.enc p.d, Enc.enc p.e]⟩
abbrev dv {α : Type} [Enc α] (x : α) : Option S := some (.d (Enc.enc x))
abbrev lv {α : Type} [Enc α] (xs : List α) : Option S := some (.ol (xs.map Enc.enc))

class Sh (α : Type) [Enc α] [DecidableEq α] where
  dep : Nat
  nn : ∀ x : α, Enc.enc x ≠ PyData.none
  lay : ∀ x : α, (Enc.enc x).canLay0 = true
  dp : ∀ x : α, (Enc.enc x).depth ≤ dep
  eqv : ∀ x y : α, (Enc.enc x).eqv (Enc.enc y) = decide (x = y)
theorem strOk_tx (x : Tx) : PyData.strOk x.s = true := by
  unfold PyData.strOk Tx.s
  simp only [List.all_toArray, List.all_map, List.all_eq_true]
  intro a _
  exact decide_eq_true a.isLt
instance : Sh Int where
  dep := 0
  nn := fun _ h => by cases h
  lay := fun _ => rfl
  dp := fun _ => Nat.le_refl _
  eqv := fun x y => by
    show (x == y) = _
    exact Bool.beq_eq_decide_eq x y
instance : Sh Bool where
  dep := 0
  nn := fun _ h => by cases h
  lay := fun _ => rfl
  dp := fun _ => Nat.le_refl _
  eqv := fun x y => by
    show (x == y) = _
    exact Bool.beq_eq_decide_eq x y
instance : Sh Tx where
  dep := 0
  nn := fun _ h => by cases h
  lay := fun x => by
    show PyData.canLay0 (.str x.s) = true
    unfold PyData.canLay0
    exact strOk_tx x
  dp := fun x => Nat.le_of_eq (by
    show PyData.depth (.str x.s) = 0
    unfold PyData.depth
    rfl)
  eqv := fun x y => by
    show (x.s == y.s) = _
    by_cases h : x = y
    · subst h; simp
    · rw [decide_eq_false h]
      exact beq_eq_false_iff_ne.mpr fun z => h (Tx.s_inj z)
theorem layAll {α : Type} [Enc α] [DecidableEq α] [Sh α] : ∀ xs : List α, PyData.canLayAll0 (xs.map Enc.enc) = true
  | [] => by unfold PyData.canLayAll0; rfl
  | x :: xs => by
    rw [List.map_cons]
    unfold PyData.canLayAll0
    rw [Sh.lay x, layAll xs]
    rfl
theorem dpAll {α : Type} [Enc α] [DecidableEq α] [i : Sh α] : ∀ xs : List α, PyData.depthAll (xs.map Enc.enc) ≤ i.dep
  | [] => by unfold PyData.depthAll; exact Nat.zero_le _
  | x :: xs => by
    rw [List.map_cons]
    unfold PyData.depthAll
    exact Nat.max_le.mpr ⟨Sh.dp x, dpAll xs⟩
theorem eqvAll {α : Type} [Enc α] [DecidableEq α] [Sh α] : ∀ xs ys : List α, PyData.eqvAll (xs.map Enc.enc) (ys.map Enc.enc) = decide (xs = ys)
  | [], [] => by simp [PyData.eqvAll]
  | [], _ :: _ => by simp [PyData.eqvAll]
  | _ :: _, [] => by simp [PyData.eqvAll]
  | x :: xs, y :: ys => by
    rw [List.map_cons, List.map_cons]
    unfold PyData.eqvAll
    rw [Sh.eqv x y, eqvAll xs ys]
    by_cases h1 : x = y <;> by_cases h2 : xs = ys <;> simp [h1, h2]
instance {α : Type} [Enc α] [DecidableEq α] [i : Sh α] : Sh (List α) where
  dep := i.dep + 1
  nn := fun _ h => by cases h
  lay := fun xs => by
    show PyData.canLay0 (.list (xs.map Enc.enc)) = true
    unfold PyData.canLay0
    exact layAll xs
  dp := fun xs => by
    show PyData.depth (.list (xs.map Enc.enc)) ≤ _
    unfold PyData.depth
    exact Nat.succ_le_succ (dpAll xs)
  eqv := fun xs ys => by
    show PyData.eqv (.list (xs.map Enc.enc)) (.list (ys.map Enc.enc)) = _
    unfold PyData.eqv
    exact eqvAll xs ys
instance {α β : Type} [Enc α] [DecidableEq α] [i : Sh α] [Enc β] [DecidableEq β] [j : Sh β] : Sh (α × β) where
  dep := max i.dep j.dep + 1
  nn := fun _ h => by cases h
  lay := fun p => by
    show PyData.canLay0 (.tuple [Enc.enc p.1, Enc.enc p.2]) = true
    simp [PyData.canLay0, PyData.canLayAll0, Sh.lay p.1, Sh.lay p.2]
  dp := fun p => by
    show PyData.depth (.tuple [Enc.enc p.1, Enc.enc p.2]) ≤ _
    have h1 := i.dp p.1
    have h2 := j.dp p.2
    simp only [PyData.depth, PyData.depthAll]
    omega
  eqv := fun p q => by
    show PyData.eqv (.tuple [Enc.enc p.1, Enc.enc p.2]) (.tuple [Enc.enc q.1, Enc.enc q.2]) = _
    simp only [PyData.eqv, PyData.eqvAll, Sh.eqv, Bool.and_true]
    by_cases h1 : p.1 = q.1 <;> by_cases h2 : p.2 = q.2 <;> simp [h1, h2, Prod.ext_iff]
theorem tp3_ext {α β γ : Type} {p q : Tp3 α β γ} : p = q ↔ p.a = q.a ∧ p.b = q.b ∧ p.c = q.c := by cases p; cases q; simp
theorem tp4_ext {α β γ δ : Type} {p q : Tp4 α β γ δ} : p = q ↔ p.a = q.a ∧ p.b = q.b ∧ p.c = q.c ∧ p.d = q.d := by cases p; cases q; simp
instance {α β γ : Type} [Enc α] [DecidableEq α] [i : Sh α] [Enc β] [DecidableEq β] [j : Sh β] [Enc γ] [DecidableEq γ] [k : Sh γ] : Sh (Tp3 α β γ) where
  dep := max i.dep (max j.dep k.dep) + 1
  nn := fun _ h => by cases h
  lay := fun p => by
    show PyData.canLay0 (.tuple [Enc.enc p.a, Enc.enc p.b, Enc.enc p.c]) = true
    simp [PyData.canLay0, PyData.canLayAll0, Sh.lay p.a, Sh.lay p.b, Sh.lay p.c]
  dp := fun p => by
    show PyData.depth (.tuple [Enc.enc p.a, Enc.enc p.b, Enc.enc p.c]) ≤ _
    have h1 := i.dp p.a
    have h2 := j.dp p.b
    have h3 := k.dp p.c
    simp only [PyData.depth, PyData.depthAll]
    omega
  eqv := fun p q => by
    show PyData.eqv (.tuple [Enc.enc p.a, Enc.enc p.b, Enc.enc p.c]) (.tuple [Enc.enc q.a, Enc.enc q.b, Enc.enc q.c]) = _
    simp only [PyData.eqv, PyData.eqvAll, Sh.eqv, Bool.and_true]
    have e : decide (p = q) = decide (p.a = q.a ∧ p.b = q.b ∧ p.c = q.c) := decide_eq_decide.mpr tp3_ext
    rw [e]
    by_cases h1 : p.a = q.a <;> by_cases h2 : p.b = q.b <;> by_cases h3 : p.c = q.c <;> simp [h1, h2, h3]
theorem sh_ok {α : Type} [Enc α] [DecidableEq α] [i : Sh α] (h : i.dep ≤ 64) (x : α) : SeqAt.shaped (Enc.enc x) = true := by
  unfold SeqAt.shaped
  rw [Sh.lay x, Bool.true_and]
  exact decide_eq_true (Nat.le_trans (Sh.dp x) h)
theorem sh_non : SeqAt.shaped PyData.none = true := by decide +kernel
section
variable {α : Type} [Enc α] [DecidableEq α] [i : Sh α]
theorem eq_enc (x y : α) (h : i.dep ≤ 64 := by decide) : dEq (Enc.enc x) (Enc.enc y) = some (.bool (decide (x = y))) := by
  unfold dEq
  rw [if_pos (.inr ⟨sh_ok h x, sh_ok h y⟩), Sh.eqv]
theorem ne_enc (x y : α) (h : i.dep ≤ 64 := by decide) : dNe (Enc.enc x) (Enc.enc y) = some (.bool (!decide (x = y))) := by
  unfold dNe
  rw [if_pos (.inr ⟨sh_ok h x, sh_ok h y⟩), Sh.eqv]
theorem eqv_non (d : D) (h : d ≠ .none) : PyData.eqv .none d = false ∧ PyData.eqv d .none = false := by
  cases d <;> first | exact absurd rfl h | (unfold PyData.eqv; exact ⟨rfl, rfl⟩) | exact ⟨by unfold PyData.eqv; rfl, by unfold PyData.eqv; rfl⟩
theorem eqv_opt (x y : Option α) : PyData.eqv (Enc.enc x) (Enc.enc y) = decide (x = y) := by
  cases x with
  | none =>
    cases y with
    | none =>
      show PyData.eqv .none .none = _
      unfold PyData.eqv
      rfl
    | some b => exact (eqv_non _ (Sh.nn b)).1
  | some a =>
    cases y with
    | none => exact (eqv_non _ (Sh.nn a)).2
    | some b =>
      show PyData.eqv (Enc.enc a) (Enc.enc b) = _
      rw [Sh.eqv]
      exact decide_eq_decide.mpr ⟨fun h => by rw [h], fun h => Option.some.inj h⟩
theorem sh_opt (h : i.dep ≤ 64) (x : Option α) : SeqAt.shaped (Enc.enc x) = true := by
  cases x with
  | none => exact sh_non
  | some a => exact sh_ok h a
theorem eq_opt (x y : Option α) (h : i.dep ≤ 64 := by decide) : dEq (Enc.enc x) (Enc.enc y) = some (.bool (decide (x = y))) := by
  unfold dEq
  rw [if_pos (.inr ⟨sh_opt h x, sh_opt h y⟩), eqv_opt]
theorem isN_non (x : Option α) : dIsN (Enc.enc x) .none = some (.bool x.isSome) := by
  cases x with
  | none => rfl
  | some a =>
    have h := Sh.nn a
    show dIsN (Enc.enc a) .none = _
    generalize Enc.enc a = d at h
    cases d <;> first | exact absurd rfl h | rfl
theorem any_eqv (x : α) : ∀ ys : List α, (ys.map Enc.enc).any (fun z => PyData.eqv z (Enc.enc x)) = decide (x ∈ ys)
  | [] => by simp
  | y :: ys => by
    rw [List.map_cons, List.any_cons, any_eqv x ys, Sh.eqv]
    by_cases h1 : y = x
    · simp [h1]
    · have h2 : ¬ x = y := fun z => h1 z.symm
      simp [h1, h2]
def memT {α : Type} [DecidableEq α] (x : α) (ys : List α) : Bool := decide (x ∈ ys)
omit [Enc α] i in
theorem memT_iff (x : α) (ys : List α) : memT x ys = true ↔ x ∈ ys := by unfold memT; exact decide_eq_true_iff
theorem in_l (x : α) (ys : List α) (h : i.dep ≤ 63 := by decide) : dIn (Enc.enc x) (.list (ys.map Enc.enc)) = some (.bool (memT x ys)) := by
  have ho : inOk (Enc.enc x) (ys.map Enc.enc) := .inr ⟨sh_ok (Nat.le_succ_of_le h) x, sh_ok (α := List α) (Nat.succ_le_succ h) ys⟩
  unfold dIn
  show (if inOk (Enc.enc x) (ys.map Enc.enc) then some ((ys.map Enc.enc).any fun z => PyData.eqv z (Enc.enc x)) else none).map PyData.bool = _
  rw [if_pos ho, any_eqv]
  rfl
end
section
variable {α β : Type} [Enc α] [Enc β]
theorem len_l (xs : List α) : dLen (.list (xs.map Enc.enc)) = some (.int xs.length) := by
  show some (PyData.int ((xs.map Enc.enc).length : Int)) = _
  rw [List.length_map]
theorem atI_map {α β : Type} (f : α → β) (xs : List α) (i : Int) : atI (xs.map f) i = (atI xs i).map f := by
  unfold atI
  rw [List.length_map]
  cases ixN xs.length i with
  | none => rfl
  | some j => exact List.getElem?_map ..
theorem ix_l (xs : List α) (i : Int) : dIx (.list (xs.map Enc.enc)) (.int i) = (atI xs i).map Enc.enc := atI_map _ _ _
def cutT {α : Type} (xs : List α) (lo hi : Option Int) : List α := (xs.drop (HT.sIx xs.length 0 lo)).take (HT.sIx xs.length xs.length hi - HT.sIx xs.length 0 lo)
theorem cut_l (xs : List α) (lo hi : Option Int) : dSl (.list (xs.map Enc.enc)) lo hi = some (.ol ((cutT xs lo hi).map Enc.enc)) := by
  show some (S.ol (cutD (xs.map Enc.enc) lo hi)) = _
  unfold cutD cutT
  rw [List.length_map, List.map_take, List.map_drop]
end
section
variable {A : LS} {α β : Type}
theorem pu_c {d : D} : Pu A (gC d) d := fun _ _ => rfl
theorem pu_str (z : String) : Pu A (gC (.str z)) (Enc.enc (tx z)) := fun L _ => by
  show R.ok (PyData.str (Str.ofString z)) L = R.ok (PyData.str (tx z).s) L
  rw [tx_s]
theorem pu_var {i : Nat} {d : D} (h : A[i]? = some (some (.d d))) : Pu A (gVar i) d := fun L hL => by
  unfold gVar
  rw [hL.2 i _ h]
theorem pu_peek {i : Nat} {d : D} (h : A[i]? = some (some (.d d))) : Pu A (gPeek i) d := fun L hL => by
  unfold gPeek
  rw [hL.2 i _ h]
theorem pu_peekL {i : Nat} {ds : List D} (h : A[i]? = some (some (.ol ds))) : Pu A (gPeek i) (.list ds) := fun L hL => by
  unfold gPeek
  rw [hL.2 i _ h]
theorem pu_d {g : LS → R D} {d : D} (h : Pu A g d) : Pu A (gD g) (.d d) := fun L hL => by
  show (g L).bind _ = _
  rw [h L hL]
  rfl
theorem pu_fz {g : LS → R S} {d : D} (h : Pu A g (.d d)) : Pu A (gFz g) d := fun L hL => by
  show (g L).bind frS = _
  rw [h L hL]
  rfl
theorem pu_fzL {g : LS → R S} {ds : List D} (h : Pu A g (.ol ds)) : Pu A (gFz g) (.list ds) := fun L hL => by
  show (g L).bind frS = _
  rw [h L hL]
  rfl
theorem pu_op {f : D → D → Option α} {ga gb : LS → R D} {d e : D} {z : α} (ha : Pu A ga d) (hb : Pu A gb e) (h : f d e = some z) : Pu A (gOp f ga gb) z := fun L hL => by
  show (ga L).bind _ = _
  rw [ha L hL]
  show (gb L).bind _ = _
  rw [hb L hL]
  show ofO (f d e) L = _
  rw [h]
  rfl
theorem pu_un {f : D → Option α} {ga : LS → R D} {d : D} {z : α} (ha : Pu A ga d) (h : f d = some z) : Pu A (gUn f ga) z := fun L hL => by
  show (ga L).bind _ = _
  rw [ha L hL]
  show ofO (f d) L = _
  rw [h]
  rfl
theorem pu_B {g : LS → R D} {b : Bool} (h : Pu A g (.bool b)) : Pu A (gB g) b := fun L hL => by
  show (g L).bind asB = _
  rw [h L hL]
  rfl
theorem pu_nil : Pu A gNil [] := fun _ _ => rfl
theorem pu_cons {a : LS → R D} {r : LS → R (List D)} {d : D} {ds : List D} (h1 : Pu A a d) (h2 : Pu A r ds) : Pu A (gCons a r) (d :: ds) := fun L hL => by
  show (a L).bind _ = _
  rw [h1 L hL]
  show (r L).bind _ = _
  rw [h2 L hL]
  rfl
theorem pu_tup {a : LS → R (List D)} {ds : List D} (h : Pu A a ds) (hl : ds.length ≤ 1000 := by decide) : Pu A (gTup a) (.tuple ds) := fun L hL => by
  show (a L).bind _ = _
  rw [h L hL]
  exact if_pos (Nat.le_trans hl (by rw [PySem.sizeLine_eq]; decide))
theorem pu_lst {a : LS → R (List D)} {ds : List D} (h : Pu A a ds) (hl : ds.length ≤ 1000 := by decide) : Pu A (gLst a) (.ol ds) := fun L hL => by
  show (a L).bind _ = _
  rw [h L hL]
  exact if_pos (Nat.le_trans hl (by rw [PySem.sizeLine_eq]; decide))
theorem pu_and {a b : LS → R Bool} {x y : Bool} (h1 : Pu A a x) (h2 : Pu A b y) : Pu A (gAnd a b) (x && y) := fun L hL => by
  show (a L).bind _ = _
  rw [h1 L hL]
  cases x with
  | true => exact h2 L hL
  | false => rfl
theorem pu_or {a b : LS → R Bool} {x y : Bool} (h1 : Pu A a x) (h2 : Pu A b y) : Pu A (gOr a b) (x || y) := fun L hL => by
  show (a L).bind _ = _
  rw [h1 L hL]
  cases x with
  | true => rfl
  | false => exact h2 L hL
theorem pu_not {a : LS → R Bool} {x : Bool} (h1 : Pu A a x) : Pu A (gNot a) (!x) := fun L hL => by
  show (a L).bind _ = _
  rw [h1 L hL]
  rfl
theorem pu_andV {a b : LS → R D} {x y : Bool} (h1 : Pu A a (.bool x)) (h2 : Pu A b (.bool y)) : Pu A (gAndV a b) (.bool (x && y)) := fun L hL => by
  show (a L).bind _ = _
  rw [h1 L hL]
  cases x with
  | true => exact h2 L hL
  | false => rfl
theorem pu_orV {a b : LS → R D} {x y : Bool} (h1 : Pu A a (.bool x)) (h2 : Pu A b (.bool y)) : Pu A (gOrV a b) (.bool (x || y)) := fun L hL => by
  show (a L).bind _ = _
  rw [h1 L hL]
  cases x with
  | true => rfl
  | false => exact h2 L hL
theorem pu_ixP {i : Nat} {gb : LS → R D} {d e z : D} (h : A[i]? = some (some (.d d))) (hb : Pu A gb e) (hf : dIx d e = some z) : Pu A (gIxP i gb) z := fun L hL => by
  unfold gIxP
  rw [hL.2 i _ h]
  show (gb L).bind _ = _
  rw [hb L hL]
  show (gPeek i L).bind _ = _
  rw [pu_peek h L hL]
  show ofO (dIx d e) L = _
  rw [hf]
  rfl
theorem pu_no : Pu A gNo none := fun _ _ => rfl
theorem pu_so {g : LS → R D} {i : Int} (h : Pu A g (.int i)) : Pu A (gSo g) (some i) := fun L hL => by
  show (g L).bind asI = _
  rw [h L hL]
  rfl
theorem pu_sl {ga : LS → R D} {lo hi : LS → R (Option Int)} {d : D} {l u : Option Int} {s : S} (h : Pu A ga d) (h1 : Pu A lo l) (h2 : Pu A hi u) (hs : dSl d l u = some s) : Pu A (gSl ga lo hi) s := fun L hL => by
  show (ga L).bind _ = _
  rw [h L hL]
  show (lo L).bind _ = _
  rw [h1 L hL]
  show (hi L).bind _ = _
  rw [h2 L hL]
  show ofO (dSl d l u) L = _
  rw [hs]
  rfl
theorem pu_isi {T : String} {ga : LS → R D} {d : D} {b : Bool} (h : Pu A ga d) (hk : kitB (dTy d) T = some b) : Pu A (gIsi T ga) (.bool b) := pu_un h (by unfold isTy; rw [hk]; rfl)
def rangeT (n : Nat) : List Int := (List.range n).map fun (k : Nat) => (k : Int)
def rangeT2 (lo : Int) (n : Nat) : List Int := (List.range n).map fun (k : Nat) => lo + (k : Int)
theorem intsD_T (n : Nat) : intsD 0 n = (rangeT n).map Enc.enc := by
  unfold intsD rangeT
  rw [List.map_map]
  refine List.map_congr_left fun k _ => ?_
  show PyData.int (0 + (k : Int)) = PyData.int (k : Int)
  rw [Int.zero_add]
theorem intsD_T2 (lo : Int) (n : Nat) : intsD lo n = (rangeT2 lo n).map Enc.enc := by
  unfold intsD rangeT2
  rw [List.map_map]
  rfl
def inR (j : Int) : Prop := -4611686018427387904 ≤ j ∧ j < 4611686018427387904
instance (j : Int) : Decidable (inR j) := by
  unfold inR
  exact inferInstance
theorem inR_of {j : Int} (h : inR j) : -(2 ^ 62) ≤ j ∧ j < 2 ^ 62 := by
  unfold inR at h
  omega
theorem inR_ok {j : Int} (h0 : -1000000000 ≤ j) (h1 : j ≤ 1000000000) : inR j := by
  unfold inR
  omega
end
end VS

namespace VS
open PySem PySem.Spec PyProof.Rows L2
section
variable {ε ε' α β γ δ ω ν ρ : Type} {A A' : LS} {F : β → ω} {B : β → LS} {X : ε → LS} {t : T ε β}
def appEnd (i : Nat) (d : D) (L1 : LS) : R S := gOwnL i (fun ds L2 => if ds.length < sizeLine then .ok (.d .none) (L2.set i (some (.ol (ds ++ [d])))) else .stuck) L1
theorem e_app {i : Nat} {ds : List D} {g : LS → R D} {k : S → LS → R ω} (h : A[i]? = some (some (.ol ds))) (h2 : SK A (fun L => (g L).bind fun d L1 => (appEnd i d L1).bind k) t F B X) : SK A (fun L => (gApp i g L).bind k) t F B X := fun L hL => by
  have h3 := h2 L hL
  show SimR ((gApp i g L).bind k) t F B X
  unfold gApp gOwnL
  rw [hL.2 i _ h]
  show SimR (((g L).bind fun d L1 => appEnd i d L1).bind k) t F B X
  rw [bind_assoc']
  exact h3
theorem c_app [Enc α] {i : Nat} {xs : List α} {x : α} {k : S → LS → R ω} {A' : LS} (h : A[i]? = some (some (.ol (xs.map Enc.enc)))) (hA : A.set i (some (.ol ((xs ++ [x]).map Enc.enc))) = A') (h2 : SK A' (k (.d .none)) t F B X) : SK A (fun L => (appEnd i (Enc.enc x) L).bind k) (T.gd (xs.length < sizeLine) t) F B X := k_gd fun hs L hL => by
  show SimR ((appEnd i (Enc.enc x) L).bind k) t F B X
  unfold appEnd gOwnL
  rw [hL.2 i _ h]
  show SimR ((if (xs.map Enc.enc).length < sizeLine then R.ok (S.d .none) (L.set i (some (.ol (xs.map Enc.enc ++ [Enc.enc x])))) else .stuck).bind k) t F B X
  rw [List.length_map, if_pos hs]
  refine h2 _ ?_
  rw [← hA, List.map_append]
  exact hL.set i _
theorem e_popAt {i : Nat} {ds : List D} {g : LS → R D} {k : D → LS → R ω} (h : A[i]? = some (some (.ol ds))) (h2 : SK A (fun L => (g L).bind fun d L1 => (popAt i d L1).bind k) t F B X) : SK A (fun L => (gPopAt i g L).bind k) t F B X := fun L hL => by
  have h3 := h2 L hL
  show SimR ((gPopAt i g L).bind k) t F B X
  unfold gPopAt gOwnD
  rw [hL.2 i _ h]
  show SimR (((g L).bind (popAt i)).bind k) t F B X
  rw [bind_assoc']
  exact h3
@[irreducible] def popT {α : Type} (xs : List α) (j : Int) : Option (α × List α) := if -(2 ^ 63) ≤ j ∧ j < 2 ^ 63 then (seqIndex? j xs.length).bind fun m => (xs[m]?).map fun x => (x, xs.eraseIdx m) else none
theorem eraseIdx_map' {α β : Type} (f : α → β) : ∀ (xs : List α) (m : Nat), (xs.map f).eraseIdx m = (xs.eraseIdx m).map f
  | [], m => by simp
  | x :: xs, 0 => rfl
  | x :: xs, m + 1 => by
    simp only [List.map_cons, List.eraseIdx_cons_succ]
    rw [eraseIdx_map' f xs m]
theorem c_popAt [Enc α] {i : Nat} {xs : List α} {j : Int} {k : D → LS → R ω} {t' : α × List α → T ε β} (h : A[i]? = some (some (.ol (xs.map Enc.enc)))) (h2 : ∀ x ys, SK (A.set i (some (.ol (ys.map Enc.enc)))) (k (Enc.enc x)) (t' (x, ys)) F B X) :
    SK A (fun L => (popAt i (.int j) L).bind k) ((T.ofO (popT xs j)).bind t') F B X := fun L hL => by
  show SimR ((popK i j L).bind k) _ F B X
  unfold popK popT
  rw [hL.2 i _ h]
  show SimR ((if -(2 ^ 63) ≤ j ∧ j < 2 ^ 63 then (match seqIndex? j (xs.map Enc.enc).length with
    | some j => (match (xs.map Enc.enc)[j]? with
      | some d => R.ok d (L.set i (some (.ol ((xs.map Enc.enc).eraseIdx j))))
      | none => .stuck)
    | none => .stuck) else .stuck).bind k) _ F B X
  by_cases hj : -(2 ^ 63) ≤ j ∧ j < 2 ^ 63
  · rw [if_pos hj, if_pos hj, List.length_map]
    cases seqIndex? j xs.length with
    | none => trivial
    | some m =>
      show SimR ((match (xs.map Enc.enc)[m]? with
        | some d => R.ok d (L.set i (some (.ol ((xs.map Enc.enc).eraseIdx m))))
        | none => .stuck).bind k) ((T.ofO ((xs[m]?).map fun x => (x, xs.eraseIdx m))).bind t') F B X
      rw [List.getElem?_map, eraseIdx_map']
      cases xs[m]? with
      | none => trivial
      | some x => exact h2 x _ _ (hL.set i _)
  · rw [if_neg hj, if_neg hj]
    trivial
theorem e_ixP {i : Nat} {s : S} {gb : LS → R D} {k : D → LS → R ω} (h : A[i]? = some (some s)) (h2 : SK A (fun L => (gb L).bind fun e L1 => (gPeek i L1).bind fun d L2 => (ofO (dIx d e) L2).bind k) t F B X) : SK A (fun L => (gIxP i gb L).bind k) t F B X := fun L hL => by
  have h3 := h2 L hL
  show SimR ((gIxP i gb L).bind k) t F B X
  unfold gIxP
  rw [hL.2 i _ h]
  show SimR (((gb L).bind fun e L1 => (gPeek i L1).bind fun d L2 => ofO (dIx d e) L2).bind k) t F B X
  rw [bind_assoc']
  dsimp only at h3
  cases e : gb L with
  | stuck => rw [e] at h3; exact h3
  | err c L1 => rw [e] at h3; exact h3
  | ok z L1 =>
    rw [e] at h3
    show SimR (((gPeek i L1).bind fun d L2 => ofO (dIx d z) L2).bind k) t F B X
    rw [bind_assoc']
    exact h3
class EncK (κ : Type) where
  ks : κ → List Key
  inj : ∀ a b, ks a = ks b → a = b
class Enc1 (κ : Type) where
  k1 : κ → Key
  inj : ∀ a b, k1 a = k1 b → a = b
instance : Enc1 Int := ⟨.inl, fun _ _ h => Sum.inl.inj h⟩
instance : Enc1 Tx := ⟨fun x => .inr x.s, fun _ _ h => Tx.s_inj (Sum.inr.inj h)⟩
instance {κ μ : Type} [Enc1 κ] [Enc1 μ] : EncK (κ × μ) := ⟨fun p => [Enc1.k1 p.1, Enc1.k1 p.2], fun a b h => by
  injection h with h1 h2
  injection h2 with h2 _
  exact Prod.ext (Enc1.inj _ _ h1) (Enc1.inj _ _ h2)⟩
class KD1 (κ : Type) [Enc κ] [Enc1 κ] : Prop where
  eq : ∀ x : κ, keyD (Enc.enc x) = some (Enc1.k1 x)
class KDs (κ : Type) [Enc κ] [EncK κ] : Prop where
  eq : ∀ x : κ, keysD (Enc.enc x) = some (EncK.ks x)
instance : KD1 Int := ⟨fun _ => rfl⟩
instance : KD1 Tx := ⟨fun _ => rfl⟩
instance {κ μ : Type} [Enc κ] [Enc1 κ] [KD1 κ] [Enc μ] [Enc1 μ] [KD1 μ] : KDs (κ × μ) := ⟨fun p => by
  show (keyD (Enc.enc p.1)).bind (fun k => ((keyD (Enc.enc p.2)).bind fun k => ((some [] : Option (List Key)).map (k :: ·))).map (k :: ·)) = _
  rw [KD1.eq p.1, KD1.eq p.2]
  rfl⟩
abbrev Dt (κ α : Type) := List (κ × α)
def dget {κ : Type} [DecidableEq κ] (d : Dt κ α) (k : κ) : Option α := (d.find? fun p => decide (p.1 = k)).map (·.2)
def dput {κ : Type} [DecidableEq κ] (d : Dt κ α) (k : κ) (v : α) : Dt κ α := if (d.any fun p => decide (p.1 = k)) = true then d.map (fun p => if p.1 = k then (p.1, v) else p) else d ++ [(k, v)]
def enc1 {κ α : Type} [Enc1 κ] [Enc α] (d : Dt κ α) : List (Key × D) := d.map fun p => (Enc1.k1 p.1, Enc.enc p.2)
abbrev kv {κ α : Type} [Enc1 κ] [Enc α] (d : Dt κ α) : Option S := some (.odK (enc1 d))
theorem val_gen {κ μ : Type} [DecidableEq κ] [DecidableEq μ] [Enc α] (f : κ → μ) (hf : ∀ a b, f a = f b → a = b) (k : κ) : ∀ d : Dt κ α, valK (d.map fun p => (f p.1, Enc.enc p.2)) (f k) = (dget d k).map Enc.enc
  | [] => rfl
  | p :: d => by
    have ih := val_gen f hf k d
    unfold valK dget at *
    by_cases h : p.1 = k
    · rw [List.map_cons, List.find?_cons_of_pos (l := d.map fun p => (f p.1, Enc.enc p.2)) (by simp [h]), List.find?_cons_of_pos (l := d) (by simp [h])]
      rfl
    · have h' : ¬ f p.1 = f k := fun z => h (hf _ _ z)
      rw [List.map_cons, List.find?_cons_of_neg (l := d.map fun p => (f p.1, Enc.enc p.2)) (by simp [h']), List.find?_cons_of_neg (l := d) (by simp [h])]
      exact ih
theorem put_gen {κ μ : Type} [DecidableEq κ] [DecidableEq μ] [Enc α] (f : κ → μ) (hf : ∀ a b, f a = f b → a = b) (k : κ) (v : α) (d : Dt κ α) : putD (d.map fun p => (f p.1, Enc.enc p.2)) (f k) (Enc.enc v) = (dput d k v).map fun p => (f p.1, Enc.enc p.2) := by
  unfold putD dput
  have hany : ((d.map fun p => (f p.1, (Enc.enc p.2 : D))).any fun kv => decide (kv.1 = f k)) = d.any fun p => decide (p.1 = k) := by
    rw [List.any_map]
    congr 1
    funext p
    exact decide_eq_decide.mpr ⟨fun z => hf _ _ z, fun z => by rw [← z]⟩
  rw [hany]
  split
  · rw [List.map_map, List.map_map]
    refine List.map_congr_left fun p _ => ?_
    show (if f p.1 = f k then (f p.1, Enc.enc v) else (f p.1, Enc.enc p.2)) = (f (if p.1 = k then (p.1, v) else p).1, Enc.enc (if p.1 = k then (p.1, v) else p).2)
    by_cases h : p.1 = k
    · rw [if_pos h, if_pos (by rw [h])]
    · rw [if_neg h, if_neg (fun z => h (hf _ _ z))]
  · rw [List.map_append]
    rfl
section
variable {κ : Type} [DecidableEq κ] [Enc κ] [Enc α] {i : Nat} {d : Dt κ α} {x : κ}
theorem dictAt_K [Enc1 κ] [KD1 κ] {L : LS} (h : L[i]? = some (kv d)) : dictAt L[i]? (Enc.enc x) = some ((dget d x).map Enc.enc) := by
  rw [h]
  show (keyD (Enc.enc x)).map (valK (enc1 d)) = _
  rw [KD1.eq x]
  exact congrArg some (val_gen Enc1.k1 Enc1.inj x d)
theorem isSome_map {α β : Type} (f : α → β) (o : Option α) : (o.map f).isSome = o.isSome := by cases o <;> rfl
theorem pu_dinK [Enc1 κ] [KD1 κ] {ng : Bool} {g : LS → R D} (h : A[i]? = some (kv d)) (hg : Pu A g (Enc.enc x)) : Pu A (gDIn ng i g) (.bool (if ng = true then !(dget d x).isSome else (dget d x).isSome)) := fun L hL => by
  show (g L).bind (dinK ng i) = _
  rw [hg L hL]
  show (match dictAt L[i]? (Enc.enc x) with
    | some r => R.ok (PyData.bool (if ng then !r.isSome else r.isSome)) L
    | none => .stuck) = _
  rw [dictAt_K (hL.2 i _ h)]
  show R.ok (PyData.bool (if ng then !((dget d x).map Enc.enc).isSome else ((dget d x).map Enc.enc).isSome)) L = _
  rw [isSome_map]
theorem e_dgetK [Enc1 κ] [KD1 κ] {g : LS → R D} {k : D → LS → R ω} {t' : α → T ε β} (h : A[i]? = some (kv d)) (hg : Pu A g (Enc.enc x)) (h2 : ∀ z, SK A (k (Enc.enc z)) (t' z) F B X) : SK A (fun L => (gDGet i g L).bind k) ((T.ofO (dget d x)).bind t') F B X := fun L hL => by
  show SimR ((gDGet i g L).bind k) _ F B X
  unfold gDGet
  rw [hL.2 i _ h]
  show SimR (((g L).bind fun d L1 => (match dictAt L1[i]? d with
    | some (some z) => R.ok z L1
    | _ => .stuck)).bind k) _ F B X
  rw [hg L hL]
  show SimR ((match dictAt L[i]? (Enc.enc x) with
    | some (some z) => R.ok z L
    | _ => .stuck).bind k) _ F B X
  rw [dictAt_K (hL.2 i _ h)]
  cases dget d x with
  | none => trivial
  | some z => exact h2 z L hL
def dputQ (i : Nat) (gk : LS → R D) (e : D) (L1 : LS) : R O := match L1[i]? with
  | some (some _) => (gk L1).bind fun d L2 => (match dictPut L2[i]? d e with
    | some s => .ok .nx (L2.set i (some s))
    | none => .stuck)
  | _ => .stuck
omit [DecidableEq κ] [Enc κ] [Enc α] in
theorem s_dput {K : Kont ω} {gk g : LS → R D} (h : SK A (fun L => (g L).bind fun d L1 => fin K (dputQ i gk d L1)) t F B X) : SS A (gDPut i gk g) K t F B X := s_bind h
def dputE (i : Nat) (e : D) (d : D) (L2 : LS) : R O := match dictPut L2[i]? d e with
    | some s => .ok .nx (L2.set i (some s))
    | none => .stuck
omit [DecidableEq κ] [Enc κ] [Enc α] in
theorem s_dputk {K : Kont ω} {gk : LS → R D} {e : D} {s : S} (h : A[i]? = some (some s)) (h2 : SK A (fun L => (gk L).bind fun d L1 => fin K (dputE i e d L1)) t F B X) : SK A (fun L => fin K (dputQ i gk e L)) t F B X := fun L hL => by
  have h3 := h2 L hL
  show SimR (fin K (dputQ i gk e L)) t F B X
  unfold dputQ
  rw [hL.2 i _ h]
  show SimR (fin K ((gk L).bind (dputE i e))) t F B X
  rw [fin_bind]
  exact h3
theorem c_dputK [Enc1 κ] [KD1 κ] {K : Kont ω} {z : α} {A' : LS} (h : A[i]? = some (kv d)) (hA : A.set i (kv (dput d x z)) = A') (h2 : SK A' K.nx t F B X) : SK A (fun L => fin K (dputE i (Enc.enc z) (Enc.enc x) L)) (T.gd (d.length < sizeLine) t) F B X := k_gd fun hs L hL => by
  show SimR (fin K (dputE i (Enc.enc z) (Enc.enc x) L)) t F B X
  unfold dputE
  rw [hL.2 i _ h]
  have e : dictPut (some (kv d)) (Enc.enc x) (Enc.enc z) = some (.odK (enc1 (dput d x z))) := by
    show (if (enc1 d).length < sizeLine then (keyD (Enc.enc x)).map fun k => S.odK (putD (enc1 d) k (Enc.enc z)) else none) = _
    rw [show (enc1 d).length = d.length from List.length_map .., if_pos hs, KD1.eq x]
    exact congrArg (fun l => some (S.odK l)) (put_gen Enc1.k1 Enc1.inj x z d)
  rw [e]
  refine h2 _ ?_
  rw [← hA]
  exact hL.set i _
end

theorem Mt.wipe {A L : LS} (h : Mt A L) : ∀ vs : List Nat, Mt (wipeL A vs) (wipeL L vs)
  | [] => h
  | v :: vs => (h.wipe vs).set v none
def T.lcp {ε α β : Type} (xs : List α) (p : α → Bool) (h : α → β) : T ε (List β) := if xs.length ≤ sizeLine then .ok ((xs.filter p).map h) else .no
theorem e_lcp [Enc γ] {vs : List Nat} {gi : LS → R (List D)} {f : D → LS → Option LS} {gt : LS → R Bool} {ge : LS → R D} {e : α → D} {xs : List α} {k : S → LS → R ω} (A0 : LS) (A1 : α → LS) {p : α → Bool} {h : α → γ} {t' : List γ → T ε β} (hi : Pu A gi (xs.map e)) (h0 : Mt A0 (wipeL A vs)) (hf : ∀ x, Tg A0 f (e x) (A1 x))
    (hp : ∀ x, Pu (A1 x) gt (p x)) (hh : ∀ x, Pu (A1 x) ge (Enc.enc (h x))) (hw : ∀ x, Mt A0 (wipeL (A1 x) vs)) (h2 : ∀ ys, SK A0 (k (.ol (ys.map Enc.enc))) (t' ys) F B X) :
    SK A (fun L => (gLc vs gi f gt ge L).bind k) ((T.lcp xs p h).bind t') F B X := by
  have key : ∀ (xs : List α) (acc : List γ) (L : LS), Mt A0 L → acc.length + xs.length ≤ sizeLine → ∃ L', lcGo vs f gt ge (xs.map e) (acc.map Enc.enc) L = .ok (.ol ((acc ++ (xs.filter p).map h).map Enc.enc)) L' ∧ Mt A0 L' := by
    intro xs
    induction xs with
    | nil =>
      intro acc L hL _
      refine ⟨L, ?_, hL⟩
      simp [lcGo]
    | cons x xs ih =>
      intro acc L hL hs
      rw [List.length_cons] at hs
      obtain ⟨L1, h3, h4⟩ := hf x L hL
      rw [List.map_cons]
      unfold lcGo
      rw [h3]
      have h5 := hp x L1 h4
      have h6 := hh x L1 h4
      cases hpx : p x with
      | false =>
        rw [hpx] at h5
        simp only [h5]
        rw [if_neg (by simp), List.filter_cons_of_neg (by simp [hpx])]
        exact ih acc _ ((hw x).trans (h4.wipe vs)) (by omega)
      | true =>
        rw [hpx] at h5
        simp only [h5, h6]
        rw [if_pos trivial, List.length_map, if_pos (by omega), List.filter_cons_of_pos (by simp [hpx])]
        obtain ⟨L', h7, h8⟩ := ih (acc ++ [h x]) _ ((hw x).trans (h4.wipe vs)) (by rw [List.length_append]; simp; omega)
        refine ⟨L', ?_, h8⟩
        rw [List.map_append] at h7
        rw [List.map_cons, show acc ++ h x :: (xs.filter p).map h = acc ++ [h x] ++ (xs.filter p).map h by simp]
        exact h7
  intro L hL
  show SimR (((gi L).bind fun ds L1 => lcGo vs f gt ge ds [] (wipeL L1 vs)).bind k) _ F B X
  rw [hi L hL]
  show SimR ((lcGo vs f gt ge (xs.map e) [] (wipeL L vs)).bind k) ((T.lcp xs p h).bind t') F B X
  unfold T.lcp
  by_cases hs : xs.length ≤ sizeLine
  · rw [if_pos hs]
    obtain ⟨L', h7, h8⟩ := key xs [] (wipeL L vs) (h0.trans (hL.wipe vs)) (by simpa using hs)
    rw [List.map_nil] at h7
    rw [h7, List.nil_append]
    exact h2 _ L' h8
  · rw [if_neg hs]
    trivial

end
end VS

namespace VS
open PySem PySem.Spec PyProof.Rows L2
section
variable {ε ε' α β γ δ ω ν ρ : Type} {A A' : LS} {F : β → ω} {B : β → LS} {X : ε → LS} {t : T ε β}
abbrev XV : Empty → LS := fun e => e.elim
def T.up {ε α : Type} (t : T Empty α) : T ε α := t.lift Empty.elim
theorem xe_no {X G : Empty → LS} : ∀ e : Empty, Mt (X e) (G e) := fun e => e.elim
def orQ (x : Bool) (b : LS → R Bool) : LS → R Bool := fun L => if x = true then .ok true L else b L
theorem e_orL {a b : LS → R Bool} {k : Bool → LS → R ω} (h : SK A (fun L => (a L).bind fun x L1 => (orQ x b L1).bind k) t F B X) : SK A (fun L => (gOr a b L).bind k) t F B X := e_bind h
theorem c_or {b : LS → R Bool} {x : Bool} {k : Bool → LS → R ω} {t1 t2 : T ε β} (h1 : SK A (k true) t1 F B X) (h2 : SK A (fun L => (b L).bind k) t2 F B X) : SK A (fun L => (orQ x b L).bind k) (if x = true then t1 else t2) F B X := by
  cases x with
  | true => exact h1
  | false => exact h2
def andVQ (d : D) (b : LS → R D) : LS → R D := fun L => match d with
  | .bool x => if x = true then b L else .ok (.bool false) L
  | _ => .stuck
theorem e_andVL {a b : LS → R D} {k : D → LS → R ω} (h : SK A (fun L => (a L).bind fun x L1 => (andVQ x b L1).bind k) t F B X) : SK A (fun L => (gAndV a b L).bind k) t F B X := e_bind h
theorem c_andV {b : LS → R D} {x : Bool} {k : D → LS → R ω} {t1 t2 : T ε β} (h1 : SK A (fun L => (b L).bind k) t1 F B X) (h2 : SK A (k (.bool false)) t2 F B X) : SK A (fun L => (andVQ (Enc.enc x) b L).bind k) (if x = true then t1 else t2) F B X := by
  cases x with
  | true => exact h1
  | false => exact h2
theorem e_items {g : LS → R D} {k : List D → LS → R ω} (h : SK A (fun L => (g L).bind fun d L1 => (asItems d L1).bind k) t F B X) : SK A (fun L => ((g L).bind asItems).bind k) t F B X := e_bind h
theorem e_rng1 {g : LS → R (List D)} {k : List D → LS → R ω} (h : SK A (fun L => (g L).bind fun d L1 => (rng1 d L1).bind k) t F B X) : SK A (fun L => ((g L).bind rng1).bind k) t F B X := e_bind h
theorem e_rng2 {g : LS → R (List D)} {k : List D → LS → R ω} (h : SK A (fun L => (g L).bind fun d L1 => (rng2 d L1).bind k) t F B X) : SK A (fun L => ((g L).bind rng2).bind k) t F B X := e_bind h
theorem c_rng1 {n : Int} {k : List D → LS → R ω} (h : SK A (k ((rangeT n.toNat).map Enc.enc)) t F B X) : SK A (fun L => (rng1 [Enc.enc n] L).bind k) (T.gd (inR n) t) F B X := k_gd fun hn L hL => by
  have h := h L hL
  show SimR ((if -(2 ^ 62) ≤ n ∧ n < 2 ^ 62 then R.ok (intsD 0 n.toNat) L else .stuck).bind k) t F B X
  rw [if_pos (inR_of hn), intsD_T]
  exact h
theorem c_rng2 {m n : Int} {k : List D → LS → R ω} (h : SK A (k ((rangeT2 m (n - m).toNat).map Enc.enc)) t F B X) : SK A (fun L => (rng2 [Enc.enc m, Enc.enc n] L).bind k) (T.gd (inR m ∧ inR n) t) F B X := k_gd fun hn L hL => by
  have h := h L hL
  show SimR ((if -(2 ^ 62) ≤ m ∧ m < 2 ^ 62 ∧ -(2 ^ 62) ≤ n ∧ n < 2 ^ 62 then R.ok (intsD m (n - m).toNat) L else .stuck).bind k) t F B X
  rw [if_pos ⟨(inR_of hn.1).1, (inR_of hn.1).2, (inR_of hn.2).1, (inR_of hn.2).2⟩, intsD_T2]
  exact h
theorem s_forE {K : Kont ω} {gi : LS → R (List D)} {f : D → LS → Option LS} {g : LS → R O} (h : SK A (fun L => (gi L).bind fun ds L1 => fin K (forGo f g ds L1)) t F B X) : SS A (gFor gi f g) K t F B X := s_bind h
theorem c_for {K : Kont ω} {f : D → LS → Option LS} {g : LS → R O} {e : α → D} {xs : List α} {v : ν} {t' : ν → T ε β} (Inv : ν → LS) (A1 : α → ν → LS) {tb : α → ν → T ε ν} (h0 : Mt (Inv v) A) (hf : ∀ x v, Tg (Inv v) f (e x) (A1 x v)) (hb : ∀ x v, SS (A1 x v) g KL (tb x v) (fun _ => ()) Inv X)
    (h : ∀ v, SK (Inv v) K.nx (t' v) F B X) : SK A (fun L => fin K (forGo f g (xs.map e) L)) ((T.forM xs v tb).bind t') F B X := fun L hL => by
  have h1 := forGo_M hf hb xs v L (h0.trans hL)
  show SimR (fin K (forGo f g (xs.map e) L)) _ F B X
  cases ht : T.forM xs v tb with
  | no => trivial
  | er c z =>
    rw [ht] at h1
    obtain ⟨L3, h4, h5⟩ := h1
    rw [h4]
    exact ⟨_, rfl, h5⟩
  | ok v' =>
    rw [ht] at h1
    obtain ⟨L3, h4, h5⟩ := h1
    rw [h4]
    exact h v' _ h5
theorem c_forL {K : Kont ω} {f : D → LS → Option LS} {g : LS → R O} {e : α → D} {xs : List α} {v : ν} {tn : ν → T ε β} {tr : ρ → T ε β} (Inv : ν → LS) (Br : ρ → LS) (fr : ρ → S) (A1 : α → ν → LS) {tb : α → ν → T ε (T.Lp ν ρ)} (h0 : Mt (Inv v) A) (hf : ∀ x v, Tg (Inv v) f (e x) (A1 x v)) (hb : ∀ x v, SS (A1 x v) g KB (tb x v) (lpO fr) (lpB Inv Br) X)
    (h : ∀ v, SK (Inv v) K.nx (tn v) F B X) (h3 : ∀ r, SK (Br r) (fun L => K.rt (fr r) L) (tr r) F B X) : SK A (fun L => fin K (forGo f g (xs.map e) L)) (T.bindL (T.forL xs v tb) tn tr) F B X := fun L hL => by
  have h1 := forGo_L hf hb xs v L (h0.trans hL)
  show SimR (fin K (forGo f g (xs.map e) L)) _ F B X
  cases ht : T.forL xs v tb with
  | no => trivial
  | er c z =>
    rw [ht] at h1
    obtain ⟨L3, h4, h5⟩ := h1
    rw [h4]
    exact ⟨_, rfl, h5⟩
  | ok z =>
    rw [ht] at h1
    obtain ⟨L3, h4, h5⟩ := h1
    rw [h4]
    cases z with
    | nx v' => exact h v' _ h5
    | rt r => exact h3 r _ h5
def lcQ (vs : List Nat) (f : D → LS → Option LS) (gt : LS → R Bool) (ge : LS → R D) (ds : List D) (L1 : LS) : R S := lcGo vs f gt ge ds [] (wipeL L1 vs)
theorem e_lcE {vs : List Nat} {gi : LS → R (List D)} {f : D → LS → Option LS} {gt : LS → R Bool} {ge : LS → R D} {k : S → LS → R ω} (h : SK A (fun L => (gi L).bind fun ds L1 => (lcQ vs f gt ge ds L1).bind k) t F B X) : SK A (fun L => (gLc vs gi f gt ge L).bind k) t F B X := e_bind h
theorem c_lcp [Enc γ] {vs : List Nat} {f : D → LS → Option LS} {gt : LS → R Bool} {ge : LS → R D} {e : α → D} {xs : List α} {k : S → LS → R ω} (A0 : LS) (A1 : α → LS) {p : α → Bool} {h : α → γ} {t' : List γ → T ε β} (h0 : Mt A0 (wipeL A vs)) (hf : ∀ x, Tg A0 f (e x) (A1 x))
    (hp : ∀ x, Pu (A1 x) gt (p x)) (hh : ∀ x, Pu (A1 x) ge (Enc.enc (h x))) (hw : ∀ x, Mt A0 (wipeL (A1 x) vs)) (h2 : ∀ ys, SK A0 (k (.ol (ys.map Enc.enc))) (t' ys) F B X) :
    SK A (fun L => (lcQ vs f gt ge (xs.map e) L).bind k) ((T.lcp xs p h).bind t') F B X :=
  e_lcp (gi := fun L => .ok (xs.map e) L) A0 A1 (fun _ _ => rfl) h0 hf hp hh hw h2
theorem law_end {m : LS → R S} {ns : List Int} {tm : T ε Bool} {Fm : Bool → S} {Bm : Bool → LS} {Xm : ε → LS} (hm : SK [some (.scr ns)] m tm Fm Bm Xm) (hF : Fm true = .d (.bool true)) (h : tm = .ok true) : ∃ L, m [some (.scr ns)] = .ok (.d (.bool true)) L := by
  have h1 := hm _ (Mt.refl _)
  rw [h] at h1
  obtain ⟨L, h2, _⟩ := h1
  exact ⟨L, by rw [h2, hF]⟩
end
end VS

namespace VS
open PySem PySem.Spec PyProof.Rows L2
theorem ln {α : Type} {l : List α} {n : Nat} (h : l.length = n) (hn : n ≤ 1000 := by decide) : l.length ≤ 1000 := by rw [h]; exact hn
theorem lnS {α : Type} {l : List α} {n : Nat} (h : l.length = n) (hn : n ≤ 1000 := by decide) : l.length ≤ sizeLine := by
  rw [h, PySem.sizeLine_eq]
  omega
def maxT (i j : Int) : Int := if j > i then j else i
theorem maxT_eq (i j : Int) : maxT i j = max i j := by unfold maxT; omega
section
variable {ε α β γ ω : Type} {A : LS} {F : β → ω} {B : β → LS} {X : ε → LS} {t : T ε β}
theorem s_iteT {K : Kont ω} {g1 g2 : LS → R O} (h : SS A g1 K t F B X) : SK A (fun L => fin K (if true = true then g1 L else g2 L)) t F B X := h
theorem Mt.all : ∀ {ss : List S} {L : LS}, Mt (ss.map some) L → L = ss.map some
  | [], [], _ => rfl
  | [], _ :: _, h => by cases h.1
  | s :: ss, [], h => by cases h.1
  | s :: ss, y :: L, h => by
    have h0 := h.2 0 s rfl
    have hy : y = some s := Option.some.inj h0
    rw [hy, Mt.all (ss := ss) (L := L) ⟨Nat.succ.inj h.1, fun i s e => h.2 (i + 1) s e⟩]
    rfl
theorem sk_of {ss : List S} {m : LS → R S} {b : β} {F : β → S} {L' : LS} (h : m (ss.map some) = .ok (F b) L') (hB : Mt (B b) L') : SK (ss.map some) m (T.ok b : T ε β) F B X := fun L hL => by
  rw [hL.all]
  exact ⟨L', h, hB⟩
end
end VS
namespace Ty
open PySem VS Lw
def SrcT : Type := {s : S // Src s}
open Classical in
noncomputable def t_src (ns : List Int) : T Empty SrcT := if h : ns.length ≤ 63 then .ok ⟨_, src_start h⟩ else .no
theorem r_src (ns : List Int) : SK [some (.scr ns)] Lw.m_law_src (t_src ns) (fun r => r.1) (fun _ => [some (.scr ns)]) XV := by
  unfold t_src
  split
  · rename_i h
    exact sk_of (ss := [.scr ns]) (F := fun r : SrcT => r.1) (src_ok h) (Mt.refl _)
  · exact k_no
theorem src_spec {ns : List Int} (h : ns.length ≤ 63) : ∃ s, t_src ns = .ok s := by
  unfold t_src
  rw [dif_pos h]
  exact ⟨_, rfl⟩
def NextQ (s : SrcT) (n : Int) (p : Int × SrcT) : Prop := m_law_next [some s.1, some (.d (.int n))] = .ok (.d (.int p.1)) [some p.2.1, none] ∧ 0 ≤ p.1 ∧ p.1 < n
theorem next_ex (s : SrcT) {n : Int} (h : 0 < n ∧ n < 1073741824) : ∃ p, NextQ s n p := by
  obtain ⟨r, s', e, h0, h1, h2⟩ := next_ok s.2 h.1 h.2
  exact ⟨(r, ⟨s', h2⟩), e, h0, h1⟩
open Classical in
noncomputable def t_next (s : SrcT) (n : Int) : T Empty (Int × SrcT) := if h : 0 < n ∧ n < 1073741824 then .ok (Classical.choose (next_ex s h)) else .no
theorem r_next (s : SrcT) (n : Int) : SK [some s.1, dv n] Lw.m_law_next (t_next s n) (fun r => .d (Enc.enc r.1)) (fun r => [some r.2.1, none]) XV := by
  unfold t_next
  split
  · rename_i h
    exact sk_of (ss := [s.1, .d (.int n)]) (F := fun r : Int × SrcT => .d (.int r.1)) (Classical.choose_spec (next_ex s h)).1 (Mt.refl _)
  · exact k_no
theorem next_spec (s : SrcT) {n : Int} (h : 0 < n ∧ n < 1073741824) : ∃ r s', t_next s n = .ok (r, s') ∧ 0 ≤ r ∧ r < n := by
  have := Classical.choose_spec (next_ex s h)
  exact ⟨_, _, by unfold t_next; rw [dif_pos h], this.2.1, this.2.2⟩
def SmallT (x : Tx) : Prop := ∀ c ∈ x.cs, 97 ≤ c.val ∧ c.val ≤ 122
def GoodT (x : Tx) : Prop := SmallT x ∧ 1 ≤ x.cs.length ∧ x.cs.length ≤ 12
theorem small_lt {l : List Nat} (h : Small l) : ∀ c ∈ l, c < 1114112 := fun c hc => by have := h c hc; omega
theorem of_codes {l : List Nat} (h : Small l) : (Tx.of l).s = sOf l := Tx.of_s (small_lt h)
theorem of_vals {l : List Nat} (h : Small l) : (Tx.of l).cs.map (·.val) = l := by
  unfold Tx.of
  rw [List.map_map]
  refine (List.map_congr_left (g := id) fun c hc => ?_).trans (List.map_id _)
  show (if h : c < 1114112 then (⟨c, h⟩ : Fin 1114112) else _).val = c
  rw [dif_pos (small_lt h c hc)]
theorem of_len (l : List Nat) : (Tx.of l).cs.length = l.length := by simp [Tx.of]
theorem of_small {l : List Nat} (h : Small l) : SmallT (Tx.of l) := fun c hc => by
  have : c.val ∈ (Tx.of l).cs.map (·.val) := List.mem_map_of_mem hc
  rw [of_vals h] at this
  exact h _ this
theorem of_good {l : List Nat} (h : Good l) : GoodT (Tx.of l) := ⟨of_small h.1, by rw [of_len]; exact h.2.1, by rw [of_len]; exact h.2.2⟩
theorem of_inj {a b : List Nat} (ha : Small a) (hb : Small b) (h : Tx.of a = Tx.of b) : a = b := by rw [← of_vals ha, ← of_vals hb, h]
theorem good_codes {x : Tx} (h : GoodT x) : Good (x.cs.map (·.val)) := ⟨fun c hc => by
  obtain ⟨d, hd, rfl⟩ := List.mem_map.mp hc
  exact h.1 d hd, by rw [List.length_map]; exact h.2.1, by rw [List.length_map]; exact h.2.2⟩
def NamesQ (s : SrcT) (m : Int) (p : List Tx × SrcT) : Prop := m_law_names [some s.1, some (.d (.int m))] = .ok (.ol (p.1.map Enc.enc)) [some p.2.1, none] ∧ p.1.length = m.toNat ∧ p.1.Nodup ∧ ∀ n ∈ p.1, GoodT n
theorem nodup_of {ns : List (List Nat)} (h : ns.Nodup) (g : ∀ n ∈ ns, Good n) : (ns.map Tx.of).Nodup := by
  rw [List.Nodup, List.pairwise_map]
  refine List.Pairwise.imp_of_mem (fun ha hb hab z => hab (of_inj (g _ ha).1 (g _ hb).1 z)) h
theorem names_ex (s : SrcT) {m : Int} (h : 0 ≤ m ∧ m ≤ 500) : ∃ p, NamesQ s m p := by
  obtain ⟨ns, s', e, h1, h2, h3, h4⟩ := names_ok s.2 h.1 h.2
  refine ⟨(ns.map Tx.of, ⟨s', h4⟩), ?_, by rw [List.length_map]; exact h1, nodup_of h2 h3, fun n hn => ?_⟩
  · rw [e, List.map_map]
    congr 2
    exact List.map_congr_left fun n hn => by
      show PyData.str (sOf n) = PyData.str (Tx.of n).s
      rw [of_codes (h3 n hn).1]
  · obtain ⟨w, hw, rfl⟩ := List.mem_map.mp hn
    exact of_good (h3 w hw)
open Classical in
noncomputable def t_names (s : SrcT) (m : Int) : T Empty (List Tx × SrcT) := if h : 0 ≤ m ∧ m ≤ 500 then .ok (Classical.choose (names_ex s h)) else .no
theorem r_names (s : SrcT) (m : Int) : SK [some s.1, dv m] Lw.m_law_names (t_names s m) (fun r => .ol (r.1.map Enc.enc)) (fun r => [some r.2.1, none]) XV := by
  unfold t_names
  split
  · rename_i h
    exact sk_of (ss := [s.1, .d (.int m)]) (F := fun r : List Tx × SrcT => .ol (r.1.map Enc.enc)) (Classical.choose_spec (names_ex s h)).1 (Mt.refl _)
  · exact k_no
theorem names_spec (s : SrcT) {m : Int} (h : 0 ≤ m ∧ m ≤ 500) : ∃ ns s', t_names s m = .ok (ns, s') ∧ ns.length = m.toNat ∧ ns.Nodup ∧ ∀ n ∈ ns, GoodT n := by
  have := Classical.choose_spec (names_ex s h)
  exact ⟨_, _, by unfold t_names; rw [dif_pos h], this.2.1, this.2.2.1, this.2.2.2⟩
abbrev Oath := Tx × Int
abbrev Suit := Tp4 (List Oath) (List Oath) Int (Option (Int × Tx))
end Ty

namespace VS
open PySem L2
section
variable {ε ε' α β γ ν ρ : Type}
def T.Post (t : T ε α) (P : α → Prop) : Prop := ∃ a, t = .ok a ∧ P a
theorem post_ok {a : α} {P : α → Prop} (h : P a) : (T.ok a : T ε α).Post P := ⟨a, rfl, h⟩
theorem post_bind {t : T ε α} {k : α → T ε β} {P : α → Prop} {Q : β → Prop} (h : t.Post P) (h2 : ∀ a, P a → (k a).Post Q) : (t.bind k).Post Q := by
  obtain ⟨a, rfl, ha⟩ := h
  exact h2 a ha
theorem post_imp {t : T ε α} {P Q : α → Prop} (h : t.Post P) (k : ∀ a, P a → Q a) : t.Post Q := by
  obtain ⟨a, e, ha⟩ := h
  exact ⟨a, e, k a ha⟩
theorem post_gd {p : Prop} [Decidable p] {t : T ε α} {P : α → Prop} (hp : p) (h : t.Post P) : (T.gd p t).Post P := by
  rw [T.gd_of hp]
  exact h
theorem post_ofO {o : Option α} {k : α → T ε β} {Q : β → Prop} {a : α} (e : o = some a) (h : (k a).Post Q) : ((T.ofO o).bind k).Post Q := by
  subst e
  exact h
theorem post_bindL {t : T ε (T.Le ν ρ)} {n : ν → T ε β} {r : ρ → T ε β} {P : ν → Prop} {Q : β → Prop} (h : t.Post fun z => ∃ v, z = .nx v ∧ P v) (h2 : ∀ v, P v → (n v).Post Q) : (T.bindL t n r).Post Q := by
  obtain ⟨z, rfl, v, rfl, hv⟩ := h
  exact h2 v hv
theorem ofO_some' {a : α} {k : α → T ε β} : (T.ofO (some a)).bind k = k a := rfl
theorem forM_post {f : α → ν → T ε ν} (Inv : List α → ν → Prop) {xs : List α} {v : ν} (h0 : Inv [] v) (hs : ∀ pre x post v, xs = pre ++ x :: post → Inv pre v → (f x v).Post (Inv (pre ++ [x]))) : (T.forM xs v f).Post (Inv xs) := by
  have key : ∀ (post pre : List α) (v : ν), xs = pre ++ post → Inv pre v → (T.forM post v f).Post (Inv xs) := by
    intro post
    induction post with
    | nil =>
      intro pre v e h
      rw [List.append_nil] at e
      subst e
      exact post_ok h
    | cons x post ih =>
      intro pre v e h
      exact post_bind (hs pre x post v e h) fun v' h' => ih (pre ++ [x]) v' (by rw [e]; simp) h'
  exact key xs [] v rfl h0
theorem rangeT_len (n : Nat) : (rangeT n).length = n := by unfold rangeT; simp
theorem forL_nx {f : α → ν → T ε (T.Lp ν ρ)} {v : ν} : ∀ {xs : List α}, (∀ x ∈ xs, f x v = .ok (.nx v)) → T.forL xs v f = .ok (.nx v)
  | [], _ => rfl
  | x :: xs, h => by
    show (f x v).bind _ = _
    rw [h x List.mem_cons_self]
    exact forL_nx fun y hy => h y (List.mem_cons_of_mem _ hy)
theorem sz (n : Nat) (h : n ≤ 1000000) : n ≤ sizeLine := by rw [PySem.sizeLine_eq]; omega
theorem szl (n : Nat) (h : n ≤ 1000000) : n < sizeLine := by rw [PySem.sizeLine_eq]; omega
theorem lcp_ok {xs : List α} {p : α → Bool} {h : α → β} (hs : xs.length ≤ 1000000) : (T.lcp xs p h : T ε (List β)) = .ok ((xs.filter p).map h) := if_pos (sz _ hs)
theorem atI_n (xs : List α) (j : Nat) : atI xs (j : Int) = xs[j]? := by
  unfold atI ixN
  rw [if_pos (by omega)]
  by_cases h : j < xs.length
  · rw [if_pos (by omega)]
    rfl
  · rw [if_neg (by omega), List.getElem?_eq_none (by omega)]
    rfl
theorem popT_nat {xs : List α} {j : Nat} (h : j < xs.length) (hl : xs.length ≤ 1000000) : popT xs (j : Int) = some (xs[j], xs.eraseIdx j) := by
  unfold popT
  rw [if_pos (by omega)]
  have : seqIndex? (j : Int) xs.length = some j := by
    unfold seqIndex?
    simp
    omega
  rw [this]
  show (xs[j]?).map _ = _
  rw [List.getElem?_eq_getElem h]
  rfl
theorem inR_s {j : Int} (h0 : 0 ≤ j) (h1 : j ≤ 1000000) : inR j := inR_ok (by omega) (by omega)
theorem cut_to {xs : List α} {k : Int} (h0 : 0 ≤ k) : cutT xs none (some k) = xs.take k.toNat := by
  unfold cutT
  obtain ⟨j, rfl⟩ := Int.eq_ofNat_of_zero_le h0
  have e1 : HT.sIx xs.length 0 none = 0 := rfl
  have e2 : HT.sIx xs.length xs.length (some (j : Int)) = min j xs.length := by
    unfold HT.sIx
    simp only []
    rw [if_neg (by omega), Int.toNat_natCast]
  rw [e1, e2]
  simp
theorem cut_from {xs : List α} {k : Int} (h0 : 0 ≤ k) : cutT xs (some k) none = xs.drop k.toNat := by
  unfold cutT
  obtain ⟨j, rfl⟩ := Int.eq_ofNat_of_zero_le h0
  have e1 : HT.sIx xs.length 0 (some (j : Int)) = min j xs.length := by
    unfold HT.sIx
    simp only []
    rw [if_neg (by omega), Int.toNat_natCast]
  have e2 : HT.sIx xs.length xs.length none = xs.length := rfl
  rw [e1, e2]
  by_cases h : j ≤ xs.length
  · rw [Nat.min_eq_left h, Int.toNat_natCast, List.take_of_length_le (by rw [List.length_drop]; omega)]
  · rw [Nat.min_eq_right (by omega), Int.toNat_natCast, List.drop_eq_nil_of_le (Nat.le_refl _), List.drop_eq_nil_of_le (by omega), List.take_nil]
section
variable {κ : Type} [DecidableEq κ]
theorem dget_isSome (d : Dt κ α) (k : κ) : (dget d k).isSome = d.any fun p => decide (p.1 = k) := by
  unfold dget
  induction d with
  | nil => rfl
  | cons p d ih =>
    rw [List.any_cons]
    by_cases h : p.1 = k
    · rw [List.find?_cons_of_pos (by simp [h])]
      simp [h]
    · rw [List.find?_cons_of_neg (by simp [h])]
      simp [h, ih]
end
end
end VS

noncomputable section
namespace Ty
open PySem VS Lw L2
end Ty

namespace Ty
open PySem VS L2
structure SideOk (zs : List Oath) : Prop where
  nd : (zs.map (·.1)).Nodup
  wt : ∀ z ∈ zs, 1 ≤ z.2 ∧ z.2 ≤ 1000 ∧ GoodT z.1
def namesOf (u : Suit) : List Tx := (u.a ++ u.b).map (·.1)
structure SOk (us : List Suit) : Prop where
  len : us.length ≤ 60
  side : ∀ u ∈ us, SideOk (u.a ++ u.b) ∧ (u.a ++ u.b).length ≤ 24 ∧ 1 ≤ u.c ∧ u.c ≤ 12000
  named : ∀ (i : Nat) (u : Suit) (k : Int × Tx), us[i]? = some u → u.d = some k → ∃ (j : Nat) (w : Suit), k.1 = (j : Int) ∧ j < i ∧ us[j]? = some w ∧ k.2 ∈ namesOf w
theorem mem_erase {α : Type} {x : α} {xs : List α} {i : Nat} (h : x ∈ xs.eraseIdx i) : x ∈ xs := List.mem_of_mem_eraseIdx h
theorem nodup_erase {α : Type} {xs : List α} (h : xs.Nodup) (i : Nat) : (xs.eraseIdx i).Nodup := h.sublist (List.eraseIdx_sublist ..)
theorem erase_not {α : Type} {xs : List α} (h : xs.Nodup) {i : Nat} (hi : i < xs.length) : xs[i] ∉ xs.eraseIdx i := by
  induction xs generalizing i with
  | nil => simp at hi
  | cons x xs ih =>
    have hn := List.nodup_cons.mp h
    cases i with
    | zero => exact hn.1
    | succ i =>
      simp only [List.getElem_cons_succ, List.eraseIdx_cons_succ, List.mem_cons, not_or]
      have hi' : i < xs.length := by simpa using hi
      exact ⟨fun z => hn.1 (z ▸ List.getElem_mem hi'), ih hn.2 hi'⟩
def sumW (zs : List Oath) : Int := (zs.map (·.2)).sum
def brkB (us : List Suit) (told : List Bool) (k : Int × Tx) : Bool := (us.zip told).any fun p => p.2 && decide (p.1.d = some k)
def keptW (zs : List Oath) (c : Int) (b : Int × Tx → Bool) : Int := sumW (zs.filter fun o => !b (c, o.1))
def margB (u : Suit) (c : Int) (b : Int × Tx → Bool) : Int := keptW u.a c b - keptW u.b c b - u.c
structure Settles (us : List Suit) (b0 : Int × Tx → Bool) (told : List Bool) : Prop where
  len : told.length = us.length
  at_ : ∀ (c : Nat) (u : Suit), us[c]? = some u → told[c]? = some (decide (0 ≤ margB u c fun k => b0 k || brkB us told k))
theorem SOk.sz {us : List Suit} (h : SOk us) {u : Suit} (hu : u ∈ us) : u.a.length ≤ 24 ∧ u.b.length ≤ 24 := by
  have := (h.side u hu).2.1
  rw [List.length_append] at this
  omega
end Ty
namespace Lw
open VS Ty
end Lw

noncomputable section
namespace Ty
open PySem VS Lw L2
end Ty

namespace Ty
open PySem VS L2
structure Rows (n : Nat) (rows : List (List Bool)) : Prop where
  len : rows.length = 2 ^ n
  nd : rows.Nodup
  mem : ∀ r, r ∈ rows ↔ r.length = n
end Ty
namespace Lw
open VS Ty
end Lw

namespace VS
open PySem L2
def enT {α : Type} : Nat → List α → List (Int × α)
  | _, [] => []
  | i, x :: xs => ((i : Nat), x) :: enT (i + 1) xs
section
variable {α β γ ε ν ω : Type} {A : LS} {t : T ε β} {F : β → ω} {B : β → LS} {X : ε → LS}
theorem s_never {K : Kont ω} : SS A gNever K (T.no : T ε β) F B X := fun L hL => trivial
theorem enT_get : ∀ (xs : List α) (i j : Nat), (enT i xs)[j]? = (xs[j]?).map fun x => (((i + j : Nat) : Int), x)
  | [], i, j => rfl
  | x :: xs, i, 0 => rfl
  | x :: xs, i, j + 1 => by
    show (enT (i + 1) xs)[j]? = (xs[j]?).map _
    rw [enT_get xs (i + 1) j]
    have : i + 1 + j = i + (j + 1) := by omega
    rw [this]
theorem forL_post {ρ : Type} {f : α → ν → T ε (T.Lp ν ρ)} (Inv : List α → ν → Prop) {xs : List α} {v : ν} (h0 : Inv [] v) (hs : ∀ pre x post v, xs = pre ++ x :: post → Inv pre v → (f x v).Post fun z => ∃ v', z = .nx v' ∧ Inv (pre ++ [x]) v') : (T.forL xs v f).Post fun z => ∃ v', z = .nx v' ∧ Inv xs v' := by
  have key : ∀ (post pre : List α) (v : ν), xs = pre ++ post → Inv pre v → (T.forL post v f).Post fun z => ∃ v', z = .nx v' ∧ Inv xs v' := by
    intro post
    induction post with
    | nil =>
      intro pre v e h
      rw [List.append_nil] at e
      subst e
      exact post_ok ⟨v, rfl, h⟩
    | cons x post ih =>
      intro pre v e h
      show ((f x v).bind _).Post _
      obtain ⟨z, e1, v', rfl, h'⟩ := hs pre x post v e h
      rw [e1]
      exact ih (pre ++ [x]) v' (by rw [e]; simp) h'
  exact key xs [] v rfl h0
theorem atI_last {xs : List α} (h : 0 < xs.length) : atI xs (-1) = some (xs[xs.length - 1]'(by omega)) := by
  unfold atI ixN
  rw [if_neg (by omega), if_pos (by omega)]
  show xs[((xs.length : Int) + -1).toNat]? = _
  have : ((xs.length : Int) + -1).toNat = xs.length - 1 := by omega
  rw [this]
  exact List.getElem?_eq_getElem _
end
end VS

noncomputable section
namespace Ty
open PySem VS Lw L2
end Ty

namespace Ty
open PySem VS L2
def chF (us : List Suit) : Nat → Nat → List Int
  | 0, _ => []
  | n + 1, c => match us[c]? with
    | some u => (match u.d with
      | some k => k.1 :: chF us n k.1.toNat
      | none => [])
    | none => []
def ch (us : List Suit) (c : Nat) : List Int := chF us (c + 1) c
def bears (us : List Suit) (c : Nat) : List Int := (rangeT us.length).filter fun i => memT (c : Int) (ch us i.toNat)
end Ty
namespace Lw
open VS Ty
end Lw

namespace Ty
open PySem VS Lw
open Classical in
noncomputable def t_same2 (d e : D) : T Empty Bool := if Pl 12 d ∧ Pl 12 e then .ok (eqb d e) else .no
theorem r_same2 (d e : D) : SK [dv d, dv e] (Lw.m_law_same 12) (t_same2 d e) (fun r => .d (Enc.enc r)) (fun _ => [none, none]) XV := by
  unfold t_same2
  split
  · rename_i h
    exact sk_of (ss := [.d d, .d e]) (F := fun r : Bool => .d (.bool r)) (same_ok2 12 d e h.1 h.2) (Mt.refl _)
  · exact k_no
theorem pl_up : ∀ (k : Nat) (d : D), Pl k d → Pl (k + 1) d
  | 0, _, h => h.elim
  | k + 1, d, h => by
    cases d with
    | none => trivial
    | bool b => trivial
    | int b => trivial
    | str b => trivial
    | list xs => exact fun x hx => pl_up k x (h x hx)
    | tuple xs => exact fun x hx => pl_up k x (h x hx)
    | dict b => exact h.elim
theorem pl_le {k m : Nat} (hk : k ≤ m) {d : D} (h : Pl k d) : Pl m d := by
  induction m with
  | zero =>
    have : k = 0 := by omega
    subst this
    exact h
  | succ m ih =>
    by_cases e : k = m + 1
    · subst e; exact h
    · exact pl_up m d (ih (by omega))
class Pln (α : Type) [Enc α] where
  dp : Nat
  pl : ∀ x : α, Pl (dp + 1) (Enc.enc x)
  inj : ∀ x y : α, Enc.enc x = Enc.enc y → x = y
class Nn (α : Type) [Enc α] : Prop where
  nn : ∀ x : α, Enc.enc x ≠ PyData.none
instance : Pln Int := ⟨0, fun _ => trivial, fun _ _ h => by injection h⟩
instance : Pln Bool := ⟨0, fun _ => trivial, fun _ _ h => by injection h⟩
instance : Pln Unit := ⟨0, fun _ => trivial, fun _ _ _ => rfl⟩
instance : Pln Tx := ⟨0, fun _ => trivial, fun _ _ h => Tx.s_inj (by injection h)⟩
instance : Nn Int := ⟨fun _ h => by cases h⟩
instance : Nn Bool := ⟨fun _ h => by cases h⟩
instance : Nn Tx := ⟨fun _ h => by cases h⟩
section
variable {α β γ δ ε : Type} [Enc α] [Enc β] [Enc γ] [Enc δ] [Enc ε]
theorem map_inj [i : Pln α] : ∀ {xs ys : List α}, xs.map (Enc.enc : α → D) = ys.map Enc.enc → xs = ys
  | [], [], _ => rfl
  | [], _ :: _, h => by cases h
  | _ :: _, [], h => by cases h
  | x :: xs, y :: ys, h => by
    rw [List.map_cons, List.map_cons] at h
    injection h with h1 h2
    rw [i.inj x y h1, map_inj h2]
instance [i : Pln α] : Pln (List α) := ⟨i.dp + 1, fun xs d hd => by
  obtain ⟨x, hx, rfl⟩ := List.mem_map.mp hd
  exact i.pl x, fun xs ys h => map_inj (by injection h)⟩
instance : Nn (List α) := ⟨fun _ h => by cases h⟩
instance [i : Pln α] [Nn α] : Pln (Option α) := ⟨i.dp, fun o => by
  cases o with
  | none => trivial
  | some x => exact i.pl x, fun x y h => by
  cases x with
  | none =>
    cases y with
    | none => rfl
    | some y => exact absurd h.symm (Nn.nn y)
  | some x =>
    cases y with
    | none => exact absurd h (Nn.nn x)
    | some y => rw [i.inj x y h]⟩
instance [i : Pln α] [j : Pln β] : Pln (α × β) := ⟨max i.dp j.dp + 1, fun p d hd => by
  simp at hd
  rcases hd with rfl | rfl
  · exact pl_le (by omega) (i.pl p.1)
  · exact pl_le (by omega) (j.pl p.2), fun p q h => by
  have h : PyData.tuple [Enc.enc p.1, Enc.enc p.2] = PyData.tuple [Enc.enc q.1, Enc.enc q.2] := h
  simp only [PyData.tuple.injEq, List.cons.injEq, and_true] at h
  exact Prod.ext (i.inj _ _ h.1) (j.inj _ _ h.2)⟩
instance : Nn (α × β) := ⟨fun _ h => by cases h⟩
instance [i : Pln α] [j : Pln β] [k : Pln γ] : Pln (Tp3 α β γ) := ⟨i.dp + j.dp + k.dp + 1, fun p d hd => by
  simp at hd
  rcases hd with rfl | rfl | rfl
  · exact pl_le (by omega) (i.pl p.a)
  · exact pl_le (by omega) (j.pl p.b)
  · exact pl_le (by omega) (k.pl p.c), fun p q h => by
  have h : PyData.tuple [Enc.enc p.a, Enc.enc p.b, Enc.enc p.c] = PyData.tuple [Enc.enc q.a, Enc.enc q.b, Enc.enc q.c] := h
  simp only [PyData.tuple.injEq, List.cons.injEq, and_true] at h
  obtain ⟨p1, p2, p3⟩ := p
  obtain ⟨q1, q2, q3⟩ := q
  rw [i.inj p1 q1 h.1, j.inj p2 q2 h.2.1, k.inj p3 q3 h.2.2]⟩
instance : Nn (Tp3 α β γ) := ⟨fun _ h => by cases h⟩
instance [i : Pln α] [j : Pln β] [k : Pln γ] [l : Pln δ] : Pln (Tp4 α β γ δ) := ⟨i.dp + j.dp + k.dp + l.dp + 1, fun p d hd => by
  simp at hd
  rcases hd with rfl | rfl | rfl | rfl
  · exact pl_le (by omega) (i.pl p.a)
  · exact pl_le (by omega) (j.pl p.b)
  · exact pl_le (by omega) (k.pl p.c)
  · exact pl_le (by omega) (l.pl p.d), fun p q h => by
  have h : PyData.tuple [Enc.enc p.a, Enc.enc p.b, Enc.enc p.c, Enc.enc p.d] = PyData.tuple [Enc.enc q.a, Enc.enc q.b, Enc.enc q.c, Enc.enc q.d] := h
  simp only [PyData.tuple.injEq, List.cons.injEq, and_true] at h
  obtain ⟨p1, p2, p3, p4⟩ := p
  obtain ⟨q1, q2, q3, q4⟩ := q
  rw [i.inj p1 q1 h.1, j.inj p2 q2 h.2.1, k.inj p3 q3 h.2.2.1, l.inj p4 q4 h.2.2.2]⟩
instance : Nn (Tp4 α β γ δ) := ⟨fun _ h => by cases h⟩
instance [i : Pln α] [j : Pln β] [k : Pln γ] [l : Pln δ] [m : Pln ε] : Pln (Tp5 α β γ δ ε) := ⟨i.dp + j.dp + k.dp + l.dp + m.dp + 1, fun p d hd => by
  simp at hd
  rcases hd with rfl | rfl | rfl | rfl | rfl
  · exact pl_le (by omega) (i.pl p.a)
  · exact pl_le (by omega) (j.pl p.b)
  · exact pl_le (by omega) (k.pl p.c)
  · exact pl_le (by omega) (l.pl p.d)
  · exact pl_le (by omega) (m.pl p.e), fun p q h => by
  have h : PyData.tuple [Enc.enc p.a, Enc.enc p.b, Enc.enc p.c, Enc.enc p.d, Enc.enc p.e] = PyData.tuple [Enc.enc q.a, Enc.enc q.b, Enc.enc q.c, Enc.enc q.d, Enc.enc q.e] := h
  simp only [PyData.tuple.injEq, List.cons.injEq, and_true] at h
  obtain ⟨p1, p2, p3, p4, p5⟩ := p
  obtain ⟨q1, q2, q3, q4, q5⟩ := q
  rw [i.inj p1 q1 h.1, j.inj p2 q2 h.2.1, k.inj p3 q3 h.2.2.1, l.inj p4 q4 h.2.2.2.1, m.inj p5 q5 h.2.2.2.2]⟩
instance : Nn (Tp5 α β γ δ ε) := ⟨fun _ h => by cases h⟩
theorem same2_refl [i : Pln α] (x : α) (h : i.dp ≤ 11 := by decide) : t_same2 (Enc.enc x) (Enc.enc x) = .ok true := by
  unfold t_same2
  rw [if_pos ⟨pl_le (by omega) (i.pl x), pl_le (by omega) (i.pl x)⟩, eqb_self]
end
end Ty

noncomputable section
namespace Ty
open PySem VS Lw L2
end Ty

namespace Ty
open PySem VS L2
end Ty
namespace Lw
open VS Ty
end Lw

namespace VS
open PySem L2
open PySem.W (dataLe)
section
variable {α β γ κ ε ν ω : Type} {A : LS} {t : T ε β} {F : β → ω} {B : β → LS} {X : ε → LS}
theorem pu_lk {i : Nat} {s : S} (h : A[i]? = some (some s)) (hs : s.own = true := by rfl) : Pu A (gLk i) s := fun L hL => by
  unfold gLk
  rw [hL.2 i _ h]
  exact if_pos hs
end
class SrtE (α : Type) [Enc α] : Prop where
  alike : ∀ a b : α, PySem.W.alike (Enc.enc a) (Enc.enc b) = true
  kind : (∀ a : α, isTup1 (Enc.enc a) = true) ∨ ∀ a : α, noTup (Enc.enc a) = true
  dep : ∀ a : α, (Enc.enc a : D).depth ≤ 60
  inj : ∀ a b : α, PySem.W.keyToks (Enc.enc a) = PySem.W.keyToks (Enc.enc b) → a = b
class SrtA (α : Type) [Enc α] : Prop where
  alike : ∀ a b : α, PySem.W.alike (Enc.enc a) (Enc.enc b) = true
  kind : ∀ a : α, noTup (Enc.enc a) = true
  dep : ∀ a : α, (Enc.enc a : D).depth = 0
  one : ∀ a : α, ∃ k, PySem.W.keyToks (Enc.enc a) = [k]
  inj : ∀ a b : α, PySem.W.keyToks (Enc.enc a) = PySem.W.keyToks (Enc.enc b) → a = b
instance : SrtA Int := ⟨fun a b => by show PySem.W.alike (.int a) (.int b) = true; simp only [PySem.W.alike], fun a => rfl, fun a => by show PyData.depth (.int a) = 0; simp only [PyData.depth], fun a => ⟨.inl a, by show PySem.W.keyToks (.int a) = _; simp only [PySem.W.keyToks]⟩, fun a b h => by
  have h : PySem.W.keyToks (.int a) = PySem.W.keyToks (.int b) := h
  simp only [PySem.W.keyToks] at h
  simpa using h⟩
instance : SrtA Tx := ⟨fun a b => by show PySem.W.alike (.str a.s) (.str b.s) = true; simp only [PySem.W.alike], fun a => rfl, fun a => by show PyData.depth (.str a.s) = 0; simp only [PyData.depth], fun a => ⟨.inr a.s.cps.toList, by show PySem.W.keyToks (.str a.s) = _; simp only [PySem.W.keyToks]⟩, fun a b h => by
  have h : PySem.W.keyToks (.str a.s) = PySem.W.keyToks (.str b.s) := h
  simp only [PySem.W.keyToks] at h
  have h : a.s.cps.toList = b.s.cps.toList := by simpa using h
  exact Tx.s_inj (PySem.W.str_of_cps h)⟩
section
variable {α β γ : Type} [Enc α] [Enc β] [Enc γ]
instance (priority := low) [i : SrtA α] : SrtE α := ⟨i.alike, .inr i.kind, fun a => by rw [i.dep]; omega, i.inj⟩
instance [i : SrtA α] [j : SrtA β] : SrtE (α × β) := ⟨fun a b => by
  show PySem.W.alike (.tuple [Enc.enc a.1, Enc.enc a.2]) (.tuple [Enc.enc b.1, Enc.enc b.2]) = true
  simp only [PySem.W.alike, PySem.W.alikeAll, i.alike, j.alike]
  rfl, .inl fun a => rfl, fun a => by
  show PyData.depth (.tuple [Enc.enc a.1, Enc.enc a.2]) ≤ 60
  simp only [PyData.depth, PyData.depthAll, i.dep, j.dep]
  omega, fun a b h => by
  have h : PySem.W.keyToks (.tuple [Enc.enc a.1, Enc.enc a.2]) = PySem.W.keyToks (.tuple [Enc.enc b.1, Enc.enc b.2]) := h
  obtain ⟨k1, e1⟩ := i.one a.1
  obtain ⟨k2, e2⟩ := j.one a.2
  obtain ⟨m1, f1⟩ := i.one b.1
  obtain ⟨m2, f2⟩ := j.one b.2
  simp only [PySem.W.keyToks, PySem.W.keyToksAll, e1, e2, f1, f2, List.cons_append, List.nil_append, List.cons.injEq, true_and, and_true] at h
  exact Prod.ext (i.inj _ _ (by rw [e1, f1, h.1])) (j.inj _ _ (by rw [e2, f2, h.2]))⟩
instance [i : SrtA α] [j : SrtA β] [k : SrtA γ] : SrtE (Tp3 α β γ) := ⟨fun a b => by
  show PySem.W.alike (.tuple [Enc.enc a.a, Enc.enc a.b, Enc.enc a.c]) (.tuple [Enc.enc b.a, Enc.enc b.b, Enc.enc b.c]) = true
  simp only [PySem.W.alike, PySem.W.alikeAll, i.alike, j.alike, k.alike]
  rfl, .inl fun a => rfl, fun a => by
  show PyData.depth (.tuple [Enc.enc a.a, Enc.enc a.b, Enc.enc a.c]) ≤ 60
  simp only [PyData.depth, PyData.depthAll, i.dep, j.dep, k.dep]
  omega, fun a b h => by
  have h : PySem.W.keyToks (.tuple [Enc.enc a.a, Enc.enc a.b, Enc.enc a.c]) = PySem.W.keyToks (.tuple [Enc.enc b.a, Enc.enc b.b, Enc.enc b.c]) := h
  obtain ⟨k1, e1⟩ := i.one a.a
  obtain ⟨k2, e2⟩ := j.one a.b
  obtain ⟨k3, e3⟩ := k.one a.c
  obtain ⟨m1, f1⟩ := i.one b.a
  obtain ⟨m2, f2⟩ := j.one b.b
  obtain ⟨m3, f3⟩ := k.one b.c
  simp only [PySem.W.keyToks, PySem.W.keyToksAll, e1, e2, e3, f1, f2, f3, List.cons_append, List.nil_append, List.cons.injEq, true_and, and_true] at h
  have x1 := i.inj a.a b.a (by rw [e1, f1, h.1])
  have x2 := j.inj a.b b.b (by rw [e2, f2, h.2.1])
  have x3 := k.inj a.c b.c (by rw [e3, f3, h.2.2])
  cases a
  cases b
  simp only at x1 x2 x3
  rw [x1, x2, x3]⟩
end
end VS

noncomputable section
namespace Ty
open PySem VS Lw L2
end Ty

namespace VS
open PySem L2
section
variable {ε α β ν : Type}
end
section
variable {κ α : Type} [DecidableEq κ]
def NdK (d : Dt κ α) : Prop := (d.map (·.1)).Nodup
end
end VS
namespace Ty
open PySem VS L2
open PySem.W (dataLe)
def oathsOf (us : List Suit) : List (Int × Tx) := (enT 0 us).flatMap fun p => (namesOf p.2).map fun n => (p.1, n)
theorem oaths_nodup {us : List Suit} (hs : ∀ u ∈ us, (namesOf u).Nodup) : ∀ i : Nat, ((enT i us).flatMap fun p => (namesOf p.2).map fun n => (p.1, n)).Nodup := by
  induction us with
  | nil => intro i; exact List.nodup_nil
  | cons u us ih =>
    intro i
    show (List.flatMap _ (((i : Int), u) :: enT (i + 1) us)).Nodup
    rw [List.flatMap_cons, List.nodup_append]
    refine ⟨?_, ih (fun w hw => hs w (List.mem_cons_of_mem _ hw)) (i + 1), ?_⟩
    · rw [List.Nodup, List.pairwise_map]
      exact List.Pairwise.imp (fun h z => h (by cases z; rfl)) (hs u List.mem_cons_self)
    · intro a ha b hb z
      subst z
      obtain ⟨n, _, rfl⟩ := List.mem_map.mp ha
      obtain ⟨p, hp, hq⟩ := List.mem_flatMap.mp hb
      obtain ⟨m, _, e⟩ := List.mem_map.mp hq
      have e1 : p.1 = (i : Int) := congrArg Prod.fst e
      obtain ⟨j, hj, e2⟩ := List.getElem_of_mem hp
      have e3 := List.getElem?_eq_some_iff.mpr ⟨hj, e2⟩
      rw [enT_get] at e3
      obtain ⟨x, hx, e4⟩ := Option.map_eq_some_iff.mp e3
      rw [← e4] at e1
      dsimp only at e1
      omega
theorem SOk.nd {us : List Suit} (hs : SOk us) : ∀ u ∈ us, (namesOf u).Nodup := fun u hu => (hs.side u hu).1.nd
structure Oaths (us : List Suit) (ol : List (Int × Tx)) : Prop where
  srt : ol.Pairwise fun a b => dataLe false Enc.enc a b = true
  perm : ol.Perm (oathsOf us)
theorem Oaths.mem {us : List Suit} {ol : List (Int × Tx)} (h : Oaths us ol) {k : Int × Tx} : k ∈ ol ↔ k ∈ oathsOf us := h.perm.mem_iff
theorem Oaths.nd {us : List Suit} (hs : SOk us) {ol : List (Int × Tx)} (h : Oaths us ol) : ol.Nodup := h.perm.nodup_iff.mpr (oaths_nodup hs.nd 0)
end Ty
namespace Lw
open VS Ty
end Lw

noncomputable section
namespace Ty
open PySem VS Lw L2
end Ty

namespace Ty
open PySem VS L2
end Ty
namespace Lw
open VS Ty
end Lw

namespace VS
open PySem L2
section
variable {α β γ κ ε ν ω : Type} {A A' : LS} {t : T ε β} {F : β → ω} {B : β → LS} {X : ε → LS}
theorem e_ext {i : Nat} {ds : List D} {g : LS → R D} {k : S → LS → R ω} (h : A[i]? = some (some (.ol ds))) (h2 : SK A (fun L => (g L).bind fun d L1 => (extK i d L1).bind k) t F B X) : SK A (fun L => (gExt i g L).bind k) t F B X := fun L hL => by
  have h3 := h2 L hL
  show SimR ((gExt i g L).bind k) t F B X
  unfold gExt gOwnL
  rw [hL.2 i _ h]
  show SimR (((g L).bind (extK i)).bind k) t F B X
  rw [bind_assoc']
  exact h3
theorem c_ext [Enc α] {i : Nat} {xs ys : List α} {k : S → LS → R ω} {A' : LS} (h : A[i]? = some (some (.ol (xs.map Enc.enc)))) (hA : A.set i (some (.ol ((xs ++ ys).map Enc.enc))) = A') (h2 : SK A' (k (.d .none)) t F B X) : SK A (fun L => (extK i (Enc.enc ys) L).bind k) (T.gd (xs.length + ys.length ≤ sizeLine) t) F B X := k_gd fun hs L hL => by
  show SimR ((extL i (ys.map Enc.enc) L).bind k) t F B X
  unfold extL
  rw [hL.2 i _ h]
  show SimR ((if (xs.map Enc.enc).length + (ys.map Enc.enc).length ≤ sizeLine then R.ok (S.d .none) (L.set i (some (.ol (xs.map Enc.enc ++ ys.map Enc.enc)))) else .stuck).bind k) t F B X
  rw [List.length_map, List.length_map, if_pos hs]
  refine h2 _ ?_
  rw [← hA, List.map_append]
  exact hL.set i _
def ordT (b : Bool) (x y : α × Int) : Bool := if b then decide (y.2 ≤ x.2) else decide (x.2 ≤ y.2)
section
variable [DecidableEq κ] [Enc κ] [Enc α]
theorem optD [Enc α] (o : Option α) : (o.map (Enc.enc : α → D)).getD .none = Enc.enc o := by
  cases o <;> rfl
theorem pu_dgetNK [Enc1 κ] [KD1 κ] {i : Nat} {d : Dt κ α} {x : κ} {g : LS → R D} (h : A[i]? = some (kv d)) (hg : Pu A g (Enc.enc x)) : Pu A (gDGetN i g) (Enc.enc (dget d x)) := fun L hL => by
  unfold gDGetN
  rw [hL.2 i _ h]
  show ((g L).bind fun d L1 => (match dictAt L1[i]? d with
    | some r => R.ok (r.getD .none) L1
    | none => .stuck)) = _
  rw [hg L hL]
  show (match dictAt L[i]? (Enc.enc x) with
    | some r => R.ok (r.getD .none) L
    | none => .stuck) = _
  rw [dictAt_K (hL.2 i _ h)]
  show R.ok (((dget d x).map Enc.enc).getD .none) L = _
  rw [optD]
end
end
end VS

namespace VS
open PySem PySem.Spec PyProof.Rows L2
section
variable {ε ε' α β γ κ ω : Type} {A : LS} {t : T ε β} {F : β → ω} {B : β → LS} {X : ε → LS}
theorem k_some {k : LS → R ω} {a : α} {t' : α → T ε β} (h : SK A k (t' a) F B X) : SK A k ((T.ofO (some a)).bind t') F B X := h
theorem pu_onS {f : S → Option γ} {g : LS → R S} {s : S} {z : γ} (h : Pu A g s) (hf : f s = some z) : Pu A (gOnS f g) z := fun L hL => by
  show (g L).bind (fun s L1 => ofO (f s) L1) = _
  rw [h L hL, R.bind_ok, hf]
  rfl
theorem sLen_k [Enc1 κ] [Enc α] (d : Dt κ α) : sLen (.odK (enc1 d)) = some (Enc.enc ((List.length d : Nat) : Int)) := by
  show some (PyData.int ((enc1 d).length : Nat)) = _
  unfold enc1
  rw [List.length_map]
  rfl
theorem kD_k1 [Enc κ] [Enc1 κ] [i : KD1 κ] (x : κ) : kD (Enc1.k1 x) = (Enc.enc x : D) := by
  have h := i.eq x
  generalize Enc1.k1 x = k at h
  generalize (Enc.enc x : D) = d at h
  cases d <;> cases h <;> rfl
theorem s_frz {K : Kont ω} {i : Nat} {ds : List D} {g : LS → R O} (h : A[i]? = some (some (.ol ds))) (h2 : SS (A.set i (some (.d (.list ds)))) g K t F B X) : SS A (gFrz i g) K t F B X := fun L hL => by
  have h3 := h2 (L.set i (some (.d (.list ds)))) (hL.set i _)
  show SimR (fin K (g (frzL i L))) t F B X
  unfold frzL
  rw [hL.2 i _ h]
  exact h3
end
end VS

namespace VS
open PySem PySem.Spec PyProof.Rows L2
section
variable {ε ε' α β γ κ ω : Type} {A : LS} {t : T ε β} {F : β → ω} {B : β → LS} {X : ε → LS}
end
end VS

namespace VS
open PySem PySem.Spec PyProof.Rows L2
section
variable {ε ε' α β γ κ ω : Type} {A : LS} {t : T ε β} {F : β → ω} {B : β → LS} {X : ε → LS}
end
end VS

namespace VS
open PySem PySem.Spec PyProof.Rows L2
section
variable {ε' α β γ κ ω : Type} {A : LS} {t : T Empty β} {F : β → ω} {B : β → LS} {X : Empty → LS}
end
end VS

namespace VS
open PySem PySem.Spec PyProof.Rows L2
section
variable {ε ε' α β γ κ ν ω : Type} {A : LS} {t : T ε β} {F : β → ω} {B : β → LS} {X : ε → LS}
theorem e_callG {m : LS → R S} {as : List Ag} {gs : List Nat} {k : S → LS → R ω} (h : SK A (fun L => (evArgsG as L).bind fun xs L1 => (if (refs (xs ++ gs.map Av.r)).Nodup then callAt m (xs ++ gs.map Av.r) L1 else .stuck).bind k) t F B X) : SK A (fun L => (gCallG m as gs L).bind k) t F B X := e_bind h
theorem ag_nil {k : List Av → LS → R ω} (h : SK A (k []) t F B X) : SK A (fun L => (evArgsG [] L).bind k) t F B X := h
theorem ag_d {g : LS → R D} {as : List Ag} {k : List Av → LS → R ω} (h : SK A (fun L => (g L).bind fun d L1 => (evArgsG as L1).bind fun xs L2 => k (.d d :: xs) L2) t F B X) : SK A (fun L => (evArgsG (.d g :: as) L).bind k) t F B X := fun L hL => by
  have h := h L hL
  dsimp only at h
  show SimR (((g L).bind fun d L1 => (evArgsG as L1).bind fun xs L2 => R.ok (Av.d d :: xs) L2).bind k) t F B X
  rw [bind_assoc']
  cases e : g L with
  | stuck => rw [e] at h; exact h
  | err c L1 => rw [e] at h; exact h
  | ok d L1 =>
    rw [e] at h
    show SimR (((evArgsG as L1).bind fun xs L2 => R.ok (Av.d d :: xs) L2).bind k) t F B X
    rw [bind_assoc']
    exact h
theorem ag_r {i : Nat} {s : S} {as : List Ag} {k : List Av → LS → R ω} (hi : A[i]? = some (some s)) (h : SK A (fun L => (evArgsG as L).bind fun xs L2 => k (.r i :: xs) L2) t F B X) : SK A (fun L => (evArgsG (.r i :: as) L).bind k) t F B X := fun L hL => by
  have h := h L hL
  dsimp only at h
  show SimR ((match L[i]? with
    | some (some _) => (evArgsG as L).bind fun xs L2 => R.ok (Av.r i :: xs) L2
    | _ => .stuck).bind k) t F B X
  rw [hL.2 i s hi]
  show SimR (((evArgsG as L).bind fun xs L2 => R.ok (Av.r i :: xs) L2).bind k) t F B X
  rw [bind_assoc']
  exact h
theorem ag_o {i : Nat} {as : List Ag} {k : List Av → LS → R ω} (h : SK A (fun L => (evArgsG as L).bind fun xs L2 => k (.r i :: xs) L2) t F B X) : SK A (fun L => (evArgsG (.o i :: as) L).bind k) t F B X := fun L hL => by
  have h := h L hL
  dsimp only at h
  show SimR (((evArgsG as L).bind fun xs L2 => R.ok (Av.r i :: xs) L2).bind k) t F B X
  rw [bind_assoc']
  exact h
end
section
variable {α β γ κ ν ω : Type} {A : LS} {t : T Empty β} {F : β → ω} {B : β → LS} {X : Empty → LS}
def unlK (K : Kont ω) (j : Nat) (ds : List D) : Kont ω where
  nx := fun L => K.nx (L.set j (some (.ol ds)))
  rt := fun s L => K.rt s (L.set j (some (.ol ds)))
  bk := fun L => K.bk (L.set j (some (.ol ds)))
  ct := fun L => K.ct (L.set j (some (.ol ds)))
theorem s_forO {K : Kont ω} {j : Nat} {ds : List D} {f : D → LS → Option LS} {g : LS → R O} (h : A[j]? = some (some (.ol ds))) (h2 : SK (A.set j none) (fun L => fin (unlK K j ds) (forGo f g ds L)) t F B X) : SS A (gForO j f g) K t F B X := fun L hL => by
  have h3 := h2 (L.set j none) (hL.set j none)
  show SimR (fin K (gForO j f g L)) t F B X
  unfold gForO
  rw [hL.2 j _ h]
  show SimR (fin K (unlR j ds (forGo f g ds (L.set j none)))) t F B X
  have h3 : SimR (fin (unlK K j ds) (forGo f g ds (L.set j none))) t F B X := h3
  cases hg : forGo f g ds (L.set j none) with
  | stuck => rw [hg] at h3; exact h3
  | err c L1 =>
    rw [hg] at h3
    cases t with
    | ok b => obtain ⟨_, h4, _⟩ := h3; cases h4
    | er c e => exact e.elim
    | no => trivial
  | ok o L1 =>
    rw [hg] at h3
    cases o <;> exact h3
theorem k_unlN {K : Kont ω} {j : Nat} {ds : List D} {A2 : LS} (e : A.set j (some (.ol ds)) = A2) (h : SK A2 K.nx t F B X) : SK A (unlK K j ds).nx t F B X := fun L hL => by
  subst e
  exact h _ (hL.set j _)
theorem k_unlR {K : Kont ω} {j : Nat} {ds : List D} {s : S} {A2 : LS} (e : A.set j (some (.ol ds)) = A2) (h : SK A2 (fun L => K.rt s L) t F B X) : SK A (fun L => (unlK K j ds).rt s L) t F B X := fun L hL => by
  subst e
  exact h _ (hL.set j _)
def cleanK (K : Kont ω) : Kont ω where
  nx := fun L => K.nx (cleanL L)
  rt := fun s L => K.rt s (cleanL L)
  bk := fun L => K.bk (cleanL L)
  ct := fun L => K.ct (cleanL L)
def noB : LS → Bool
  | [] => true
  | some (.b _) :: _ => false
  | some (.bl _) :: _ => false
  | _ :: L => noB L
theorem noB_at : ∀ {A : LS} {i : Nat} {s : S}, noB A = true → A[i]? = some (some s) → s.own = true
  | x :: A, 0, s, h, e => by
    cases e
    cases s with
    | b d => cases h
    | bl d => cases h
    | _ => rfl
  | x :: A, i + 1, s, h, e => by
    have h2 : noB A = true := by
      cases x with
      | none => exact h
      | some y => cases y <;> first | exact h | cases h
    exact noB_at (A := A) (i := i) h2 e
  | [], _, _, _, e => by cases e
theorem mt_clean {A L : LS} (hA : noB A = true) (h : Mt A L) : Mt A (cleanL L) := by
  refine ⟨by unfold cleanL; rw [List.length_map]; exact h.1, fun i s e => ?_⟩
  have h1 := h.2 i s e
  have h2 := noB_at hA e
  unfold cleanL
  rw [List.getElem?_map, h1]
  cases s <;> first | rfl | cases h2
structure Cl (K K' : Kont ω) : Prop where
  rt : K'.rt = (cleanK K).rt
theorem cl_0 {K : Kont ω} : Cl K (cleanK K) := ⟨rfl⟩
theorem cl_n {K K' : Kont ω} {g : LS → R O} (h : Cl K K') : Cl K (K'.next g) := ⟨h.rt⟩
theorem k_cleanR {K K' : Kont ω} {A2 : LS} {s : S} (hK : Cl K K') (hm : Mt A2 A) (hb : noB A2 = true) (h : SK A2 (fun L => K.rt s L) t F B X) : SK A (fun L => K'.rt s L) t F B X := fun L hL => by
  show SimR (K'.rt s L) t F B X
  rw [hK.rt]
  exact h _ (mt_clean hb (hm.trans hL))
theorem mt_setF : ∀ {js : List Nat} {fs : List (Str × S)} {A L : LS}, Mt A L → Mt (setF js fs A) (setF js fs L)
  | [], _, _, _, h => h
  | _ :: _, [], _, _, h => h
  | j :: js, (_, s) :: fs, A, L, h => mt_setF (js := js) (fs := fs) (h.set j (some s))
theorem s_newO {K : Kont ω} {i C : Nat} {fl : List (Str × Nat)} {fs : List (Str × S)} {m : LS → R S} {g : LS → R O} {A2 : LS} (hm : m [some (.ob C [])] = .ok (.d .none) [some (.ob C fs)]) (hn : fs.map (·.1) = fl.map (·.1)) (hj : ((i :: fl.map Prod.snd).all fun j => decide (j < A.length)) = true) (e : setF (fl.map Prod.snd) fs (A.set i none) = A2)
    (h : SS A2 g (cleanK K) t F B X) : SS A (gNewO i C fl (gNewOb C m) g) K t F B X := fun L hL => by
  subst e
  have h3 := h _ (mt_setF (js := fl.map Prod.snd) (fs := fs) (hL.set i none))
  show SimR (fin K (gNewO i C fl (gNewOb C m) g L)) t F B X
  unfold gNewO gNewOb
  rw [hm]
  show SimR (fin K (if C = C ∧ fs.map (·.1) = fl.map (·.1) ∧ (∀ j ∈ i :: fl.map Prod.snd, j < L.length) then cleanR (g (setF (fl.map Prod.snd) fs (L.set i none))) else .stuck)) t F B X
  rw [if_pos ⟨rfl, hn, fun j hj2 => by rw [hL.1]; exact of_decide_eq_true (List.all_eq_true.mp hj j hj2)⟩]
  have h3 : SimR (fin (cleanK K) (g (setF (fl.map Prod.snd) fs (L.set i none)))) t F B X := h3
  cases hg : g (setF (fl.map Prod.snd) fs (L.set i none)) with
  | stuck => rw [hg] at h3; exact h3
  | err c L1 =>
    rw [hg] at h3
    cases t with
    | ok b => obtain ⟨_, h4, _⟩ := h3; cases h4
    | er c e => exact e.elim
    | no => trivial
  | ok o L1 =>
    rw [hg] at h3
    cases o <;> exact h3
end
end VS

namespace VS
open PySem PySem.Spec PyProof.Rows L2
def t_is_name (x : Tx) : T Empty Bool := if x.cs.length ≤ 100000 then .ok (Lw.isN (x.cs.map (·.val))) else .no
theorem r_is_name (x : Tx) : SK [dv x] Lw.m_is_name (t_is_name x) (fun r => .d (Enc.enc r)) (fun _ => [none]) XV := by
  unfold t_is_name
  split
  · rename_i h
    have e := Lw.is_name_ok (w := x.cs.map fun c => c.val) (by rw [List.length_map]; exact h)
    rw [show Lw.sOf (x.cs.map fun c => c.val) = x.s from rfl] at e
    exact sk_of (ss := [.d (.str x.s)]) (F := fun r : Bool => .d (.bool r)) e (Mt.refl _)
  · exact k_no
end VS

namespace VS
open PySem PySem.Spec PyProof.Rows L2
inductive Itx where
  | i (n : Int)
  | t (x : Tx)
deriving DecidableEq
instance : Enc Itx := ⟨fun x => match x with
  | .i n => Enc.enc n
  | .t x => Enc.enc x⟩
def Itx.toT : Itx → Option Tx
  | .t x => some x
  | .i _ => none
def Itx.toI : Itx → Option Int
  | .t _ => none
  | .i n => some n
instance : Sh Itx where
  dep := 0
  nn := fun x h => by
    cases x with
    | i n => cases h
    | t x => cases h
  lay := fun x => by
    cases x with
    | i n => exact (inferInstance : Sh Int).lay n
    | t x => exact (inferInstance : Sh Tx).lay x
  dp := fun x => by
    cases x with
    | i n => exact (inferInstance : Sh Int).dp n
    | t x => exact (inferInstance : Sh Tx).dp x
  eqv := fun x y => by
    cases x with
    | i n =>
      cases y with
      | i m =>
        refine ((inferInstance : Sh Int).eqv n m).trans ?_
        rw [decide_eq_decide]
        exact ⟨fun h => by rw [h], fun h => by injection h⟩
      | t y =>
        rw [show decide (Itx.i n = Itx.t y) = false from decide_eq_false fun h => by cases h]
        rfl
    | t x =>
      cases y with
      | i m =>
        rw [show decide (Itx.t x = Itx.i m) = false from decide_eq_false fun h => by cases h]
        rfl
      | t y =>
        refine ((inferInstance : Sh Tx).eqv x y).trans ?_
        rw [decide_eq_decide]
        exact ⟨fun h => by rw [h], fun h => by injection h⟩
end VS

noncomputable section
namespace Ty
open PySem VS Lw L2
end Ty

namespace VS
open PySem L2
end VS
namespace Ty
open PySem VS L2
abbrev Ent := Tp3 Int Bool (List Tx)
def goalB (u : Suit) (st : Bool) : Int := if st = true then u.c + sumW u.b else sumW u.a - u.c + 1
def fairB (u : Suit) (st : Bool) (names : List Tx) : Bool := decide (names.Nodup) && (names.all fun n => memT n (namesOf u)) && decide (goalB u st ≤ sumW ((u.a ++ u.b).filter fun o => memT o.1 names))
end Ty

namespace Ty
open PySem VS L2
def namersOf (us : List Suit) (c : Int) (n : Tx) : List Int := (rangeT us.length).filter fun i => decide ((us[i.toNat]?).bind (·.d) = some (c, n))
def bornB (us : List Suit) (says : Dt Int Bool) (u : Suit) (e : Ent) (n : Tx) : Bool := if (decide (memT n (u.a.map (·.1)) = e.b)) = true then (namersOf us e.a n).all fun i => decide (dget says i = some false) else (namersOf us e.a n).any fun i => decide (dget says i = some true)
end Ty

namespace Ty
open PySem VS L2
end Ty

namespace Ty
open PySem VS L2
end Ty

namespace Ty
open PySem VS L2
end Ty

namespace Ty
open PySem VS L2
end Ty

namespace Ty
open PySem VS L2
def fewN (goal : Int) : List Oath → Int → Nat
  | [], _ => 0
  | o :: os, r => if goal ≤ r then 0 else fewN goal os (r + o.2) + 1
def hvy (side : List Oath) : List Oath := side.mergeSort (ordT true)
def fewT (side : List Oath) (goal : Int) : List Tx := ((hvy side).take (fewN goal (hvy side) 0)).map (·.1)
def trueB (b : Int × Tx → Bool) (u : Suit) (c : Int) (st : Bool) : List Oath := (u.a.filter fun o => decide ((!b (c, o.1)) = st)) ++ (u.b.filter fun o => decide (b (c, o.1) = st))
end Ty

namespace Ty
open PySem VS L2
def askN (us : List Suit) (told : List Bool) (u : Suit) (c : Int) (st : Bool) (n : Tx) : List Int := if (decide (memT n (u.a.map (·.1)) = st)) = true then namersOf us c n else ((namersOf us c n).filter fun i => decide (told[i.toNat]? = some true)).take 1
def askE (us : List Suit) (told : List Bool) (u : Suit) (e : Ent) : List Int := e.c.flatMap (askN us told u e.a e.b)
def papE (us : List Suit) (told : List Bool) (c : Int) : Ent := match atI us c, atI told c with
  | some u, some st => Tp3.mk c st (fewT (trueB (brkB us told) u c st) (goalB u st))
  | _, _ => Tp3.mk c false []
def askP (us : List Suit) (told : List Bool) (c : Int) : List Int := match atI us c with
  | some u => askE us told u (papE us told c)
  | none => []
theorem nodup_bound : ∀ (n : Nat) (ks : List Int), ks.Nodup → (∀ k ∈ ks, 0 ≤ k ∧ k < n) → ks.length ≤ n
  | 0, ks, _, h => by
    cases ks with
    | nil => exact Nat.le_refl _
    | cons k ks => have := h k List.mem_cons_self; omega
  | n + 1, ks, hn, h => by
    have := nodup_bound n (ks.erase (n : Int)) (hn.erase _) fun k hk => by
      have h1 := h k (List.mem_of_mem_erase hk)
      have h2 : k ≠ (n : Int) := fun z => by
        subst z
        exact hn.not_mem_erase hk
      omega
    have := List.le_length_erase (a := (n : Int)) (l := ks)
    omega
end Ty

namespace Ty
open PySem VS L2
structure WOk (us : List Suit) (told : List Bool) (c : Int) (ks ws : List Int) : Prop where
  nd : (ks ++ ws).Nodup
  rg : ∀ x ∈ ks ++ ws, 0 ≤ x ∧ x < us.length
  ge : ∀ x ∈ ks ++ ws, c ≤ x
  src : ∀ x ∈ ks ++ ws, x = c ∨ ∃ y ∈ ks, x ∈ askP us told y
  cl : ∀ y ∈ ks, ∀ x ∈ askP us told y, x ∈ ks ++ ws
  has : c ∈ ks ++ ws
structure PapOk (us : List Suit) (told : List Bool) (c : Int) (ks : List Int) : Prop where
  nd : (c :: ks).Nodup
  rg : ∀ x ∈ c :: ks, 0 ≤ x ∧ x < us.length
  src : ∀ x ∈ ks, ∃ y ∈ c :: ks, x ∈ askP us told y
  cl : ∀ y ∈ c :: ks, ∀ x ∈ askP us told y, x ∈ ks
  up : ks.Pairwise fun a b => a ≤ b
end Ty

namespace VS
open PySem L2
end VS
namespace Ty
open PySem VS L2
structure BOk (n m : Nat) (es : List Ent) : Prop where
  len : es.length ≤ n
  nm : ∀ e ∈ es, e.c.length ≤ m
end Ty

namespace Ty
open PySem VS L2
def saysOf (es : List Ent) : Dt Int Bool := es.map fun e => (e.a, e.b)
structure GoodP (us : List Suit) (c : Int) (st : Bool) (es : List Ent) : Prop where
  nd : (es.map (·.a)).Nodup
  ent : ∀ e ∈ es, ∃ (j : Nat) (u : Suit), e.a = (j : Int) ∧ us[j]? = some u ∧ fairB u e.b e.c = true ∧ e.c.all (bornB us (saysOf es) u e) = true
  says : dget (saysOf es) c = some st
end Ty

namespace Ty
open PySem VS L2
end Ty
namespace Lw
open VS Ty
end Lw

noncomputable section
namespace Ty
open PySem VS Lw L2
end Ty

namespace Ty
open PySem VS L2
end Ty

namespace Ty
open PySem VS L2
end Ty
namespace Lw
open VS Ty
end Lw

noncomputable section
namespace Ty
open PySem VS Lw L2
end Ty

namespace Ty
open PySem VS L2
end Ty

namespace Ty
open PySem VS L2
end Ty
namespace Lw
open VS Ty
end Lw

noncomputable section
namespace Ty
open PySem VS Lw L2
end Ty

namespace Ty
open PySem VS L2
abbrev Off := Int × (Int × Int)
abbrev Tab := Dt Int (Int × List Int)
def costS (S : List Off) : Int := (S.map (·.2.1)).sum
def gainS (S : List Off) : Int := (S.map (·.2.2)).sum
theorem sum_le_of_sub : ∀ {xs ys : List Int}, xs.Sublist ys → (∀ y ∈ ys, 0 ≤ y) → xs.sum ≤ ys.sum
  | _, _, .slnil, _ => Int.le_refl _
  | _, _, .cons a h, hy => by
    rw [List.sum_cons]
    have := sum_le_of_sub h fun y hm => hy y (List.mem_cons_of_mem _ hm)
    have := hy a List.mem_cons_self
    omega
  | _, _, .cons₂ a h, hy => by
    rw [List.sum_cons, List.sum_cons]
    have := sum_le_of_sub h fun y hm => hy y (List.mem_cons_of_mem _ hm)
    omega
theorem costS_le {S T : List Off} (h : S.Sublist T) (hp : ∀ o ∈ T, 0 ≤ o.2.1) : costS S ≤ costS T := sum_le_of_sub (h.map _) fun y hy => by
  obtain ⟨o, ho, rfl⟩ := List.mem_map.mp hy
  exact hp o ho
theorem costS_nonneg {S : List Off} (hp : ∀ o ∈ S, 0 ≤ o.2.1) : 0 ≤ costS S := by
  have := costS_le (List.nil_sublist S) hp
  simpa [costS] using this
theorem dget_mem' {κ α : Type} [DecidableEq κ] {d : Dt κ α} {k : κ} {v : α} (h : dget d k = some v) : (k, v) ∈ d := by
  unfold dget at h
  obtain ⟨p, hp, rfl⟩ := Option.map_eq_some_iff.mp h
  have h1 := List.mem_of_find?_eq_some hp
  have h2 : p.1 = k := of_decide_eq_true (List.find?_some (p := fun p : κ × α => decide (p.1 = k)) hp)
  rw [← h2]
  exact h1
structure Sound (pre : List Off) (t : Tab) : Prop where
  nd : NdK t
  snd : ∀ p ∈ t, ∃ S : List Off, S.Sublist pre ∧ p.2.2 = S.map (·.1) ∧ p.1 = costS S ∧ p.2.1 = gainS S
structure TabOk (goal : Int) (pre : List Off) (t : Tab) : Prop extends Sound pre t where
  cmp : ∀ S : List Off, S.Sublist pre → ∃ p ∈ t, p.1 ≤ costS S ∧ (gainS S ≤ p.2.1 ∨ goal ≤ p.2.1)
theorem Sound.len {pre : List Off} {t : Tab} (h : Sound pre t) (hp : ∀ o ∈ pre, 0 ≤ o.2.1) : (t.length : Int) ≤ costS pre + 1 := by
  have h0 := costS_nonneg hp
  have := nodup_bound (costS pre + 1).toNat (t.map (fun p => p.1)) (show (t.map (fun p => p.1)).Nodup from h.nd) fun k hk => by
    obtain ⟨p, hp2, rfl⟩ := List.mem_map.mp hk
    obtain ⟨S, h1, h2, h3, h4⟩ := h.snd p hp2
    have h5 := costS_le h1 hp
    have h6 := costS_nonneg (S := S) fun o ho => hp o (h1.subset ho)
    omega
  rw [List.length_map] at this
  omega
end Ty

namespace Ty
open PySem VS L2
abbrev Oa := Int × Tx
def inS (us : List Suit) (c k : Nat) : Bool := decide (k = c) || memT (c : Int) (ch us k)
abbrev Brk (us : List Suit) (M : List Oa) (t : List Bool) : Prop := Settles us (fun k => memT k M) t
def turns (us : List Suit) (told : List Bool) (M : List Oa) (c : Nat) : Prop := ∀ t, Brk us M t → t[c]? ≠ told[c]?
def zone (us : List Suit) (c : Nat) (p : Oa) : Bool := decide (0 ≤ p.1) && inS us c p.1.toNat
end Ty

namespace Ty
open PySem VS L2
end Ty

namespace Ty
open PySem VS L2
theorem nodup_len {α : Type} [DecidableEq α] : ∀ {xs ys : List α}, xs.Nodup → (∀ x ∈ xs, x ∈ ys) → xs.length ≤ ys.length
  | [], ys, _, _ => Nat.zero_le _
  | x :: xs, ys, hn, hs => by
    have hn' := List.nodup_cons.mp hn
    have hp := List.perm_cons_erase (hs x List.mem_cons_self)
    have := nodup_len (xs := xs) (ys := ys.erase x) hn'.2 fun z hz => by
      refine (List.mem_erase_of_ne fun q => ?_).mpr (hs z (List.mem_cons_of_mem _ hz))
      subst q
      exact hn'.1 hz
    rw [hp.length_eq, List.length_cons, List.length_cons]
    omega
def PlanOk (us : List Suit) (told : List Bool) (c : Nat) (u : Suit) (r : Option (List Oa)) : Prop := match r with
  | some row => row.Nodup ∧ (∀ p ∈ row, zone us c p = true ∧ p ∈ oathsOf us) ∧ turns us told row c ∧ (∀ M : List Oa, M.Nodup → turns us told M c → row.length ≤ (M.filter (zone us c)).length) ∧ u.c ≤ sumW u.a
  | none => told[c]? = some false ∧ sumW u.a < u.c ∧ ∀ M : List Oa, M.Nodup → ¬ turns us told M c
structure LaterOk (us : List Suit) (told : List Bool) (c : Nat) (plans : List (Option (List Oa))) : Prop where
  len : plans.length = us.length
  ok : ∀ (j : Nat) (w : Suit), c < j → us[j]? = some w → ∃ r, plans[j]? = some r ∧ PlanOk us told j w r
section
variable {us : List Suit} {told : List Bool} {plans : List (Option (List Oa))} {c : Nat} {u : Suit}
end
end Ty

namespace Ty
open PySem VS L2
section
variable {us : List Suit} {told : List Bool} {plans : List (Option (List Oa))} {c : Nat} {u : Suit}
end
end Ty

namespace Ty
open PySem VS L2
section
variable {us : List Suit} {told : List Bool} {plans : List (Option (List Oa))} {c : Nat} {u : Suit}
end
end Ty

namespace Ty
open PySem VS L2
open PySem.W (dataLe)
section
variable {us : List Suit} {told : List Bool} {c : Nat} {u : Suit}
end
end Ty

namespace Ty
open PySem VS L2
open PySem.W (dataLe)
structure Subs (pre : List Oa) (rows : List (List Oa)) : Prop where
  len : rows.length = 2 ^ pre.length
  mem : ∀ S, S ∈ rows ↔ S.Sublist pre
end Ty
namespace Lw
open VS Ty
end Lw

noncomputable section
namespace Ty
open PySem VS Lw L2
end Ty

namespace VS
open PySem L2
end VS
namespace Ty
open PySem VS L2
end Ty

namespace VS
open PySem L2
end VS
namespace Ty
open PySem VS L2
open PySem.W (dataLe)
section
variable {us : List Suit} {told : List Bool} {plans : List (Option (List Oa))} {c : Nat} {u : Suit}
end
end Ty
namespace Lw
open VS Ty
end Lw

noncomputable section
namespace Ty
open PySem VS Lw L2
end Ty

namespace VS
open PySem L2
end VS
namespace Ty
open PySem VS L2
end Ty

namespace Ty
open PySem VS L2

end Ty
namespace Lw
open VS Ty
end Lw

noncomputable section
namespace Ty
open PySem VS Lw L2
end Ty

namespace Ty
open PySem VS L2
section
variable {us : List Suit} {told : List Bool} {c : Nat}
end
end Ty
namespace Lw
open VS Ty
end Lw

noncomputable section
namespace Ty
open PySem VS Lw L2
def t_measure (number : Int) (low : Int) (high : Int) : T Empty (Unit) :=
  if ((decide (number < low)) || (decide (high < number))) = true then (.no) else (.ok ())
theorem r_measure (number : Int) (low : Int) (high : Int) : SK [dv number, dv low, dv high] Lw.m_measure (t_measure number low high) (fun r => (S.d .none)) (fun r => [none, none, none]) XV := by
  unfold Lw.m_measure Lw.g_measure t_measure
  refine f_def (X' := XV) ?_ xe_no
  show SK [dv number, dv low, dv high] _ _ _ _ _
  refine s_if (x := ((decide (number < low)) || (decide (high < number)))) (pu_or (pu_B (pu_op (z := (Enc.enc ((decide (number < low)) : Bool))) (pu_peek (by rfl)) (pu_peek (by rfl)) rfl)) (pu_B (pu_op (z := (Enc.enc ((decide (high < number)) : Bool))) (pu_peek (by rfl)) (pu_peek (by rfl)) rfl))) ?_ ?_
  · exact s_never
  · refine s_next ?_
    exact f_nx rfl (mt_w (mt_w (mt_w mt_nil)))
def t_Folk_come (name : Tx) (day : Int) (weight : Int) (arrivals : (Dt Tx Int)) (ranks : (List (Tp3 Tx Int Int))) (deaths : (Dt Tx (Int × Tx))) : T Empty ((Dt Tx Int) × (List (Tp3 Tx Int Int))) :=
  (t_is_name name).bind fun r1 =>
  if (!r1) = true then (.no) else ((t_measure day ((0 : Int)) ((9999 : Int))).bind fun _ =>
  (t_measure weight ((1 : Int)) ((1000 : Int))).bind fun _ =>
  if ((dget arrivals name).isSome) = true then (.no) else (if (decide ((40 : Int) ≤ ((List.length arrivals : Nat) : Int))) = true then (.no) else (T.gd (arrivals.length < sizeLine) <|
  T.gd (ranks.length < sizeLine) <|
  .ok ((dput arrivals name day), (ranks ++ [(Tp3.mk name day weight)])))))
theorem r_Folk_come (name : Tx) (day : Int) (weight : Int) (arrivals : (Dt Tx Int)) (ranks : (List (Tp3 Tx Int Int))) (deaths : (Dt Tx (Int × Tx))) : SK [none, dv name, dv day, dv weight, kv arrivals, lv ranks, kv deaths] Lw.m_Folk_come (t_Folk_come name day weight arrivals ranks deaths) (fun r => (S.d .none)) (fun r => [none, none, none, none, kv r.1, lv r.2, kv deaths]) XV := by
  unfold Lw.m_Folk_come Lw.g_Folk_come t_Folk_come
  refine f_def (X' := XV) ?_ xe_no
  show SK [none, dv name, dv day, dv weight, kv arrivals, lv ranks, kv deaths] _ _ _ _ _
  refine s_seq ?_
  refine s_ifE ?_
  refine e_not ?_
  refine e_B ?_
  refine e_fz ?_
  refine e_call ?_
  refine a_d ?_
  refine e_pu (pu_var (by rfl)) ?_
  refine a_nil ?_
  refine c_call List.nodup_nil rfl (r_is_name name) xe_no ?_
  rintro r1
  show SK [none, dv name, dv day, dv weight, kv arrivals, lv ranks, kv deaths] _ _ _ _ _
  refine e_ok ?_
  refine e_ok ?_
  refine s_ite (x := (!r1)) ?_ ?_
  · exact s_never
  · refine s_next ?_
    refine s_then ?_
    refine s_seq ?_
    refine s_drop ?_
    refine e_call ?_
    refine a_d ?_
    refine e_pu (pu_var (by rfl)) ?_
    refine a_d ?_
    refine e_pu (pu_c (d := Enc.enc (0 : Int))) ?_
    refine a_d ?_
    refine e_pu (pu_c (d := Enc.enc (9999 : Int))) ?_
    refine a_nil ?_
    refine c_call List.nodup_nil rfl (r_measure day ((0 : Int)) ((9999 : Int))) xe_no ?_
    rintro _
    show SK [none, dv name, dv day, dv weight, kv arrivals, lv ranks, kv deaths] _ _ _ _ _
    refine s_then ?_
    refine s_seq ?_
    refine s_drop ?_
    refine e_call ?_
    refine a_d ?_
    refine e_pu (pu_var (by rfl)) ?_
    refine a_d ?_
    refine e_pu (pu_c (d := Enc.enc (1 : Int))) ?_
    refine a_d ?_
    refine e_pu (pu_c (d := Enc.enc (1000 : Int))) ?_
    refine a_nil ?_
    refine c_call List.nodup_nil rfl (r_measure weight ((1 : Int)) ((1000 : Int))) xe_no ?_
    rintro _
    show SK [none, dv name, dv day, dv weight, kv arrivals, lv ranks, kv deaths] _ _ _ _ _
    refine s_then ?_
    refine s_seq ?_
    refine s_if (x := ((dget arrivals name).isSome)) (pu_B (pu_dinK (d := arrivals) (x := name) (by rfl) (pu_var (by rfl)))) ?_ ?_
    · exact s_never
    · refine s_next ?_
      refine s_then ?_
      refine s_seq ?_
      refine s_if (x := (decide ((40 : Int) ≤ ((List.length arrivals : Nat) : Int)))) (pu_B (pu_op (z := (Enc.enc ((decide ((40 : Int) ≤ ((List.length arrivals : Nat) : Int))) : Bool))) (pu_onS (pu_lk (by rfl)) (sLen_k arrivals)) (pu_c (d := Enc.enc (40 : Int))) rfl)) ?_ ?_
      · exact s_never
      · refine s_next ?_
        refine s_then ?_
        refine s_seq ?_
        refine s_dput ?_
        refine e_pu (pu_var (by rfl)) ?_
        refine s_dputk (by rfl) ?_
        refine e_pu (pu_var (by rfl)) ?_
        refine c_dputK (d := arrivals) (x := name) (z := day) (by rfl) rfl ?_
        refine s_then ?_
        refine s_drop ?_
        refine e_app (by rfl) ?_
        refine e_pu (pu_tup (pu_cons (pu_var (by rfl)) (pu_cons (pu_var (by rfl)) (pu_cons (pu_var (by rfl)) pu_nil))) (ln (n := 3) rfl)) ?_
        refine c_app (xs := ranks) (x := ((Tp3.mk name day weight) : (Tp3 Tx Int Int))) (by rfl) rfl ?_
        exact f_nx rfl (mt_w (mt_w (mt_w (mt_w (mt_k (mt_k (mt_k mt_nil)))))))
def t_Folk_known (name : Tx) (arrivals : (Dt Tx Int)) (ranks : (List (Tp3 Tx Int Int))) (deaths : (Dt Tx (Int × Tx))) : T Empty (Unit) :=
  if (!(dget arrivals name).isSome) = true then (.no) else (.ok ())
theorem r_Folk_known (name : Tx) (arrivals : (Dt Tx Int)) (ranks : (List (Tp3 Tx Int Int))) (deaths : (Dt Tx (Int × Tx))) : SK [none, dv name, kv arrivals, lv ranks, kv deaths] Lw.m_Folk_known (t_Folk_known name arrivals ranks deaths) (fun r => (S.d .none)) (fun r => [none, none, kv arrivals, lv ranks, kv deaths]) XV := by
  unfold Lw.m_Folk_known Lw.g_Folk_known t_Folk_known
  refine f_def (X' := XV) ?_ xe_no
  show SK [none, dv name, kv arrivals, lv ranks, kv deaths] _ _ _ _ _
  refine s_if (x := (!(dget arrivals name).isSome)) (pu_B (pu_dinK (d := arrivals) (x := name) (by rfl) (pu_var (by rfl)))) ?_ ?_
  · exact s_never
  · refine s_next ?_
    exact f_nx rfl (mt_w (mt_w (mt_k (mt_k (mt_k mt_nil)))))
def t_Folk_after_coming (name : Tx) (day : Int) (arrivals : (Dt Tx Int)) (ranks : (List (Tp3 Tx Int Int))) (deaths : (Dt Tx (Int × Tx))) : T Empty (Unit) :=
  (T.ofO (dget arrivals name)).bind fun v1 =>
  if (decide (day < v1)) = true then (.no) else (.ok ())
theorem r_Folk_after_coming (name : Tx) (day : Int) (arrivals : (Dt Tx Int)) (ranks : (List (Tp3 Tx Int Int))) (deaths : (Dt Tx (Int × Tx))) : SK [none, dv name, dv day, kv arrivals, lv ranks, kv deaths] Lw.m_Folk_after_coming (t_Folk_after_coming name day arrivals ranks deaths) (fun r => (S.d .none)) (fun r => [none, none, none, kv arrivals, lv ranks, kv deaths]) XV := by
  unfold Lw.m_Folk_after_coming Lw.g_Folk_after_coming t_Folk_after_coming
  refine f_def (X' := XV) ?_ xe_no
  show SK [none, dv name, dv day, kv arrivals, lv ranks, kv deaths] _ _ _ _ _
  refine s_ifE ?_
  refine e_B ?_
  refine e_op ?_
  refine e_pu (pu_peek (by rfl)) ?_
  refine e_dgetK (d := arrivals) (x := name) (by rfl) (pu_var (by rfl)) (fun v1 => ?_)
  refine e_o (z := (Enc.enc ((decide (day < v1)) : Bool))) rfl ?_
  refine e_ok ?_
  refine s_ite (x := (decide (day < v1))) ?_ ?_
  · exact s_never
  · refine s_next ?_
    exact f_nx rfl (mt_w (mt_w (mt_w (mt_k (mt_k (mt_k mt_nil))))))
end Ty

namespace Ty
open PySem VS L2
abbrev Dd := Tp4 Tx Tx Int Int
def comeX : Tx := tx "come"
def riseX : Tx := tx "rise"
theorem come_rise : comeX ≠ riseX := by decide
def comes (ds : List Dd) : Dt Tx Int := ds.filterMap fun e => if e.a = comeX then some (e.b, e.c) else none
def rk1 (e : Dd) : Tp3 Tx Int Int := ⟨e.b, e.c, e.d⟩
theorem dget_cons {κ α : Type} [DecidableEq κ] (p : κ × α) (d : Dt κ α) (k : κ) : dget (p :: d) k = if p.1 = k then some p.2 else dget d k := by
  unfold dget
  by_cases h : p.1 = k
  · rw [List.find?_cons_of_pos (by simpa using h), if_pos h]
    rfl
  · rw [List.find?_cons_of_neg (by simpa using h), if_neg h]
structure Fo (ns : List Tx) (ds : List Dd) (arr : Dt Tx Int) (rks : List (Tp3 Tx Int Int)) : Prop where
  rk : rks = ds.map rk1
  ar : arr = comes ds
  nm : arr.map Prod.fst = ns
  kd : ∀ e ∈ ds, (e.a = comeX ∨ e.a = riseX) ∧ 0 ≤ e.c ∧ e.c ≤ 9999
theorem comes_mem {ds : List Dd} {p : Tx × Int} (h : p ∈ comes ds) : ∃ e ∈ ds, p = (e.b, e.c) := by
  unfold comes at h
  obtain ⟨e, he, h2⟩ := List.mem_filterMap.mp h
  by_cases ha : e.a = comeX
  · rw [if_pos ha] at h2
    exact ⟨e, he, (Option.some.inj h2).symm⟩
  · rw [if_neg ha] at h2
    cases h2
theorem dget_mem2 {d : Dt Tx Int} {n : Tx} (h : n ∈ d.map Prod.fst) : ∃ v, dget d n = some v ∧ (n, v) ∈ d := by
  cases hg : dget d n with
  | some v => exact ⟨v, rfl, dget_mem' hg⟩
  | none =>
    exfalso
    have : (dget d n).isSome = true := by
      rw [dget_isSome, List.any_eq_true]
      obtain ⟨p, hp, e⟩ := List.mem_map.mp h
      exact ⟨p, hp, decide_eq_true e⟩
    rw [hg] at this
    cases this
theorem dget_none2 {d : Dt Tx Int} {n : Tx} (h : n ∉ d.map Prod.fst) : dget d n = none := by
  cases hg : dget d n with
  | none => rfl
  | some v => exact absurd (List.mem_map.mpr ⟨_, dget_mem' hg, rfl⟩) h
theorem Fo.at_ {ns : List Tx} {ds : List Dd} {arr : Dt Tx Int} {rks : List (Tp3 Tx Int Int)} (f : Fo ns ds arr rks) {n : Tx} (h : n ∈ ns) : ∃ v, dget arr n = some v ∧ 0 ≤ v ∧ v ≤ 9999 := by
  rw [← f.nm] at h
  obtain ⟨v, h1, h2⟩ := dget_mem2 h
  rw [f.ar] at h2
  obtain ⟨e, he, hp⟩ := comes_mem h2
  cases hp
  exact ⟨_, h1, (f.kd e he).2⟩
theorem measure_ok {a lo hi : Int} (h : lo ≤ a ∧ a ≤ hi) : t_measure a lo hi = .ok () := by
  unfold t_measure
  rw [if_neg]
  simp
  omega
theorem known_ok {n : Tx} {arr : Dt Tx Int} {rks : List (Tp3 Tx Int Int)} {de : Dt Tx (Int × Tx)} {v : Int} (h : dget arr n = some v) : t_Folk_known n arr rks de = .ok () := by
  unfold t_Folk_known
  rw [h]
  rfl
theorem after_ok {n : Tx} {d : Int} {arr : Dt Tx Int} {rks : List (Tp3 Tx Int Int)} {de : Dt Tx (Int × Tx)} {v : Int} (h : dget arr n = some v) (hd : v ≤ d) : t_Folk_after_coming n d arr rks de = .ok () := by
  unfold t_Folk_after_coming
  rw [h, ofO_some', if_neg (by rw [decide_eq_true_eq]; omega)]
theorem Fo.rise {ns : List Tx} {ds : List Dd} {arr : Dt Tx Int} {rks : List (Tp3 Tx Int Int)} (f : Fo ns ds arr rks) {n : Tx} {d w : Int} (h : 0 ≤ d ∧ d ≤ 9999) : Fo ns (ds ++ [Tp4.mk (tx "rise") n d w]) arr (rks ++ [Tp3.mk n d w]) := by
  refine ⟨by rw [f.rk, List.map_append]; rfl, ?_, f.nm, fun e he => ?_⟩
  · rw [f.ar]
    unfold comes
    rw [List.filterMap_append, List.filterMap_cons, if_neg (show ¬ (tx "rise" = comeX) from fun z => come_rise z.symm), List.filterMap_nil, List.append_nil]
  · rcases List.mem_append.mp he with he | he
    · exact f.kd e he
    · rw [List.mem_singleton] at he
      subst he
      exact ⟨.inr rfl, h⟩
theorem Fo.come {ns : List Tx} {ds : List Dd} {arr : Dt Tx Int} {rks : List (Tp3 Tx Int Int)} (f : Fo ns ds arr rks) {n : Tx} {d w : Int} (hn : n ∉ ns) (h : 0 ≤ d ∧ d ≤ 9999) : Fo (ns ++ [n]) (ds ++ [Tp4.mk (tx "come") n d w]) (dput arr n d) (rks ++ [Tp3.mk n d w]) := by
  have hp : dput arr n d = arr ++ [(n, d)] := by
    unfold dput
    rw [if_neg]
    intro z
    rw [List.any_eq_true] at z
    obtain ⟨p, hp, e⟩ := z
    exact hn (by rw [← f.nm]; exact List.mem_map.mpr ⟨p, hp, of_decide_eq_true e⟩)
  rw [hp]
  refine ⟨by rw [f.rk, List.map_append]; rfl, ?_, by rw [List.map_append, f.nm]; rfl, fun e he => ?_⟩
  · rw [f.ar]
    unfold comes
    rw [List.filterMap_append, List.filterMap_cons, if_pos (show tx "come" = comeX from rfl), List.filterMap_nil]
  · rcases List.mem_append.mp he with he | he
    · exact f.kd e he
    · rw [List.mem_singleton] at he
      subst he
      exact ⟨.inl rfl, h⟩
theorem is_name_good {x : Tx} (h : GoodT x) : t_is_name x = .ok true := by
  unfold t_is_name
  rw [if_pos (by have := h.2.2; omega), Lw.isN_good (good_codes h)]
end Ty
namespace Lw
open VS Ty
end Lw

noncomputable section
namespace Ty
open PySem VS Lw L2
def t_Folk_die (name : Tx) (day : Int) (heir : Tx) (arrivals : (Dt Tx Int)) (ranks : (List (Tp3 Tx Int Int))) (deaths : (Dt Tx (Int × Tx))) : T Empty ((Dt Tx (Int × Tx))) :=
  (t_measure day ((0 : Int)) ((9999 : Int))).bind fun _ =>
  (t_Folk_known name arrivals ranks deaths).bind fun _ =>
  (t_Folk_known heir arrivals ranks deaths).bind fun _ =>
  (t_Folk_after_coming name day arrivals ranks deaths).bind fun _ =>
  (t_Folk_after_coming heir day arrivals ranks deaths).bind fun _ =>
  if ((dget deaths name).isSome) = true then (.no) else (if ((decide (heir = name)) || ((dget deaths heir).isSome)) = true then (.no) else (T.gd (deaths.length < sizeLine) <|
  .ok (dput deaths name (day, heir))))
theorem r_Folk_die (name : Tx) (day : Int) (heir : Tx) (arrivals : (Dt Tx Int)) (ranks : (List (Tp3 Tx Int Int))) (deaths : (Dt Tx (Int × Tx))) : SK [none, dv name, dv day, dv heir, kv arrivals, lv ranks, kv deaths] Lw.m_Folk_die (t_Folk_die name day heir arrivals ranks deaths) (fun r => (S.d .none)) (fun r => [none, none, none, none, kv arrivals, lv ranks, kv r]) XV := by
  unfold Lw.m_Folk_die Lw.g_Folk_die t_Folk_die
  refine f_def (X' := XV) ?_ xe_no
  show SK [none, dv name, dv day, dv heir, kv arrivals, lv ranks, kv deaths] _ _ _ _ _
  refine s_seq ?_
  refine s_drop ?_
  refine e_call ?_
  refine a_d ?_
  refine e_pu (pu_var (by rfl)) ?_
  refine a_d ?_
  refine e_pu (pu_c (d := Enc.enc (0 : Int))) ?_
  refine a_d ?_
  refine e_pu (pu_c (d := Enc.enc (9999 : Int))) ?_
  refine a_nil ?_
  refine c_call List.nodup_nil rfl (r_measure day ((0 : Int)) ((9999 : Int))) xe_no ?_
  rintro _
  show SK [none, dv name, dv day, dv heir, kv arrivals, lv ranks, kv deaths] _ _ _ _ _
  refine s_then ?_
  refine s_seq ?_
  refine s_drop ?_
  refine e_callG ?_
  refine ag_o ?_
  refine ag_d ?_
  refine e_pu (pu_var (by rfl)) ?_
  refine ag_nil ?_
  refine c_call (by show List.Nodup [0, 4, 5, 6]; decide) rfl (r_Folk_known name arrivals ranks deaths) xe_no ?_
  rintro _
  show SK [none, dv name, dv day, dv heir, kv arrivals, lv ranks, kv deaths] _ _ _ _ _
  refine s_then ?_
  refine s_seq ?_
  refine s_drop ?_
  refine e_callG ?_
  refine ag_o ?_
  refine ag_d ?_
  refine e_pu (pu_var (by rfl)) ?_
  refine ag_nil ?_
  refine c_call (by show List.Nodup [0, 4, 5, 6]; decide) rfl (r_Folk_known heir arrivals ranks deaths) xe_no ?_
  rintro _
  show SK [none, dv name, dv day, dv heir, kv arrivals, lv ranks, kv deaths] _ _ _ _ _
  refine s_then ?_
  refine s_seq ?_
  refine s_drop ?_
  refine e_callG ?_
  refine ag_o ?_
  refine ag_d ?_
  refine e_pu (pu_var (by rfl)) ?_
  refine ag_d ?_
  refine e_pu (pu_var (by rfl)) ?_
  refine ag_nil ?_
  refine c_call (by show List.Nodup [0, 4, 5, 6]; decide) rfl (r_Folk_after_coming name day arrivals ranks deaths) xe_no ?_
  rintro _
  show SK [none, dv name, dv day, dv heir, kv arrivals, lv ranks, kv deaths] _ _ _ _ _
  refine s_then ?_
  refine s_seq ?_
  refine s_drop ?_
  refine e_callG ?_
  refine ag_o ?_
  refine ag_d ?_
  refine e_pu (pu_var (by rfl)) ?_
  refine ag_d ?_
  refine e_pu (pu_var (by rfl)) ?_
  refine ag_nil ?_
  refine c_call (by show List.Nodup [0, 4, 5, 6]; decide) rfl (r_Folk_after_coming heir day arrivals ranks deaths) xe_no ?_
  rintro _
  show SK [none, dv name, dv day, dv heir, kv arrivals, lv ranks, kv deaths] _ _ _ _ _
  refine s_then ?_
  refine s_seq ?_
  refine s_if (x := ((dget deaths name).isSome)) (pu_B (pu_dinK (d := deaths) (x := name) (by rfl) (pu_var (by rfl)))) ?_ ?_
  · exact s_never
  · refine s_next ?_
    refine s_then ?_
    refine s_seq ?_
    refine s_if (x := ((decide (heir = name)) || ((dget deaths heir).isSome))) (pu_or (pu_B (pu_op (z := (Enc.enc ((decide (heir = name)) : Bool))) (pu_peek (by rfl)) (pu_peek (by rfl)) (eq_enc heir name))) (pu_B (pu_dinK (d := deaths) (x := heir) (by rfl) (pu_var (by rfl))))) ?_ ?_
    · exact s_never
    · refine s_next ?_
      refine s_then ?_
      refine s_dput ?_
      refine e_pu (pu_tup (pu_cons (pu_var (by rfl)) (pu_cons (pu_var (by rfl)) pu_nil)) (ln (n := 2) rfl)) ?_
      refine s_dputk (by rfl) ?_
      refine e_pu (pu_var (by rfl)) ?_
      refine c_dputK (d := deaths) (x := name) (z := ((day, heir) : (Int × Tx))) (by rfl) rfl ?_
      exact f_nx rfl (mt_w (mt_w (mt_w (mt_w (mt_k (mt_k (mt_k mt_nil)))))))
def t_Folk_dead (name : Tx) (day : Int) (arrivals : (Dt Tx Int)) (ranks : (List (Tp3 Tx Int Int))) (deaths : (Dt Tx (Int × Tx))) : T Empty (Bool) :=
  (t_measure day ((0 : Int)) ((9999 : Int))).bind fun _ =>
  (t_Folk_known name arrivals ranks deaths).bind fun _ =>
  ((if ((dget deaths name).isSome) = true then ((T.ofO (dget deaths name)).bind fun v4 =>
  .ok (decide (v4.1 ≤ day))) else (.ok false) : T Empty (Bool))).bind fun b3 =>
  .ok b3
theorem r_Folk_dead (name : Tx) (day : Int) (arrivals : (Dt Tx Int)) (ranks : (List (Tp3 Tx Int Int))) (deaths : (Dt Tx (Int × Tx))) : SK [none, dv name, dv day, kv arrivals, lv ranks, kv deaths] Lw.m_Folk_dead (t_Folk_dead name day arrivals ranks deaths) (fun r => (S.d (Enc.enc r))) (fun r => [none, none, none, kv arrivals, lv ranks, kv deaths]) XV := by
  unfold Lw.m_Folk_dead Lw.g_Folk_dead t_Folk_dead
  refine f_def (X' := XV) ?_ xe_no
  show SK [none, dv name, dv day, kv arrivals, lv ranks, kv deaths] _ _ _ _ _
  refine s_seq ?_
  refine s_drop ?_
  refine e_call ?_
  refine a_d ?_
  refine e_pu (pu_var (by rfl)) ?_
  refine a_d ?_
  refine e_pu (pu_c (d := Enc.enc (0 : Int))) ?_
  refine a_d ?_
  refine e_pu (pu_c (d := Enc.enc (9999 : Int))) ?_
  refine a_nil ?_
  refine c_call List.nodup_nil rfl (r_measure day ((0 : Int)) ((9999 : Int))) xe_no ?_
  rintro _
  show SK [none, dv name, dv day, kv arrivals, lv ranks, kv deaths] _ _ _ _ _
  refine s_then ?_
  refine s_seq ?_
  refine s_drop ?_
  refine e_callG ?_
  refine ag_o ?_
  refine ag_d ?_
  refine e_pu (pu_var (by rfl)) ?_
  refine ag_nil ?_
  refine c_call (by show List.Nodup [0, 3, 4, 5]; decide) rfl (r_Folk_known name arrivals ranks deaths) xe_no ?_
  rintro _
  show SK [none, dv name, dv day, kv arrivals, lv ranks, kv deaths] _ _ _ _ _
  refine s_then ?_
  refine s_ret ?_
  refine e_d ?_
  refine e_cut (F1 := (fun p => Enc.enc (p : Bool))) (B1 := fun p => [none, dv name, dv day, kv arrivals, lv ranks, kv deaths]) ?_ ?_
  · refine e_id ?_
    refine e_andVL ?_
    refine e_pu (pu_dinK (d := deaths) (x := name) (by rfl) (pu_var (by rfl))) ?_
    refine c_andV (x := ((dget deaths name).isSome)) ?_ ?_
    · refine e_op ?_
      refine e_op ?_
      refine e_dgetK (d := deaths) (x := name) (by rfl) (pu_var (by rfl)) (fun v4 => ?_)
      refine e_pu (pu_c (d := Enc.enc (0 : Int))) ?_
      refine e_o (z := (Enc.enc v4.1)) rfl ?_
      refine e_pu (pu_peek (by rfl)) ?_
      refine e_o (z := (Enc.enc ((decide (v4.1 ≤ day)) : Bool))) rfl ?_
      exact k_ok rfl (mt_w (mt_k (mt_k (mt_k (mt_k (mt_k mt_nil))))))
    · exact k_ok rfl (mt_w (mt_k (mt_k (mt_k (mt_k (mt_k mt_nil))))))
  rintro b3
  show SK [none, dv name, dv day, kv arrivals, lv ranks, kv deaths] _ _ _ _ _
  exact f_rt rfl (mt_w (mt_w (mt_w (mt_k (mt_k (mt_k mt_nil))))))
def t_law_death (deeds : (List (Tp4 Tx Tx Int Itx))) (name : Tx) : T Empty ((Option (Int × Itx))) :=
  T.bindL (T.forL deeds (() : Unit) (fun (i1 : (Tp4 Tx Tx Int Itx)) _ => ((if ((decide (i1.a = (tx "die"))) && (decide (i1.b = name))) = true then (.ok (.rt (i1.c, i1.d))) else (.ok (.nx ()))) : T Empty (T.Lp (Unit) ((Int × Itx)))))) (fun _ =>
  .ok (none : (Option (Int × Itx)))) (fun r_ => .ok (some r_))
theorem r_law_death (deeds : (List (Tp4 Tx Tx Int Itx))) (name : Tx) : SK [lv deeds, dv name] Lw.m_law_death (t_law_death deeds name) (fun r => (S.d (Enc.enc r))) (fun r => [lv deeds, none]) XV := by
  unfold Lw.m_law_death Lw.g_law_death t_law_death
  refine f_def (X' := XV) ?_ xe_no
  show SK [lv deeds, dv name, none] _ _ _ _ _
  refine s_seq ?_
  refine s_forO (by rfl) ?_
  show SK [none, dv name, none] _ _ _ _ _
  refine c_forL (e := Enc.enc) (xs := deeds) (v := (() : Unit)) (fun v => [none, dv name, none]) (fun r => [none, none, none]) (fun (r : (Int × Itx)) => (S.d (Enc.enc r))) (fun i1 v => [none, dv name, dv i1]) (mt_w (mt_k (mt_w mt_nil))) (fun i1 v => tg_name) (fun i1 v => ?_) (fun v => ?_) (fun r => ?_)
  · show SK [none, dv name, dv i1] _ _ _ _ _
    refine s_if (x := ((decide (i1.a = (tx "die"))) && (decide (i1.b = name)))) (pu_and (pu_B (pu_op (z := (Enc.enc ((decide (i1.a = (tx "die"))) : Bool))) (pu_ixP (z := (Enc.enc i1.a)) (by rfl) (pu_c (d := Enc.enc (0 : Int))) rfl) (pu_str "die") (eq_enc i1.a ((tx "die") : Tx)))) (pu_B (pu_op (z := (Enc.enc ((decide (i1.b = name)) : Bool))) (pu_ixP (z := (Enc.enc i1.b)) (by rfl) (pu_c (d := Enc.enc (1 : Int))) rfl) (pu_peek (by rfl)) (eq_enc i1.b name)))) ?_ ?_
    · refine s_ret ?_
      refine e_pu (pu_d (pu_tup (pu_cons (pu_ixP (z := (Enc.enc i1.c)) (by rfl) (pu_c (d := Enc.enc (2 : Int))) rfl) (pu_cons (pu_ixP (z := (Enc.enc i1.d)) (by rfl) (pu_c (d := Enc.enc (3 : Int))) rfl) pu_nil)) (ln (n := 2) rfl))) ?_
      exact k_ok rfl (mt_w (mt_w (mt_w mt_nil)))
    · refine s_next ?_
      exact k_ok rfl (mt_w (mt_k (mt_w mt_nil)))
  · show SK [none, dv name, none] _ _ _ _ _
    refine k_unlN rfl ?_
    show SK [lv deeds, dv name, none] _ _ _ _ _
    refine s_then ?_
    refine s_ret ?_
    refine e_pu (pu_d pu_c) ?_
    exact f_rt rfl (mt_k (mt_w mt_nil))
  · revert r; intro r_
    show SK [none, none, none] _ _ _ _ _
    refine k_unlR rfl ?_
    show SK [lv deeds, none, none] _ _ _ _ _
    exact f_rt rfl (mt_k (mt_w mt_nil))
def t_law_is_dead (deeds : (List (Tp4 Tx Tx Int Itx))) (name : Tx) (day : Int) : T Empty (Bool) :=
  (t_law_death deeds name).bind fun r1 =>
  ((if (Option.isSome r1) = true then ((T.ofO r1).bind fun u3 =>
  .ok (decide (u3.1 ≤ day))) else (.ok false) : T Empty (Bool))).bind fun b2 =>
  .ok b2
theorem r_law_is_dead (deeds : (List (Tp4 Tx Tx Int Itx))) (name : Tx) (day : Int) : SK [lv deeds, dv name, dv day] Lw.m_law_is_dead (t_law_is_dead deeds name day) (fun r => (S.d (Enc.enc r))) (fun r => [lv deeds, none, none]) XV := by
  unfold Lw.m_law_is_dead Lw.g_law_is_dead t_law_is_dead
  refine f_def (X' := XV) ?_ xe_no
  show SK [lv deeds, dv name, dv day, none] _ _ _ _ _
  refine s_seq ?_
  refine s_asg ?_
  refine e_callG ?_
  refine ag_r (by rfl) ?_
  refine ag_d ?_
  refine e_pu (pu_var (by rfl)) ?_
  refine ag_nil ?_
  refine c_call (by show List.Nodup [0]; decide) rfl (r_law_death deeds name) xe_no ?_
  rintro r1
  show SK [lv deeds, dv name, dv day, none] _ _ _ _ _
  refine s_set rfl ?_
  refine s_then ?_
  refine s_ret ?_
  refine e_d ?_
  refine e_cut (F1 := (fun p => Enc.enc (p : Bool))) (B1 := fun p => [lv deeds, dv name, dv day, none]) ?_ ?_
  · refine e_id ?_
    refine e_andVL ?_
    refine e_pu (pu_op (z := (Enc.enc ((Option.isSome r1) : Bool))) (pu_peek (by rfl)) pu_c (isN_non r1)) ?_
    refine c_andV (x := (Option.isSome r1)) ?_ ?_
    · refine e_op ?_
      refine e_ixP (by rfl) ?_
      refine e_pu (pu_c (d := Enc.enc (0 : Int))) ?_
      refine e_pu (pu_peek (by rfl)) ?_
      rcases hhu3 : r1 with _ | u3
      · exact k_no
      show SK [lv deeds, dv name, dv day, dv u3] _ _ _ _ _
      refine k_some ?_
      refine e_o (z := (Enc.enc u3.1)) rfl ?_
      refine e_pu (pu_peek (by rfl)) ?_
      refine e_o (z := (Enc.enc ((decide (u3.1 ≤ day)) : Bool))) rfl ?_
      exact k_ok rfl (mt_k (mt_k (mt_k (mt_w mt_nil))))
    · exact k_ok rfl (mt_k (mt_k (mt_k (mt_w mt_nil))))
  rintro b2
  show SK [lv deeds, dv name, dv day, none] _ _ _ _ _
  exact f_rt rfl (mt_k (mt_w (mt_w mt_nil)))
def t_law_heir (deeds : (List (Tp4 Tx Tx Int Itx))) (name : Tx) (day : Int) : T Empty (Tx) :=
  T.gd (inR (41 : Int)) <|
  T.bindL (T.forL (rangeT (Int.toNat (41 : Int))) (name : Tx) (fun (i1 : Int) name3 => (((t_law_is_dead deeds name3 day).bind fun r4 =>
  if (!r4) = true then (.ok (.rt name3)) else ((t_law_death deeds name3).bind fun r5 =>
  (T.ofO r5).bind fun u6 =>
  (T.ofO (Itx.toT u6.2)).bind fun u7 =>
  .ok (.nx u7))) : T Empty (T.Lp (Tx) (Tx))))) (fun name3 =>
  .ok name3) (fun r_ => .ok r_)
theorem r_law_heir (deeds : (List (Tp4 Tx Tx Int Itx))) (name : Tx) (day : Int) : SK [lv deeds, dv name, dv day] Lw.m_law_heir (t_law_heir deeds name day) (fun r => (S.d (Enc.enc r))) (fun r => [lv deeds, none, none]) XV := by
  unfold Lw.m_law_heir Lw.g_law_heir t_law_heir
  refine f_def (X' := XV) ?_ xe_no
  show SK [lv deeds, dv name, dv day, none] _ _ _ _ _
  refine s_seq ?_
  refine s_forE ?_
  refine e_rng1 ?_
  refine e_pu (pu_cons (pu_c (d := Enc.enc (41 : Int))) pu_nil) ?_
  refine c_rng1 (n := (41 : Int)) ?_
  refine c_forL (e := Enc.enc) (xs := ((rangeT (Int.toNat (41 : Int))) : (List Int))) (v := (name : Tx)) (fun v => [lv deeds, dv v, dv day, none]) (fun r => [lv deeds, none, none, none]) (fun (r : Tx) => (S.d (Enc.enc r))) (fun i1 v => [lv deeds, dv v, dv day, dv i1]) (mt_k (mt_k (mt_k (mt_w mt_nil)))) (fun i1 v => tg_name) (fun i1 v => ?_) (fun v => ?_) (fun r => ?_)
  · revert v; intro name3
    show SK [lv deeds, dv name3, dv day, dv i1] _ _ _ _ _
    refine s_seq ?_
    refine s_ifE ?_
    refine e_not ?_
    refine e_B ?_
    refine e_fz ?_
    refine e_call ?_
    refine a_r (by rfl) ?_
    refine a_d ?_
    refine e_pu (pu_var (by rfl)) ?_
    refine a_d ?_
    refine e_pu (pu_var (by rfl)) ?_
    refine a_nil ?_
    refine c_call (by show List.Nodup [0]; decide) rfl (r_law_is_dead deeds name3 day) xe_no ?_
    rintro r4
    show SK [lv deeds, dv name3, dv day, dv i1] _ _ _ _ _
    refine e_ok ?_
    refine e_ok ?_
    refine s_ite (x := (!r4)) ?_ ?_
    · refine s_ret ?_
      refine e_move (by rfl) (by intro _ h; cases h) ?_
      exact k_ok rfl (mt_k (mt_w (mt_w (mt_w mt_nil))))
    · refine s_next ?_
      refine s_then ?_
      refine s_asg ?_
      refine e_d ?_
      refine e_op ?_
      refine e_fz ?_
      refine e_callG ?_
      refine ag_r (by rfl) ?_
      refine ag_d ?_
      refine e_pu (pu_var (by rfl)) ?_
      refine ag_nil ?_
      refine c_call (by show List.Nodup [0]; decide) rfl (r_law_death deeds name3) xe_no ?_
      rintro r5
      show SK [lv deeds, dv name3, dv day, dv i1] _ _ _ _ _
      refine e_ok ?_
      refine e_pu (pu_c (d := Enc.enc (1 : Int))) ?_
      rcases hhu6 : r5 with _ | u6
      · exact k_no
      refine k_some ?_
      refine e_o (z := (Enc.enc u6.2)) rfl ?_
      rcases hhu7 : u6.2 with u7 | u7
      · exact k_no
      refine k_some ?_
      refine s_set rfl ?_
      exact k_ok rfl (mt_k (mt_k (mt_k (mt_w mt_nil))))
  · revert v; intro name3
    show SK [lv deeds, dv name3, dv day, none] _ _ _ _ _
    refine s_then ?_
    refine s_ret ?_
    refine e_move (by rfl) (by intro _ h; cases h) ?_
    exact f_rt rfl (mt_k (mt_w (mt_w mt_nil)))
  · revert r; intro r_
    show SK [lv deeds, none, none, none] _ _ _ _ _
    exact f_rt rfl (mt_k (mt_w (mt_w mt_nil)))
end Ty

namespace VS
open PySem L2
end VS
namespace Ty
open PySem VS L2
abbrev Di := Tp4 Tx Tx Int Itx
def dieX : Tx := tx "die"
theorem come_die : comeX ≠ dieX := by decide
def comes2 (ds : List Di) : Dt Tx Int := ds.filterMap fun e => if e.a = comeX then some (e.b, e.c) else none
def dies (ds : List Di) : Dt Tx (Int × Itx) := ds.filterMap fun e => if e.a = dieX then some (e.b, (e.c, e.d)) else none
theorem death_eq (ds : List Di) (n : Tx) : t_law_death ds n = .ok (dget (dies ds) n) := by
  unfold t_law_death
  have key : ∀ ds : List Di, (T.forL ds (() : Unit) (fun (i1 : Di) _ => ((if ((decide (i1.a = (tx "die"))) && (decide (i1.b = n))) = true then (.ok (.rt (i1.c, i1.d))) else (.ok (.nx ()))) : T Empty (T.Lp (Unit) (Int × Itx)))) : T Empty (T.Le Unit (Int × Itx))) = .ok (match dget (dies ds) n with
      | some v => .rt v
      | none => .nx ()) := by
    intro ds
    induction ds with
    | nil => rfl
    | cons e ds ih =>
      show (T.bind (if ((decide (e.a = (tx "die"))) && (decide (e.b = n))) = true then ((.ok (.rt (e.c, e.d))) : T Empty (T.Lp Unit (Int × Itx))) else (.ok (.nx ()))) _) = _
      by_cases ha : e.a = tx "die"
      · have hc : dies (e :: ds) = (e.b, (e.c, e.d)) :: dies ds := by
          unfold dies
          rw [List.filterMap_cons, if_pos (show e.a = dieX from ha)]
        rw [hc, dget_cons]
        by_cases hb : e.b = n
        · rw [if_pos (by simp [ha, hb]), if_pos hb]
          rfl
        · rw [if_neg (by simp [hb]), if_neg hb]
          exact ih
      · have hc : dies (e :: ds) = dies ds := by
          unfold dies
          rw [List.filterMap_cons, if_neg (show ¬ e.a = dieX from ha)]
        rw [hc, if_neg (by simp [ha])]
        exact ih
  rw [key]
  cases dget (dies ds) n <;> rfl
abbrev Des := Dt Tx (Int × Tx)
def toI (p : Tx × (Int × Tx)) : Tx × (Int × Itx) := (p.1, (p.2.1, Itx.t p.2.2))
theorem dget_toI (de : Des) (n : Tx) : dget (de.map toI) n = (dget de n).map fun q => (q.1, Itx.t q.2) := by
  induction de with
  | nil => rfl
  | cons p de ih =>
    rw [List.map_cons, dget_cons, dget_cons]
    show (if p.1 = n then some (p.2.1, Itx.t p.2.2) else dget (de.map toI) n) = _
    by_cases h : p.1 = n
    · rw [if_pos h, if_pos h]
      rfl
    · rw [if_neg h, if_neg h]
      exact ih
def deadB (de : Des) (n : Tx) (d : Int) : Bool := match dget de n with
  | some v => decide (v.1 ≤ d)
  | none => false
structure Fd (ns : List Tx) (ds : List Di) (arr : Dt Tx Int) (de : Des) : Prop where
  ar : arr = comes2 ds
  nm : arr.map Prod.fst = ns
  kd : ∀ p ∈ arr, 0 ≤ p.2 ∧ p.2 ≤ 9999
  di : dies ds = de.map toI
  dk : ∀ p ∈ de, p.1 ∈ ns ∧ p.2.2 ∈ ns
  ok : ∀ (pre post : Des) (n : Tx) (v : Int × Tx), de = pre ++ (n, v) :: post → v.2 ≠ n ∧ v.2 ∉ pre.map Prod.fst
theorem dget_split {κ α : Type} [DecidableEq κ] {d : Dt κ α} {n : κ} {v : α} (h : dget d n = some v) : ∃ pre post, d = pre ++ (n, v) :: post ∧ n ∉ pre.map Prod.fst := by
  induction d with
  | nil => cases h
  | cons p d ih =>
    rw [dget_cons] at h
    by_cases hp : p.1 = n
    · rw [if_pos hp] at h
      cases h
      subst hp
      exact ⟨[], d, rfl, by simp⟩
    · rw [if_neg hp] at h
      obtain ⟨pre, post, e, hn⟩ := ih h
      refine ⟨p :: pre, post, by rw [e]; rfl, ?_⟩
      rw [List.map_cons, List.mem_cons, not_or]
      exact ⟨fun z => hp z.symm, hn⟩
inductive Heir (de : Des) (d : Int) : Tx → Tx → Nat → Prop
  | stop {n : Tx} : deadB de n d = false → Heir de d n n 0
  | step {n h r : Tx} {dd : Int} {k : Nat} : dget de n = some (dd, h) → dd ≤ d → Heir de d h r k → Heir de d n r (k + 1)
theorem heir_ex {ns : List Tx} {ds : List Di} {arr : Dt Tx Int} {de : Des} (f : Fd ns ds arr de) (d : Int) : ∀ (k : Nat) (n : Tx), (∀ v, dget de n = some v → ∃ pre post, de = pre ++ (n, v) :: post ∧ n ∉ pre.map Prod.fst ∧ post.length < k) → ∃ r j, Heir de d n r j ∧ j ≤ k := by
  intro k
  induction k with
  | zero =>
    intro n h
    refine ⟨n, 0, .stop ?_, Nat.le_refl _⟩
    unfold deadB
    cases hg : dget de n with
    | none => rfl
    | some v =>
      obtain ⟨_, _, _, _, h3⟩ := h v hg
      omega
  | succ k ih =>
    intro n h
    cases hg : dget de n with
    | none =>
      refine ⟨n, 0, .stop ?_, Nat.zero_le _⟩
      unfold deadB
      rw [hg]
    | some v =>
      obtain ⟨pre, post, e, hn, hl⟩ := h v hg
      obtain ⟨dd, hh⟩ := v
      by_cases hd : dd ≤ d
      · obtain ⟨g1, g2⟩ := f.ok pre post n (dd, hh) e
        dsimp only at g1 g2
        obtain ⟨r, j, hr, hj⟩ := ih hh fun v2 hv2 => by
          obtain ⟨p2, q2, e2, hn2⟩ := dget_split hv2
          refine ⟨p2, q2, e2, hn2, ?_⟩
          have hlen : pre.length + post.length = p2.length + q2.length := by
            have := congrArg List.length (e.symm.trans e2)
            rw [List.length_append, List.length_append, List.length_cons, List.length_cons] at this
            omega
          have hpp : pre.length < p2.length := by
            refine Nat.lt_of_not_le fun z => ?_
            have hx : de[p2.length]? = some (hh, v2) := by rw [e2, List.getElem?_append_right (Nat.le_refl _), Nat.sub_self]; rfl
            rw [e] at hx
            by_cases zz : p2.length < pre.length
            · rw [List.getElem?_append_left zz] at hx
              exact g2 (List.mem_map.mpr ⟨_, List.mem_of_getElem? hx, rfl⟩)
            · have : p2.length = pre.length := by omega
              rw [this, List.getElem?_append_right (Nat.le_refl _), Nat.sub_self] at hx
              have hx : (n, (dd, hh)) = (hh, v2) := Option.some.inj hx
              exact g1 (congrArg Prod.fst hx).symm
          omega
        exact ⟨r, j + 1, .step hg hd hr, by omega⟩
      · refine ⟨n, 0, .stop ?_, Nat.zero_le _⟩
        unfold deadB
        rw [hg]
        exact decide_eq_false hd
theorem heir_any {ns : List Tx} {ds : List Di} {arr : Dt Tx Int} {de : Des} (f : Fd ns ds arr de) (d : Int) (n : Tx) : ∃ r j, Heir de d n r j ∧ j ≤ de.length := by
  refine heir_ex f d de.length n fun v hv => ?_
  obtain ⟨pre, post, e, hn⟩ := dget_split hv
  refine ⟨pre, post, e, hn, ?_⟩
  rw [e, List.length_append, List.length_cons]
  omega
theorem known_of {ns : List Tx} {ds : List Di} {arr : Dt Tx Int} {de : Des} (f : Fd ns ds arr de) {n : Tx} (h : n ∈ ns) : ∃ v, dget arr n = some v ∧ 0 ≤ v ∧ v ≤ 9999 := by
  rw [← f.nm] at h
  obtain ⟨v, h1, h2⟩ := dget_mem2 h
  exact ⟨v, h1, f.kd _ h2⟩
theorem dead_eq {ns : List Tx} {ds : List Di} {arr : Dt Tx Int} {de : Des} (f : Fd ns ds arr de) {n : Tx} (h : n ∈ ns) {d : Int} (h0 : 0 ≤ d ∧ d ≤ 9999) (rks : List (Tp3 Tx Int Int)) : t_Folk_dead n d arr rks de = .ok (deadB de n d) := by
  obtain ⟨v, hv, _⟩ := known_of f h
  unfold t_Folk_dead
  rw [measure_ok h0, T.ok_bind, known_ok hv, T.ok_bind]
  unfold deadB
  cases dget de n <;> rfl
theorem isdead_eq {ns : List Tx} {ds : List Di} {arr : Dt Tx Int} {de : Des} (f : Fd ns ds arr de) (n : Tx) (d : Int) : t_law_is_dead ds n d = .ok (deadB de n d) := by
  unfold t_law_is_dead
  rw [death_eq, T.ok_bind, f.di, dget_toI]
  unfold deadB
  cases dget de n <;> rfl
theorem loop_heir {ns : List Tx} {ds : List Di} {arr : Dt Tx Int} {de : Des} (f : Fd ns ds arr de) {d : Int} {n r : Tx} {j : Nat} (h : Heir de d n r j) : ∀ xs : List Int, j < xs.length → (T.forL xs (n : Tx) (fun (i1 : Int) name3 => (((t_law_is_dead ds name3 d).bind fun r4 =>
  if (!r4) = true then (.ok (.rt name3)) else ((t_law_death ds name3).bind fun r5 =>
  (T.ofO r5).bind fun u6 =>
  (T.ofO (Itx.toT u6.2)).bind fun u7 =>
  .ok (.nx u7))) : T Empty (T.Lp (Tx) (Tx)))) : T Empty (T.Le Tx Tx)) = .ok (.rt r) := by
  induction h with
  | @stop n hs =>
    intro xs hx
    cases xs with
    | nil => cases hx
    | cons x xs =>
      show (T.bind ((t_law_is_dead ds n d).bind _) _) = _
      rw [isdead_eq f, T.ok_bind, hs]
      rfl
  | @step n h r dd j hg hd hr ih =>
    intro xs hx
    cases xs with
    | nil => cases hx
    | cons x xs =>
      show (T.bind ((t_law_is_dead ds n d).bind _) _) = _
      have hb : deadB de n d = true := by
        unfold deadB
        rw [hg]
        exact decide_eq_true hd
      rw [isdead_eq f, T.ok_bind, hb, if_neg (by simp), death_eq, T.ok_bind, f.di, dget_toI, hg]
      exact ih xs (by rw [List.length_cons] at hx; omega)
end Ty
namespace Ty
open PySem VS L2
theorem come_ok2 {arr : Dt Tx Int} {rks : List (Tp3 Tx Int Int)} {de : Des} {n : Tx} {d w : Int} (hg : GoodT n) (hn : n ∉ arr.map Prod.fst) (hl : arr.length < 40) (hrl : rks.length ≤ 1000) (h : 0 ≤ d ∧ d ≤ 9999) (hw : 1 ≤ w ∧ w ≤ 1000) : t_Folk_come n d w arr rks de = .ok (arr ++ [(n, d)], rks ++ [Tp3.mk n d w]) := by
  unfold t_Folk_come
  rw [is_name_good hg, T.ok_bind]
  simp only [Bool.not_true, Bool.false_eq_true, if_false]
  rw [measure_ok h, T.ok_bind, measure_ok hw, T.ok_bind, dget_none2 hn]
  simp only [Option.isSome_none, Bool.false_eq_true, if_false]
  rw [if_neg (by rw [decide_eq_true_eq]; omega), T.gd_of (szl _ (by omega)), T.gd_of (szl _ (by omega))]
  congr 2
  unfold dput
  rw [if_neg]
  intro z
  rw [List.any_eq_true] at z
  obtain ⟨p, hp, e⟩ := z
  exact hn (List.mem_map.mpr ⟨p, hp, of_decide_eq_true e⟩)
theorem not_key {de : Des} {n : Tx} (h : dget de n = none) : n ∉ de.map Prod.fst := fun z => by
  have : (dget de n).isSome = true := by
    rw [dget_isSome, List.any_eq_true]
    obtain ⟨p, hp, e⟩ := List.mem_map.mp z
    exact ⟨p, hp, decide_eq_true e⟩
  rw [h] at this
  cases this
theorem Fd.die {ns : List Tx} {ds : List Di} {arr : Dt Tx Int} {de : Des} (f : Fd ns ds arr de) {x h : Tx} {d : Int} (hx : x ∈ ns) (hh : h ∈ ns) (hne : h ≠ x) (h2 : dget de h = none) : Fd ns (ds ++ [Tp4.mk (tx "die") x d (Itx.t h)]) arr (de ++ [(x, (d, h))]) := by
  refine ⟨?_, f.nm, f.kd, ?_, fun p hp => ?_, fun pre post n v e => ?_⟩
  · rw [f.ar]
    unfold comes2
    rw [List.filterMap_append, List.filterMap_cons, if_neg (show ¬ (tx "die" = comeX) from fun z => come_die z.symm), List.filterMap_nil, List.append_nil]
  · have : dies (ds ++ [Tp4.mk (tx "die") x d (Itx.t h)]) = dies ds ++ [(x, (d, Itx.t h))] := by
      unfold dies
      rw [List.filterMap_append, List.filterMap_cons, if_pos (show tx "die" = dieX from rfl), List.filterMap_nil]
    rw [this, f.di, List.map_append]
    rfl
  · rcases List.mem_append.mp hp with hp | hp
    · exact f.dk p hp
    · rw [List.mem_singleton] at hp
      subst hp
      exact ⟨hx, hh⟩
  · rcases List.eq_nil_or_concat post with rfl | ⟨q, l, rfl⟩
    · have e := List.append_inj' e rfl
      obtain ⟨e1, e2⟩ := e
      cases e2
      subst e1
      exact ⟨hne, not_key h2⟩
    · rw [List.concat_eq_append, ← List.cons_append, ← List.append_assoc] at e
      have e := List.append_inj' e rfl
      exact f.ok pre q n v e.1
theorem die_ok {ns : List Tx} {ds : List Di} {arr : Dt Tx Int} {de : Des} (f : Fd ns ds arr de) {x h : Tx} {d a b : Int} (hne : h ≠ x) (h1 : dget de x = none) (h2 : dget de h = none) (hd : 0 ≤ d ∧ d ≤ 9999) (ha : dget arr x = some a) (hb : dget arr h = some b) (had : a ≤ d) (hbd : b ≤ d) (hl : de.length ≤ 1000) (rks : List (Tp3 Tx Int Int)) : t_Folk_die x d h arr rks de = .ok (de ++ [(x, (d, h))]) := by
  unfold t_Folk_die
  rw [measure_ok hd, T.ok_bind, known_ok ha, T.ok_bind, known_ok hb, T.ok_bind, after_ok ha had, T.ok_bind, after_ok hb hbd, T.ok_bind, h1, h2]
  simp only [Option.isSome_none, Bool.false_eq_true, if_false, Bool.or_false]
  rw [if_neg (by simpa using hne), T.gd_of (szl _ (by omega))]
  congr 1
  unfold dput
  rw [if_neg]
  intro z
  rw [List.any_eq_true] at z
  obtain ⟨p, hp, e⟩ := z
  exact not_key h1 (List.mem_map.mpr ⟨p, hp, of_decide_eq_true e⟩)
theorem dget_snoc {κ α : Type} [DecidableEq κ] (d : Dt κ α) (k k' : κ) (v : α) (h : dget d k' = none) (hne : k ≠ k') : dget (d ++ [(k, v)]) k' = none := by
  induction d with
  | nil =>
    show dget [(k, v)] k' = none
    rw [dget_cons, if_neg hne]
    rfl
  | cons p d ih =>
    rw [dget_cons] at h
    rw [List.cons_append, dget_cons]
    by_cases hp : p.1 = k'
    · rw [if_pos hp] at h
      cases h
    · rw [if_neg hp] at h
      rw [if_neg hp]
      exact ih h
end Ty
namespace Lw
open VS Ty
end Lw

namespace VS
open PySem PySem.Spec PyProof.Rows L2
section
variable {α β γ κ ν ω : Type} {A : LS} {t : T Empty β} {F : β → ω} {B : β → LS} {X : Empty → LS}
end
end VS
namespace Ty
open PySem VS Lw
end Ty
namespace VS
open PySem PySem.Spec PyProof.Rows L2
end VS

namespace Ty
open PySem PySem.Spec PyProof.Rows VS Lw L2
end Ty

noncomputable section
namespace Ty
open PySem VS Lw L2
end Ty

namespace Ty
open PySem VS L2
theorem die_rise : ¬ (dieX = comeX ∨ dieX = riseX) := by decide
def rkOf (e : Di) : Option (Tp3 Tx Int Itx) := if e.a = comeX ∨ e.a = riseX then some ⟨e.b, e.c, e.d⟩ else none
def rkI (r : Tp3 Tx Int Int) : Tp3 Tx Int Itx := ⟨r.a, r.b, Itx.i r.c⟩
structure F4 (ns : List Tx) (ds : List Di) (arr : Dt Tx Int) (rks : List (Tp3 Tx Int Int)) (de : Des) : Prop where
  fd : Fd ns ds arr de
  rk : ds.filterMap rkOf = rks.map rkI
  kc : ∀ e ∈ ds, 0 ≤ e.c
  ad : ∀ p ∈ arr, p.2 ≤ 5
theorem F4.len {ns : List Tx} {ds : List Di} {arr : Dt Tx Int} {rks : List (Tp3 Tx Int Int)} {de : Des} (f : F4 ns ds arr rks de) : arr.length ≤ ds.length ∧ rks.length ≤ ds.length ∧ de.length ≤ ds.length ∧ ns.length = arr.length := by
  refine ⟨?_, ?_, ?_, ?_⟩
  · rw [f.fd.ar]
    exact List.length_filterMap_le _ _
  · have := congrArg List.length f.rk
    rw [List.length_map] at this
    rw [← this]
    exact List.length_filterMap_le _ _
  · have := congrArg List.length f.fd.di
    rw [List.length_map] at this
    rw [← this]
    exact List.length_filterMap_le _ _
  · rw [← f.fd.nm, List.length_map]
theorem F4.come {ns : List Tx} {ds : List Di} {arr : Dt Tx Int} {rks : List (Tp3 Tx Int Int)} {de : Des} (f : F4 ns ds arr rks de) {n : Tx} {d w : Int} (h : 0 ≤ d ∧ d ≤ 5) : F4 (ns ++ [n]) (ds ++ [Tp4.mk (tx "come") n d (Itx.i w)]) (arr ++ [(n, d)]) (rks ++ [Tp3.mk n d w]) de := by
  refine ⟨⟨?_, ?_, fun p hp => ?_, ?_, fun p hp => ?_, f.fd.ok⟩, ?_, fun e he => ?_, fun p hp => ?_⟩
  · rw [f.fd.ar]
    unfold comes2
    rw [List.filterMap_append, List.filterMap_cons, if_pos (show tx "come" = comeX from rfl), List.filterMap_nil]
  · rw [List.map_append, f.fd.nm]
    rfl
  · rcases List.mem_append.mp hp with hp | hp
    · exact f.fd.kd p hp
    · rw [List.mem_singleton] at hp
      subst hp
      exact ⟨h.1, Int.le_trans h.2 (by decide)⟩
  · have := f.fd.di
    unfold dies at this ⊢
    rw [List.filterMap_append, this, List.filterMap_cons, if_neg (show ¬ (tx "come" = dieX) from come_die), List.filterMap_nil, List.append_nil]
  · exact ⟨List.mem_append_left _ (f.fd.dk p hp).1, List.mem_append_left _ (f.fd.dk p hp).2⟩
  · rw [List.filterMap_append, f.rk, List.map_append]
    rfl
  · rcases List.mem_append.mp he with he | he
    · exact f.kc e he
    · rw [List.mem_singleton] at he
      subst he
      exact h.1
  · rcases List.mem_append.mp hp with hp | hp
    · exact f.ad p hp
    · rw [List.mem_singleton] at hp
      subst hp
      exact h.2
theorem F4.die {ns : List Tx} {ds : List Di} {arr : Dt Tx Int} {rks : List (Tp3 Tx Int Int)} {de : Des} (f : F4 ns ds arr rks de) {x h : Tx} {d : Int} (h0 : 0 ≤ d) (hx : x ∈ ns) (hh : h ∈ ns) (hne : h ≠ x) (h2 : dget de h = none) : F4 ns (ds ++ [Tp4.mk (tx "die") x d (Itx.t h)]) arr rks (de ++ [(x, (d, h))]) := by
  refine ⟨f.fd.die hx hh hne h2, ?_, fun e he => ?_, f.ad⟩
  · rw [List.filterMap_append, f.rk]
    have : [Tp4.mk (tx "die") x d (Itx.t h)].filterMap rkOf = [] := by
      rw [List.filterMap_cons, show rkOf (Tp4.mk (tx "die") x d (Itx.t h)) = none from if_neg die_rise]
      rfl
    rw [this, List.append_nil]
  · rcases List.mem_append.mp he with he | he
    · exact f.kc e he
    · rw [List.mem_singleton] at he
      subst he
      exact h0
theorem rise_not : riseX ≠ comeX ∧ riseX ≠ dieX := by decide
theorem F4.rise {ns : List Tx} {ds : List Di} {arr : Dt Tx Int} {rks : List (Tp3 Tx Int Int)} {de : Des} (f : F4 ns ds arr rks de) {n : Tx} {d w : Int} (h0 : 0 ≤ d) : F4 ns (ds ++ [Tp4.mk (tx "rise") n d (Itx.i w)]) arr (rks ++ [Tp3.mk n d w]) de := by
  refine ⟨⟨?_, f.fd.nm, f.fd.kd, ?_, f.fd.dk, f.fd.ok⟩, ?_, fun e he => ?_, f.ad⟩
  · rw [f.fd.ar]
    unfold comes2
    rw [List.filterMap_append, List.filterMap_cons, if_neg (show ¬ (tx "rise" = comeX) from rise_not.1), List.filterMap_nil, List.append_nil]
  · have := f.fd.di
    unfold dies at this ⊢
    rw [List.filterMap_append, this, List.filterMap_cons, if_neg (show ¬ (tx "rise" = dieX) from rise_not.2), List.filterMap_nil, List.append_nil]
  · rw [List.filterMap_append, f.rk, List.map_append]
    have : [Tp4.mk (tx "rise") n d (Itx.i w)].filterMap rkOf = [rkI ⟨n, d, w⟩] := by
      rw [List.filterMap_cons, show rkOf (Tp4.mk (tx "rise") n d (Itx.i w)) = some ⟨n, d, Itx.i w⟩ from if_pos (.inr rfl)]
      rfl
    rw [this]
    rfl
  · rcases List.mem_append.mp he with he | he
    · exact f.kc e he
    · rw [List.mem_singleton] at he
      subst he
      exact h0
end Ty
namespace Lw
open VS Ty
end Lw

namespace VS
open PySem PySem.Spec PyProof.Rows L2
section
variable {ε ε' α β γ δ κ ω : Type} {A : LS} {t : T ε β} {F : β → ω} {B : β → LS} {X : ε → LS}
def ord0T (x y : Tp4 Int α γ δ) : Bool := decide (x.a ≤ y.a)
def srtK0T (xs : List (Tp4 Int α γ δ)) : Option (List (Tp4 Int α γ δ)) := if xs.length ≤ sizeLine then some (xs.mergeSort ord0T) else none
theorem srtK0_l [Enc α] [Enc γ] [Enc δ] (xs : List (Tp4 Int α γ δ)) : dSortK0 (.list (xs.map Enc.enc)) = (srtK0T xs).map fun z => S.ol (z.map Enc.enc) := by
  show (if (xs.map Enc.enc).all isIt0 = true ∧ (xs.map (Enc.enc : Tp4 Int α γ δ → D)).length ≤ sizeLine then some (S.ol (srtK0 (xs.map Enc.enc))) else none) = _
  have h1 : (xs.map (Enc.enc : Tp4 Int α γ δ → D)).all isIt0 = true := by
    rw [List.all_map, List.all_eq_true]
    intro x _
    rfl
  unfold srtK0T
  rw [List.length_map]
  by_cases h : xs.length ≤ sizeLine
  · rw [if_pos ⟨h1, h⟩, if_pos h]
    have : srtK0 (xs.map Enc.enc) = (xs.mergeSort ord0T).map (Enc.enc : Tp4 Int α γ δ → D) := by
      unfold srtK0
      exact (List.map_mergeSort (r := ord0T) (s := ord0) (f := (Enc.enc : Tp4 Int α γ δ → D)) fun a _ c _ => rfl).symm
    rw [this]
    rfl
  · rw [if_neg (fun z => h z.2), if_neg h]
    rfl
class KDt (κ : Type) [Enc κ] [EncK κ] : Prop where
  eq : ∀ x : κ, (Enc.enc x : D) = .tuple ((EncK.ks x).map kD)
instance {κ μ : Type} [Enc κ] [Enc1 κ] [KD1 κ] [Enc μ] [Enc1 μ] [KD1 μ] : KDt (κ × μ) := ⟨fun p => by
  show PyData.tuple [Enc.enc p.1, Enc.enc p.2] = PyData.tuple [kD (Enc1.k1 p.1), kD (Enc1.k1 p.2)]
  rw [kD_k1, kD_k1]⟩
end
class Sc (α : Type) [Enc α] [DecidableEq α] where
  dep : Nat
  lay : ∀ x : α, (Enc.enc x : D).canLay0 = true
  dp : ∀ x : α, (Enc.enc x : D).depth ≤ dep
  eqv : ∀ x y : α, (Enc.enc x : D).eqv (Enc.enc y) = decide (x = y)
instance (priority := low) {α : Type} [Enc α] [DecidableEq α] [i : Sh α] : Sc α := ⟨i.dep, i.lay, i.dp, i.eqv⟩
instance {α : Type} [Enc α] [DecidableEq α] [i : Sh α] : Sc (Option α) := ⟨i.dep, fun x => by
  cases x with
  | none => show PyData.canLay0 .none = true; unfold PyData.canLay0; rfl
  | some a => exact i.lay a, fun x => by
  cases x with
  | none => show PyData.depth .none ≤ _; unfold PyData.depth; exact Nat.zero_le _
  | some a => exact i.dp a, eqv_opt⟩
instance {α β γ δ : Type} [Enc α] [DecidableEq α] [i : Sc α] [Enc β] [DecidableEq β] [j : Sc β] [Enc γ] [DecidableEq γ] [k : Sc γ] [Enc δ] [DecidableEq δ] [l : Sc δ] : Sh (Tp4 α β γ δ) where
  dep := max i.dep (max j.dep (max k.dep l.dep)) + 1
  nn := fun _ h => by cases h
  lay := fun p => by
    show PyData.canLay0 (.tuple [Enc.enc p.a, Enc.enc p.b, Enc.enc p.c, Enc.enc p.d]) = true
    simp [PyData.canLay0, PyData.canLayAll0, Sc.lay p.a, Sc.lay p.b, Sc.lay p.c, Sc.lay p.d]
  dp := fun p => by
    show PyData.depth (.tuple [Enc.enc p.a, Enc.enc p.b, Enc.enc p.c, Enc.enc p.d]) ≤ _
    have h1 := i.dp p.a
    have h2 := j.dp p.b
    have h3 := k.dp p.c
    have h4 := l.dp p.d
    simp only [PyData.depth, PyData.depthAll]
    omega
  eqv := fun p q => by
    show PyData.eqv (.tuple [Enc.enc p.a, Enc.enc p.b, Enc.enc p.c, Enc.enc p.d]) (.tuple [Enc.enc q.a, Enc.enc q.b, Enc.enc q.c, Enc.enc q.d]) = _
    simp only [PyData.eqv, PyData.eqvAll, Sc.eqv, Bool.and_true]
    have e : decide (p = q) = decide (p.a = q.a ∧ p.b = q.b ∧ p.c = q.c ∧ p.d = q.d) := decide_eq_decide.mpr tp4_ext
    rw [e]
    by_cases h1 : p.a = q.a <;> by_cases h2 : p.b = q.b <;> by_cases h3 : p.c = q.c <;> by_cases h4 : p.d = q.d <;> simp [h1, h2, h3, h4]
end VS

noncomputable section
namespace Ty
open PySem VS Lw L2
def t_law_folk (src : SrcT) (names : (List Tx)) (arrivals : (Dt Tx Int)) (ranks : (List (Tp3 Tx Int Int))) (deaths : (Dt Tx (Int × Tx))) : T Empty ((List (Tp4 Tx Tx Int Itx)) × SrcT × (Dt Tx Int) × (List (Tp3 Tx Int Int)) × (Dt Tx (Int × Tx))) :=
  (T.forM names ((src, arrivals, ranks, ([] : List (Tp4 Tx Tx Int Itx))) : SrcT × (Dt Tx Int) × (List (Tp3 Tx Int Int)) × (List (Tp4 Tx Tx Int Itx))) (fun (i1 : Tx) (src6, arrivals7, ranks8, deeds9) => (((t_next src6 ((6 : Int))).bind fun (r10, src11) =>
  (t_Folk_come i1 r10 ((1 : Int)) arrivals7 ranks8 deaths).bind fun (arrivals13, ranks14) =>
  T.gd (deeds9.length < sizeLine) <|
  .ok (src11, arrivals13, ranks14, (deeds9 ++ [(Tp4.mk (tx "come") i1 r10 (Itx.i (1 : Int)))]))) : T Empty (SrcT × (Dt Tx Int) × (List (Tp3 Tx Int Int)) × (List (Tp4 Tx Tx Int Itx)))))).bind fun (src6, arrivals7, ranks8, deeds9) =>
  (t_next src6 ((6 : Int))).bind fun (r15, src16) =>
  T.gd (inR r15) <|
  (T.forM (rangeT (Int.toNat r15)) ((src16, deaths, deeds9, names) : SrcT × (Dt Tx (Int × Tx)) × (List (Tp4 Tx Tx Int Itx)) × (List Tx)) (fun (i17 : Int) (src22, deaths23, deeds24, living25) => ((if (decide ((1 : Int) < ((List.length living25 : Nat) : Int))) = true then ((t_next src22 (((List.length living25 : Nat) : Int) : Int)).bind fun (r26, src27) =>
  (T.ofO (popT living25 r26)).bind fun (x28, living29) =>
  (t_next src27 (((List.length living29 : Nat) : Int) : Int)).bind fun (r30, src31) =>
  (T.ofO (atI living29 r30)).bind fun x32 =>
  (t_next src31 ((20 : Int))).bind fun (r33, src34) =>
  (t_Folk_die x28 (((6 : Int) + r33) : Int) x32 arrivals7 ranks8 deaths23).bind fun deaths36 =>
  T.gd (deeds24.length < sizeLine) <|
  .ok (src34, deaths36, (deeds24 ++ [(Tp4.mk (tx "die") x28 ((6 : Int) + r33) (Itx.t x32))]), living29)) else (.ok (src22, deaths23, deeds24, living25))) : T Empty (SrcT × (Dt Tx (Int × Tx)) × (List (Tp4 Tx Tx Int Itx)) × (List Tx))))).bind fun (src22, deaths23, deeds24, living25) =>
  .ok (deeds24, src22, arrivals7, ranks8, deaths23)
theorem r_law_folk (src : SrcT) (names : (List Tx)) (arrivals : (Dt Tx Int)) (ranks : (List (Tp3 Tx Int Int))) (deaths : (Dt Tx (Int × Tx))) : SK [some src.1, dv names, none, kv arrivals, lv ranks, kv deaths] Lw.m_law_folk (t_law_folk src names arrivals ranks deaths) (fun r => (S.ol (List.map Enc.enc r.1))) (fun r => [some r.2.1.1, dv names, none, kv r.2.2.1, lv r.2.2.2.1, kv r.2.2.2.2]) XV := by
  unfold Lw.m_law_folk Lw.g_law_folk t_law_folk
  refine f_def (X' := XV) ?_ xe_no
  show SK [some src.1, dv names, none, kv arrivals, lv ranks, kv deaths, none, none, none, none, none, none] _ _ _ _ _
  refine s_seq ?_
  refine s_asg ?_
  refine e_pu (pu_lst pu_nil (ln (n := 0) rfl)) ?_
  refine s_set rfl ?_
  refine s_then ?_
  refine s_seq ?_
  refine s_forE ?_
  refine e_items ?_
  refine e_pu (pu_var (by rfl)) ?_
  refine e_ok ?_
  refine c_for (e := Enc.enc) (xs := names) (v := (src, arrivals, ranks, ([] : List (Tp4 Tx Tx Int Itx)))) (fun v => [some v.1.1, dv names, none, kv v.2.1, lv v.2.2.1, kv deaths, lv v.2.2.2, none, none, none, none, none]) (fun i1 v => [some v.1.1, dv names, none, kv v.2.1, lv v.2.2.1, kv deaths, lv v.2.2.2, dv i1, none, none, none, none]) (mt_k (mt_k (mt_w (mt_k (mt_k (mt_k (mt_k (mt_w (mt_w (mt_w (mt_w (mt_w mt_nil)))))))))))) (fun i1 v => tg_name) (fun i1 v => ?_) (fun v => ?_)
  · obtain ⟨src6, arrivals7, ranks8, deeds9⟩ := v
    show SK [some src6.1, dv names, none, kv arrivals7, lv ranks8, kv deaths, lv deeds9, dv i1, none, none, none, none] _ _ _ _ _
    refine s_seq ?_
    refine s_asg ?_
    refine e_call ?_
    refine a_r (by rfl) ?_
    refine a_d ?_
    refine e_pu (pu_c (d := Enc.enc (6 : Int))) ?_
    refine a_nil ?_
    refine c_call (by show List.Nodup [0]; decide) rfl (r_next src6 ((6 : Int))) xe_no ?_
    rintro ⟨r10, src11⟩
    show SK [some src11.1, dv names, none, kv arrivals7, lv ranks8, kv deaths, lv deeds9, dv i1, none, none, none, none] _ _ _ _ _
    refine s_set rfl ?_
    refine s_then ?_
    refine s_seq ?_
    refine s_drop ?_
    refine e_callG ?_
    refine ag_o ?_
    refine ag_d ?_
    refine e_pu (pu_var (by rfl)) ?_
    refine ag_d ?_
    refine e_pu (pu_var (by rfl)) ?_
    refine ag_d ?_
    refine e_pu (pu_c (d := Enc.enc (1 : Int))) ?_
    refine ag_nil ?_
    refine c_call (by show List.Nodup [2, 3, 4, 5]; decide) rfl (r_Folk_come i1 r10 ((1 : Int)) arrivals7 ranks8 deaths) xe_no ?_
    rintro ⟨arrivals13, ranks14⟩
    show SK [some src11.1, dv names, none, kv arrivals13, lv ranks14, kv deaths, lv deeds9, dv i1, dv r10, none, none, none] _ _ _ _ _
    refine s_then ?_
    refine s_drop ?_
    refine e_app (by rfl) ?_
    refine e_pu (pu_tup (pu_cons (pu_str "come") (pu_cons (pu_var (by rfl)) (pu_cons (pu_var (by rfl)) (pu_cons (pu_c (d := Enc.enc (1 : Int))) pu_nil)))) (ln (n := 4) rfl)) ?_
    refine c_app (xs := deeds9) (x := ((Tp4.mk (tx "come") i1 r10 (Itx.i (1 : Int))) : (Tp4 Tx Tx Int Itx))) (by rfl) rfl ?_
    exact k_ok rfl (mt_k (mt_k (mt_w (mt_k (mt_k (mt_k (mt_k (mt_w (mt_w (mt_w (mt_w (mt_w mt_nil))))))))))))
  obtain ⟨src6, arrivals7, ranks8, deeds9⟩ := v
  show SK [some src6.1, dv names, none, kv arrivals7, lv ranks8, kv deaths, lv deeds9, none, none, none, none, none] _ _ _ _ _
  refine s_then ?_
  refine s_seq ?_
  refine s_asg ?_
  refine e_pu (pu_un (z := (S.ol (List.map Enc.enc names))) (pu_peek (by rfl)) rfl) ?_
  refine s_set rfl ?_
  refine s_then ?_
  refine s_seq ?_
  refine s_forE ?_
  refine e_rng1 ?_
  refine e_cons ?_
  refine e_fz ?_
  refine e_call ?_
  refine a_r (by rfl) ?_
  refine a_d ?_
  refine e_pu (pu_c (d := Enc.enc (6 : Int))) ?_
  refine a_nil ?_
  refine c_call (by show List.Nodup [0]; decide) rfl (r_next src6 ((6 : Int))) xe_no ?_
  rintro ⟨r15, src16⟩
  show SK [some src16.1, dv names, none, kv arrivals7, lv ranks8, kv deaths, lv deeds9, none, none, lv names, none, none] _ _ _ _ _
  refine e_ok ?_
  refine e_pu pu_nil ?_
  refine c_rng1 (n := r15) ?_
  refine c_for (e := Enc.enc) (xs := ((rangeT (Int.toNat r15)) : (List Int))) (v := (src16, deaths, deeds9, names)) (fun v => [some v.1.1, dv names, none, kv arrivals7, lv ranks8, kv v.2.1, lv v.2.2.1, none, none, lv v.2.2.2, none, none]) (fun i17 v => [some v.1.1, dv names, none, kv arrivals7, lv ranks8, kv v.2.1, lv v.2.2.1, none, none, lv v.2.2.2, dv i17, none]) (mt_k (mt_k (mt_w (mt_k (mt_k (mt_k (mt_k (mt_w (mt_w (mt_k (mt_w (mt_w mt_nil)))))))))))) (fun i17 v => tg_name) (fun i17 v => ?_) (fun v => ?_)
  · obtain ⟨src22, deaths23, deeds24, living25⟩ := v
    show SK [some src22.1, dv names, none, kv arrivals7, lv ranks8, kv deaths23, lv deeds24, none, none, lv living25, dv i17, none] _ _ _ _ _
    refine s_if (x := (decide ((1 : Int) < ((List.length living25 : Nat) : Int)))) (pu_B (pu_op (z := (Enc.enc ((decide ((1 : Int) < ((List.length living25 : Nat) : Int))) : Bool))) (pu_un (z := (Enc.enc ((List.length living25 : Nat) : Int))) (pu_peekL (by rfl)) (len_l _)) (pu_c (d := Enc.enc (1 : Int))) rfl)) ?_ ?_
    · refine s_seq ?_
      refine s_asg ?_
      refine e_d ?_
      refine e_popAt (by rfl) ?_
      refine e_fz ?_
      refine e_call ?_
      refine a_r (by rfl) ?_
      refine a_d ?_
      refine e_pu (pu_un (z := (Enc.enc ((List.length living25 : Nat) : Int))) (pu_peekL (by rfl)) (len_l _)) ?_
      refine a_nil ?_
      refine c_call (by show List.Nodup [0]; decide) rfl (r_next src22 (((List.length living25 : Nat) : Int))) xe_no ?_
      rintro ⟨r26, src27⟩
      show SK [some src27.1, dv names, none, kv arrivals7, lv ranks8, kv deaths23, lv deeds24, none, none, lv living25, dv i17, none] _ _ _ _ _
      refine e_ok ?_
      refine c_popAt (xs := living25) (by rfl) (fun x28 living29 => ?_)
      refine s_set rfl ?_
      refine s_then ?_
      refine s_seq ?_
      refine s_asg ?_
      refine e_d ?_
      refine e_ixP (by rfl) ?_
      refine e_fz ?_
      refine e_call ?_
      refine a_r (by rfl) ?_
      refine a_d ?_
      refine e_pu (pu_un (z := (Enc.enc ((List.length living29 : Nat) : Int))) (pu_peekL (by rfl)) (len_l _)) ?_
      refine a_nil ?_
      refine c_call (by show List.Nodup [0]; decide) rfl (r_next src27 (((List.length living29 : Nat) : Int))) xe_no ?_
      rintro ⟨r30, src31⟩
      show SK [some src31.1, dv names, none, kv arrivals7, lv ranks8, kv deaths23, lv deeds24, dv x28, none, lv living29, dv i17, none] _ _ _ _ _
      refine e_ok ?_
      refine e_pu (pu_peekL (by rfl)) ?_
      refine e_oO (p := atI living29 r30) (f := Enc.enc) (ix_l living29 r30) (fun x32 => ?_)
      refine s_set rfl ?_
      refine s_then ?_
      refine s_seq ?_
      refine s_asg ?_
      refine e_op ?_
      refine e_pu (pu_c (d := Enc.enc (6 : Int))) ?_
      refine e_fz ?_
      refine e_call ?_
      refine a_r (by rfl) ?_
      refine a_d ?_
      refine e_pu (pu_c (d := Enc.enc (20 : Int))) ?_
      refine a_nil ?_
      refine c_call (by show List.Nodup [0]; decide) rfl (r_next src31 ((20 : Int))) xe_no ?_
      rintro ⟨r33, src34⟩
      show SK [some src34.1, dv names, none, kv arrivals7, lv ranks8, kv deaths23, lv deeds24, dv x28, none, lv living29, dv i17, dv x32] _ _ _ _ _
      refine e_ok ?_
      refine e_o (z := (S.d (Enc.enc ((6 : Int) + r33 : Int)))) rfl ?_
      refine s_set rfl ?_
      refine s_then ?_
      refine s_seq ?_
      refine s_drop ?_
      refine e_callG ?_
      refine ag_o ?_
      refine ag_d ?_
      refine e_pu (pu_var (by rfl)) ?_
      refine ag_d ?_
      refine e_pu (pu_var (by rfl)) ?_
      refine ag_d ?_
      refine e_pu (pu_var (by rfl)) ?_
      refine ag_nil ?_
      refine c_call (by show List.Nodup [2, 3, 4, 5]; decide) rfl (r_Folk_die x28 (((6 : Int) + r33)) x32 arrivals7 ranks8 deaths23) xe_no ?_
      rintro deaths36
      show SK [some src34.1, dv names, none, kv arrivals7, lv ranks8, kv deaths36, lv deeds24, dv x28, dv (((6 : Int) + r33) : Int), lv living29, dv i17, dv x32] _ _ _ _ _
      refine s_then ?_
      refine s_drop ?_
      refine e_app (by rfl) ?_
      refine e_pu (pu_tup (pu_cons (pu_str "die") (pu_cons (pu_var (by rfl)) (pu_cons (pu_var (by rfl)) (pu_cons (pu_var (by rfl)) pu_nil)))) (ln (n := 4) rfl)) ?_
      refine c_app (xs := deeds24) (x := ((Tp4.mk (tx "die") x28 ((6 : Int) + r33) (Itx.t x32)) : (Tp4 Tx Tx Int Itx))) (by rfl) rfl ?_
      exact k_ok rfl (mt_k (mt_k (mt_w (mt_k (mt_k (mt_k (mt_k (mt_w (mt_w (mt_k (mt_w (mt_w mt_nil))))))))))))
    · refine s_next ?_
      exact k_ok rfl (mt_k (mt_k (mt_w (mt_k (mt_k (mt_k (mt_k (mt_w (mt_w (mt_k (mt_w (mt_w mt_nil))))))))))))
  obtain ⟨src22, deaths23, deeds24, living25⟩ := v
  show SK [some src22.1, dv names, none, kv arrivals7, lv ranks8, kv deaths23, lv deeds24, none, none, lv living25, none, none] _ _ _ _ _
  refine s_then ?_
  refine s_ret ?_
  refine e_move (by rfl) (by intro _ h; cases h) ?_
  exact f_rt rfl (mt_k (mt_k (mt_w (mt_k (mt_k (mt_k mt_nil))))))
def t_law_events (src : SrcT) (deeds : (List (Tp4 Tx Tx Int Itx))) (names : (List Tx)) (brought : Oath) (many : Int) : T Empty ((List (Tp4 Int Tx (Option Tx) Tx)) × SrcT) :=
  T.gd (inR many) <|
  (T.forM (rangeT (Int.toNat many)) ((src, ([] : List (Tp4 Int Tx (Option Tx) Tx)), brought.1) : SrcT × (List (Tp4 Int Tx (Option Tx) Tx)) × Tx) (fun (i1 : Int) (src5, events6, last7) => (((t_next src5 ((20 : Int))).bind fun (r8, src9) =>
  (t_next src9 (((List.length names : Nat) : Int) : Int)).bind fun (r10, src11) =>
  (T.ofO (atI names r10)).bind fun x12 =>
  (t_next src11 (((List.length names : Nat) : Int) : Int)).bind fun (r13, src14) =>
  (T.ofO (atI names r13)).bind fun x15 =>
  (((t_next src14 ((3 : Int))).bind fun (r18, src19) =>
  if (decide ((0 : Int) < r18)) = true then ((t_law_heir deeds last7 ((brought.2 + r8) : Int)).bind fun r20 =>
  .ok (src19, r20)) else (.ok (src19, x15)) : T Empty (SrcT × Tx))).bind fun (src16, giver17) =>
  (((t_next src16 ((3 : Int))).bind fun (r23, src24) =>
  if (decide (r23 = (0 : Int))) = true then (T.gd (events6.length < sizeLine) <|
  .ok (src24, (events6 ++ [(Tp4.mk (brought.2 + r8) (tx "won") (none : (Option Tx)) x12)]))) else (T.gd (events6.length < sizeLine) <|
  .ok (src24, (events6 ++ [(Tp4.mk (brought.2 + r8) (tx "given") (some giver17) x12)]))) : T Empty (SrcT × (List (Tp4 Int Tx (Option Tx) Tx))))).bind fun (src21, events22) =>
  .ok (src21, events22, x12)) : T Empty (SrcT × (List (Tp4 Int Tx (Option Tx) Tx)) × Tx)))).bind fun (src5, events6, last7) =>
  (t_next src5 ((2 : Int))).bind fun (r25, src26) =>
  if (decide (r25 = (0 : Int))) = true then (.ok (events6, src26)) else (T.gd (inR brought.2 ∧ inR (brought.2 + (20 : Int))) <|
  (T.forM (rangeT2 brought.2 (Int.toNat ((brought.2 + (20 : Int)) - brought.2))) (([] : List (Tp4 Int Tx (Option Tx) Tx)) : (List (Tp4 Int Tx (Option Tx) Tx))) (fun (i27 : Int) row29 => (((T.lcp events6 (fun (i30 : (Tp4 Int Tx (Option Tx) Tx)) => (decide (i30.a = i27))) (fun i30 => i30)).bind fun l31 =>
  T.gd (row29.length + l31.length ≤ sizeLine) <|
  .ok (row29 ++ l31)) : T Empty ((List (Tp4 Int Tx (Option Tx) Tx)))))).bind fun row29 =>
  .ok (row29, src26))
theorem r_law_events (src : SrcT) (deeds : (List (Tp4 Tx Tx Int Itx))) (names : (List Tx)) (brought : Oath) (many : Int) : SK [some src.1, lv deeds, dv names, dv brought, dv many] Lw.m_law_events (t_law_events src deeds names brought many) (fun r => (S.ol (List.map Enc.enc r.1))) (fun r => [some r.2.1, lv deeds, dv names, none, none]) XV := by
  unfold Lw.m_law_events Lw.g_law_events t_law_events
  refine f_def (X' := XV) ?_ xe_no
  show SK [some src.1, lv deeds, dv names, dv brought, dv many, none, none, none, none, none, none, none, none, none, none] _ _ _ _ _
  refine s_seq ?_
  refine s_asg ?_
  refine e_pu (pu_lst pu_nil (ln (n := 0) rfl)) ?_
  refine s_set rfl ?_
  refine s_then ?_
  refine s_seq ?_
  refine s_asgT (pu_var (by rfl)) (tg_tup (tgs_cons tg_name (tgs_cons tg_name tgs_nil)) rfl) ?_
  refine s_then ?_
  refine s_seq ?_
  refine s_forE ?_
  refine e_rng1 ?_
  refine e_pu (pu_cons (pu_var (by rfl)) pu_nil) ?_
  refine c_rng1 (n := many) ?_
  refine c_for (e := Enc.enc) (xs := ((rangeT (Int.toNat many)) : (List Int))) (v := (src, ([] : List (Tp4 Int Tx (Option Tx) Tx)), brought.1)) (fun v => [some v.1.1, lv deeds, dv names, dv brought, dv many, lv v.2.1, dv v.2.2, dv brought.2, none, none, none, none, none, none, none]) (fun i1 v => [some v.1.1, lv deeds, dv names, dv brought, dv many, lv v.2.1, dv v.2.2, dv brought.2, dv i1, none, none, none, none, none, none]) (mt_k (mt_k (mt_k (mt_k (mt_k (mt_k (mt_k (mt_k (mt_w (mt_w (mt_w (mt_w (mt_w (mt_w (mt_w mt_nil))))))))))))))) (fun i1 v => tg_name) (fun i1 v => ?_) (fun v => ?_)
  · obtain ⟨src5, events6, last7⟩ := v
    show SK [some src5.1, lv deeds, dv names, dv brought, dv many, lv events6, dv last7, dv brought.2, dv i1, none, none, none, none, none, none] _ _ _ _ _
    refine s_seq ?_
    refine s_asg ?_
    refine e_op ?_
    refine e_pu (pu_var (by rfl)) ?_
    refine e_fz ?_
    refine e_call ?_
    refine a_r (by rfl) ?_
    refine a_d ?_
    refine e_pu (pu_c (d := Enc.enc (20 : Int))) ?_
    refine a_nil ?_
    refine c_call (by show List.Nodup [0]; decide) rfl (r_next src5 ((20 : Int))) xe_no ?_
    rintro ⟨r8, src9⟩
    show SK [some src9.1, lv deeds, dv names, dv brought, dv many, lv events6, dv last7, dv brought.2, dv i1, none, none, none, none, none, none] _ _ _ _ _
    refine e_ok ?_
    refine e_o (z := (S.d (Enc.enc (brought.2 + r8 : Int)))) rfl ?_
    refine s_set rfl ?_
    refine s_then ?_
    refine s_seq ?_
    refine s_asg ?_
    refine e_d ?_
    refine e_ixP (by rfl) ?_
    refine e_fz ?_
    refine e_call ?_
    refine a_r (by rfl) ?_
    refine a_d ?_
    refine e_pu (pu_un (z := (Enc.enc ((List.length names : Nat) : Int))) (pu_peek (by rfl)) (len_l _)) ?_
    refine a_nil ?_
    refine c_call (by show List.Nodup [0]; decide) rfl (r_next src9 (((List.length names : Nat) : Int))) xe_no ?_
    rintro ⟨r10, src11⟩
    show SK [some src11.1, lv deeds, dv names, dv brought, dv many, lv events6, dv last7, dv brought.2, dv i1, dv ((brought.2 + r8) : Int), none, none, none, none, none] _ _ _ _ _
    refine e_ok ?_
    refine e_pu (pu_peek (by rfl)) ?_
    refine e_oO (p := atI names r10) (f := Enc.enc) (ix_l names r10) (fun x12 => ?_)
    refine s_set rfl ?_
    refine s_then ?_
    refine s_seq ?_
    refine s_asg ?_
    refine e_d ?_
    refine e_ixP (by rfl) ?_
    refine e_fz ?_
    refine e_call ?_
    refine a_r (by rfl) ?_
    refine a_d ?_
    refine e_pu (pu_un (z := (Enc.enc ((List.length names : Nat) : Int))) (pu_peek (by rfl)) (len_l _)) ?_
    refine a_nil ?_
    refine c_call (by show List.Nodup [0]; decide) rfl (r_next src11 (((List.length names : Nat) : Int))) xe_no ?_
    rintro ⟨r13, src14⟩
    show SK [some src14.1, lv deeds, dv names, dv brought, dv many, lv events6, dv last7, dv brought.2, dv i1, dv ((brought.2 + r8) : Int), dv x12, none, none, none, none] _ _ _ _ _
    refine e_ok ?_
    refine e_pu (pu_peek (by rfl)) ?_
    refine e_oO (p := atI names r13) (f := Enc.enc) (ix_l names r13) (fun x15 => ?_)
    refine s_set rfl ?_
    refine s_then ?_
    refine s_seq ?_
    refine s_cut (B1 := fun v => [some v.1.1, lv deeds, dv names, dv brought, dv many, lv events6, dv last7, dv brought.2, dv i1, dv ((brought.2 + r8) : Int), dv x12, dv v.2, none, none, none]) ?_ ?_
    · refine s_ifE ?_
      refine e_B ?_
      refine e_op ?_
      refine e_fz ?_
      refine e_call ?_
      refine a_r (by rfl) ?_
      refine a_d ?_
      refine e_pu (pu_c (d := Enc.enc (3 : Int))) ?_
      refine a_nil ?_
      refine c_call (by show List.Nodup [0]; decide) rfl (r_next src14 ((3 : Int))) xe_no ?_
      rintro ⟨r18, src19⟩
      show SK [some src19.1, lv deeds, dv names, dv brought, dv many, lv events6, dv last7, dv brought.2, dv i1, dv ((brought.2 + r8) : Int), dv x12, dv x15, none, none, none] _ _ _ _ _
      refine e_ok ?_
      refine e_pu (pu_c (d := Enc.enc (0 : Int))) ?_
      refine e_o (z := (Enc.enc ((decide ((0 : Int) < r18)) : Bool))) rfl ?_
      refine e_ok ?_
      refine s_ite (x := (decide ((0 : Int) < r18))) ?_ ?_
      · refine s_asg ?_
        refine e_call ?_
        refine a_r (by rfl) ?_
        refine a_d ?_
        refine e_pu (pu_var (by rfl)) ?_
        refine a_d ?_
        refine e_pu (pu_var (by rfl)) ?_
        refine a_nil ?_
        refine c_call (by show List.Nodup [1]; decide) rfl (r_law_heir deeds last7 ((brought.2 + r8))) xe_no ?_
        rintro r20
        show SK [some src19.1, lv deeds, dv names, dv brought, dv many, lv events6, dv last7, dv brought.2, dv i1, dv ((brought.2 + r8) : Int), dv x12, dv x15, none, none, none] _ _ _ _ _
        refine s_set rfl ?_
        exact k_ok rfl (mt_k (mt_k (mt_k (mt_k (mt_k (mt_k (mt_k (mt_k (mt_k (mt_k (mt_k (mt_k (mt_w (mt_w (mt_w mt_nil)))))))))))))))
      · refine s_next ?_
        exact k_ok rfl (mt_k (mt_k (mt_k (mt_k (mt_k (mt_k (mt_k (mt_k (mt_k (mt_k (mt_k (mt_k (mt_w (mt_w (mt_w mt_nil)))))))))))))))
    rintro ⟨src16, giver17⟩
    show SK [some src16.1, lv deeds, dv names, dv brought, dv many, lv events6, dv last7, dv brought.2, dv i1, dv ((brought.2 + r8) : Int), dv x12, dv giver17, none, none, none] _ _ _ _ _
    refine s_then ?_
    refine s_seq ?_
    refine s_cut (B1 := fun v => [some v.1.1, lv deeds, dv names, dv brought, dv many, lv v.2, dv last7, dv brought.2, dv i1, dv ((brought.2 + r8) : Int), dv x12, dv giver17, none, none, none]) ?_ ?_
    · refine s_ifE ?_
      refine e_B ?_
      refine e_op ?_
      refine e_fz ?_
      refine e_call ?_
      refine a_r (by rfl) ?_
      refine a_d ?_
      refine e_pu (pu_c (d := Enc.enc (3 : Int))) ?_
      refine a_nil ?_
      refine c_call (by show List.Nodup [0]; decide) rfl (r_next src16 ((3 : Int))) xe_no ?_
      rintro ⟨r23, src24⟩
      show SK [some src24.1, lv deeds, dv names, dv brought, dv many, lv events6, dv last7, dv brought.2, dv i1, dv ((brought.2 + r8) : Int), dv x12, dv giver17, none, none, none] _ _ _ _ _
      refine e_ok ?_
      refine e_pu (pu_c (d := Enc.enc (0 : Int))) ?_
      refine e_o (z := (Enc.enc ((decide (r23 = (0 : Int))) : Bool))) (eq_enc r23 ((0 : Int))) ?_
      refine e_ok ?_
      refine s_ite (x := (decide (r23 = (0 : Int)))) ?_ ?_
      · refine s_drop ?_
        refine e_app (by rfl) ?_
        refine e_pu (pu_tup (pu_cons (pu_var (by rfl)) (pu_cons (pu_str "won") (pu_cons pu_c (pu_cons (pu_var (by rfl)) pu_nil)))) (ln (n := 4) rfl)) ?_
        refine c_app (xs := events6) (x := ((Tp4.mk (brought.2 + r8) (tx "won") (none : (Option Tx)) x12) : (Tp4 Int Tx (Option Tx) Tx))) (by rfl) rfl ?_
        exact k_ok rfl (mt_k (mt_k (mt_k (mt_k (mt_k (mt_k (mt_k (mt_k (mt_k (mt_k (mt_k (mt_k (mt_w (mt_w (mt_w mt_nil)))))))))))))))
      · refine s_drop ?_
        refine e_app (by rfl) ?_
        refine e_pu (pu_tup (pu_cons (pu_var (by rfl)) (pu_cons (pu_str "given") (pu_cons (pu_var (by rfl)) (pu_cons (pu_var (by rfl)) pu_nil)))) (ln (n := 4) rfl)) ?_
        refine c_app (xs := events6) (x := ((Tp4.mk (brought.2 + r8) (tx "given") (some giver17) x12) : (Tp4 Int Tx (Option Tx) Tx))) (by rfl) rfl ?_
        exact k_ok rfl (mt_k (mt_k (mt_k (mt_k (mt_k (mt_k (mt_k (mt_k (mt_k (mt_k (mt_k (mt_k (mt_w (mt_w (mt_w mt_nil)))))))))))))))
    rintro ⟨src21, events22⟩
    show SK [some src21.1, lv deeds, dv names, dv brought, dv many, lv events22, dv last7, dv brought.2, dv i1, dv ((brought.2 + r8) : Int), dv x12, dv giver17, none, none, none] _ _ _ _ _
    refine s_then ?_
    refine s_asg ?_
    refine e_pu (pu_d (pu_var (by rfl))) ?_
    refine s_set rfl ?_
    exact k_ok rfl (mt_k (mt_k (mt_k (mt_k (mt_k (mt_k (mt_k (mt_k (mt_w (mt_w (mt_w (mt_w (mt_w (mt_w (mt_w mt_nil)))))))))))))))
  obtain ⟨src5, events6, last7⟩ := v
  show SK [some src5.1, lv deeds, dv names, dv brought, dv many, lv events6, dv last7, dv brought.2, none, none, none, none, none, none, none] _ _ _ _ _
  refine s_then ?_
  refine s_seq ?_
  refine s_ifE ?_
  refine e_B ?_
  refine e_op ?_
  refine e_fz ?_
  refine e_call ?_
  refine a_r (by rfl) ?_
  refine a_d ?_
  refine e_pu (pu_c (d := Enc.enc (2 : Int))) ?_
  refine a_nil ?_
  refine c_call (by show List.Nodup [0]; decide) rfl (r_next src5 ((2 : Int))) xe_no ?_
  rintro ⟨r25, src26⟩
  show SK [some src26.1, lv deeds, dv names, dv brought, dv many, lv events6, dv last7, dv brought.2, none, none, none, none, none, none, none] _ _ _ _ _
  refine e_ok ?_
  refine e_pu (pu_c (d := Enc.enc (0 : Int))) ?_
  refine e_o (z := (Enc.enc ((decide (r25 = (0 : Int))) : Bool))) (eq_enc r25 ((0 : Int))) ?_
  refine e_ok ?_
  refine s_ite (x := (decide (r25 = (0 : Int)))) ?_ ?_
  · refine s_ret ?_
    refine e_move (by rfl) (by intro _ h; cases h) ?_
    exact f_rt rfl (mt_k (mt_k (mt_k (mt_w (mt_w mt_nil)))))
  · refine s_next ?_
    refine s_then ?_
    refine s_seq ?_
    refine s_asg ?_
    refine e_pu (pu_lst pu_nil (ln (n := 0) rfl)) ?_
    refine s_set rfl ?_
    refine s_then ?_
    refine s_seq ?_
    refine s_frz (by rfl) ?_
    show SS [some src26.1, lv deeds, dv names, dv brought, dv many, dv events6, dv last7, dv brought.2, none, none, none, none, lv (([] : List (Tp4 Int Tx (Option Tx) Tx)) : (List (Tp4 Int Tx (Option Tx) Tx))), none, none] _ _ _ _ _ _
    refine s_forE ?_
    refine e_rng2 ?_
    refine e_pu (pu_cons (pu_var (by rfl)) (pu_cons (pu_fz (pu_op (z := (S.d (Enc.enc (brought.2 + (20 : Int))))) (pu_var (by rfl)) (pu_c (d := Enc.enc (20 : Int))) rfl)) pu_nil)) ?_
    refine c_rng2 (m := brought.2) (n := (brought.2 + (20 : Int))) ?_
    refine c_for (e := Enc.enc) (xs := ((rangeT2 brought.2 (Int.toNat ((brought.2 + (20 : Int)) - brought.2))) : (List Int))) (v := ([] : List (Tp4 Int Tx (Option Tx) Tx))) (fun v => [some src26.1, lv deeds, dv names, dv brought, dv many, dv events6, dv last7, dv brought.2, none, none, none, none, lv v, none, none]) (fun i27 v => [some src26.1, lv deeds, dv names, dv brought, dv many, dv events6, dv last7, dv brought.2, none, none, none, none, lv v, dv i27, none]) (mt_k (mt_k (mt_k (mt_k (mt_k (mt_k (mt_k (mt_k (mt_w (mt_w (mt_w (mt_w (mt_k (mt_w (mt_w mt_nil))))))))))))))) (fun i27 v => tg_name) (fun i27 v => ?_) (fun v => ?_)
    · revert v; intro row29
      show SK [some src26.1, lv deeds, dv names, dv brought, dv many, dv events6, dv last7, dv brought.2, none, none, none, none, lv row29, dv i27, none] _ _ _ _ _
      refine s_drop ?_
      refine e_ext (by rfl) ?_
      refine e_fz ?_
      refine e_lcE ?_
      refine e_items ?_
      refine e_pu (pu_var (by rfl)) ?_
      refine e_ok ?_
      refine c_lcp (e := Enc.enc) (xs := events6) (p := fun (i30 : (Tp4 Int Tx (Option Tx) Tx)) => (decide (i30.a = i27))) (h := fun i30 => i30) [some src26.1, lv deeds, dv names, dv brought, dv many, dv events6, dv last7, dv brought.2, none, none, none, none, lv row29, dv i27, none] (fun i30 => [some src26.1, lv deeds, dv names, dv brought, dv many, dv events6, dv last7, dv brought.2, none, none, none, none, lv row29, dv i27, dv i30]) (mt_k (mt_k (mt_k (mt_k (mt_k (mt_k (mt_k (mt_k (mt_w (mt_w (mt_w (mt_w (mt_k (mt_k (mt_w mt_nil))))))))))))))) (fun i30 => tg_name) (fun i30 => (pu_B (pu_op (z := (Enc.enc ((decide (i30.a = i27)) : Bool))) (pu_ixP (z := (Enc.enc i30.a)) (by rfl) (pu_c (d := Enc.enc (0 : Int))) rfl) (pu_peek (by rfl)) (eq_enc i30.a i27)))) (fun i30 => (pu_var (by rfl))) (fun i30 => (mt_k (mt_k (mt_k (mt_k (mt_k (mt_k (mt_k (mt_k (mt_w (mt_w (mt_w (mt_w (mt_k (mt_k (mt_w mt_nil)))))))))))))))) (fun l31 => ?_)
      refine e_ok ?_
      refine c_ext (xs := row29) (ys := l31) (by rfl) rfl ?_
      exact k_ok rfl (mt_k (mt_k (mt_k (mt_k (mt_k (mt_k (mt_k (mt_k (mt_w (mt_w (mt_w (mt_w (mt_k (mt_w (mt_w mt_nil)))))))))))))))
    revert v; intro row29
    show SK [some src26.1, lv deeds, dv names, dv brought, dv many, dv events6, dv last7, dv brought.2, none, none, none, none, lv row29, none, none] _ _ _ _ _
    refine s_then ?_
    refine s_ret ?_
    refine e_move (by rfl) (by intro _ h; cases h) ?_
    exact f_rt rfl (mt_k (mt_k (mt_k (mt_w (mt_w mt_nil)))))
def t_Folk_death (name : Tx) (arrivals : (Dt Tx Int)) (ranks : (List (Tp3 Tx Int Int))) (deaths : (Dt Tx (Int × Tx))) : T Empty ((Option (Int × Tx))) :=
  .ok (dget deaths name)
theorem r_Folk_death (name : Tx) (arrivals : (Dt Tx Int)) (ranks : (List (Tp3 Tx Int Int))) (deaths : (Dt Tx (Int × Tx))) : SK [none, dv name, kv arrivals, lv ranks, kv deaths] Lw.m_Folk_death (t_Folk_death name arrivals ranks deaths) (fun r => (S.d (Enc.enc r))) (fun r => [none, none, kv arrivals, lv ranks, kv deaths]) XV := by
  unfold Lw.m_Folk_death Lw.g_Folk_death t_Folk_death
  refine f_def (X' := XV) ?_ xe_no
  show SK [none, dv name, kv arrivals, lv ranks, kv deaths] _ _ _ _ _
  refine s_ret ?_
  refine e_pu (pu_d (pu_dgetNK (d := deaths) (x := name) (by rfl) (pu_var (by rfl)))) ?_
  exact f_rt rfl (mt_w (mt_w (mt_k (mt_k (mt_k mt_nil)))))
def t_leave (steps : (List (Tp4 Int Tx (Option Tx) Tx))) (day : Int) (arrivals : (Dt Tx Int)) (ranks : (List (Tp3 Tx Int Int))) (deaths : (Dt Tx (Int × Tx))) : T Empty ((List (Tp4 Int Tx (Option Tx) Tx))) :=
  (T.whileM 100 (steps : (List (Tp4 Int Tx (Option Tx) Tx))) (fun steps2 => (((T.ofO (atI steps2 (-1 : Int))).bind fun x3 =>
  (t_Folk_dead x3.d day arrivals ranks deaths).bind fun r4 =>
  .ok r4) : T Empty (Bool))) (fun steps2 => (((T.ofO (atI steps2 (-1 : Int))).bind fun x5 =>
  (t_Folk_death x5.d arrivals ranks deaths).bind fun r6 =>
  (T.ofO r6).bind fun u7 =>
  (T.ofO (atI steps2 (-1 : Int))).bind fun x8 =>
  T.gd (steps2.length < sizeLine) <|
  .ok (steps2 ++ [(Tp4.mk (maxT u7.1 x8.a) (tx "left") (some x5.d) u7.2)])) : T Empty ((List (Tp4 Int Tx (Option Tx) Tx)))))).bind fun steps2 =>
  .ok steps2
theorem r_leave (steps : (List (Tp4 Int Tx (Option Tx) Tx))) (day : Int) (arrivals : (Dt Tx Int)) (ranks : (List (Tp3 Tx Int Int))) (deaths : (Dt Tx (Int × Tx))) : SK [lv steps, none, dv day, kv arrivals, lv ranks, kv deaths] Lw.m_leave (t_leave steps day arrivals ranks deaths) (fun r => (S.d .none)) (fun r => [lv r, none, none, kv arrivals, lv ranks, kv deaths]) XV := by
  unfold Lw.m_leave Lw.g_leave t_leave
  refine f_def (X' := XV) ?_ xe_no
  show SK [lv steps, none, dv day, kv arrivals, lv ranks, kv deaths, none, none, none] _ _ _ _ _
  refine s_while (m := 100) (v := (steps : (List (Tp4 Int Tx (Option Tx) Tx)))) (fun v => [lv v, none, dv day, kv arrivals, lv ranks, kv deaths, none, none, none]) (mt_k (mt_w (mt_k (mt_k (mt_k (mt_k (mt_w (mt_w (mt_w mt_nil))))))))) (fun v => ?_) (fun v => ?_) (fun v => ?_)
  · revert v; intro steps2
    show SK [lv steps2, none, dv day, kv arrivals, lv ranks, kv deaths, none, none, none] _ _ _ _ _
    refine e_id ?_
    refine e_B ?_
    refine e_fz ?_
    refine e_callG ?_
    refine ag_o ?_
    refine ag_d ?_
    refine e_op ?_
    refine e_ixP (by rfl) ?_
    refine e_pu (pu_un (z := (Enc.enc ((-1 : Int) : Int))) (pu_c (d := Enc.enc (1 : Int))) rfl) ?_
    refine e_pu (pu_peekL (by rfl)) ?_
    refine e_oO (p := atI steps2 (-1 : Int)) (f := Enc.enc) (ix_l steps2 (-1 : Int)) (fun x3 => ?_)
    refine e_pu (pu_c (d := Enc.enc (3 : Int))) ?_
    refine e_o (z := (Enc.enc x3.d)) rfl ?_
    refine ag_d ?_
    refine e_pu (pu_var (by rfl)) ?_
    refine ag_nil ?_
    refine c_call (by show List.Nodup [1, 3, 4, 5]; decide) rfl (r_Folk_dead x3.d day arrivals ranks deaths) xe_no ?_
    rintro r4
    show SK [lv steps2, none, dv day, kv arrivals, lv ranks, kv deaths, none, none, none] _ _ _ _ _
    refine e_ok ?_
    refine e_ok ?_
    exact k_ok rfl (mt_k (mt_w (mt_k (mt_k (mt_k (mt_k (mt_w (mt_w (mt_w mt_nil)))))))))
  · revert v; intro steps2
    show SK [lv steps2, none, dv day, kv arrivals, lv ranks, kv deaths, none, none, none] _ _ _ _ _
    refine s_seq ?_
    refine s_asg ?_
    refine e_d ?_
    refine e_op ?_
    refine e_ixP (by rfl) ?_
    refine e_pu (pu_un (z := (Enc.enc ((-1 : Int) : Int))) (pu_c (d := Enc.enc (1 : Int))) rfl) ?_
    refine e_pu (pu_peekL (by rfl)) ?_
    refine e_oO (p := atI steps2 (-1 : Int)) (f := Enc.enc) (ix_l steps2 (-1 : Int)) (fun x5 => ?_)
    refine e_pu (pu_c (d := Enc.enc (3 : Int))) ?_
    refine e_o (z := (Enc.enc x5.d)) rfl ?_
    refine s_set rfl ?_
    refine s_then ?_
    refine s_seq ?_
    refine s_asgTE ?_
    refine e_fz ?_
    refine e_callG ?_
    refine ag_o ?_
    refine ag_d ?_
    refine e_pu (pu_var (by rfl)) ?_
    refine ag_nil ?_
    refine c_call (by show List.Nodup [1, 3, 4, 5]; decide) rfl (r_Folk_death x5.d arrivals ranks deaths) xe_no ?_
    rintro r6
    show SK [lv steps2, none, dv day, kv arrivals, lv ranks, kv deaths, dv x5.d, none, none] _ _ _ _ _
    refine e_ok ?_
    rcases hhu7 : r6 with _ | u7
    · exact k_no
    refine k_some ?_
    refine s_asgTQ (tg_tup (tgs_cons tg_name (tgs_cons tg_name tgs_nil)) rfl) ?_
    refine s_then ?_
    refine s_drop ?_
    refine e_app (by rfl) ?_
    refine e_tup ?_
    refine e_cons ?_
    refine e_gA ?_
    refine e_cons ?_
    refine e_pu (pu_var (by rfl)) ?_
    refine e_cons ?_
    refine e_op ?_
    refine e_ixP (by rfl) ?_
    refine e_pu (pu_un (z := (Enc.enc ((-1 : Int) : Int))) (pu_c (d := Enc.enc (1 : Int))) rfl) ?_
    refine e_pu (pu_peekL (by rfl)) ?_
    refine e_oO (p := atI steps2 (-1 : Int)) (f := Enc.enc) (ix_l steps2 (-1 : Int)) (fun x8 => ?_)
    refine e_pu (pu_c (d := Enc.enc (0 : Int))) ?_
    refine e_o (z := (Enc.enc x8.a)) rfl ?_
    refine e_pu pu_nil ?_
    refine e_o (z := (Enc.enc ((maxT u7.1 x8.a) : Int))) rfl ?_
    refine e_pu (pu_cons (pu_str "left") (pu_cons (pu_var (by rfl)) (pu_cons (pu_var (by rfl)) pu_nil))) ?_
    refine e_iteP (lnS (n := 4) rfl) ?_
    refine e_ok ?_
    refine c_app (xs := steps2) (x := ((Tp4.mk (maxT u7.1 x8.a) (tx "left") (some x5.d) u7.2) : (Tp4 Int Tx (Option Tx) Tx))) (by rfl) rfl ?_
    exact k_ok rfl (mt_k (mt_w (mt_k (mt_k (mt_k (mt_k (mt_w (mt_w (mt_w mt_nil)))))))))
  revert v; intro steps2
  show SK [lv steps2, none, dv day, kv arrivals, lv ranks, kv deaths, none, none, none] _ _ _ _ _
  exact f_nx rfl (mt_k (mt_w (mt_w (mt_k (mt_k (mt_k mt_nil))))))
def t_road (brought : Oath) (events : (List (Tp4 Int Tx (Option Tx) Tx))) (day : Int) (arrivals : (Dt Tx Int)) (ranks : (List (Tp3 Tx Int Int))) (deaths : (Dt Tx (Int × Tx))) : T Empty ((List (Tp4 Int Tx (Option Tx) Tx))) :=
  if (decide (day < brought.2)) = true then (.ok ([] : List (Tp4 Int Tx (Option Tx) Tx))) else ((T.ofO (srtK0T events)).bind fun x1 =>
  T.bindL (T.forL x1 (([(Tp4.mk brought.2 (tx "brought") (none : (Option Tx)) brought.1)] : List (Tp4 Int Tx (Option Tx) Tx)) : (List (Tp4 Int Tx (Option Tx) Tx))) (fun (i2 : (Tp4 Int Tx (Option Tx) Tx)) steps4 => ((if (decide (day < i2.a)) = true then (.ok (.bk steps4)) else ((t_leave steps4 i2.a arrivals ranks deaths).bind fun steps6 =>
  (T.ofO (atI steps6 (-1 : Int))).bind fun x7 =>
  if (decide (i2.b = (tx "won"))) = true then (T.gd (steps6.length < sizeLine) <|
  .ok (.nx (steps6 ++ [(Tp4.mk i2.a (tx "won") (some x7.d) i2.d)]))) else (if (decide (((some x7.d) : (Option Tx)) = i2.c)) = true then (T.gd (steps6.length < sizeLine) <|
  .ok (.nx (steps6 ++ [(Tp4.mk i2.a (tx "given") i2.c i2.d)]))) else (.ok (.nx steps6))))) : T Empty (T.Lp ((List (Tp4 Int Tx (Option Tx) Tx))) (Unit))))) (fun steps4 =>
  (t_leave steps4 day arrivals ranks deaths).bind fun steps9 =>
  .ok steps9) (fun _ => .no))
theorem r_road (brought : Oath) (events : (List (Tp4 Int Tx (Option Tx) Tx))) (day : Int) (arrivals : (Dt Tx Int)) (ranks : (List (Tp3 Tx Int Int))) (deaths : (Dt Tx (Int × Tx))) : SK [dv brought, dv events, none, dv day, kv arrivals, lv ranks, kv deaths] Lw.m_road (t_road brought events day arrivals ranks deaths) (fun r => (S.ol (List.map Enc.enc r))) (fun r => [none, none, none, none, kv arrivals, lv ranks, kv deaths]) XV := by
  unfold Lw.m_road Lw.g_road t_road
  refine f_def (X' := XV) ?_ xe_no
  show SK [dv brought, dv events, none, dv day, kv arrivals, lv ranks, kv deaths, none, none, none, none, none, none] _ _ _ _ _
  refine s_seq ?_
  refine s_if (x := (decide (day < brought.2))) (pu_B (pu_op (z := (Enc.enc ((decide (day < brought.2)) : Bool))) (pu_peek (by rfl)) (pu_ixP (z := (Enc.enc brought.2)) (by rfl) (pu_c (d := Enc.enc (1 : Int))) rfl) rfl)) ?_ ?_
  · refine s_ret ?_
    refine e_pu (pu_lst pu_nil (ln (n := 0) rfl)) ?_
    exact f_rt rfl (mt_w (mt_w (mt_w (mt_w (mt_k (mt_k (mt_k mt_nil)))))))
  · refine s_next ?_
    refine s_then ?_
    refine s_seq ?_
    refine s_asg ?_
    refine e_pu (pu_lst (pu_cons (pu_tup (pu_cons (pu_ixP (z := (Enc.enc brought.2)) (by rfl) (pu_c (d := Enc.enc (1 : Int))) rfl) (pu_cons (pu_str "brought") (pu_cons pu_c (pu_cons (pu_ixP (z := (Enc.enc brought.1)) (by rfl) (pu_c (d := Enc.enc (0 : Int))) rfl) pu_nil)))) (ln (n := 4) rfl)) pu_nil) (ln (n := 1) rfl)) ?_
    refine s_set (A' := [dv brought, dv events, none, dv day, kv arrivals, lv ranks, kv deaths, lv (([(Tp4.mk brought.2 (tx "brought") (none : (Option Tx)) brought.1)] : List (Tp4 Int Tx (Option Tx) Tx)) : (List (Tp4 Int Tx (Option Tx) Tx))), none, none, none, none, none]) rfl ?_
    refine s_then ?_
    refine s_seq ?_
    refine s_forE ?_
    refine e_items ?_
    refine e_fz ?_
    refine e_un ?_
    refine e_pu (pu_var (by rfl)) ?_
    refine e_oO (p := srtK0T events) (f := (fun z => S.ol (List.map Enc.enc z))) (srtK0_l _) (fun x1 => ?_)
    refine e_ok ?_
    refine e_ok ?_
    refine c_forL (e := Enc.enc) (xs := x1) (v := (([(Tp4.mk brought.2 (tx "brought") (none : (Option Tx)) brought.1)] : List (Tp4 Int Tx (Option Tx) Tx)) : (List (Tp4 Int Tx (Option Tx) Tx)))) (fun v => [dv brought, dv events, none, dv day, kv arrivals, lv ranks, kv deaths, lv v, none, none, none, none, none]) (fun r => [none, none, none, none, kv arrivals, lv ranks, kv deaths, none, none, none, none, none, none]) (fun (r : Unit) => (S.d .none)) (fun i2 v => [dv brought, dv events, none, dv day, kv arrivals, lv ranks, kv deaths, lv v, dv i2.a, dv i2.b, dv i2.c, dv i2.d, none]) (mt_k (mt_k (mt_w (mt_k (mt_k (mt_k (mt_k (mt_k (mt_w (mt_w (mt_w (mt_w (mt_w mt_nil))))))))))))) (fun i2 v => (tg_tup (tgs_cons tg_name (tgs_cons tg_name (tgs_cons tg_name (tgs_cons tg_name tgs_nil)))) rfl)) (fun i2 v => ?_) (fun v => ?_) (fun r => ?_)
    · revert v; intro steps4
      show SK [dv brought, dv events, none, dv day, kv arrivals, lv ranks, kv deaths, lv steps4, dv i2.a, dv i2.b, dv i2.c, dv i2.d, none] _ _ _ _ _
      refine s_seq ?_
      refine s_if (x := (decide (day < i2.a))) (pu_B (pu_op (z := (Enc.enc ((decide (day < i2.a)) : Bool))) (pu_peek (by rfl)) (pu_peek (by rfl)) rfl)) ?_ ?_
      · refine s_bk ?_
        exact k_ok rfl (mt_k (mt_k (mt_w (mt_k (mt_k (mt_k (mt_k (mt_k (mt_w (mt_w (mt_w (mt_w (mt_w mt_nil)))))))))))))
      · refine s_next ?_
        refine s_then ?_
        refine s_seq ?_
        refine s_drop ?_
        refine e_callG ?_
        refine ag_r (by rfl) ?_
        refine ag_o ?_
        refine ag_d ?_
        refine e_pu (pu_var (by rfl)) ?_
        refine ag_nil ?_
        refine c_call (by show List.Nodup [7, 2, 4, 5, 6]; decide) rfl (r_leave steps4 i2.a arrivals ranks deaths) xe_no ?_
        rintro steps6
        show SK [dv brought, dv events, none, dv day, kv arrivals, lv ranks, kv deaths, lv steps6, dv i2.a, dv i2.b, dv i2.c, dv i2.d, none] _ _ _ _ _
        refine s_then ?_
        refine s_seq ?_
        refine s_asg ?_
        refine e_d ?_
        refine e_op ?_
        refine e_ixP (by rfl) ?_
        refine e_pu (pu_un (z := (Enc.enc ((-1 : Int) : Int))) (pu_c (d := Enc.enc (1 : Int))) rfl) ?_
        refine e_pu (pu_peekL (by rfl)) ?_
        refine e_oO (p := atI steps6 (-1 : Int)) (f := Enc.enc) (ix_l steps6 (-1 : Int)) (fun x7 => ?_)
        refine e_pu (pu_c (d := Enc.enc (3 : Int))) ?_
        refine e_o (z := (Enc.enc x7.d)) rfl ?_
        refine s_set rfl ?_
        refine s_then ?_
        refine s_if (x := (decide (i2.b = (tx "won")))) (pu_B (pu_op (z := (Enc.enc ((decide (i2.b = (tx "won"))) : Bool))) (pu_peek (by rfl)) (pu_str "won") (eq_enc i2.b ((tx "won") : Tx)))) ?_ ?_
        · refine s_drop ?_
          refine e_app (by rfl) ?_
          refine e_pu (pu_tup (pu_cons (pu_var (by rfl)) (pu_cons (pu_str "won") (pu_cons (pu_var (by rfl)) (pu_cons (pu_var (by rfl)) pu_nil)))) (ln (n := 4) rfl)) ?_
          refine c_app (xs := steps6) (x := ((Tp4.mk i2.a (tx "won") (some x7.d) i2.d) : (Tp4 Int Tx (Option Tx) Tx))) (by rfl) rfl ?_
          exact k_ok rfl (mt_k (mt_k (mt_w (mt_k (mt_k (mt_k (mt_k (mt_k (mt_w (mt_w (mt_w (mt_w (mt_w mt_nil)))))))))))))
        · refine s_if (x := (decide (((some x7.d) : (Option Tx)) = i2.c))) (pu_B (pu_op (z := (Enc.enc ((decide (((some x7.d) : (Option Tx)) = i2.c)) : Bool))) (pu_peek (by rfl)) (pu_peek (by rfl)) (eq_opt ((some x7.d) : (Option Tx)) i2.c))) ?_ ?_
          · refine s_drop ?_
            refine e_app (by rfl) ?_
            refine e_pu (pu_tup (pu_cons (pu_var (by rfl)) (pu_cons (pu_str "given") (pu_cons (pu_var (by rfl)) (pu_cons (pu_var (by rfl)) pu_nil)))) (ln (n := 4) rfl)) ?_
            refine c_app (xs := steps6) (x := ((Tp4.mk i2.a (tx "given") i2.c i2.d) : (Tp4 Int Tx (Option Tx) Tx))) (by rfl) rfl ?_
            exact k_ok rfl (mt_k (mt_k (mt_w (mt_k (mt_k (mt_k (mt_k (mt_k (mt_w (mt_w (mt_w (mt_w (mt_w mt_nil)))))))))))))
          · refine s_next ?_
            exact k_ok rfl (mt_k (mt_k (mt_w (mt_k (mt_k (mt_k (mt_k (mt_k (mt_w (mt_w (mt_w (mt_w (mt_w mt_nil)))))))))))))
    · revert v; intro steps4
      show SK [dv brought, dv events, none, dv day, kv arrivals, lv ranks, kv deaths, lv steps4, none, none, none, none, none] _ _ _ _ _
      refine s_then ?_
      refine s_seq ?_
      refine s_drop ?_
      refine e_callG ?_
      refine ag_r (by rfl) ?_
      refine ag_o ?_
      refine ag_d ?_
      refine e_pu (pu_var (by rfl)) ?_
      refine ag_nil ?_
      refine c_call (by show List.Nodup [7, 2, 4, 5, 6]; decide) rfl (r_leave steps4 day arrivals ranks deaths) xe_no ?_
      rintro steps9
      show SK [dv brought, dv events, none, dv day, kv arrivals, lv ranks, kv deaths, lv steps9, none, none, none, none, none] _ _ _ _ _
      refine s_then ?_
      refine s_ret ?_
      refine e_move (by rfl) (by intro _ h; cases h) ?_
      exact f_rt rfl (mt_w (mt_w (mt_w (mt_w (mt_k (mt_k (mt_k mt_nil)))))))
    · exact k_no
def t_holder (brought : Oath) (events : (List (Tp4 Int Tx (Option Tx) Tx))) (day : Int) (arrivals : (Dt Tx Int)) (ranks : (List (Tp3 Tx Int Int))) (deaths : (Dt Tx (Int × Tx))) : T Empty ((Option Tx)) :=
  (t_road brought events day arrivals ranks deaths).bind fun r1 =>
  if (decide ((((List.length r1 : Nat) : Int) : Int) = (0 : Int))) = true then (.ok (none : (Option Tx))) else ((T.ofO (atI r1 (-1 : Int))).bind fun x2 =>
  .ok (some x2.d))
theorem r_holder (brought : Oath) (events : (List (Tp4 Int Tx (Option Tx) Tx))) (day : Int) (arrivals : (Dt Tx Int)) (ranks : (List (Tp3 Tx Int Int))) (deaths : (Dt Tx (Int × Tx))) : SK [dv brought, dv events, none, dv day, kv arrivals, lv ranks, kv deaths] Lw.m_holder (t_holder brought events day arrivals ranks deaths) (fun r => (S.d (Enc.enc r))) (fun r => [none, none, none, none, kv arrivals, lv ranks, kv deaths]) XV := by
  unfold Lw.m_holder Lw.g_holder t_holder
  refine f_def (X' := XV) ?_ xe_no
  show SK [dv brought, dv events, none, dv day, kv arrivals, lv ranks, kv deaths, none] _ _ _ _ _
  refine s_seq ?_
  refine s_asg ?_
  refine e_callG ?_
  refine ag_d ?_
  refine e_pu (pu_var (by rfl)) ?_
  refine ag_d ?_
  refine e_pu (pu_var (by rfl)) ?_
  refine ag_o ?_
  refine ag_d ?_
  refine e_pu (pu_var (by rfl)) ?_
  refine ag_nil ?_
  refine c_call (by show List.Nodup [2, 4, 5, 6]; decide) rfl (r_road brought events day arrivals ranks deaths) xe_no ?_
  rintro r1
  show SK [dv brought, dv events, none, dv day, kv arrivals, lv ranks, kv deaths, none] _ _ _ _ _
  refine s_set rfl ?_
  refine s_then ?_
  refine s_seq ?_
  refine s_if (x := (decide ((((List.length r1 : Nat) : Int) : Int) = (0 : Int)))) (pu_B (pu_op (z := (Enc.enc ((decide ((((List.length r1 : Nat) : Int) : Int) = (0 : Int))) : Bool))) (pu_un (z := (Enc.enc ((List.length r1 : Nat) : Int))) (pu_peekL (by rfl)) (len_l _)) (pu_c (d := Enc.enc (0 : Int))) (eq_enc (((List.length r1 : Nat) : Int) : Int) ((0 : Int))))) ?_ ?_
  · refine s_ret ?_
    refine e_pu (pu_d pu_c) ?_
    exact f_rt rfl (mt_w (mt_w (mt_w (mt_w (mt_k (mt_k (mt_k mt_nil)))))))
  · refine s_next ?_
    refine s_then ?_
    refine s_ret ?_
    refine e_d ?_
    refine e_op ?_
    refine e_ixP (by rfl) ?_
    refine e_pu (pu_un (z := (Enc.enc ((-1 : Int) : Int))) (pu_c (d := Enc.enc (1 : Int))) rfl) ?_
    refine e_pu (pu_peekL (by rfl)) ?_
    refine e_oO (p := atI r1 (-1 : Int)) (f := Enc.enc) (ix_l r1 (-1 : Int)) (fun x2 => ?_)
    refine e_pu (pu_c (d := Enc.enc (3 : Int))) ?_
    refine e_o (z := (Enc.enc x2.d)) rfl ?_
    exact f_rt rfl (mt_w (mt_w (mt_w (mt_w (mt_k (mt_k (mt_k mt_nil)))))))
end Ty

namespace Ty
open PySem VS L2
structure Fk (ns : List Tx) (ds : List Di) (arr : Dt Tx Int) (de : Des) : Prop where
  f : Fd ns ds arr de
  ad : ∀ p ∈ arr, 0 ≤ p.2 ∧ p.2 ≤ 5
  dd : ∀ p ∈ de, 6 ≤ p.2.1 ∧ p.2.1 ≤ 25
theorem Fk.at_ {ns : List Tx} {ds : List Di} {arr : Dt Tx Int} {de : Des} (k : Fk ns ds arr de) {n : Tx} (h : n ∈ ns) : ∃ v, dget arr n = some v ∧ 0 ≤ v ∧ v ≤ 5 := by
  rw [← k.f.nm] at h
  obtain ⟨v, h1, h2⟩ := dget_mem2 h
  exact ⟨v, h1, k.ad _ h2⟩
theorem Fk.die {ns : List Tx} {ds : List Di} {arr : Dt Tx Int} {de : Des} (k : Fk ns ds arr de) {x h : Tx} {d : Int} (hx : x ∈ ns) (hh : h ∈ ns) (hne : h ≠ x) (h2 : dget de h = none) (hd : 6 ≤ d ∧ d ≤ 25) : Fk ns (ds ++ [Tp4.mk (tx "die") x d (Itx.t h)]) arr (de ++ [(x, (d, h))]) :=
  ⟨k.f.die hx hh hne h2, k.ad, fun p hp => by
    rcases List.mem_append.mp hp with hp | hp
    · exact k.dd p hp
    · rw [List.mem_singleton] at hp
      subst hp
      exact hd⟩
theorem Fk.dies {ns : List Tx} {ds : List Di} {arr : Dt Tx Int} {de : Des} (k : Fk ns ds arr de) {x h : Tx} {d : Int} (hx : x ∈ ns) (hh : h ∈ ns) (hne : h ≠ x) (h1 : dget de x = none) (h2 : dget de h = none) (hd : 6 ≤ d ∧ d ≤ 25) (hl : de.length ≤ 1000) (rks : List (Tp3 Tx Int Int)) : t_Folk_die x d h arr rks de = .ok (de ++ [(x, (d, h))]) := by
  obtain ⟨a, ha, _, _⟩ := k.at_ hx
  obtain ⟨b, hb, _, _⟩ := k.at_ hh
  exact die_ok k.f hne h1 h2 ⟨by omega, by omega⟩ ha hb (by omega) (by omega) hl rks
theorem folk_spec (s : SrcT) {ns : List Tx} (hg : ∀ n ∈ ns, GoodT n) (hn : ns.Nodup) (hl : ns.length ≤ 8) : (t_law_folk s ns [] [] []).Post fun r => Fk ns r.1 r.2.2.1 r.2.2.2.2 ∧ r.2.2.2.2.length ≤ 5 ∧ r.1.length ≤ 13 := by
  unfold t_law_folk
  refine post_bind (forM_post (fun pre (v : SrcT × Dt Tx Int × List (Tp3 Tx Int Int) × List Di) => Fk pre v.2.2.2 v.2.1 [] ∧ v.2.2.2.length = pre.length ∧ v.2.2.1.length = pre.length) ⟨⟨⟨rfl, rfl, by simp, rfl, by simp, fun pre post n v e => by cases pre <;> cases e⟩, by simp, by simp⟩, rfl, rfl⟩ ?_) ?_
  · rintro pre x post ⟨src, arr, rks, ds⟩ hx ⟨k, h1, h2⟩
    dsimp only at k h1 h2 ⊢
    have hxl : pre.length < 8 := by
      have := congrArg List.length hx
      rw [List.length_append, List.length_cons] at this
      omega
    have hxm : x ∈ ns := by rw [hx]; simp
    have hxn : x ∉ pre := fun z => by
      rw [hx, List.nodup_append] at hn
      exact hn.2.2 x z x List.mem_cons_self rfl
    have hal : arr.length = pre.length := by rw [← k.f.nm, List.length_map]
    obtain ⟨dy, s1, e1, q0, q1⟩ := next_spec src (n := 6) (by omega)
    rw [e1, T.ok_bind]
    dsimp only
    rw [come_ok2 (hg x hxm) (by rw [k.f.nm]; exact hxn) (by omega) (by omega) ⟨by omega, by omega⟩ ⟨by omega, by omega⟩, T.ok_bind]
    dsimp only
    refine post_gd (szl _ (by omega)) (post_ok ⟨⟨⟨?_, ?_, fun p hp => ?_, ?_, by simp, fun pre post n v e => by cases pre <;> cases e⟩, fun p hp => ?_, by simp⟩, by simp [h1], by simp [h2]⟩)
    · rw [k.f.ar]
      unfold comes2
      dsimp only
      rw [List.filterMap_append, List.filterMap_cons, if_pos (show tx "come" = comeX from rfl), List.filterMap_nil]
    · dsimp only
      rw [List.map_append, k.f.nm]
      rfl
    · dsimp only at hp
      rcases List.mem_append.mp hp with hp | hp
      · exact k.f.kd p hp
      · rw [List.mem_singleton] at hp
        subst hp
        exact ⟨by dsimp only; omega, by dsimp only; omega⟩
    · have := k.f.di
      unfold Ty.dies at this ⊢
      dsimp only
      rw [List.filterMap_append, this, List.filterMap_cons, if_neg (show ¬ (tx "come" = dieX) from come_die), List.filterMap_nil]
      rfl
    · dsimp only at hp
      rcases List.mem_append.mp hp with hp | hp
      · exact k.ad p hp
      · rw [List.mem_singleton] at hp
        subst hp
        exact ⟨by dsimp only; omega, by dsimp only; omega⟩
  rintro ⟨src, arr, rks, ds⟩ ⟨k, h1, h2⟩
  dsimp only at k h1 h2 ⊢
  obtain ⟨r15, s16, e15, q0, q1⟩ := next_spec src (n := 6) (by omega)
  rw [e15, T.ok_bind]
  dsimp only
  refine post_gd (inR_s (by omega) (by omega)) ?_
  refine post_bind (forM_post (fun pre (v : SrcT × Des × List Di × List Tx) => Fk ns v.2.2.1 arr v.2.1 ∧ v.2.2.2.Nodup ∧ (∀ n ∈ v.2.2.2, n ∈ ns ∧ dget v.2.1 n = none) ∧ v.2.1.length ≤ pre.length ∧ v.2.2.1.length = ns.length + v.2.1.length ∧ v.2.2.2.length + v.2.1.length = ns.length) ⟨k, hn, fun n hn => ⟨hn, rfl⟩, by simp, by simpa using h1, by simp⟩ ?_) ?_
  · rintro pre x post ⟨src2, de, ds2, liv⟩ hx ⟨k2, g1, g2, g3, g4, g5⟩
    dsimp only at k2 g1 g2 g3 g4 g5 ⊢
    have hpl : pre.length < 5 := by
      have := congrArg List.length hx
      rw [List.length_append, List.length_cons, rangeT_len] at this
      omega
    by_cases hl2 : (1 : Int) < (liv.length : Int)
    · rw [if_pos (by simpa using hl2)]
      obtain ⟨kk, s3, ek, k0, k1⟩ := next_spec src2 (n := (liv.length : Int)) ⟨by omega, by omega⟩
      rw [ek, T.ok_bind]
      dsimp only
      obtain ⟨j, rfl⟩ := Int.eq_ofNat_of_zero_le k0
      have hj : j < liv.length := by omega
      have hll : liv.length ≤ 8 := by omega
      refine post_ofO (popT_nat hj (by omega)) ?_
      dsimp only
      have hl3 : (liv.eraseIdx j).length = liv.length - 1 := List.length_eraseIdx_of_lt hj
      obtain ⟨k2', s4, ek2, k20, k21⟩ := next_spec s3 (n := ((liv.eraseIdx j).length : Int)) (by omega)
      rw [ek2, T.ok_bind]
      dsimp only
      obtain ⟨j2, rfl⟩ := Int.eq_ofNat_of_zero_le k20
      have hj2 : j2 < (liv.eraseIdx j).length := by omega
      refine post_ofO (by rw [atI_n, List.getElem?_eq_getElem hj2]) ?_
      have hxm : liv[j] ∈ liv := List.getElem_mem hj
      have hxe : liv[j] ∉ liv.eraseIdx j := erase_not g1 hj
      have hhm : (liv.eraseIdx j)[j2] ∈ liv.eraseIdx j := List.getElem_mem hj2
      generalize (liv.eraseIdx j)[j2] = hh at hhm
      generalize liv[j] = xx at hxm hxe
      have hne : hh ≠ xx := fun z => hxe (z ▸ hhm)
      obtain ⟨x1, x2⟩ := g2 xx hxm
      obtain ⟨y1, y2⟩ := g2 hh (mem_erase hhm)
      obtain ⟨r33, s34, e33, d0, d1⟩ := next_spec s4 (n := 20) (by omega)
      rw [e33, T.ok_bind]
      dsimp only
      rw [k2.dies x1 y1 hne x2 y2 ⟨by omega, by omega⟩ (by omega) rks, T.ok_bind]
      refine post_gd (szl _ (by omega)) (post_ok ⟨k2.die x1 y1 hne y2 ⟨by omega, by omega⟩, nodup_erase g1 j, fun n hn => ⟨(g2 n (mem_erase hn)).1, dget_snoc _ _ _ _ (g2 n (mem_erase hn)).2 fun z => hxe (z ▸ hn)⟩, ?_, ?_, ?_⟩)
      · dsimp only
        rw [List.length_append, List.length_append, List.length_singleton, List.length_singleton]
        omega
      · dsimp only
        rw [List.length_append, List.length_append, List.length_singleton, List.length_singleton]
        omega
      · dsimp only
        rw [List.length_append, List.length_singleton]
        omega
    · rw [if_neg (by simpa using hl2)]
      exact post_ok ⟨k2, g1, g2, by dsimp only; rw [List.length_append]; omega, g4, g5⟩
  rintro ⟨src3, de3, ds3, liv3⟩ ⟨k3, _, _, g3, g4, _⟩
  dsimp only at k3 g3 g4 ⊢
  rw [rangeT_len] at g3
  exact post_ok ⟨k3, by dsimp only; omega, by dsimp only; omega⟩
abbrev Stp := Tp4 Int Tx (Option Tx) Tx
theorem heir_ok {ns : List Tx} {ds : List Di} {arr : Dt Tx Int} {de : Des} (f : Fd ns ds arr de) (hdl : de.length ≤ 40) (n : Tx) (d : Int) : ∃ r j, Heir de d n r j ∧ t_law_heir ds n d = .ok r := by
  obtain ⟨r, j, hr, hj⟩ := heir_any f d n
  refine ⟨r, j, hr, ?_⟩
  unfold t_law_heir
  rw [T.gd_of (inR_s (by omega) (by omega)), loop_heir f hr _ (by rw [rangeT_len]; show j < 41; omega)]
  rfl
theorem events_spec (s : SrcT) {ns : List Tx} {ds : List Di} {arr : Dt Tx Int} {de : Des} (k : Fk ns ds arr de) (hdl : de.length ≤ 40) (h0 : 0 < ns.length) (hl : ns.length ≤ 8) {b : Oath} {m : Int} (hb : 5 ≤ b.2 ∧ b.2 ≤ 12) (hm : 0 ≤ m ∧ m ≤ 14) : (t_law_events s ds ns b m).Post fun r => r.1.length ≤ 14 ∧ ∀ e ∈ r.1, b.2 ≤ e.a ∧ e.a < b.2 + 20 ∧ e.d ∈ ns ∧ ((e.b = tx "won" ∧ e.c = none) ∨ e.b = tx "given") := by
  unfold t_law_events
  refine post_gd (inR_s (by omega) (by omega)) ?_
  refine post_bind (forM_post (fun pre (v : SrcT × List Stp × Tx) => v.2.1.length = pre.length ∧ ∀ e ∈ v.2.1, b.2 ≤ e.a ∧ e.a < b.2 + 20 ∧ e.d ∈ ns ∧ ((e.b = tx "won" ∧ e.c = none) ∨ e.b = tx "given")) ⟨rfl, by simp⟩ ?_) ?_
  · rintro pre x post ⟨src, evs, last⟩ hx ⟨h1, h2⟩
    dsimp only at h1 h2 ⊢
    have hpl : pre.length < 14 := by
      have := congrArg List.length hx
      rw [List.length_append, List.length_cons, rangeT_len] at this
      omega
    obtain ⟨r8, s9, e8, a0, a1⟩ := next_spec src (n := 20) (by omega)
    rw [e8, T.ok_bind]
    dsimp only
    obtain ⟨r10, s11, e10, b0, b1⟩ := next_spec s9 (n := (ns.length : Int)) (by omega)
    rw [e10, T.ok_bind]
    dsimp only
    obtain ⟨j, rfl⟩ := Int.eq_ofNat_of_zero_le b0
    have hj : j < ns.length := by omega
    refine post_ofO (by rw [atI_n, List.getElem?_eq_getElem hj]) ?_
    have hxm : ns[j] ∈ ns := List.getElem_mem hj
    generalize ns[j] = xx at hxm
    obtain ⟨r13, s14, e13, c0, c1⟩ := next_spec s11 (n := (ns.length : Int)) (by omega)
    rw [e13, T.ok_bind]
    dsimp only
    obtain ⟨j2, rfl⟩ := Int.eq_ofNat_of_zero_le c0
    have hj2 : j2 < ns.length := by omega
    refine post_ofO (by rw [atI_n, List.getElem?_eq_getElem hj2]) ?_
    refine post_bind (P := fun _ => True) ?_ ?_
    · obtain ⟨r18, s19, e18, _, _⟩ := next_spec s14 (n := 3) (by omega)
      rw [e18, T.ok_bind]
      dsimp only
      split
      · obtain ⟨r, _, _, hr⟩ := heir_ok k.f hdl last (b.2 + r8)
        rw [hr, T.ok_bind]
        exact post_ok trivial
      · exact post_ok trivial
    rintro ⟨s16, giver⟩ _
    dsimp only
    have new : ∀ (w : Tx) (g : Option Tx), ((w = tx "won" ∧ g = none) ∨ w = tx "given") → ∀ e ∈ evs ++ [Tp4.mk (b.2 + r8) w g xx], b.2 ≤ e.a ∧ e.a < b.2 + 20 ∧ e.d ∈ ns ∧ ((e.b = tx "won" ∧ e.c = none) ∨ e.b = tx "given") := fun w g hw e he => by
      rcases List.mem_append.mp he with he | he
      · exact h2 e he
      · rw [List.mem_singleton] at he
        subst he
        exact ⟨by dsimp only; omega, by dsimp only; omega, hxm, hw⟩
    refine post_bind (P := fun v : SrcT × List Stp => v.2.length = pre.length + 1 ∧ ∀ e ∈ v.2, b.2 ≤ e.a ∧ e.a < b.2 + 20 ∧ e.d ∈ ns ∧ ((e.b = tx "won" ∧ e.c = none) ∨ e.b = tx "given")) ?_ ?_
    · obtain ⟨r23, s24, e23, _, _⟩ := next_spec s16 (n := 3) (by omega)
      rw [e23, T.ok_bind]
      dsimp only
      split
      · exact post_gd (szl _ (by omega)) (post_ok ⟨by simp [h1], new _ _ (.inl ⟨rfl, rfl⟩)⟩)
      · exact post_gd (szl _ (by omega)) (post_ok ⟨by simp [h1], new _ _ (.inr rfl)⟩)
    rintro ⟨s21, evs2⟩ ⟨g1, g2⟩
    exact post_ok ⟨by dsimp only at g1 ⊢; rw [g1]; simp, g2⟩
  rintro ⟨s5, evs, last⟩ ⟨h1, h2⟩
  dsimp only at h1 h2 ⊢
  rw [rangeT_len] at h1
  obtain ⟨r25, s26, e25, _, _⟩ := next_spec s5 (n := 2) (by omega)
  rw [e25, T.ok_bind]
  dsimp only
  split
  · exact post_ok ⟨by dsimp only; omega, h2⟩
  · refine post_gd ⟨inR_s (by omega) (by omega), inR_s (by omega) (by omega)⟩ ?_
    refine post_bind (P := fun row : List Stp => row.length ≤ 14 ∧ ∀ e ∈ row, e ∈ evs) ?_ ?_
    · have hn20 : (b.2 + 20 - b.2).toNat = 20 := by omega
      rw [hn20]
      refine post_imp (forM_post (fun pre (v : List Stp) => (∀ e ∈ v, e ∈ evs) ∧ v.length = (evs.filter fun e => memT e.a pre).length) ⟨by simp, (by
        rw [List.filter_eq_nil_iff.mpr (fun e _ => by simp [memT])])⟩ ?_) ?_
      · rintro pre x post row hx ⟨g1, g2⟩
        rw [lcp_ok (by omega), T.ok_bind]
        have hsum : row.length + (List.map (fun x => x) (evs.filter fun i30 => decide (i30.a = x))).length = (evs.filter fun e => memT e.a (pre ++ [x])).length := by
          have hnd : (rangeT2 b.2 20).Nodup := by
            unfold rangeT2
            exact List.Pairwise.map _ (fun a b' (h : a ≠ b') => by omega) List.nodup_range
          have hxn : x ∉ pre := fun z => by
            rw [hx, List.nodup_append] at hnd
            exact hnd.2.2 x z x List.mem_cons_self rfl
          rw [g2, List.map_id', ← List.countP_eq_length_filter, ← List.countP_eq_length_filter, ← List.countP_eq_length_filter]
          clear g2 g1 h1 h2
          induction evs with
          | nil => rfl
          | cons e evs ih =>
            rw [List.countP_cons, List.countP_cons, List.countP_cons]
            by_cases z : e.a = x
            · have m1 : memT e.a pre = false := by
                rw [Bool.eq_false_iff]
                intro q
                exact hxn (z ▸ (memT_iff _ _).mp q)
              have m2 : memT e.a (pre ++ [x]) = true := (memT_iff _ _).mpr (by rw [z]; simp)
              rw [m1, m2, decide_eq_true z]
              simp only [Bool.false_eq_true, if_false, if_true]
              omega
            · have m : memT e.a (pre ++ [x]) = memT e.a pre := by
                unfold memT
                rw [decide_eq_decide, List.mem_append, List.mem_singleton]
                exact ⟨fun q => q.resolve_right z, .inl⟩
              rw [m, decide_eq_false z]
              simp only [Bool.false_eq_true, if_false]
              omega
        have hle : (evs.filter fun e => memT e.a (pre ++ [x])).length ≤ evs.length := List.length_filter_le _ _
        refine post_gd (by rw [hsum]; exact sz _ (by rw [h1] at hle; omega)) (post_ok ⟨fun e he => ?_, ?_⟩)
        · rcases List.mem_append.mp he with he | he
          · exact g1 e he
          · rw [List.map_id'] at he
            exact (List.mem_filter.mp he).1
        · rw [List.length_append]
          exact hsum
      · rintro row ⟨g1, g2⟩
        refine ⟨?_, g1⟩
        have := List.length_filter_le (fun e : Stp => memT e.a (rangeT2 b.2 20)) evs
        rw [h1] at this
        exact Nat.le_trans (Nat.le_of_eq g2) (Nat.le_trans this (by omega))
    rintro row ⟨g1, g2⟩
    exact post_ok ⟨g1, fun e he => h2 e (g2 e he)⟩
end Ty

namespace Ty
open PySem VS L2
theorem atI_neg1 {α : Type} {xs : List α} {l : α} (h : xs.getLast? = some l) : atI xs (-1) = some l := by
  obtain ⟨p, rfl⟩ := List.getLast?_eq_some_iff.mp h
  rw [VS.atI_last (by simp)]
  simp
def leftS (v : Int × Tx) (l : Stp) : Stp := Tp4.mk (max v.1 l.a) (tx "left") (some l.d) v.2
def lvF (de : Des) (day : Int) : Nat → List Stp → List Stp
  | 0, st => st
  | k + 1, st => match st.getLast? with
    | none => st
    | some l => match dget de l.d with
      | some v => if v.1 ≤ day then lvF de day k (st ++ [leftS v l]) else st
      | none => st
theorem lv_stop {de : Des} {day : Int} {st : List Stp} {l : Stp} (h : st.getLast? = some l) (hd : deadB de l.d day = false) : ∀ k, lvF de day k st = st
  | 0 => rfl
  | k + 1 => by
    unfold lvF
    rw [h]
    dsimp only
    unfold deadB at hd
    cases hg : dget de l.d with
    | none => rfl
    | some v =>
      rw [hg] at hd
      dsimp only at hd ⊢
      rw [if_neg (by simpa using hd)]
theorem lv_step {de : Des} {day : Int} {st : List Stp} {l : Stp} {v : Int × Tx} (h : st.getLast? = some l) (hg : dget de l.d = some v) (hd : v.1 ≤ day) (k : Nat) : lvF de day (k + 1) st = lvF de day k (st ++ [leftS v l]) := by
  rw [lvF, h]
  dsimp only
  rw [hg]
  dsimp only
  rw [if_pos hd]
theorem lv_fuel {de : Des} {day : Int} {n r : Tx} {j : Nat} (h : Heir de day n r j) : ∀ {st : List Stp} {l : Stp}, st.getLast? = some l → l.d = n → ∀ k, j ≤ k → lvF de day k st = lvF de day j st := by
  induction h with
  | @stop n hs =>
    intro st l hl hn k _
    subst hn
    rw [lv_stop hl hs, lv_stop hl hs]
  | @step n h r dd j hg hd hr ih =>
    intro st l hl hn k hk
    subst hn
    obtain ⟨k, rfl⟩ : ∃ q, k = q + 1 := ⟨k - 1, by omega⟩
    rw [lv_step hl hg hd, lv_step hl hg hd]
    exact ih (l := leftS (dd, h) l) (by simp) rfl k (by omega)
def Gst (ns : List Tx) (st : List Stp) : Prop := ∃ l, st.getLast? = some l ∧ l.d ∈ ns
theorem Gst.snoc {ns : List Tx} (st : List Stp) {l : Stp} (h : l.d ∈ ns) : Gst ns (st ++ [l]) := ⟨l, by simp, h⟩
theorem lv_good {ns : List Tx} {ds : List Di} {arr : Dt Tx Int} {de : Des} (f : Fd ns ds arr de) (day : Int) : ∀ (k : Nat) {st : List Stp}, Gst ns st → Gst ns (lvF de day k st)
  | 0, _, h => h
  | k + 1, st, h => by
    obtain ⟨l, hl, hm⟩ := h
    unfold lvF
    rw [hl]
    dsimp only
    split
    · rename_i v hv
      split
      · exact lv_good f day k (Gst.snoc _ (f.dk _ (dget_mem' hv)).2)
      · exact ⟨l, hl, hm⟩
    · exact ⟨l, hl, hm⟩
theorem lv_len (de : Des) (day : Int) : ∀ (k : Nat) (st : List Stp), (lvF de day k st).length ≤ st.length + k
  | 0, _ => Nat.le_refl _
  | k + 1, st => by
    unfold lvF
    split
    · omega
    · split
      · split
        · have := lv_len de day k (st ++ [leftS ‹_› ‹_›])
          rw [List.length_append, List.length_singleton] at this
          omega
        · omega
      · omega
theorem leave_loop {ns : List Tx} {ds : List Di} {arr : Dt Tx Int} {de : Des} (f : Fd ns ds arr de) {day : Int} (h0 : 0 ≤ day ∧ day ≤ 9999) (rks : List (Tp3 Tx Int Int)) {n r : Tx} {j : Nat} (h : Heir de day n r j) : ∀ {st : List Stp} {l : Stp}, st.getLast? = some l → l.d = n → l.d ∈ ns → ∀ k : Nat, j < k → st.length + j ≤ 10000 → T.whileM k (st : List Stp) (fun steps2 => (((T.ofO (atI steps2 (-1 : Int))).bind fun x3 =>
  (t_Folk_dead x3.d day arr rks de).bind fun r4 =>
  .ok r4) : T Empty (Bool))) (fun steps2 => (((T.ofO (atI steps2 (-1 : Int))).bind fun x5 =>
  (t_Folk_death x5.d arr rks de).bind fun r6 =>
  (T.ofO r6).bind fun u7 =>
  (T.ofO (atI steps2 (-1 : Int))).bind fun x8 =>
  T.gd (steps2.length < sizeLine) <|
  .ok (steps2 ++ [(Tp4.mk (maxT u7.1 x8.a) (tx "left") (some x5.d) u7.2)])) : T Empty (List Stp))) = .ok (lvF de day j st) := by
  induction h with
  | @stop n hs =>
    intro st l hl hn hm k hk _
    subst hn
    obtain ⟨k, rfl⟩ : ∃ q, k = q + 1 := ⟨k - 1, by omega⟩
    unfold T.whileM
    dsimp only
    rw [atI_neg1 hl, ofO_some', dead_eq f hm h0, T.ok_bind, T.ok_bind, hs]
    rfl
  | @step n h r dd j hg hd hr ih =>
    intro st l hl hn hm k hk hlen
    subst hn
    obtain ⟨k, rfl⟩ : ∃ q, k = q + 1 := ⟨k - 1, by omega⟩
    have hb : deadB de l.d day = true := by
      unfold deadB
      rw [hg]
      exact decide_eq_true hd
    unfold T.whileM
    dsimp only
    rw [atI_neg1 hl, ofO_some', dead_eq f hm h0, T.ok_bind, T.ok_bind, hb, if_pos rfl, ofO_some']
    have hdt : t_Folk_death l.d arr rks de = .ok (some (dd, h)) := by
      unfold t_Folk_death
      rw [hg]
    rw [hdt, T.ok_bind, ofO_some', ofO_some', T.gd_of (szl _ (by omega)), T.ok_bind, maxT_eq, lv_step hl hg hd]
    exact ih (l := leftS (dd, h) l) (by simp [leftS]) rfl (f.dk _ (dget_mem' hg)).2 k (by omega) (by rw [List.length_append, List.length_singleton]; omega)
def LV (de : Des) (day : Int) (st : List Stp) : List Stp := lvF de day 50 st
theorem leave_ok {ns : List Tx} {ds : List Di} {arr : Dt Tx Int} {de : Des} (f : Fd ns ds arr de) (hdl : de.length ≤ 40) {day : Int} (h0 : 0 ≤ day ∧ day ≤ 9999) (rks : List (Tp3 Tx Int Int)) {st : List Stp} (h : Gst ns st) (hl : st.length ≤ 5000) : t_leave st day arr rks de = .ok (LV de day st) := by
  obtain ⟨l, h1, h2⟩ := h
  obtain ⟨r, j, hr, hj⟩ := heir_any f day l.d
  unfold t_leave
  rw [leave_loop f h0 rks hr h1 rfl h2 100 (by omega) (by omega)]
  unfold LV
  rw [lv_fuel hr h1 rfl 50 (by omega)]
  rfl
def evS (de : Des) (st : List Stp) (e : Stp) : List Stp := match (LV de e.a st).getLast? with
  | none => LV de e.a st
  | some l => if e.b = tx "won" then LV de e.a st ++ [Tp4.mk e.a (tx "won") (some l.d) e.d] else if some l.d = e.c then LV de e.a st ++ [Tp4.mk e.a (tx "given") e.c e.d] else LV de e.a st
theorem evS_good {ns : List Tx} {ds : List Di} {arr : Dt Tx Int} {de : Des} (f : Fd ns ds arr de) {st : List Stp} {e : Stp} (he : e.d ∈ ns) (h : Gst ns st) : Gst ns (evS de st e) := by
  have g : Gst ns (LV de e.a st) := lv_good f e.a 50 h
  unfold evS
  obtain ⟨l, hl, hm⟩ := id g
  rw [hl]
  dsimp only
  split
  · exact Gst.snoc _ he
  · split
    · exact Gst.snoc _ he
    · exact g
theorem evS_len (de : Des) (st : List Stp) (e : Stp) : (evS de st e).length ≤ st.length + 51 := by
  have g : (LV de e.a st).length ≤ st.length + 50 := lv_len de e.a 50 st
  unfold evS
  split
  · omega
  · split
    · rw [List.length_append, List.length_singleton]; omega
    · split
      · rw [List.length_append, List.length_singleton]; omega
      · omega
theorem fold_good {ns : List Tx} {ds : List Di} {arr : Dt Tx Int} {de : Des} (f : Fd ns ds arr de) : ∀ (es : List Stp) {st : List Stp}, (∀ e ∈ es, e.d ∈ ns) → Gst ns st → Gst ns (es.foldl (evS de) st)
  | [], _, _, h => h
  | e :: es, _, he, h => fold_good f es (fun x hx => he x (List.mem_cons_of_mem _ hx)) (evS_good f (he e List.mem_cons_self) h)
theorem fold_len (de : Des) : ∀ (es : List Stp) (st : List Stp), (es.foldl (evS de) st).length ≤ st.length + 51 * es.length
  | [], _ => by simp
  | e :: es, st => by
    have h1 := fold_len de es (evS de st e)
    have h2 := evS_len de st e
    rw [List.foldl_cons, List.length_cons]
    omega
theorem srt_trans {a b c : Stp} (h1 : ord0T a b = true) (h2 : ord0T b c = true) : ord0T a c = true := by
  unfold ord0T at *
  simp only [decide_eq_true_eq] at *
  omega
theorem srt_total (a b : Stp) : (ord0T a b || ord0T b a) = true := by
  unfold ord0T
  simp only [Bool.or_eq_true, decide_eq_true_eq]
  omega
theorem split_days {ys : List Stp} {t : Int} (hs : ys.Pairwise fun a b => ord0T a b = true) (h : ∀ e ∈ ys, e.a ≤ t) : ys = ys.filter (fun e => decide (e.a < t)) ++ ys.filter fun e => decide (e.a = t) := by
  induction ys with
  | nil => rfl
  | cons y ys ih =>
    obtain ⟨h1, h2⟩ := List.pairwise_cons.mp hs
    have hy := h y List.mem_cons_self
    have ih := ih h2 fun e he => h e (List.mem_cons_of_mem _ he)
    by_cases z : y.a < t
    · rw [List.filter_cons_of_pos (by simpa using z), List.filter_cons_of_neg (by simp; omega), List.cons_append]
      exact congrArg (y :: ·) ih
    · have hyt : y.a = t := by omega
      have hall : ∀ e ∈ ys, e.a = t := fun e he => by
        have := h1 e he
        unfold ord0T at this
        simp only [decide_eq_true_eq] at this
        have := h e (List.mem_cons_of_mem _ he)
        omega
      rw [List.filter_eq_nil_iff.mpr (fun e he => by
        rcases List.mem_cons.mp he with rfl | he
        · simp; omega
        · simp [hall e he]), List.nil_append, List.filter_eq_self.mpr (fun e he => by
        rcases List.mem_cons.mp he with rfl | he
        · simp [hyt]
        · simp [hall e he])]
theorem take_filter {ys : List Stp} (hs : ys.Pairwise fun a b => ord0T a b = true) (d : Int) : ys.takeWhile (fun e => decide (e.a ≤ d)) = ys.filter fun e => decide (e.a ≤ d) := by
  induction ys with
  | nil => rfl
  | cons y ys ih =>
    obtain ⟨h1, h2⟩ := List.pairwise_cons.mp hs
    by_cases z : y.a ≤ d
    · rw [List.takeWhile_cons_of_pos (by simpa using z), List.filter_cons_of_pos (by simpa using z), ih h2]
    · rw [List.takeWhile_cons_of_neg (by simpa using z)]
      symm
      rw [List.filter_eq_nil_iff]
      intro e he
      rcases List.mem_cons.mp he with rfl | he
      · simpa using z
      · have := h1 e he
        unfold ord0T at this
        simp only [decide_eq_true_eq] at this ⊢
        omega
def evTo (evs : List Stp) (d : Int) : List Stp := (evs.mergeSort ord0T).takeWhile fun e => decide (e.a ≤ d)
theorem srt_pw (evs : List Stp) : (evs.mergeSort ord0T).Pairwise fun a b => ord0T a b = true := List.pairwise_mergeSort (le := ord0T) (fun a b c => srt_trans) srt_total evs
theorem evTo_len (evs : List Stp) (d : Int) : (evTo evs d).length ≤ evs.length := by
  have h1 : (evTo evs d).length ≤ (evs.mergeSort ord0T).length := (List.takeWhile_sublist _).length_le
  rw [(List.mergeSort_perm evs ord0T).length_eq] at h1
  exact h1
theorem evTo_mem {evs : List Stp} {d : Int} {e : Stp} (h : e ∈ evTo evs d) : e ∈ evs ∧ e.a ≤ d := by
  unfold evTo at h
  rw [take_filter (srt_pw evs)] at h
  obtain ⟨a, b⟩ := List.mem_filter.mp h
  exact ⟨(List.mergeSort_perm evs ord0T).mem_iff.mp a, by simpa using b⟩
end Ty

namespace VS
open PySem L2
theorem forL_take {ε α ν ρ : Type} {f : α → ν → T ε (T.Lp ν ρ)} {c : α → Bool} {g : ν → α → ν} (P : Nat → ν → Prop) : ∀ (xs : List α) (n : Nat) (v : ν), P n v → (∀ x ∈ xs, ∀ i v, i < n + xs.length → P i v → (c x = false → f x v = .ok (.bk v)) ∧ (c x = true → f x v = .ok (.nx (g v x)) ∧ P (i + 1) (g v x))) → T.forL xs v f = .ok (.nx ((xs.takeWhile c).foldl g v))
  | [], _, _, _, _ => rfl
  | x :: xs, n, v, h, hs => by
    obtain ⟨h1, h2⟩ := hs x List.mem_cons_self n v (by rw [List.length_cons]; omega) h
    show (f x v).bind _ = _
    cases hc : c x with
    | false =>
      rw [h1 hc, T.ok_bind, List.takeWhile_cons_of_neg (by rw [hc]; simp)]
      rfl
    | true =>
      obtain ⟨h3, h4⟩ := h2 hc
      rw [h3, T.ok_bind, List.takeWhile_cons_of_pos hc]
      exact forL_take P xs (n + 1) (g v x) h4 fun y hy i u hi hu => hs y (List.mem_cons_of_mem _ hy) i u (by rw [List.length_cons]; omega) hu
end VS
namespace Ty
open PySem VS L2
structure Ev (ns : List Tx) (b : Oath) (evs : List Stp) : Prop where
  bm : b.1 ∈ ns
  bd : 5 ≤ b.2 ∧ b.2 ≤ 12
  ln : evs.length ≤ 14
  ev : ∀ e ∈ evs, b.2 ≤ e.a ∧ e.a < b.2 + 20 ∧ e.d ∈ ns ∧ ((e.b = tx "won" ∧ e.c = none) ∨ e.b = tx "given")
def stS (b : Oath) : List Stp := [Tp4.mk b.2 (tx "brought") none b.1]
def roadF (de : Des) (b : Oath) (evs : List Stp) (day : Int) : List Stp := if day < b.2 then [] else LV de day ((evTo evs day).foldl (evS de) (stS b))
def PG (ns : List Tx) (n : Nat) (st : List Stp) : Prop := Gst ns st ∧ st.length ≤ 1 + 51 * n
theorem evS_PG {ns : List Tx} {ds : List Di} {arr : Dt Tx Int} {de : Des} (f : Fd ns ds arr de) {st : List Stp} {e : Stp} {n : Nat} (he : e.d ∈ ns) (h : PG ns n st) : PG ns (n + 1) (evS de st e) :=
  ⟨evS_good f he h.1, by have := evS_len de st e; have := h.2; omega⟩
theorem stS_PG {ns : List Tx} {b : Oath} (h : b.1 ∈ ns) : PG ns 0 (stS b) := ⟨Gst.snoc [] h, Nat.le_refl _⟩
theorem road_ok {ns : List Tx} {ds : List Di} {arr : Dt Tx Int} {de : Des} (f : Fd ns ds arr de) (hdl : de.length ≤ 40) (rks : List (Tp3 Tx Int Int)) {b : Oath} {evs : List Stp} (v : Ev ns b evs) {day : Int} (h0 : 0 ≤ day ∧ day ≤ 9999) : t_road b evs day arr rks de = .ok (roadF de b evs day) := by
  unfold t_road roadF
  by_cases hd : day < b.2
  · rw [if_pos (by simpa using hd), if_pos hd]
  rw [if_neg (by simpa using hd), if_neg hd]
  have hs : srtK0T evs = some (evs.mergeSort ord0T) := by
    unfold srtK0T
    rw [if_pos (sz _ (by have := v.ln; omega))]
  have hml : (evs.mergeSort ord0T).length ≤ 14 := by rw [(List.mergeSort_perm evs ord0T).length_eq]; exact v.ln
  have hmm : ∀ e ∈ evs.mergeSort ord0T, e ∈ evs := fun e he => (List.mergeSort_perm evs ord0T).mem_iff.mp he
  rw [hs, ofO_some', show ([Tp4.mk b.2 (tx "brought") (none : Option Tx) b.1] : List Stp) = stS b from rfl, forL_take (c := fun e => decide (e.a ≤ day)) (g := evS de) (PG ns) (evs.mergeSort ord0T) 0 _ (stS_PG v.bm) fun e he i st hi hp => ⟨fun hc => ?_, fun hc => ⟨?_, ?_⟩⟩]
  · rw [T.bindL_nx]
    show (t_leave ((evTo evs day).foldl (evS de) (stS b)) day arr rks de).bind _ = _
    have g := fold_good f (evTo evs day) (fun e he => (v.ev e (evTo_mem he).1).2.2.1) (stS_PG v.bm).1
    have hl := fold_len de (evTo evs day) (stS b)
    have h2 := evTo_len evs day
    have h3 := v.ln
    rw [leave_ok f hdl h0 rks g (by have : (stS b).length = 1 := rfl; omega)]
    rfl
  · rw [if_pos (by simp at hc ⊢; omega)]
  · obtain ⟨h1, h2, h3, _⟩ := v.ev e (hmm e he)
    have := v.bd
    simp only [decide_eq_true_eq] at hc
    rw [if_neg (by simp; omega), leave_ok f hdl ⟨by omega, by omega⟩ rks hp.1 (by have := hp.2; omega), T.ok_bind]
    have g : Gst ns (LV de e.a st) := lv_good f e.a 50 hp.1
    have hlen : (LV de e.a st).length ≤ st.length + 50 := lv_len de e.a 50 st
    obtain ⟨l, hl, hm⟩ := g
    have hgd := szl (LV de e.a st).length (by have := hp.2; omega)
    unfold evS
    rw [atI_neg1 hl, ofO_some', hl]
    dsimp only
    by_cases q1 : e.b = tx "won"
    · rw [if_pos (by simpa using q1), if_pos q1, T.gd_of hgd]
    · rw [if_neg (by simpa using q1), if_neg q1]
      by_cases q2 : some l.d = e.c
      · rw [if_pos (by simpa using q2), if_pos q2, T.gd_of hgd]
      · rw [if_neg (by simpa using q2), if_neg q2]
  · exact evS_PG f (v.ev e (hmm e he)).2.2.1 hp
def endF (st : List Stp) : Option Tx := (st.getLast?).map (·.d)
theorem holder_ok {ns : List Tx} {ds : List Di} {arr : Dt Tx Int} {de : Des} (f : Fd ns ds arr de) (hdl : de.length ≤ 40) (rks : List (Tp3 Tx Int Int)) {b : Oath} {evs : List Stp} (v : Ev ns b evs) {day : Int} (h0 : 0 ≤ day ∧ day ≤ 9999) : t_holder b evs day arr rks de = .ok (endF (roadF de b evs day)) := by
  unfold t_holder
  rw [road_ok f hdl rks v h0, T.ok_bind]
  generalize roadF de b evs day = r
  cases h : r.getLast? with
  | none =>
    rw [List.getLast?_eq_none_iff] at h
    subst h
    rfl
  | some l =>
    have hne : r ≠ [] := fun z => by rw [z] at h; cases h
    have hl : r.length ≠ 0 := fun z => hne (List.length_eq_zero_iff.mp z)
    rw [if_neg (by simp; exact hne), atI_neg1 h, ofO_some']
    unfold endF
    rw [h]
    rfl
theorem roadF_len {ns : List Tx} {de : Des} {b : Oath} {evs : List Stp} (v : Ev ns b evs) (day : Int) : (roadF de b evs day).length ≤ 1000 := by
  unfold roadF
  split
  · exact Nat.zero_le _
  · have h1 := lv_len de day 50 ((evTo evs day).foldl (evS de) (stS b))
    have h2 := fold_len de (evTo evs day) (stS b)
    have h3 := evTo_len evs day
    have h4 := v.ln
    have h5 : (stS b).length = 1 := rfl
    unfold LV
    omega
end Ty
namespace Lw
open VS Ty
end Lw

noncomputable section
namespace Ty
open PySem VS Lw L2
def t_law_whole (found : Int) : T Empty (Bool) :=
  .ok (true && (!false))
theorem r_law_whole (found : Int) : SK [dv found] Lw.m_law_whole (t_law_whole found) (fun r => (S.d (Enc.enc r))) (fun r => [none]) XV := by
  unfold Lw.m_law_whole Lw.g_law_whole t_law_whole
  refine f_def (X' := XV) ?_ xe_no
  show SK [dv found] _ _ _ _ _
  refine s_ret ?_
  refine e_pu (pu_d (pu_andV (pu_isi (d := Enc.enc found) (b := true) (pu_peek (by rfl)) (show kitB "int" "int" = some true by decide +kernel)) (pu_un (z := (Enc.enc (!false))) (pu_isi (d := Enc.enc found) (b := false) (pu_peek (by rfl)) (show kitB "int" "bool" = some false by decide +kernel)) rfl))) ?_
  exact f_rt rfl (mt_w mt_nil)
def t_law_death_2 (deeds : (List (Tp4 Tx Tx Int Itx))) (name : (Option Tx)) : T Empty ((Option (Int × Itx))) :=
  T.bindL (T.forL deeds (() : Unit) (fun (i1 : (Tp4 Tx Tx Int Itx)) _ => ((if ((decide (i1.a = (tx "die"))) && (decide (((some i1.b) : (Option Tx)) = name))) = true then (.ok (.rt (i1.c, i1.d))) else (.ok (.nx ()))) : T Empty (T.Lp (Unit) ((Int × Itx)))))) (fun _ =>
  .ok (none : (Option (Int × Itx)))) (fun r_ => .ok (some r_))
theorem r_law_death_2 (deeds : (List (Tp4 Tx Tx Int Itx))) (name : (Option Tx)) : SK [lv deeds, dv name] Lw.m_law_death (t_law_death_2 deeds name) (fun r => (S.d (Enc.enc r))) (fun r => [lv deeds, none]) XV := by
  unfold Lw.m_law_death Lw.g_law_death t_law_death_2
  refine f_def (X' := XV) ?_ xe_no
  show SK [lv deeds, dv name, none] _ _ _ _ _
  refine s_seq ?_
  refine s_forO (by rfl) ?_
  show SK [none, dv name, none] _ _ _ _ _
  refine c_forL (e := Enc.enc) (xs := deeds) (v := (() : Unit)) (fun v => [none, dv name, none]) (fun r => [none, none, none]) (fun (r : (Int × Itx)) => (S.d (Enc.enc r))) (fun i1 v => [none, dv name, dv i1]) (mt_w (mt_k (mt_w mt_nil))) (fun i1 v => tg_name) (fun i1 v => ?_) (fun v => ?_) (fun r => ?_)
  · show SK [none, dv name, dv i1] _ _ _ _ _
    refine s_if (x := ((decide (i1.a = (tx "die"))) && (decide (((some i1.b) : (Option Tx)) = name)))) (pu_and (pu_B (pu_op (z := (Enc.enc ((decide (i1.a = (tx "die"))) : Bool))) (pu_ixP (z := (Enc.enc i1.a)) (by rfl) (pu_c (d := Enc.enc (0 : Int))) rfl) (pu_str "die") (eq_enc i1.a ((tx "die") : Tx)))) (pu_B (pu_op (z := (Enc.enc ((decide (((some i1.b) : (Option Tx)) = name)) : Bool))) (pu_ixP (z := (Enc.enc i1.b)) (by rfl) (pu_c (d := Enc.enc (1 : Int))) rfl) (pu_peek (by rfl)) (eq_opt ((some i1.b) : (Option Tx)) name)))) ?_ ?_
    · refine s_ret ?_
      refine e_pu (pu_d (pu_tup (pu_cons (pu_ixP (z := (Enc.enc i1.c)) (by rfl) (pu_c (d := Enc.enc (2 : Int))) rfl) (pu_cons (pu_ixP (z := (Enc.enc i1.d)) (by rfl) (pu_c (d := Enc.enc (3 : Int))) rfl) pu_nil)) (ln (n := 2) rfl))) ?_
      exact k_ok rfl (mt_w (mt_w (mt_w mt_nil)))
    · refine s_next ?_
      exact k_ok rfl (mt_w (mt_k (mt_w mt_nil)))
  · show SK [none, dv name, none] _ _ _ _ _
    refine k_unlN rfl ?_
    show SK [lv deeds, dv name, none] _ _ _ _ _
    refine s_then ?_
    refine s_ret ?_
    refine e_pu (pu_d pu_c) ?_
    exact f_rt rfl (mt_k (mt_w mt_nil))
  · revert r; intro r_
    show SK [none, none, none] _ _ _ _ _
    refine k_unlR rfl ?_
    show SK [lv deeds, none, none] _ _ _ _ _
    exact f_rt rfl (mt_k (mt_w mt_nil))
def t_law_is_dead_2 (deeds : (List (Tp4 Tx Tx Int Itx))) (name : (Option Tx)) (day : Int) : T Empty (Bool) :=
  (t_law_death_2 deeds name).bind fun r1 =>
  ((if (Option.isSome r1) = true then ((T.ofO r1).bind fun u3 =>
  .ok (decide (u3.1 ≤ day))) else (.ok false) : T Empty (Bool))).bind fun b2 =>
  .ok b2
theorem r_law_is_dead_2 (deeds : (List (Tp4 Tx Tx Int Itx))) (name : (Option Tx)) (day : Int) : SK [lv deeds, dv name, dv day] Lw.m_law_is_dead (t_law_is_dead_2 deeds name day) (fun r => (S.d (Enc.enc r))) (fun r => [lv deeds, none, none]) XV := by
  unfold Lw.m_law_is_dead Lw.g_law_is_dead t_law_is_dead_2
  refine f_def (X' := XV) ?_ xe_no
  show SK [lv deeds, dv name, dv day, none] _ _ _ _ _
  refine s_seq ?_
  refine s_asg ?_
  refine e_callG ?_
  refine ag_r (by rfl) ?_
  refine ag_d ?_
  refine e_pu (pu_var (by rfl)) ?_
  refine ag_nil ?_
  refine c_call (by show List.Nodup [0]; decide) rfl (r_law_death_2 deeds name) xe_no ?_
  rintro r1
  show SK [lv deeds, dv name, dv day, none] _ _ _ _ _
  refine s_set rfl ?_
  refine s_then ?_
  refine s_ret ?_
  refine e_d ?_
  refine e_cut (F1 := (fun p => Enc.enc (p : Bool))) (B1 := fun p => [lv deeds, dv name, dv day, none]) ?_ ?_
  · refine e_id ?_
    refine e_andVL ?_
    refine e_pu (pu_op (z := (Enc.enc ((Option.isSome r1) : Bool))) (pu_peek (by rfl)) pu_c (isN_non r1)) ?_
    refine c_andV (x := (Option.isSome r1)) ?_ ?_
    · refine e_op ?_
      refine e_ixP (by rfl) ?_
      refine e_pu (pu_c (d := Enc.enc (0 : Int))) ?_
      refine e_pu (pu_peek (by rfl)) ?_
      rcases hhu3 : r1 with _ | u3
      · exact k_no
      show SK [lv deeds, dv name, dv day, dv u3] _ _ _ _ _
      refine k_some ?_
      refine e_o (z := (Enc.enc u3.1)) rfl ?_
      refine e_pu (pu_peek (by rfl)) ?_
      refine e_o (z := (Enc.enc ((decide (u3.1 ≤ day)) : Bool))) rfl ?_
      exact k_ok rfl (mt_k (mt_k (mt_k (mt_w mt_nil))))
    · exact k_ok rfl (mt_k (mt_k (mt_k (mt_w mt_nil))))
  rintro b2
  show SK [lv deeds, dv name, dv day, none] _ _ _ _ _
  exact f_rt rfl (mt_k (mt_w (mt_w mt_nil)))
def t_law_step_fits (deeds : (List (Tp4 Tx Tx Int Itx))) (events : (List (Tp4 Int Tx (Option Tx) Tx))) (step : (Tp4 Int Tx (Option Tx) Tx)) (ahead : (Tp4 Int Tx (Option Tx) Tx)) : T Empty (Bool) :=
  if (!true) = true then (.ok false) else (if (!(decide (((4 : Int)) = (4 : Int)))) = true then (.ok false) else ((t_law_whole step.a).bind fun r1 =>
  if (!r1) = true then (.ok false) else (if (decide (step.a < ahead.a)) = true then (.ok false) else ((t_same2 ((Enc.enc step.c : D) : D) ((Enc.enc ahead.d : D) : D)).bind fun r2 =>
  if (!r2) = true then (.ok false) else (if (decide (step.b = (tx "given"))) = true then (.ok (memT ((Tp4.mk step.a (tx "given") step.c step.d) : (Tp4 Int Tx (Option Tx) Tx)) events)) else (if (decide (step.b = (tx "won"))) = true then (.ok (memT ((Tp4.mk step.a (tx "won") (none : (Option Tx)) step.d) : (Tp4 Int Tx (Option Tx) Tx)) events)) else (if (!(decide (step.b = (tx "left")))) = true then (.ok false) else ((t_law_is_dead_2 deeds step.c step.a).bind fun r3 =>
  if (!r3) = true then (.ok false) else ((t_law_death_2 deeds step.c).bind fun r4 =>
  (T.ofO r4).bind fun u5 =>
  (((t_same2 ((Enc.enc step.d : D) : D) ((Enc.enc u5.2 : D) : D)).bind fun r7 =>
  if r7 = true then (.ok ((decide (step.a = u5.1)) || (decide (step.a = ahead.a)))) else (.ok false) : T Empty (Bool))).bind fun b6 =>
  .ok b6)))))))))
theorem r_law_step_fits (deeds : (List (Tp4 Tx Tx Int Itx))) (events : (List (Tp4 Int Tx (Option Tx) Tx))) (step : (Tp4 Int Tx (Option Tx) Tx)) (ahead : (Tp4 Int Tx (Option Tx) Tx)) : SK [lv deeds, dv events, dv step, dv ahead] Lw.m_law_step_fits (t_law_step_fits deeds events step ahead) (fun r => (S.d (Enc.enc r))) (fun r => [lv deeds, dv events, none, none]) XV := by
  unfold Lw.m_law_step_fits Lw.g_law_step_fits t_law_step_fits
  refine f_def (X' := XV) ?_ xe_no
  show SK [lv deeds, dv events, dv step, dv ahead, none, none, none, none, none, none] _ _ _ _ _
  refine s_seq ?_
  refine s_ifE ?_
  refine e_orL ?_
  refine e_pu (pu_not (pu_B (pu_isi (d := Enc.enc step) (b := true) (pu_peek (by rfl)) (show kitB "tuple" "tuple" = some true by decide +kernel)))) ?_
  refine c_or (x := (!true)) ?_ ?_
  · refine s_iteT ?_
    refine s_ret ?_
    refine e_pu (pu_d (pu_c (d := Enc.enc false))) ?_
    exact f_rt rfl (mt_k (mt_k (mt_w (mt_w mt_nil))))
  · refine e_orL ?_
    refine e_pu (pu_B (pu_op (z := (Enc.enc ((!(decide (((4 : Int)) = (4 : Int)))) : Bool))) (pu_un (z := (Enc.enc (4 : Int))) (pu_peek (by rfl)) rfl) (pu_c (d := Enc.enc (4 : Int))) (ne_enc ((4 : Int)) ((4 : Int))))) ?_
    refine c_or (x := (!(decide (((4 : Int)) = (4 : Int))))) ?_ ?_
    · refine s_iteT ?_
      refine s_ret ?_
      refine e_pu (pu_d (pu_c (d := Enc.enc false))) ?_
      exact f_rt rfl (mt_k (mt_k (mt_w (mt_w mt_nil))))
    · refine e_not ?_
      refine e_B ?_
      refine e_fz ?_
      refine e_call ?_
      refine a_d ?_
      refine e_pu (pu_ixP (z := (Enc.enc step.a)) (by rfl) (pu_c (d := Enc.enc (0 : Int))) rfl) ?_
      refine a_nil ?_
      refine c_call List.nodup_nil rfl (r_law_whole step.a) xe_no ?_
      rintro r1
      show SK [lv deeds, dv events, dv step, dv ahead, none, none, none, none, none, none] _ _ _ _ _
      refine e_ok ?_
      refine e_ok ?_
      refine s_ite (x := (!r1)) ?_ ?_
      · refine s_ret ?_
        refine e_pu (pu_d (pu_c (d := Enc.enc false))) ?_
        exact f_rt rfl (mt_k (mt_k (mt_w (mt_w mt_nil))))
      · refine s_next ?_
        refine s_then ?_
        refine s_seq ?_
        refine s_asgT (pu_var (by rfl)) (tg_tup (tgs_cons tg_name (tgs_cons tg_name (tgs_cons tg_name (tgs_cons tg_name tgs_nil)))) rfl) ?_
        refine s_then ?_
        refine s_seq ?_
        refine s_ifE ?_
        refine e_orL ?_
        refine e_pu (pu_B (pu_op (z := (Enc.enc ((decide (step.a < ahead.a)) : Bool))) (pu_peek (by rfl)) (pu_ixP (z := (Enc.enc ahead.a)) (by rfl) (pu_c (d := Enc.enc (0 : Int))) rfl) rfl)) ?_
        refine c_or (x := (decide (step.a < ahead.a))) ?_ ?_
        · refine s_iteT ?_
          refine s_ret ?_
          refine e_pu (pu_d (pu_c (d := Enc.enc false))) ?_
          exact f_rt rfl (mt_k (mt_k (mt_w (mt_w mt_nil))))
        · refine e_not ?_
          refine e_B ?_
          refine e_fz ?_
          refine e_call ?_
          refine a_d ?_
          refine e_pu (pu_var (by rfl)) ?_
          refine a_d ?_
          refine e_pu (pu_ixP (z := (Enc.enc ahead.d)) (by rfl) (pu_c (d := Enc.enc (3 : Int))) rfl) ?_
          refine a_nil ?_
          refine c_call List.nodup_nil rfl (r_same2 ((Enc.enc step.c : D)) ((Enc.enc ahead.d : D))) xe_no ?_
          rintro r2
          show SK [lv deeds, dv events, dv step, dv ahead, dv step.a, dv step.b, dv step.c, dv step.d, none, none] _ _ _ _ _
          refine e_ok ?_
          refine e_ok ?_
          refine s_ite (x := (!r2)) ?_ ?_
          · refine s_ret ?_
            refine e_pu (pu_d (pu_c (d := Enc.enc false))) ?_
            exact f_rt rfl (mt_k (mt_k (mt_w (mt_w mt_nil))))
          · refine s_next ?_
            refine s_then ?_
            refine s_seq ?_
            refine s_if (x := (decide (step.b = (tx "given")))) (pu_B (pu_op (z := (Enc.enc ((decide (step.b = (tx "given"))) : Bool))) (pu_peek (by rfl)) (pu_str "given") (eq_enc step.b ((tx "given") : Tx)))) ?_ ?_
            · refine s_ret ?_
              refine e_pu (pu_d (pu_op (z := (Enc.enc ((memT ((Tp4.mk step.a (tx "given") step.c step.d) : (Tp4 Int Tx (Option Tx) Tx)) events) : Bool))) (pu_tup (pu_cons (pu_var (by rfl)) (pu_cons (pu_str "given") (pu_cons (pu_var (by rfl)) (pu_cons (pu_var (by rfl)) pu_nil)))) (ln (n := 4) rfl)) (pu_peek (by rfl)) (in_l ((Tp4.mk step.a (tx "given") step.c step.d) : (Tp4 Int Tx (Option Tx) Tx)) events (by decide)))) ?_
              exact f_rt rfl (mt_k (mt_k (mt_w (mt_w mt_nil))))
            · refine s_next ?_
              refine s_then ?_
              refine s_seq ?_
              refine s_if (x := (decide (step.b = (tx "won")))) (pu_B (pu_op (z := (Enc.enc ((decide (step.b = (tx "won"))) : Bool))) (pu_peek (by rfl)) (pu_str "won") (eq_enc step.b ((tx "won") : Tx)))) ?_ ?_
              · refine s_ret ?_
                refine e_pu (pu_d (pu_op (z := (Enc.enc ((memT ((Tp4.mk step.a (tx "won") (none : (Option Tx)) step.d) : (Tp4 Int Tx (Option Tx) Tx)) events) : Bool))) (pu_tup (pu_cons (pu_var (by rfl)) (pu_cons (pu_str "won") (pu_cons pu_c (pu_cons (pu_var (by rfl)) pu_nil)))) (ln (n := 4) rfl)) (pu_peek (by rfl)) (in_l ((Tp4.mk step.a (tx "won") (none : (Option Tx)) step.d) : (Tp4 Int Tx (Option Tx) Tx)) events (by decide)))) ?_
                exact f_rt rfl (mt_k (mt_k (mt_w (mt_w mt_nil))))
              · refine s_next ?_
                refine s_then ?_
                refine s_seq ?_
                refine s_ifE ?_
                refine e_orL ?_
                refine e_pu (pu_B (pu_op (z := (Enc.enc ((!(decide (step.b = (tx "left")))) : Bool))) (pu_peek (by rfl)) (pu_str "left") (ne_enc step.b ((tx "left") : Tx)))) ?_
                refine c_or (x := (!(decide (step.b = (tx "left"))))) ?_ ?_
                · refine s_iteT ?_
                  refine s_ret ?_
                  refine e_pu (pu_d (pu_c (d := Enc.enc false))) ?_
                  exact f_rt rfl (mt_k (mt_k (mt_w (mt_w mt_nil))))
                · refine e_not ?_
                  refine e_B ?_
                  refine e_fz ?_
                  refine e_call ?_
                  refine a_r (by rfl) ?_
                  refine a_d ?_
                  refine e_pu (pu_var (by rfl)) ?_
                  refine a_d ?_
                  refine e_pu (pu_var (by rfl)) ?_
                  refine a_nil ?_
                  refine c_call (by show List.Nodup [0]; decide) rfl (r_law_is_dead_2 deeds step.c step.a) xe_no ?_
                  rintro r3
                  show SK [lv deeds, dv events, dv step, dv ahead, dv step.a, dv step.b, dv step.c, dv step.d, none, none] _ _ _ _ _
                  refine e_ok ?_
                  refine e_ok ?_
                  refine s_ite (x := (!r3)) ?_ ?_
                  · refine s_ret ?_
                    refine e_pu (pu_d (pu_c (d := Enc.enc false))) ?_
                    exact f_rt rfl (mt_k (mt_k (mt_w (mt_w mt_nil))))
                  · refine s_next ?_
                    refine s_then ?_
                    refine s_seq ?_
                    refine s_asgTE ?_
                    refine e_fz ?_
                    refine e_callG ?_
                    refine ag_r (by rfl) ?_
                    refine ag_d ?_
                    refine e_pu (pu_var (by rfl)) ?_
                    refine ag_nil ?_
                    refine c_call (by show List.Nodup [0]; decide) rfl (r_law_death_2 deeds step.c) xe_no ?_
                    rintro r4
                    show SK [lv deeds, dv events, dv step, dv ahead, dv step.a, dv step.b, dv step.c, dv step.d, none, none] _ _ _ _ _
                    refine e_ok ?_
                    rcases hhu5 : r4 with _ | u5
                    · exact k_no
                    refine k_some ?_
                    refine s_asgTQ (tg_tup (tgs_cons tg_name (tgs_cons tg_name tgs_nil)) rfl) ?_
                    refine s_then ?_
                    refine s_ret ?_
                    refine e_d ?_
                    refine e_cut (F1 := (fun p => Enc.enc (p : Bool))) (B1 := fun p => [lv deeds, dv events, dv step, dv ahead, dv step.a, dv step.b, dv step.c, dv step.d, dv u5.1, dv u5.2]) ?_ ?_
                    · refine e_id ?_
                      refine e_andVL ?_
                      refine e_fz ?_
                      refine e_call ?_
                      refine a_d ?_
                      refine e_pu (pu_var (by rfl)) ?_
                      refine a_d ?_
                      refine e_pu (pu_var (by rfl)) ?_
                      refine a_nil ?_
                      refine c_call List.nodup_nil rfl (r_same2 ((Enc.enc step.d : D)) ((Enc.enc u5.2 : D))) xe_no ?_
                      rintro r7
                      show SK [lv deeds, dv events, dv step, dv ahead, dv step.a, dv step.b, dv step.c, dv step.d, dv u5.1, dv u5.2] _ _ _ _ _
                      refine e_ok ?_
                      refine c_andV (x := r7) ?_ ?_
                      · refine e_pu (pu_orV (pu_op (z := (Enc.enc ((decide (step.a = u5.1)) : Bool))) (pu_peek (by rfl)) (pu_peek (by rfl)) (eq_enc step.a u5.1)) (pu_op (z := (Enc.enc ((decide (step.a = ahead.a)) : Bool))) (pu_peek (by rfl)) (pu_ixP (z := (Enc.enc ahead.a)) (by rfl) (pu_c (d := Enc.enc (0 : Int))) rfl) (eq_enc step.a ahead.a))) ?_
                        exact k_ok rfl (mt_k (mt_k (mt_k (mt_k (mt_k (mt_k (mt_k (mt_k (mt_k (mt_k mt_nil))))))))))
                      · exact k_ok rfl (mt_k (mt_k (mt_k (mt_k (mt_k (mt_k (mt_k (mt_k (mt_k (mt_k mt_nil))))))))))
                    rintro b6
                    show SK [lv deeds, dv events, dv step, dv ahead, dv step.a, dv step.b, dv step.c, dv step.d, dv u5.1, dv u5.2] _ _ _ _ _
                    exact f_rt rfl (mt_k (mt_k (mt_w (mt_w mt_nil))))
def t_law_walks (deeds : (List (Tp4 Tx Tx Int Itx))) (brought : Oath) (events : (List (Tp4 Int Tx (Option Tx) Tx))) (found : (List (Tp4 Int Tx (Option Tx) Tx))) (day : Int) : T Empty (Bool) :=
  if ((!true) || (decide ((((List.length found : Nat) : Int) : Int) = (0 : Int)))) = true then (.ok false) else ((T.ofO (atI found (0 : Int))).bind fun x1 =>
  (t_same2 ((Enc.enc x1 : D) : D) ((Enc.enc (Tp4.mk brought.2 (tx "brought") () brought.1) : D) : D)).bind fun r2 =>
  if (!r2) = true then (.ok false) else (T.gd (inR (1 : Int) ∧ inR ((List.length found : Nat) : Int)) <|
  T.bindL (T.forL (rangeT2 (1 : Int) (Int.toNat (((List.length found : Nat) : Int) - (1 : Int)))) (() : Unit) (fun (i3 : Int) _ => (((T.ofO (atI found i3)).bind fun x4 =>
  (T.ofO (atI found (i3 - (1 : Int)))).bind fun x5 =>
  (t_law_step_fits deeds events x4 x5).bind fun r6 =>
  if (!r6) = true then (.ok (.rt false)) else (.ok (.nx ()))) : T Empty (T.Lp (Unit) (Bool))))) (fun _ =>
  (((T.ofO (atI found (-1 : Int))).bind fun x8 =>
  if (decide (x8.a ≤ day)) = true then ((T.ofO (atI found (-1 : Int))).bind fun x9 =>
  (t_law_is_dead deeds x9.d day).bind fun r10 =>
  .ok (!r10)) else (.ok false) : T Empty (Bool))).bind fun b7 =>
  .ok b7) (fun r_ => .ok r_)))
theorem r_law_walks (deeds : (List (Tp4 Tx Tx Int Itx))) (brought : Oath) (events : (List (Tp4 Int Tx (Option Tx) Tx))) (found : (List (Tp4 Int Tx (Option Tx) Tx))) (day : Int) : SK [lv deeds, dv brought, dv events, dv found, dv day] Lw.m_law_walks (t_law_walks deeds brought events found day) (fun r => (S.d (Enc.enc r))) (fun r => [lv deeds, dv brought, dv events, dv found, none]) XV := by
  unfold Lw.m_law_walks Lw.g_law_walks t_law_walks
  refine f_def (X' := XV) ?_ xe_no
  show SK [lv deeds, dv brought, dv events, dv found, dv day, none] _ _ _ _ _
  refine s_seq ?_
  refine s_if (x := ((!true) || (decide ((((List.length found : Nat) : Int) : Int) = (0 : Int))))) (pu_or (pu_not (pu_B (pu_isi (d := Enc.enc found) (b := true) (pu_peek (by rfl)) (show kitB "list" "list" = some true by decide +kernel)))) (pu_B (pu_op (z := (Enc.enc ((decide ((((List.length found : Nat) : Int) : Int) = (0 : Int))) : Bool))) (pu_un (z := (Enc.enc ((List.length found : Nat) : Int))) (pu_peek (by rfl)) (len_l _)) (pu_c (d := Enc.enc (0 : Int))) (eq_enc (((List.length found : Nat) : Int) : Int) ((0 : Int)))))) ?_ ?_
  · refine s_ret ?_
    refine e_pu (pu_d (pu_c (d := Enc.enc false))) ?_
    exact f_rt rfl (mt_k (mt_k (mt_k (mt_k (mt_w mt_nil)))))
  · refine s_next ?_
    refine s_then ?_
    refine s_seq ?_
    refine s_ifE ?_
    refine e_not ?_
    refine e_B ?_
    refine e_fz ?_
    refine e_call ?_
    refine a_d ?_
    refine e_ixP (by rfl) ?_
    refine e_pu (pu_c (d := Enc.enc (0 : Int))) ?_
    refine e_pu (pu_peek (by rfl)) ?_
    refine e_oO (p := atI found (0 : Int)) (f := Enc.enc) (ix_l found (0 : Int)) (fun x1 => ?_)
    refine a_d ?_
    refine e_pu (pu_tup (pu_cons (pu_ixP (z := (Enc.enc brought.2)) (by rfl) (pu_c (d := Enc.enc (1 : Int))) rfl) (pu_cons (pu_str "brought") (pu_cons pu_c (pu_cons (pu_ixP (z := (Enc.enc brought.1)) (by rfl) (pu_c (d := Enc.enc (0 : Int))) rfl) pu_nil)))) (ln (n := 4) rfl)) ?_
    refine a_nil ?_
    refine c_call List.nodup_nil rfl (r_same2 ((Enc.enc x1 : D)) ((Enc.enc (Tp4.mk brought.2 (tx "brought") () brought.1) : D))) xe_no ?_
    rintro r2
    show SK [lv deeds, dv brought, dv events, dv found, dv day, none] _ _ _ _ _
    refine e_ok ?_
    refine e_ok ?_
    refine s_ite (x := (!r2)) ?_ ?_
    · refine s_ret ?_
      refine e_pu (pu_d (pu_c (d := Enc.enc false))) ?_
      exact f_rt rfl (mt_k (mt_k (mt_k (mt_k (mt_w mt_nil)))))
    · refine s_next ?_
      refine s_then ?_
      refine s_seq ?_
      refine s_forE ?_
      refine e_rng2 ?_
      refine e_pu (pu_cons (pu_c (d := Enc.enc (1 : Int))) (pu_cons (pu_un (z := (Enc.enc ((List.length found : Nat) : Int))) (pu_peek (by rfl)) (len_l _)) pu_nil)) ?_
      refine c_rng2 (m := (1 : Int)) (n := ((List.length found : Nat) : Int)) ?_
      refine c_forL (e := Enc.enc) (xs := ((rangeT2 (1 : Int) (Int.toNat (((List.length found : Nat) : Int) - (1 : Int)))) : (List Int))) (v := (() : Unit)) (fun v => [lv deeds, dv brought, dv events, dv found, dv day, none]) (fun r => [lv deeds, dv brought, dv events, dv found, none, none]) (fun (r : Bool) => (S.d (Enc.enc r))) (fun i3 v => [lv deeds, dv brought, dv events, dv found, dv day, dv i3]) (mt_k (mt_k (mt_k (mt_k (mt_k (mt_w mt_nil)))))) (fun i3 v => tg_name) (fun i3 v => ?_) (fun v => ?_) (fun r => ?_)
      · show SK [lv deeds, dv brought, dv events, dv found, dv day, dv i3] _ _ _ _ _
        refine s_ifE ?_
        refine e_not ?_
        refine e_B ?_
        refine e_fz ?_
        refine e_call ?_
        refine a_r (by rfl) ?_
        refine a_r (by rfl) ?_
        refine a_d ?_
        refine e_ixP (by rfl) ?_
        refine e_pu (pu_var (by rfl)) ?_
        refine e_pu (pu_peek (by rfl)) ?_
        refine e_oO (p := atI found i3) (f := Enc.enc) (ix_l found i3) (fun x4 => ?_)
        refine a_d ?_
        refine e_ixP (by rfl) ?_
        refine e_pu (pu_op (z := (Enc.enc ((i3 - (1 : Int)) : Int))) (pu_var (by rfl)) (pu_c (d := Enc.enc (1 : Int))) rfl) ?_
        refine e_pu (pu_peek (by rfl)) ?_
        refine e_oO (p := atI found (i3 - (1 : Int))) (f := Enc.enc) (ix_l found (i3 - (1 : Int))) (fun x5 => ?_)
        refine a_nil ?_
        refine c_call (by show List.Nodup [0, 2]; decide) rfl (r_law_step_fits deeds events x4 x5) xe_no ?_
        rintro r6
        show SK [lv deeds, dv brought, dv events, dv found, dv day, dv i3] _ _ _ _ _
        refine e_ok ?_
        refine e_ok ?_
        refine s_ite (x := (!r6)) ?_ ?_
        · refine s_ret ?_
          refine e_pu (pu_d (pu_c (d := Enc.enc false))) ?_
          exact k_ok rfl (mt_k (mt_k (mt_k (mt_k (mt_w (mt_w mt_nil))))))
        · refine s_next ?_
          exact k_ok rfl (mt_k (mt_k (mt_k (mt_k (mt_k (mt_w mt_nil))))))
      · show SK [lv deeds, dv brought, dv events, dv found, dv day, none] _ _ _ _ _
        refine s_then ?_
        refine s_ret ?_
        refine e_d ?_
        refine e_cut (F1 := (fun p => Enc.enc (p : Bool))) (B1 := fun p => [lv deeds, dv brought, dv events, dv found, dv day, none]) ?_ ?_
        · refine e_id ?_
          refine e_andVL ?_
          refine e_op ?_
          refine e_op ?_
          refine e_ixP (by rfl) ?_
          refine e_pu (pu_un (z := (Enc.enc ((-1 : Int) : Int))) (pu_c (d := Enc.enc (1 : Int))) rfl) ?_
          refine e_pu (pu_peek (by rfl)) ?_
          refine e_oO (p := atI found (-1 : Int)) (f := Enc.enc) (ix_l found (-1 : Int)) (fun x8 => ?_)
          refine e_pu (pu_c (d := Enc.enc (0 : Int))) ?_
          refine e_o (z := (Enc.enc x8.a)) rfl ?_
          refine e_pu (pu_peek (by rfl)) ?_
          refine e_o (z := (Enc.enc ((decide (x8.a ≤ day)) : Bool))) rfl ?_
          refine c_andV (x := (decide (x8.a ≤ day))) ?_ ?_
          · refine e_un ?_
            refine e_fz ?_
            refine e_call ?_
            refine a_r (by rfl) ?_
            refine a_d ?_
            refine e_op ?_
            refine e_ixP (by rfl) ?_
            refine e_pu (pu_un (z := (Enc.enc ((-1 : Int) : Int))) (pu_c (d := Enc.enc (1 : Int))) rfl) ?_
            refine e_pu (pu_peek (by rfl)) ?_
            refine e_oO (p := atI found (-1 : Int)) (f := Enc.enc) (ix_l found (-1 : Int)) (fun x9 => ?_)
            refine e_pu (pu_c (d := Enc.enc (3 : Int))) ?_
            refine e_o (z := (Enc.enc x9.d)) rfl ?_
            refine a_d ?_
            refine e_pu (pu_var (by rfl)) ?_
            refine a_nil ?_
            refine c_call (by show List.Nodup [0]; decide) rfl (r_law_is_dead deeds x9.d day) xe_no ?_
            rintro r10
            show SK [lv deeds, dv brought, dv events, dv found, dv day, none] _ _ _ _ _
            refine e_ok ?_
            refine e_o (z := (Enc.enc (!r10))) rfl ?_
            exact k_ok rfl (mt_k (mt_k (mt_k (mt_k (mt_k (mt_w mt_nil))))))
          · exact k_ok rfl (mt_k (mt_k (mt_k (mt_k (mt_k (mt_w mt_nil))))))
        rintro b7
        show SK [lv deeds, dv brought, dv events, dv found, dv day, none] _ _ _ _ _
        exact f_rt rfl (mt_k (mt_k (mt_k (mt_k (mt_w mt_nil)))))
      · revert r; intro r_
        show SK [lv deeds, dv brought, dv events, dv found, none, none] _ _ _ _ _
        exact f_rt rfl (mt_k (mt_k (mt_k (mt_k (mt_w mt_nil)))))
def t_main_k25 (script : List Int) : T Empty (Bool) :=
  (t_src script).bind fun r1 =>
  (t_next r1 ((5 : Int))).bind fun (r2, src3) =>
  (t_names src3 (((2 : Int) + r2) : Int)).bind fun (r4, src5) =>
  (t_law_folk src5 r4 (([] : (Dt Tx Int)) : (Dt Tx Int)) (([] : (List (Tp3 Tx Int Int))) : (List (Tp3 Tx Int Int))) (([] : (Dt Tx (Int × Tx))) : (Dt Tx (Int × Tx)))).bind fun (r6, src7, arrivals8, ranks9, deaths10) =>
  (t_next src7 (((List.length r4 : Nat) : Int) : Int)).bind fun (r11, src12) =>
  (T.ofO (atI r4 r11)).bind fun x13 =>
  (t_next src12 ((8 : Int))).bind fun (r14, src15) =>
  (t_next src15 ((15 : Int))).bind fun (r16, src17) =>
  (t_law_events src17 r6 r4 ((x13, ((5 : Int) + r14)) : Oath) r16).bind fun (r18, src19) =>
  T.gd (inR ((x13, ((5 : Int) + r14)) : Oath).2 ∧ inR (((x13, ((5 : Int) + r14)) : Oath).2 + (22 : Int))) <|
  T.bindL (T.forL (rangeT2 ((x13, ((5 : Int) + r14)) : Oath).2 (Int.toNat ((((x13, ((5 : Int) + r14)) : Oath).2 + (22 : Int)) - ((x13, ((5 : Int) + r14)) : Oath).2))) (([] : List (Tp4 Int Tx (Option Tx) Tx)) : (List (Tp4 Int Tx (Option Tx) Tx))) (fun (i20 : Int) before23 => (((t_road ((x13, ((5 : Int) + r14)) : Oath) r18 i20 arrivals8 ranks9 deaths10).bind fun r24 =>
  (t_law_walks r6 ((x13, ((5 : Int) + r14)) : Oath) r18 r24 i20).bind fun r25 =>
  if (!r25) = true then (.ok (.rt false)) else ((t_same2 ((Enc.enc (cutT r24 none (some ((List.length before23 : Nat) : Int))) : D) : D) ((Enc.enc before23 : D) : D)).bind fun r26 =>
  if (!r26) = true then (.ok (.rt false)) else ((t_holder ((x13, ((5 : Int) + r14)) : Oath) r18 i20 arrivals8 ranks9 deaths10).bind fun r27 =>
  (T.ofO (atI r24 (-1 : Int))).bind fun x28 =>
  (t_same2 ((Enc.enc r27 : D) : D) ((Enc.enc x28.d : D) : D)).bind fun r29 =>
  if (!r29) = true then (.ok (.rt false)) else (.ok (.nx r24))))) : T Empty (T.Lp ((List (Tp4 Int Tx (Option Tx) Tx))) (Bool))))) (fun before23 =>
  (t_road ((x13, ((5 : Int) + r14)) : Oath) r18 ((((x13, ((5 : Int) + r14)) : Oath).2 - (1 : Int)) : Int) arrivals8 ranks9 deaths10).bind fun r30 =>
  .ok (decide (r30 = ([] : List (Tp4 Int Tx (Option Tx) Tx))))) (fun r_ => .ok r_)
theorem r_main_k25 (script : List Int) : SK [some (.scr script)] Lw.m_main_k25 (t_main_k25 script) (fun r => (S.d (Enc.enc r))) (fun r => [some (.scr script)]) XV := by
  unfold Lw.m_main_k25 Lw.g_main_k25 t_main_k25
  refine f_def (X' := XV) ?_ xe_no
  show SK [some (.scr script), none, none, none, none, none, none, none, none, none, none, none, none] _ _ _ _ _
  refine s_seq ?_
  refine s_asg ?_
  refine e_call ?_
  refine a_r (by rfl) ?_
  refine a_nil ?_
  refine c_call (by show List.Nodup [0]; decide) rfl (r_src script) xe_no ?_
  rintro r1
  show SK [some (.scr script), none, none, none, none, none, none, none, none, none, none, none, none] _ _ _ _ _
  refine s_set rfl ?_
  refine s_then ?_
  refine s_seq ?_
  refine s_asg ?_
  refine e_d ?_
  refine e_fz ?_
  refine e_call ?_
  refine a_r (by rfl) ?_
  refine a_d ?_
  refine e_fz ?_
  refine e_op ?_
  refine e_pu (pu_c (d := Enc.enc (2 : Int))) ?_
  refine e_fz ?_
  refine e_call ?_
  refine a_r (by rfl) ?_
  refine a_d ?_
  refine e_pu (pu_c (d := Enc.enc (5 : Int))) ?_
  refine a_nil ?_
  refine c_call (by show List.Nodup [1]; decide) rfl (r_next r1 ((5 : Int))) xe_no ?_
  rintro ⟨r2, src3⟩
  show SK [some (.scr script), some src3.1, none, none, none, none, none, none, none, none, none, none, none] _ _ _ _ _
  refine e_ok ?_
  refine e_o (z := (S.d (Enc.enc ((2 : Int) + r2 : Int)))) rfl ?_
  refine e_ok ?_
  refine a_nil ?_
  refine c_call (by show List.Nodup [1]; decide) rfl (r_names src3 (((2 : Int) + r2))) xe_no ?_
  rintro ⟨r4, src5⟩
  show SK [some (.scr script), some src5.1, none, none, none, none, none, none, none, none, none, none, none] _ _ _ _ _
  refine e_ok ?_
  refine s_set rfl ?_
  refine s_then ?_
  refine s_newO (fs := [("arrivals", S.odK []), ("ranks", S.ol []), ("deaths", S.odK [])]) rfl rfl rfl rfl ?_
  show SS [some (.scr script), some src5.1, dv r4, none, none, none, none, none, none, none, kv (([] : (Dt Tx Int)) : (Dt Tx Int)), lv (([] : (List (Tp3 Tx Int Int))) : (List (Tp3 Tx Int Int))), kv (([] : (Dt Tx (Int × Tx))) : (Dt Tx (Int × Tx)))] _ _ _ _ _ _
  refine s_seq ?_
  refine s_asg ?_
  refine e_callG ?_
  refine ag_r (by rfl) ?_
  refine ag_r (by rfl) ?_
  refine ag_o ?_
  refine ag_nil ?_
  refine c_call (by show List.Nodup [1, 2, 3, 10, 11, 12]; decide) rfl (r_law_folk src5 r4 (([] : (Dt Tx Int))) (([] : (List (Tp3 Tx Int Int)))) (([] : (Dt Tx (Int × Tx))))) xe_no ?_
  rintro ⟨r6, src7, arrivals8, ranks9, deaths10⟩
  show SK [some (.scr script), some src7.1, dv r4, none, none, none, none, none, none, none, kv arrivals8, lv ranks9, kv deaths10] _ _ _ _ _
  refine s_set rfl ?_
  refine s_then ?_
  refine s_seq ?_
  refine s_asg ?_
  refine e_d ?_
  refine e_tup ?_
  refine e_cons ?_
  refine e_ixP (by rfl) ?_
  refine e_fz ?_
  refine e_call ?_
  refine a_r (by rfl) ?_
  refine a_d ?_
  refine e_pu (pu_un (z := (Enc.enc ((List.length r4 : Nat) : Int))) (pu_peek (by rfl)) (len_l _)) ?_
  refine a_nil ?_
  refine c_call (by show List.Nodup [1]; decide) rfl (r_next src7 (((List.length r4 : Nat) : Int))) xe_no ?_
  rintro ⟨r11, src12⟩
  show SK [some (.scr script), some src12.1, dv r4, none, lv r6, none, none, none, none, none, kv arrivals8, lv ranks9, kv deaths10] _ _ _ _ _
  refine e_ok ?_
  refine e_pu (pu_peek (by rfl)) ?_
  refine e_oO (p := atI r4 r11) (f := Enc.enc) (ix_l r4 r11) (fun x13 => ?_)
  refine e_cons ?_
  refine e_fz ?_
  refine e_op ?_
  refine e_pu (pu_c (d := Enc.enc (5 : Int))) ?_
  refine e_fz ?_
  refine e_call ?_
  refine a_r (by rfl) ?_
  refine a_d ?_
  refine e_pu (pu_c (d := Enc.enc (8 : Int))) ?_
  refine a_nil ?_
  refine c_call (by show List.Nodup [1]; decide) rfl (r_next src12 ((8 : Int))) xe_no ?_
  rintro ⟨r14, src15⟩
  show SK [some (.scr script), some src15.1, dv r4, none, lv r6, none, none, none, none, none, kv arrivals8, lv ranks9, kv deaths10] _ _ _ _ _
  refine e_ok ?_
  refine e_o (z := (S.d (Enc.enc ((5 : Int) + r14 : Int)))) rfl ?_
  refine e_ok ?_
  refine e_pu pu_nil ?_
  refine e_iteP (lnS (n := 2) rfl) ?_
  refine e_ok ?_
  refine s_set rfl ?_
  refine s_then ?_
  refine s_seq ?_
  refine s_asg ?_
  refine e_d ?_
  refine e_fz ?_
  refine e_call ?_
  refine a_r (by rfl) ?_
  refine a_r (by rfl) ?_
  refine a_r (by rfl) ?_
  refine a_d ?_
  refine e_pu (pu_var (by rfl)) ?_
  refine a_d ?_
  refine e_fz ?_
  refine e_call ?_
  refine a_r (by rfl) ?_
  refine a_d ?_
  refine e_pu (pu_c (d := Enc.enc (15 : Int))) ?_
  refine a_nil ?_
  refine c_call (by show List.Nodup [1]; decide) rfl (r_next src15 ((15 : Int))) xe_no ?_
  rintro ⟨r16, src17⟩
  show SK [some (.scr script), some src17.1, dv r4, none, lv r6, dv ((x13, ((5 : Int) + r14)) : Oath), none, none, none, none, kv arrivals8, lv ranks9, kv deaths10] _ _ _ _ _
  refine e_ok ?_
  refine a_nil ?_
  refine c_call (by show List.Nodup [1, 4, 2]; decide) rfl (r_law_events src17 r6 r4 ((x13, ((5 : Int) + r14))) r16) xe_no ?_
  rintro ⟨r18, src19⟩
  show SK [some (.scr script), some src19.1, dv r4, none, lv r6, dv ((x13, ((5 : Int) + r14)) : Oath), none, none, none, none, kv arrivals8, lv ranks9, kv deaths10] _ _ _ _ _
  refine e_ok ?_
  refine s_set rfl ?_
  refine s_then ?_
  refine s_seq ?_
  refine s_asg ?_
  refine e_pu (pu_d (pu_fzL (pu_lst pu_nil (ln (n := 0) rfl)))) ?_
  refine s_set rfl ?_
  refine s_then ?_
  refine s_seq ?_
  refine s_forE ?_
  refine e_rng2 ?_
  refine e_pu (pu_cons (pu_ixP (z := (Enc.enc (((x13, ((5 : Int) + r14)) : Oath).2 : Int))) (by rfl) (pu_c (d := Enc.enc (1 : Int))) rfl) (pu_cons (pu_fz (pu_op (z := (S.d (Enc.enc (((x13, ((5 : Int) + r14)) : Oath).2 + (22 : Int))))) (pu_ixP (z := (Enc.enc (((x13, ((5 : Int) + r14)) : Oath).2 : Int))) (by rfl) (pu_c (d := Enc.enc (1 : Int))) rfl) (pu_c (d := Enc.enc (22 : Int))) rfl)) pu_nil)) ?_
  refine c_rng2 (m := ((x13, ((5 : Int) + r14)) : Oath).2) (n := (((x13, ((5 : Int) + r14)) : Oath).2 + (22 : Int))) ?_
  refine c_forL (e := Enc.enc) (xs := ((rangeT2 ((x13, ((5 : Int) + r14)) : Oath).2 (Int.toNat ((((x13, ((5 : Int) + r14)) : Oath).2 + (22 : Int)) - ((x13, ((5 : Int) + r14)) : Oath).2))) : (List Int))) (v := (([] : List (Tp4 Int Tx (Option Tx) Tx)) : (List (Tp4 Int Tx (Option Tx) Tx)))) (fun v => [some (.scr script), some src19.1, dv r4, none, lv r6, dv ((x13, ((5 : Int) + r14)) : Oath), dv r18, dv v, none, none, kv arrivals8, lv ranks9, kv deaths10]) (fun r => [some (.scr script), none, none, none, none, none, none, none, none, none, none, none, none]) (fun (r : Bool) => (S.d (Enc.enc r))) (fun i20 v => [some (.scr script), some src19.1, dv r4, none, lv r6, dv ((x13, ((5 : Int) + r14)) : Oath), dv r18, dv v, dv i20, none, kv arrivals8, lv ranks9, kv deaths10]) (mt_k (mt_k (mt_k (mt_w (mt_k (mt_k (mt_k (mt_k (mt_w (mt_w (mt_k (mt_k (mt_k mt_nil))))))))))))) (fun i20 v => tg_name) (fun i20 v => ?_) (fun v => ?_) (fun r => ?_)
  · revert v; intro before23
    show SK [some (.scr script), some src19.1, dv r4, none, lv r6, dv ((x13, ((5 : Int) + r14)) : Oath), dv r18, dv before23, dv i20, none, kv arrivals8, lv ranks9, kv deaths10] _ _ _ _ _
    refine s_seq ?_
    refine s_asg ?_
    refine e_d ?_
    refine e_fz ?_
    refine e_callG ?_
    refine ag_d ?_
    refine e_pu (pu_var (by rfl)) ?_
    refine ag_d ?_
    refine e_pu (pu_fzL (pu_un (z := (S.ol (List.map Enc.enc r18))) (pu_peek (by rfl)) rfl)) ?_
    refine ag_o ?_
    refine ag_d ?_
    refine e_pu (pu_var (by rfl)) ?_
    refine ag_nil ?_
    refine c_call (by show List.Nodup [3, 10, 11, 12]; decide) rfl (r_road ((x13, ((5 : Int) + r14))) r18 i20 arrivals8 ranks9 deaths10) xe_no ?_
    rintro r24
    show SK [some (.scr script), some src19.1, dv r4, none, lv r6, dv ((x13, ((5 : Int) + r14)) : Oath), dv r18, dv before23, dv i20, none, kv arrivals8, lv ranks9, kv deaths10] _ _ _ _ _
    refine e_ok ?_
    refine s_set rfl ?_
    refine s_then ?_
    refine s_seq ?_
    refine s_ifE ?_
    refine e_not ?_
    refine e_B ?_
    refine e_fz ?_
    refine e_call ?_
    refine a_r (by rfl) ?_
    refine a_r (by rfl) ?_
    refine a_r (by rfl) ?_
    refine a_r (by rfl) ?_
    refine a_d ?_
    refine e_pu (pu_var (by rfl)) ?_
    refine a_nil ?_
    refine c_call (by show List.Nodup [4, 5, 6, 9]; decide) rfl (r_law_walks r6 ((x13, ((5 : Int) + r14))) r18 r24 i20) xe_no ?_
    rintro r25
    show SK [some (.scr script), some src19.1, dv r4, none, lv r6, dv ((x13, ((5 : Int) + r14)) : Oath), dv r18, dv before23, dv i20, dv r24, kv arrivals8, lv ranks9, kv deaths10] _ _ _ _ _
    refine e_ok ?_
    refine e_ok ?_
    refine s_ite (x := (!r25)) ?_ ?_
    · refine s_ret ?_
      refine e_pu (pu_d (pu_c (d := Enc.enc false))) ?_
      exact k_ok rfl (mt_k (mt_w (mt_w (mt_w (mt_w (mt_w (mt_w (mt_w (mt_w (mt_w (mt_w (mt_w (mt_w mt_nil)))))))))))))
    · refine s_next ?_
      refine s_then ?_
      refine s_seq ?_
      refine s_ifE ?_
      refine e_not ?_
      refine e_B ?_
      refine e_fz ?_
      refine e_call ?_
      refine a_d ?_
      refine e_pu (pu_fzL (pu_sl (pu_peek (by rfl)) pu_no (pu_so (pu_un (z := (Enc.enc ((List.length before23 : Nat) : Int))) (pu_peek (by rfl)) (len_l _))) (cut_l _ _ _))) ?_
      refine a_d ?_
      refine e_pu (pu_var (by rfl)) ?_
      refine a_nil ?_
      refine c_call List.nodup_nil rfl (r_same2 ((Enc.enc (cutT r24 none (some ((List.length before23 : Nat) : Int))) : D)) ((Enc.enc before23 : D))) xe_no ?_
      rintro r26
      show SK [some (.scr script), some src19.1, dv r4, none, lv r6, dv ((x13, ((5 : Int) + r14)) : Oath), dv r18, dv before23, dv i20, dv r24, kv arrivals8, lv ranks9, kv deaths10] _ _ _ _ _
      refine e_ok ?_
      refine e_ok ?_
      refine s_ite (x := (!r26)) ?_ ?_
      · refine s_ret ?_
        refine e_pu (pu_d (pu_c (d := Enc.enc false))) ?_
        exact k_ok rfl (mt_k (mt_w (mt_w (mt_w (mt_w (mt_w (mt_w (mt_w (mt_w (mt_w (mt_w (mt_w (mt_w mt_nil)))))))))))))
      · refine s_next ?_
        refine s_then ?_
        refine s_seq ?_
        refine s_ifE ?_
        refine e_not ?_
        refine e_B ?_
        refine e_fz ?_
        refine e_call ?_
        refine a_d ?_
        refine e_fz ?_
        refine e_callG ?_
        refine ag_d ?_
        refine e_pu (pu_var (by rfl)) ?_
        refine ag_d ?_
        refine e_pu (pu_fzL (pu_un (z := (S.ol (List.map Enc.enc r18))) (pu_peek (by rfl)) rfl)) ?_
        refine ag_o ?_
        refine ag_d ?_
        refine e_pu (pu_var (by rfl)) ?_
        refine ag_nil ?_
        refine c_call (by show List.Nodup [3, 10, 11, 12]; decide) rfl (r_holder ((x13, ((5 : Int) + r14))) r18 i20 arrivals8 ranks9 deaths10) xe_no ?_
        rintro r27
        show SK [some (.scr script), some src19.1, dv r4, none, lv r6, dv ((x13, ((5 : Int) + r14)) : Oath), dv r18, dv before23, dv i20, dv r24, kv arrivals8, lv ranks9, kv deaths10] _ _ _ _ _
        refine e_ok ?_
        refine a_d ?_
        refine e_op ?_
        refine e_ixP (by rfl) ?_
        refine e_pu (pu_un (z := (Enc.enc ((-1 : Int) : Int))) (pu_c (d := Enc.enc (1 : Int))) rfl) ?_
        refine e_pu (pu_peek (by rfl)) ?_
        refine e_oO (p := atI r24 (-1 : Int)) (f := Enc.enc) (ix_l r24 (-1 : Int)) (fun x28 => ?_)
        refine e_pu (pu_c (d := Enc.enc (3 : Int))) ?_
        refine e_o (z := (Enc.enc x28.d)) rfl ?_
        refine a_nil ?_
        refine c_call List.nodup_nil rfl (r_same2 ((Enc.enc r27 : D)) ((Enc.enc x28.d : D))) xe_no ?_
        rintro r29
        show SK [some (.scr script), some src19.1, dv r4, none, lv r6, dv ((x13, ((5 : Int) + r14)) : Oath), dv r18, dv before23, dv i20, dv r24, kv arrivals8, lv ranks9, kv deaths10] _ _ _ _ _
        refine e_ok ?_
        refine e_ok ?_
        refine s_ite (x := (!r29)) ?_ ?_
        · refine s_ret ?_
          refine e_pu (pu_d (pu_c (d := Enc.enc false))) ?_
          exact k_ok rfl (mt_k (mt_w (mt_w (mt_w (mt_w (mt_w (mt_w (mt_w (mt_w (mt_w (mt_w (mt_w (mt_w mt_nil)))))))))))))
        · refine s_next ?_
          refine s_then ?_
          refine s_asg ?_
          refine e_pu (pu_d (pu_var (by rfl))) ?_
          refine s_set rfl ?_
          exact k_ok rfl (mt_k (mt_k (mt_k (mt_w (mt_k (mt_k (mt_k (mt_k (mt_w (mt_w (mt_k (mt_k (mt_k mt_nil)))))))))))))
  · revert v; intro before23
    show SK [some (.scr script), some src19.1, dv r4, none, lv r6, dv ((x13, ((5 : Int) + r14)) : Oath), dv r18, dv before23, none, none, kv arrivals8, lv ranks9, kv deaths10] _ _ _ _ _
    refine s_then ?_
    refine s_ret ?_
    refine e_d ?_
    refine e_op ?_
    refine e_fz ?_
    refine e_callG ?_
    refine ag_d ?_
    refine e_pu (pu_var (by rfl)) ?_
    refine ag_d ?_
    refine e_pu (pu_fzL (pu_un (z := (S.ol (List.map Enc.enc r18))) (pu_peek (by rfl)) rfl)) ?_
    refine ag_o ?_
    refine ag_d ?_
    refine e_pu (pu_op (z := (Enc.enc ((((x13, ((5 : Int) + r14)) : Oath).2 - (1 : Int)) : Int))) (pu_ixP (z := (Enc.enc (((x13, ((5 : Int) + r14)) : Oath).2 : Int))) (by rfl) (pu_c (d := Enc.enc (1 : Int))) rfl) (pu_c (d := Enc.enc (1 : Int))) rfl) ?_
    refine ag_nil ?_
    refine c_call (by show List.Nodup [3, 10, 11, 12]; decide) rfl (r_road ((x13, ((5 : Int) + r14))) r18 ((((x13, ((5 : Int) + r14)) : Oath).2 - (1 : Int))) arrivals8 ranks9 deaths10) xe_no ?_
    rintro r30
    show SK [some (.scr script), some src19.1, dv r4, none, lv r6, dv ((x13, ((5 : Int) + r14)) : Oath), dv r18, dv before23, none, none, kv arrivals8, lv ranks9, kv deaths10] _ _ _ _ _
    refine e_ok ?_
    refine e_pu (pu_fzL (pu_lst pu_nil (ln (n := 0) rfl))) ?_
    refine e_o (z := (Enc.enc ((decide (r30 = ([] : List (Tp4 Int Tx (Option Tx) Tx)))) : Bool))) (eq_enc r30 (([] : List (Tp4 Int Tx (Option Tx) Tx)) : (List (Tp4 Int Tx (Option Tx) Tx)))) ?_
    refine k_cleanR (A2 := [some (.scr script), none, none, none, none, none, none, none, none, none, none, none, none]) (by repeat (first | exact cl_0 | apply cl_n)) (mt_k (mt_w (mt_w (mt_w (mt_w (mt_w (mt_w (mt_w (mt_w (mt_w (mt_w (mt_w (mt_w mt_nil))))))))))))) rfl ?_
    exact f_rt rfl (mt_k mt_nil)
  · revert r; intro r_
    show SK [some (.scr script), none, none, none, none, none, none, none, none, none, none, none, none] _ _ _ _ _
    refine k_cleanR (A2 := [some (.scr script), none, none, none, none, none, none, none, none, none, none, none, none]) (by repeat (first | exact cl_0 | apply cl_n)) (mt_k (mt_w (mt_w (mt_w (mt_w (mt_w (mt_w (mt_w (mt_w (mt_w (mt_w (mt_w (mt_w mt_nil))))))))))))) rfl ?_
    exact f_rt rfl (mt_k mt_nil)
end Ty

namespace Ty
open PySem VS L2
theorem given_won : tx "given" ≠ tx "won" := by decide
theorem left_given : tx "left" ≠ tx "given" := by decide
theorem left_won : tx "left" ≠ tx "won" := by decide
theorem death2_eq (ds : List Di) (n : Tx) : t_law_death_2 ds (some n) = .ok (dget (dies ds) n) := by
  unfold t_law_death_2
  have key : ∀ ds : List Di, (T.forL ds (() : Unit) (fun (i1 : Di) _ => ((if ((decide (i1.a = (tx "die"))) && (decide (((some i1.b) : (Option Tx)) = some n))) = true then (.ok (.rt (i1.c, i1.d))) else (.ok (.nx ()))) : T Empty (T.Lp (Unit) (Int × Itx)))) : T Empty (T.Le Unit (Int × Itx))) = .ok (match dget (dies ds) n with
      | some v => .rt v
      | none => .nx ()) := by
    intro ds
    induction ds with
    | nil => rfl
    | cons e ds ih =>
      show (T.bind (if ((decide (e.a = (tx "die"))) && (decide (((some e.b) : (Option Tx)) = some n))) = true then ((.ok (.rt (e.c, e.d))) : T Empty (T.Lp Unit (Int × Itx))) else (.ok (.nx ()))) _) = _
      by_cases ha : e.a = tx "die"
      · have hc : dies (e :: ds) = (e.b, (e.c, e.d)) :: dies ds := by
          unfold dies
          rw [List.filterMap_cons, if_pos (show e.a = dieX from ha)]
        rw [hc, dget_cons]
        by_cases hb : e.b = n
        · rw [if_pos (by simp [ha, hb]), if_pos hb]
          rfl
        · rw [if_neg (by simp [hb]), if_neg hb]
          exact ih
      · have hc : dies (e :: ds) = dies ds := by
          unfold dies
          rw [List.filterMap_cons, if_neg (show ¬ e.a = dieX from ha)]
        rw [hc, if_neg (by simp [ha])]
        exact ih
  rw [key]
  cases dget (dies ds) n <;> rfl
theorem isdead2_eq {ns : List Tx} {ds : List Di} {arr : Dt Tx Int} {de : Des} (f : Fd ns ds arr de) (n : Tx) (d : Int) : t_law_is_dead_2 ds (some n) d = .ok (deadB de n d) := by
  unfold t_law_is_dead_2
  rw [death2_eq, T.ok_bind, f.di, dget_toI]
  unfold deadB
  cases dget de n <;> rfl
def Fit (evs : List Stp) (de : Des) (x y : Stp) : Prop := x.a ≤ y.a ∧ y.c = some x.d ∧ ((y.b = tx "given" ∧ y ∈ evs) ∨ (y.b = tx "won" ∧ Tp4.mk y.a (tx "won") none y.d ∈ evs) ∨ (y.b = tx "left" ∧ ∃ v, dget de x.d = some v ∧ v.1 ≤ y.a ∧ y.d = v.2 ∧ (y.a = v.1 ∨ y.a = x.a)))
structure Wk (evs : List Stp) (de : Des) (b : Oath) (t : Int) (st : List Stp) : Prop where
  c : ∀ i x y, st[i]? = some x → st[i + 1]? = some y → Fit evs de x y
  h : st[0]? = some (Tp4.mk b.2 (tx "brought") none b.1)
  l : ∃ l, st.getLast? = some l ∧ l.a ≤ t
theorem Wk.snoc {evs : List Stp} {de : Des} {b : Oath} {t t' : Int} {st : List Stp} {l y : Stp} (w : Wk evs de b t st) (hl : st.getLast? = some l) (hf : Fit evs de l y) (ht : y.a ≤ t') : Wk evs de b t' (st ++ [y]) := by
  obtain ⟨p, rfl⟩ := List.getLast?_eq_some_iff.mp hl
  refine ⟨fun i x z h1 h2 => ?_, ?_, ⟨y, by simp, ht⟩⟩
  · by_cases hi : i + 1 < (p ++ [l]).length
    · rw [List.getElem?_append_left (by omega)] at h1
      rw [List.getElem?_append_left hi] at h2
      exact w.c i x z h1 h2
    · have hlt := (List.getElem?_eq_some_iff.mp h2).1
      rw [List.length_append, List.length_singleton] at hlt
      have hi2 : i + 1 = (p ++ [l]).length := by omega
      rw [hi2, List.getElem?_append_right (Nat.le_refl _), Nat.sub_self] at h2
      cases h2
      have hi3 : i = p.length := by rw [List.length_append, List.length_singleton] at hi2; omega
      rw [List.getElem?_append_left (by omega), hi3, List.getElem?_append_right (Nat.le_refl _), Nat.sub_self] at h1
      cases h1
      exact hf
  · have := w.h
    rw [List.getElem?_append_left (by simp)]
    exact this
theorem Wk.up {evs : List Stp} {de : Des} {b : Oath} {t t' : Int} {st : List Stp} (w : Wk evs de b t st) (h : t ≤ t') : Wk evs de b t' st :=
  ⟨w.c, w.h, let ⟨l, a, b⟩ := w.l; ⟨l, a, by omega⟩⟩
theorem Wk.lv {evs : List Stp} {de : Des} {b : Oath} {day : Int} : ∀ (k : Nat) {st : List Stp}, Wk evs de b day st → Wk evs de b day (lvF de day k st)
  | 0, _, w => w
  | k + 1, st, w => by
    obtain ⟨l, hl, ht⟩ := w.l
    unfold lvF
    rw [hl]
    dsimp only
    split
    · rename_i v hv
      split
      · rename_i hd
        refine Wk.lv k (w.snoc hl ⟨?_, rfl, .inr (.inr ⟨rfl, v, hv, ?_, rfl, ?_⟩)⟩ ?_)
        · show l.a ≤ max v.1 l.a
          omega
        · show v.1 ≤ max v.1 l.a
          omega
        · show max v.1 l.a = v.1 ∨ max v.1 l.a = l.a
          omega
        · show max v.1 l.a ≤ day
          omega
      · exact w
    · exact w
theorem Wk.ev {ns : List Tx} {evs : List Stp} {de : Des} {b : Oath} {t : Int} {st : List Stp} {e : Stp} (v : Ev ns b evs) (he : e ∈ evs) (w : Wk evs de b t st) (ht : t ≤ e.a) : Wk evs de b e.a (evS de st e) := by
  have w2 : Wk evs de b e.a (LV de e.a st) := Wk.lv 50 (w.up ht)
  obtain ⟨l, hl, hla⟩ := w2.l
  obtain ⟨_, _, _, hk⟩ := v.ev e he
  unfold evS
  rw [hl]
  dsimp only
  by_cases q1 : e.b = tx "won"
  · rw [if_pos q1]
    refine w2.snoc hl ⟨hla, rfl, .inr (.inl ⟨rfl, ?_⟩)⟩ (Int.le_refl _)
    rcases hk with ⟨_, k2⟩ | k
    · have : Tp4.mk e.a (tx "won") none e.d = e := by rw [← k2, ← q1]
      dsimp only
      rw [this]
      exact he
    · exact absurd (k.symm.trans q1) given_won
  · rw [if_neg q1]
    by_cases q2 : some l.d = e.c
    · rw [if_pos q2]
      refine w2.snoc hl ⟨hla, q2.symm, .inl ⟨rfl, ?_⟩⟩ (Int.le_refl _)
      rcases hk with ⟨k1, _⟩ | k
      · exact absurd k1 q1
      · have : Tp4.mk e.a (tx "given") e.c e.d = e := by rw [← k]
        rw [this]
        exact he
    · rw [if_neg q2]
      exact w2
theorem Wk.fold {ns : List Tx} {evs : List Stp} {de : Des} {b : Oath} (v : Ev ns b evs) {day : Int} : ∀ (es : List Stp) {t : Int} {st : List Stp}, (∀ e ∈ es, e ∈ evs ∧ t ≤ e.a ∧ e.a ≤ day) → es.Pairwise (fun a b => ord0T a b = true) → t ≤ day → Wk evs de b t st → Wk evs de b day (es.foldl (evS de) st)
  | [], _, _, _, _, h, w => w.up h
  | e :: es, t, st, he, hs, h, w => by
    obtain ⟨h1, h2⟩ := List.pairwise_cons.mp hs
    obtain ⟨a, b', c⟩ := he e List.mem_cons_self
    refine Wk.fold v es (t := e.a) (fun x hx => ?_) h2 c (w.ev v a b')
    obtain ⟨p, q, r⟩ := he x (List.mem_cons_of_mem _ hx)
    have := h1 x hx
    unfold ord0T at this
    exact ⟨p, by simpa using this, r⟩
theorem evTo_pw (evs : List Stp) (d : Int) : (evTo evs d).Pairwise fun a b => ord0T a b = true := (srt_pw evs).sublist (List.takeWhile_sublist _)
theorem road_wk {ns : List Tx} {evs : List Stp} {de : Des} {b : Oath} (v : Ev ns b evs) {day : Int} (h : b.2 ≤ day) : Wk evs de b day (roadF de b evs day) := by
  unfold roadF
  rw [if_neg (by omega)]
  refine Wk.lv 50 (Wk.fold v _ (t := b.2) (fun e he => ?_) (evTo_pw evs day) h ⟨fun i x y h1 h2 => ?_, rfl, _, rfl, Int.le_refl _⟩)
  · obtain ⟨a, c⟩ := evTo_mem he
    exact ⟨a, (v.ev e a).1, c⟩
  · have := (List.getElem?_eq_some_iff.mp h2).1
    have hl : (stS b).length = 1 := rfl
    omega
theorem lv_alive {de : Des} {day : Int} {n r : Tx} {j : Nat} (h : Heir de day n r j) : ∀ {st : List Stp} {l : Stp}, st.getLast? = some l → l.d = n → ∃ l', (lvF de day j st).getLast? = some l' ∧ deadB de l'.d day = false := by
  induction h with
  | @stop n hs =>
    intro st l hl hn
    subst hn
    exact ⟨l, by rw [lv_stop hl hs]; exact hl, hs⟩
  | @step n h r dd j hg hd hr ih =>
    intro st l hl hn
    subst hn
    rw [lv_step hl hg hd]
    exact ih (l := leftS (dd, h) l) (by simp) rfl
theorem LV_alive {ns : List Tx} {ds : List Di} {arr : Dt Tx Int} {de : Des} (f : Fd ns ds arr de) (hdl : de.length ≤ 40) (day : Int) {st : List Stp} (h : Gst ns st) : ∃ l, (LV de day st).getLast? = some l ∧ deadB de l.d day = false := by
  obtain ⟨l, hl, hm⟩ := h
  obtain ⟨r, j, hr, hj⟩ := heir_any f day l.d
  unfold LV
  rw [lv_fuel hr hl rfl 50 (by omega)]
  exact lv_alive hr hl rfl
theorem pre_lv (de : Des) (d : Int) : ∀ (k : Nat) (st : List Stp), st <+: lvF de d k st
  | 0, _ => List.prefix_refl _
  | k + 1, st => by
    unfold lvF
    split
    · exact List.prefix_refl _
    · split
      · split
        · exact (List.prefix_append _ _).trans (pre_lv de d k _)
        · exact List.prefix_refl _
      · exact List.prefix_refl _
theorem lv_mono (de : Des) {d d' : Int} (h : d ≤ d') : ∀ (k : Nat) (st : List Stp), lvF de d k st <+: lvF de d' k st
  | 0, _ => List.prefix_refl _
  | k + 1, st => by
    have hp := pre_lv de d' (k + 1) st
    rw [lvF]
    cases hl : st.getLast? with
    | none => exact hp
    | some l =>
      dsimp only
      cases hg : dget de l.d with
      | none => exact hp
      | some v =>
        dsimp only
        by_cases hd : v.1 ≤ d
        · rw [if_pos hd, lv_step hl hg (by omega)]
          exact lv_mono de h k _
        · rw [if_neg hd]
          exact hp
theorem pre_ev (de : Des) (st : List Stp) (e : Stp) : LV de e.a st <+: evS de st e := by
  unfold evS
  split
  · exact List.prefix_refl _
  · split
    · exact List.prefix_append _ _
    · split
      · exact List.prefix_append _ _
      · exact List.prefix_refl _
theorem pre_fold (de : Des) : ∀ (es : List Stp) (st : List Stp), st <+: es.foldl (evS de) st
  | [], _ => List.prefix_refl _
  | e :: es, st => ((pre_lv de e.a 50 st).trans (pre_ev de st e)).trans (pre_fold de es _)
theorem evTo_next (evs : List Stp) (d : Int) : ∃ es, evTo evs (d + 1) = evTo evs d ++ es ∧ ∀ e ∈ es, e.a = d + 1 := by
  refine ⟨(evTo evs (d + 1)).filter fun e => decide (e.a = d + 1), ?_, fun e he => by simpa using (List.mem_filter.mp he).2⟩
  have h := split_days (ys := evTo evs (d + 1)) (t := d + 1) (evTo_pw _ _) fun e he => (evTo_mem he).2
  conv => lhs; rw [h]
  congr 1
  unfold evTo
  rw [take_filter (srt_pw evs), take_filter (srt_pw evs), List.filter_filter]
  refine List.filter_congr fun e _ => ?_
  by_cases q : e.a ≤ d
  · simp [q]; omega
  · simp [q]; omega
theorem road_pre {ns : List Tx} {evs : List Stp} {de : Des} {b : Oath} (v : Ev ns b evs) (d : Int) : roadF de b evs d <+: roadF de b evs (d + 1) := by
  unfold roadF
  by_cases h : d < b.2
  · rw [if_pos h]
    exact List.nil_prefix
  · rw [if_neg h, if_neg (by omega)]
    obtain ⟨es, h1, h2⟩ := evTo_next evs d
    rw [h1, List.foldl_append]
    generalize (evTo evs d).foldl (evS de) (stS b) = st
    cases es with
    | nil => exact lv_mono de (by omega) 50 st
    | cons e es =>
      have he := h2 e List.mem_cons_self
      have h3 : LV de d st <+: LV de e.a st := lv_mono de (by omega) 50 st
      exact ((h3.trans (pre_ev de st e)).trans (pre_fold de es _)).trans (pre_lv de (d + 1) 50 _)
theorem fits_ok {ns : List Tx} {ds : List Di} {arr : Dt Tx Int} {de : Des} (f : Fd ns ds arr de) {evs : List Stp} {x y : Stp} (h : Fit evs de x y) : t_law_step_fits ds evs y x = .ok true := by
  obtain ⟨h1, h2, h3⟩ := h
  unfold t_law_step_fits
  rw [if_neg (by simp), if_neg (by simp), show t_law_whole y.a = .ok true from rfl, T.ok_bind]
  simp only [Bool.not_true, Bool.false_eq_true, if_false]
  rw [if_neg (by simp; omega), h2, show (Enc.enc (some x.d) : D) = Enc.enc x.d from rfl, same2_refl, T.ok_bind]
  simp only [Bool.not_true, Bool.false_eq_true, if_false]
  rcases h3 with ⟨q1, q2⟩ | ⟨q1, q2⟩ | ⟨q1, w, hw, q2, q3, q4⟩
  · rw [if_pos (by simpa using q1)]
    have : Tp4.mk y.a (tx "given") (some x.d) y.d = y := by rw [← h2, ← q1]
    rw [this, (memT_iff _ _).mpr q2]
  · rw [if_neg (by simp [q1]; exact fun z => given_won z.symm), if_pos (by simpa using q1), (memT_iff _ _).mpr q2]
  · rw [if_neg (by simp [q1]; exact left_given), if_neg (by simp [q1]; exact left_won), if_neg (by simp [q1]), isdead2_eq f, T.ok_bind]
    have hb : deadB de x.d y.a = true := by
      unfold deadB
      rw [hw]
      exact decide_eq_true q2
    rw [hb]
    simp only [Bool.not_true, Bool.false_eq_true, if_false]
    rw [death2_eq, T.ok_bind, f.di, dget_toI, hw]
    simp only [Option.map_some, ofO_some']
    rw [q3, show (Enc.enc (Itx.t w.2) : D) = Enc.enc w.2 from rfl, same2_refl, T.ok_bind, if_pos rfl, T.ok_bind]
    rcases q4 with q4 | q4
    · simp [q4]
    · simp [q4]
theorem walks_ok {ns : List Tx} {ds : List Di} {arr : Dt Tx Int} {de : Des} (f : Fd ns ds arr de) {evs : List Stp} {b : Oath} {day : Int} {st : List Stp} (w : Wk evs de b day st) (hl : st.length ≤ 1000) (ha : ∃ l, st.getLast? = some l ∧ deadB de l.d day = false) : t_law_walks ds b evs st day = .ok true := by
  obtain ⟨l, h1, h2⟩ := w.l
  obtain ⟨l', h3, h4⟩ := ha
  rw [h1] at h3
  cases h3
  have hne : st ≠ [] := fun z => by rw [z] at h1; cases h1
  have hpos : 0 < st.length := List.length_pos_iff.mpr hne
  unfold t_law_walks
  have a0 : atI st (0 : Int) = st[0]? := atI_n st 0
  rw [if_neg (by simp [hne]), a0, w.h, ofO_some']
  have e0 : (Enc.enc (Tp4.mk b.2 (tx "brought") () b.1) : D) = Enc.enc (Tp4.mk b.2 (tx "brought") (none : Option Tx) b.1) := rfl
  rw [e0, same2_refl, T.ok_bind]
  simp only [Bool.not_true, Bool.false_eq_true, if_false]
  rw [T.gd_of ⟨inR_s (by omega) (by omega), inR_s (by omega) (by omega)⟩, forL_nx fun i hi => ?_, T.bindL_nx]
  · rw [atI_neg1 h1, ofO_some', if_pos (by simpa using h2), ofO_some', isdead_eq f, T.ok_bind, T.ok_bind, h4]
    rfl
  · unfold rangeT2 at hi
    obtain ⟨q, hq, rfl⟩ := List.mem_map.mp hi
    have hq := List.mem_range.mp hq
    have hq2 : q + 1 < st.length := by omega
    have e1 : atI st (1 + (q : Int)) = some st[q + 1] := by
      rw [show (1 + (q : Int)) = ((q + 1 : Nat) : Int) from by omega, atI_n, List.getElem?_eq_getElem hq2]
    have e2 : atI st (1 + (q : Int) - 1) = some (st[q]'(by omega)) := by
      rw [show (1 + (q : Int) - 1) = ((q : Nat) : Int) from by omega, atI_n, List.getElem?_eq_getElem (by omega)]
    rw [e1, ofO_some', e2, ofO_some', fits_ok f (w.c q _ _ (List.getElem?_eq_getElem (by omega)) (List.getElem?_eq_getElem hq2)), T.ok_bind]
    rfl
theorem main_k25 (ns : List Int) (hn : ns.length ≤ 63) : t_main_k25 ns = .ok true := by
  suffices h : (t_main_k25 ns).Post fun b => b = true by
    obtain ⟨b, e, rfl⟩ := h
    exact e
  unfold t_main_k25
  obtain ⟨s0, e0⟩ := src_spec hn
  rw [e0, T.ok_bind]
  obtain ⟨r2, s1, e1, r20, r21⟩ := next_spec s0 (n := 5) (by omega)
  rw [e1, T.ok_bind]
  dsimp only
  obtain ⟨r4, s5, e2, l4, d4, g4⟩ := names_spec s1 (m := 2 + r2) (by omega)
  rw [e2, T.ok_bind]
  dsimp only
  have l5 : r4.length ≤ 6 := by omega
  refine post_bind (folk_spec s5 g4 d4 (by omega)) ?_
  rintro ⟨ds, s7, arr, rks, de⟩ ⟨k, hde, hds⟩
  dsimp only at k hde hds ⊢
  obtain ⟨r11, s12, e11, a0, a1⟩ := next_spec s7 (n := (r4.length : Int)) (by omega)
  rw [e11, T.ok_bind]
  dsimp only
  obtain ⟨j, rfl⟩ := Int.eq_ofNat_of_zero_le a0
  have hj : j < r4.length := by omega
  refine post_ofO (by rw [atI_n, List.getElem?_eq_getElem hj]) ?_
  have hbm : r4[j] ∈ r4 := List.getElem_mem hj
  generalize r4[j] = bn at hbm
  obtain ⟨r14, s15, e14, b0, b1⟩ := next_spec s12 (n := 8) (by omega)
  rw [e14, T.ok_bind]
  dsimp only
  obtain ⟨r16, s17, e16, c0, c1⟩ := next_spec s15 (n := 15) (by omega)
  rw [e16, T.ok_bind]
  dsimp only
  refine post_bind (events_spec s17 k (by omega) (by omega) (by omega) (b := (bn, 5 + r14)) ⟨by dsimp only; omega, by dsimp only; omega⟩ ⟨c0, by omega⟩) ?_
  rintro ⟨evs, s19⟩ ⟨hel, hev⟩
  dsimp only at hel hev ⊢
  have v : Ev r4 (bn, 5 + r14) evs := ⟨hbm, ⟨by dsimp only; omega, by dsimp only; omega⟩, hel, hev⟩
  refine post_gd ⟨inR_s (by omega) (by omega), inR_s (by omega) (by omega)⟩ ?_
  refine post_bindL (P := fun _ => True) (post_imp (forL_post (fun pre (w : List Stp) => w = roadF de (bn, 5 + r14) evs (5 + r14 + pre.length - 1)) ?_ ?_) fun z ⟨w, hz, _⟩ => ⟨w, hz, trivial⟩) ?_
  · unfold roadF
    rw [if_pos (by dsimp only; rw [List.length_nil]; omega)]
  · rintro pre x post bef hx hbef
    have hxe : x = 5 + r14 + pre.length := by
      have h1 : (rangeT2 (5 + r14) ((5 + r14 + 22 - (5 + r14)).toNat))[pre.length]? = some x := by
        rw [hx, List.getElem?_append_right (Nat.le_refl _), Nat.sub_self]
        rfl
      unfold rangeT2 at h1
      rw [List.getElem?_map] at h1
      obtain ⟨q, hq, rfl⟩ := Option.map_eq_some_iff.mp h1
      obtain ⟨hq1, hq2⟩ := List.getElem?_eq_some_iff.mp hq
      rw [List.getElem_range] at hq2
      omega
    have hpl : pre.length < 22 := by
      have := congrArg List.length hx
      unfold rangeT2 at this
      rw [List.length_append, List.length_cons, List.length_map, List.length_range] at this
      omega
    have h0 : 0 ≤ x ∧ x ≤ 9999 := by omega
    rw [road_ok k.f (by omega) rks v h0, T.ok_bind]
    have hw := road_wk (de := de) v (day := x) (by dsimp only; omega)
    have hg : Gst r4 ((evTo evs x).foldl (evS de) (stS (bn, 5 + r14))) := fold_good k.f (evTo evs x) (fun e he => (v.ev e (evTo_mem he).1).2.2.1) (stS_PG v.bm).1
    have hal : ∃ l, (roadF de (bn, 5 + r14) evs x).getLast? = some l ∧ deadB de l.d x = false := by
      have := LV_alive k.f (by omega) x hg
      unfold roadF
      rw [if_neg (by dsimp only; omega)]
      exact this
    rw [walks_ok k.f hw (roadF_len v x) hal, T.ok_bind]
    simp only [Bool.not_true, Bool.false_eq_true, if_false]
    have hpre : bef <+: roadF de (bn, 5 + r14) evs x := by
      rw [hbef]
      have := road_pre (de := de) v (5 + r14 + pre.length - 1)
      rw [show (5 + r14 + (pre.length : Int) - 1 + 1) = x from by omega] at this
      exact this
    have hcut : cutT (roadF de (bn, 5 + r14) evs x) none (some ((bef.length : Nat) : Int)) = bef := by
      rw [cut_to (by omega)]
      obtain ⟨z, hz⟩ := hpre
      rw [← hz]
      simp
    rw [hcut, same2_refl, T.ok_bind]
    simp only [Bool.not_true, Bool.false_eq_true, if_false]
    obtain ⟨l, hl, _⟩ := hal
    rw [holder_ok k.f (by omega) rks v h0, T.ok_bind, atI_neg1 hl, ofO_some']
    have hend : endF (roadF de (bn, 5 + r14) evs x) = some l.d := by
      unfold endF
      rw [hl]
      rfl
    rw [hend, show (Enc.enc (some l.d) : D) = Enc.enc l.d from rfl, same2_refl, T.ok_bind]
    simp only [Bool.not_true, Bool.false_eq_true, if_false]
    refine post_ok ⟨_, rfl, ?_⟩
    rw [List.length_append, List.length_singleton, hxe]
    congr 1
    omega
  · intro bef _
    have hz : roadF de (bn, 5 + r14) evs (5 + r14 - 1) = [] := by
      unfold roadF
      rw [if_pos (by dsimp only; omega)]
    rw [road_ok k.f (by omega) rks v (by omega), T.ok_bind, hz]
    exact post_ok rfl
end Ty
namespace Lw
open VS Ty
theorem true_k25 (ns : List Int) (hn : ns.length ≤ 63) : ∃ L, m_main_k25 [some (.scr ns)] = .ok (.d (.bool true)) L := law_end (Ty.r_main_k25 ns) rfl (Ty.main_k25 ns hn)
end Lw

namespace Tx
open PySem PySem.Spec PyProof.Rows L2 VS
def topS (i : Nat) : Stmt := PySem.Challenge.pw_forsworn_k25_whole_roads_walked.main.body.getD i (.Pass ⟨0, 0, 0, 0⟩)
def clsB : Stmt → List Stmt
  | .ClassDef (body := b) .. => b
  | _ => []
abbrev s_law_src : Stmt := topS 26
abbrev N_law_src : List Str := ["_law_script"]
theorem sc_law_src : FnScope N_law_src ["_law_script"] (defScope s_law_src) := ⟨rfl, rfl, rfl, by decide +kernel, rfl, by decide +kernel, by decide +kernel⟩
abbrev s_law_next : Stmt := topS 27
abbrev N_law_next : List Str := ["_law_src_here", "_law_base", "_law_cell", "_law_digit"]
theorem sc_law_next : FnScope N_law_next ["_law_src_here", "_law_base"] (defScope s_law_next) := ⟨rfl, rfl, rfl, by decide +kernel, rfl, by decide +kernel, by decide +kernel⟩
abbrev s_law_word : Stmt := topS 31
abbrev N_law_word : List Str := ["_law_src_here", "_law_many", "_law_letters", "_law_k"]
theorem sc_law_word : FnScope N_law_word ["_law_src_here", "_law_many"] (defScope s_law_word) := ⟨rfl, rfl, rfl, by decide +kernel, rfl, by decide +kernel, by decide +kernel⟩
abbrev s_law_unlike : Stmt := topS 30
abbrev N_law_unlike : List Str := ["_law_names_here", "_law_name", "_law_letters", "_law_stem", "_law_tries"]
theorem sc_law_unlike : FnScope N_law_unlike ["_law_names_here", "_law_name"] (defScope s_law_unlike) := ⟨rfl, rfl, rfl, by decide +kernel, rfl, by decide +kernel, by decide +kernel⟩
abbrev s_law_names : Stmt := topS 32
abbrev N_law_names : List Str := ["_law_src_here", "_law_many", "_law_style", "_law_stem", "_law_at", "_law_names_here", "_law_k", "_law_name"]
theorem sc_law_names : FnScope N_law_names ["_law_src_here", "_law_many"] (defScope s_law_names) := ⟨rfl, rfl, rfl, by decide +kernel, rfl, by decide +kernel, by decide +kernel⟩
abbrev s_Folk_init : Stmt := (clsB (topS 24)).getD 0 (.Pass ⟨0, 0, 0, 0⟩)
abbrev N_Folk_init : List Str := ["self"]
theorem sc_Folk_init : FnScope N_Folk_init ["self"] (defScope s_Folk_init) := ⟨rfl, rfl, rfl, by decide +kernel, rfl, by decide +kernel, by decide +kernel⟩
abbrev s_measure : Stmt := topS 23
abbrev N_measure : List Str := ["number", "low", "high"]
theorem sc_measure : FnScope N_measure ["number", "low", "high"] (defScope s_measure) := ⟨rfl, rfl, rfl, by decide +kernel, rfl, by decide +kernel, by decide +kernel⟩
abbrev s_is_name : Stmt := topS 18
abbrev N_is_name : List Str := ["text", "sign"]
theorem sc_is_name : FnScope N_is_name ["text"] (defScope s_is_name) := ⟨rfl, rfl, rfl, by decide +kernel, rfl, by decide +kernel, by decide +kernel⟩
abbrev s_Folk_come : Stmt := (clsB (topS 24)).getD 4 (.Pass ⟨0, 0, 0, 0⟩)
abbrev N_Folk_come : List Str := ["self", "name", "day", "weight", "#self.arrivals", "#self.ranks", "#self.deaths"]
theorem sc_Folk_come : FnScope N_Folk_come ["self", "name", "day", "weight"] (defScope s_Folk_come) := ⟨rfl, rfl, rfl, by decide +kernel, rfl, by decide +kernel, by decide +kernel⟩
abbrev s_Folk_known : Stmt := (clsB (topS 24)).getD 1 (.Pass ⟨0, 0, 0, 0⟩)
abbrev N_Folk_known : List Str := ["self", "name", "#self.arrivals", "#self.ranks", "#self.deaths"]
theorem sc_Folk_known : FnScope N_Folk_known ["self", "name"] (defScope s_Folk_known) := ⟨rfl, rfl, rfl, by decide +kernel, rfl, by decide +kernel, by decide +kernel⟩
abbrev s_Folk_after_coming : Stmt := (clsB (topS 24)).getD 2 (.Pass ⟨0, 0, 0, 0⟩)
abbrev N_Folk_after_coming : List Str := ["self", "name", "day", "#self.arrivals", "#self.ranks", "#self.deaths"]
theorem sc_Folk_after_coming : FnScope N_Folk_after_coming ["self", "name", "day"] (defScope s_Folk_after_coming) := ⟨rfl, rfl, rfl, by decide +kernel, rfl, by decide +kernel, by decide +kernel⟩
abbrev s_Folk_die : Stmt := (clsB (topS 24)).getD 6 (.Pass ⟨0, 0, 0, 0⟩)
abbrev N_Folk_die : List Str := ["self", "name", "day", "heir", "#self.arrivals", "#self.ranks", "#self.deaths"]
theorem sc_Folk_die : FnScope N_Folk_die ["self", "name", "day", "heir"] (defScope s_Folk_die) := ⟨rfl, rfl, rfl, by decide +kernel, rfl, by decide +kernel, by decide +kernel⟩
abbrev s_law_folk : Stmt := topS 36
abbrev N_law_folk : List Str := ["_law_src_here", "_law_names_here", "_law_folk_here", "#_law_folk_here.arrivals", "#_law_folk_here.ranks", "#_law_folk_here.deaths", "_law_deeds", "_law_name", "_law_day", "_law_living", "_law_k", "_law_heir_here"]
theorem sc_law_folk : FnScope N_law_folk ["_law_src_here", "_law_names_here", "_law_folk_here"] (defScope s_law_folk) := ⟨rfl, rfl, rfl, by decide +kernel, rfl, by decide +kernel, by decide +kernel⟩
abbrev s_law_death : Stmt := topS 33
abbrev N_law_death : List Str := ["_law_deeds", "_law_name", "_law_deed"]
theorem sc_law_death : FnScope N_law_death ["_law_deeds", "_law_name"] (defScope s_law_death) := ⟨rfl, rfl, rfl, by decide +kernel, rfl, by decide +kernel, by decide +kernel⟩
abbrev s_law_is_dead : Stmt := topS 34
abbrev N_law_is_dead : List Str := ["_law_deeds", "_law_name", "_law_day", "_law_death_here"]
theorem sc_law_is_dead : FnScope N_law_is_dead ["_law_deeds", "_law_name", "_law_day"] (defScope s_law_is_dead) := ⟨rfl, rfl, rfl, by decide +kernel, rfl, by decide +kernel, by decide +kernel⟩
abbrev s_law_heir : Stmt := topS 35
abbrev N_law_heir : List Str := ["_law_deeds", "_law_name", "_law_day", "_law_k"]
theorem sc_law_heir : FnScope N_law_heir ["_law_deeds", "_law_name", "_law_day"] (defScope s_law_heir) := ⟨rfl, rfl, rfl, by decide +kernel, rfl, by decide +kernel, by decide +kernel⟩
abbrev s_law_events : Stmt := topS 37
abbrev N_law_events : List Str := ["_law_src_here", "_law_deeds", "_law_names_here", "_law_brought", "_law_many", "_law_events_here", "_law_last", "_law_start", "_law_k", "_law_day", "_law_taker", "_law_giver", "_law_row", "_law_now", "_law_event"]
theorem sc_law_events : FnScope N_law_events ["_law_src_here", "_law_deeds", "_law_names_here", "_law_brought", "_law_many"] (defScope s_law_events) := ⟨rfl, rfl, rfl, by decide +kernel, rfl, by decide +kernel, by decide +kernel⟩
abbrev s_day_of : Stmt := topS 2
abbrev N_day_of : List Str := ["event"]
theorem sc_day_of : FnScope N_day_of ["event"] (defScope s_day_of) := ⟨rfl, rfl, rfl, by decide +kernel, rfl, by decide +kernel, by decide +kernel⟩
abbrev s_Folk_dead : Stmt := (clsB (topS 24)).getD 10 (.Pass ⟨0, 0, 0, 0⟩)
abbrev N_Folk_dead : List Str := ["self", "name", "day", "#self.arrivals", "#self.ranks", "#self.deaths"]
theorem sc_Folk_dead : FnScope N_Folk_dead ["self", "name", "day"] (defScope s_Folk_dead) := ⟨rfl, rfl, rfl, by decide +kernel, rfl, by decide +kernel, by decide +kernel⟩
abbrev s_Folk_death : Stmt := (clsB (topS 24)).getD 11 (.Pass ⟨0, 0, 0, 0⟩)
abbrev N_Folk_death : List Str := ["self", "name", "#self.arrivals", "#self.ranks", "#self.deaths"]
theorem sc_Folk_death : FnScope N_Folk_death ["self", "name"] (defScope s_Folk_death) := ⟨rfl, rfl, rfl, by decide +kernel, rfl, by decide +kernel, by decide +kernel⟩
abbrev s_leave : Stmt := topS 3
abbrev N_leave : List Str := ["steps", "folk", "day", "#folk.arrivals", "#folk.ranks", "#folk.deaths", "last", "died", "heir"]
theorem sc_leave : FnScope N_leave ["steps", "folk", "day"] (defScope s_leave) := ⟨rfl, rfl, rfl, by decide +kernel, rfl, by decide +kernel, by decide +kernel⟩
abbrev s_road : Stmt := topS 4
abbrev N_road : List Str := ["brought", "events", "folk", "day", "#folk.arrivals", "#folk.ranks", "#folk.deaths", "steps", "at", "word", "giver", "taker", "last"]
theorem sc_road : FnScope N_road ["brought", "events", "folk", "day"] (defScope s_road) := ⟨rfl, rfl, rfl, by decide +kernel, rfl, by decide +kernel, by decide +kernel⟩
abbrev s_law_whole : Stmt := topS 28
abbrev N_law_whole : List Str := ["_law_found"]
theorem sc_law_whole : FnScope N_law_whole ["_law_found"] (defScope s_law_whole) := ⟨rfl, rfl, rfl, by decide +kernel, rfl, by decide +kernel, by decide +kernel⟩
abbrev s_law_same : Stmt := topS 29
abbrev N_law_same : List Str := ["_law_found", "_law_due", "_law_one", "_law_other"]
theorem sc_law_same : FnScope N_law_same ["_law_found", "_law_due"] (defScope s_law_same) := ⟨rfl, rfl, rfl, by decide +kernel, rfl, by decide +kernel, by decide +kernel⟩
abbrev s_law_step_fits : Stmt := topS 38
abbrev N_law_step_fits : List Str := ["_law_deeds", "_law_events_here", "_law_step", "_law_ahead", "_law_day", "_law_word_here", "_law_giver", "_law_taker", "_law_died", "_law_heir_here"]
theorem sc_law_step_fits : FnScope N_law_step_fits ["_law_deeds", "_law_events_here", "_law_step", "_law_ahead"] (defScope s_law_step_fits) := ⟨rfl, rfl, rfl, by decide +kernel, rfl, by decide +kernel, by decide +kernel⟩
abbrev s_law_walks : Stmt := topS 39
abbrev N_law_walks : List Str := ["_law_deeds", "_law_brought", "_law_events_here", "_law_found", "_law_day", "_law_at"]
theorem sc_law_walks : FnScope N_law_walks ["_law_deeds", "_law_brought", "_law_events_here", "_law_found", "_law_day"] (defScope s_law_walks) := ⟨rfl, rfl, rfl, by decide +kernel, rfl, by decide +kernel, by decide +kernel⟩
abbrev s_holder : Stmt := topS 5
abbrev N_holder : List Str := ["brought", "events", "folk", "day", "#folk.arrivals", "#folk.ranks", "#folk.deaths", "steps"]
theorem sc_holder : FnScope N_holder ["brought", "events", "folk", "day"] (defScope s_holder) := ⟨rfl, rfl, rfl, by decide +kernel, rfl, by decide +kernel, by decide +kernel⟩
abbrev s_law : Stmt := topS 40
abbrev N_law : List Str := ["_law_script", "_law_src_here", "_law_names_here", "_law_folk_here", "_law_deeds", "_law_brought", "_law_events_here", "_law_before", "_law_day", "_law_found", "#_law_folk_here.arrivals", "#_law_folk_here.ranks", "#_law_folk_here.deaths"]
theorem sc_law : FnScope N_law ["_law_script"] (defScope s_law) := ⟨rfl, rfl, rfl, by decide +kernel, rfl, by decide +kernel, by decide +kernel⟩
end Tx
namespace Tx
open PySem PySem.Spec PyProof.Rows L2 VS
section
variable {P : Program} {w : World} {K : PySem.W.Frag} {mg : Str → Option Value} {base : Heap} {ca : Nat → Addr}
theorem ok_law_src {f : Addr} {fd : FuncData} (F : Fun K "_law_src" "_law_src" s_law_src f fd) (z_list : mg "list" = none) : FnOk P w K mg base (L2.CX P w) 1 f fd ["_law_script"] (VSp K ca [true] Lw.m_law_src) := by
  refine vf_of (k := 0) F sc_law_src rfl (by decide) fun cdv A outer s H E vs hr B => ?_
  have tk : Takes (ctOf P w K mg base ca N_law_src "_law_src" (defScope s_law_src) f cdv A outer s H E [true] vs B).X _ := takes_of rfl rfl rfl rfl
  exact (jb_one (js_ret (je_lst (ja_cons (jd_fz (je_list (by rfl) z_list (jv_d (jd_fz (je_slV (jv_var 0 (pv 0)) jo_no (jo_so jd_int)))))) (ja_cons jd_int (ja_cons jd_int (ja_cons jd_int (ja_cons jd_int ja_nil))))))))
theorem ok_law_next {f : Addr} {fd : FuncData} (F : Fun K "_law_next" "_law_next" s_law_next f fd) (z_len : mg "len" = none) : FnOk P w K mg base (L2.CX P w) 1 f fd ["_law_src_here", "_law_base"] (VSp K ca [true, false] Lw.m_law_next) := by
  refine vf_of (k := 0) F sc_law_next rfl (by decide) fun cdv A outer s H E vs hr B => ?_
  have tk : Takes (ctOf P w K mg base ca N_law_next "_law_next" (defScope s_law_next) f cdv A outer s H E [true, false] vs B).X _ := takes_of rfl rfl rfl rfl
  exact (jb_cons (js_setIx 0 (pv 0) jd_int (jd_fz (je_add (jd_ixP 0 (pv 0) jd_int) jd_int)))
    (jb_cons (js_if (jt_cmpN cv_le (jv_d (jd_ixP 0 (pv 0) jd_int)) (jv_d jd_int) (nomark _)) (jb_cons (js_set 2 sc_law_next.nd rfl (by first | exact Or.inl rfl | exact Or.inr rfl) (by intro h; cases h) (je_d jd_int))
    (jb_cons (js_if (jt_cmpN cv_lt (jv_d (jd_ixP 0 (pv 0) jd_int)) (jv_d (jd_len (by rfl) z_len (jv_d (jd_ixP 0 (pv 0) jd_int)))) (nomark _)) (jb_cons (js_set 2 sc_law_next.nd rfl (by first | exact Or.inl rfl | exact Or.inr rfl) (by intro h; cases h) (je_d (jd_ix (jd_ixP 0 (pv 0) jd_int) (jd_ixP 0 (pv 0) jd_int))))
    (jb_one (js_setIx 0 (pv 0) jd_int (jd_fz (je_add (jd_ixP 0 (pv 0) jd_int) jd_int))))) jb_nil)
    (jb_cons (js_setIx 0 (pv 0) jd_int (jd_mod (jd_fz (je_add (jd_fz (je_add (jd_fz (je_mul (jd_ixP 0 (pv 0) jd_int) jd_int)) (jd_mod (jd_var 2 (pv 2)) jd_int))) (jd_ixP 0 (pv 0) jd_int))) jd_int))
    (jb_one (js_if (jt_cmpN cv_ge (jv_var 2 (pv 2)) (jv_d (jd_pow jd_int jd_int)) (nomark _)) (jb_one (js_setIx 0 (pv 0) jd_int (jd_var 2 (pv 2)))) jb_nil))))) jb_nil)
    (jb_cons (js_if (jt_cmpN cv_gt (jv_d (jd_ixP 0 (pv 0) jd_int)) (jv_d jd_int) (nomark _)) (jb_cons (js_set 3 sc_law_next.nd rfl (by first | exact Or.inl rfl | exact Or.inr rfl) (by intro h; cases h) (je_d (jd_mod (jd_ixP 0 (pv 0) jd_int) (jd_var 1 (pv 1)))))
    (jb_cons (js_setIx 0 (pv 0) jd_int (jd_div (jd_ixP 0 (pv 0) jd_int) (jd_var 1 (pv 1))))
    (jb_one (js_ret (je_move 3 (pv 3)))))) jb_nil)
    (jb_one (js_ret (je_d (jd_mod (jd_div (jd_mod (jd_fz (je_mul (jd_ixP 0 (pv 0) jd_int) jd_int)) jd_int) jd_int) (jd_var 1 (pv 1)))))))))
theorem ok_law_word {f : Addr} {fd : FuncData} (F : Fun K "_law_word" "_law_word" s_law_word f fd) (D_law_next : Dx P w K mg base ca "_law_next" 1 ["_law_src_here", "_law_base"] [true, false] Lw.m_law_next) (z_range : mg "range" = none) : FnOk P w K mg base (L2.CX P w) 2 f fd ["_law_src_here", "_law_many"] (VSp K ca [true, false] Lw.m_law_word) := by
  refine vf_of (k := 1) F sc_law_word rfl (by decide) fun cdv A outer s H E vs hr B => ?_
  have tk : Takes (ctOf P w K mg base ca N_law_word "_law_word" (defScope s_law_word) f cdv A outer s H E [true, false] vs B).X _ := takes_of rfl rfl rfl rfl
  exact (jb_cons (js_set 2 sc_law_word.nd rfl (by first | exact Or.inl rfl | exact Or.inr rfl) (by intro h; cases h) (je_d jd_str))
    (jb_one (js_ret (je_d (jd_join jd_str (jv_d (jd_fz (je_lc (own := [("_law_k", 3)]) rfl sc_law_word.nd (ji_range1 (by rfl) z_range (ja_cons (jd_var 1 (pv 1)) ja_nil)) (blkOk_by (own := [("_law_k", 3)]) (N := N_law_word) (sc := defScope s_law_word) (by decide +kernel)) (fun _ => (jg_name 3 (by intro h; cases h) (pg_name (i := 3) sc_law_word.nd rfl (by first | exact Or.inl rfl | exact Or.inr rfl)))) (by decide) (by intro k hk; simp only [List.map_cons, List.map_nil, List.mem_cons, List.not_mem_nil, or_false] at hk; rcases hk with rfl <;> (intro h; cases h)) (fun _ => jts_nil) (fun _ => (jd_ixP 2 (pv 2) (jd_fz (je_dx D_law_next hr (by decide) takes0 (by rfl) (jar_r 0 (pv 0) (jar_d jd_int jar_nil))))))))))))))
theorem ok_law_unlike {f : Addr} {fd : FuncData} (F : Fun K "_law_unlike" "_law_unlike" s_law_unlike f fd) (z_range : mg "range" = none) (z_len : mg "len" = none) : FnOk P w K mg base (L2.CX P w) 1 f fd ["_law_names_here", "_law_name"] (VSp K ca [true, false] Lw.m_law_unlike) := by
  refine vf_of (k := 0) F sc_law_unlike rfl (by decide) fun cdv A outer s H E vs hr B => ?_
  have tk : Takes (ctOf P w K mg base ca N_law_unlike "_law_unlike" (defScope s_law_unlike) f cdv A outer s H E [true, false] vs B).X _ := takes_of rfl rfl rfl rfl
  exact (jb_cons (js_set 2 sc_law_unlike.nd rfl (by first | exact Or.inl rfl | exact Or.inr rfl) (by intro h; cases h) (je_d jd_str))
    (jb_cons (js_set 3 sc_law_unlike.nd rfl (by first | exact Or.inl rfl | exact Or.inr rfl) (by intro h; cases h) (je_slV (jv_var 1 (pv 1)) jo_no (jo_so jd_int)))
    (jb_cons (js_for PassesOwn.leaving rfl (ji_range1 (by rfl) z_range (ja_cons (jd_fz (je_add (jd_len (by rfl) z_len (jv_var 0 (pv 0))) jd_int)) ja_nil)) (jg_name 4 (by intro h; cases h) (pg_name (i := 4) sc_law_unlike.nd rfl (by first | exact Or.inl rfl | exact Or.inr rfl))) (jb_cons (js_if (jt_cmpN (cv_notIn hr) (jv_var 1 (pv 1)) (jv_var 0 (pv 0)) rfl) (jb_one (js_ret (je_move 1 (pv 1)))) jb_nil)
    (jb_one (js_set 1 sc_law_unlike.nd rfl (by first | exact Or.inl rfl | exact Or.inr rfl) (by intro h; cases h) (je_add (jd_fz (je_add (jd_var 3 (pv 3)) (jd_ixP 2 (pv 2) (jd_mod (jd_var 4 (pv 4)) jd_int)))) (jd_ixP 2 (pv 2) (jd_div (jd_var 4 (pv 4)) jd_int)))))))
    (jb_one (js_ret (je_move 1 (pv 1)))))))
theorem ok_law_names {f : Addr} {fd : FuncData} (F : Fun K "_law_names" "_law_names" s_law_names f fd) (D_law_next : Dx P w K mg base ca "_law_next" 1 ["_law_src_here", "_law_base"] [true, false] Lw.m_law_next) (D_law_word : Dx P w K mg base ca "_law_word" 2 ["_law_src_here", "_law_many"] [true, false] Lw.m_law_word) (D_law_unlike : Dx P w K mg base ca "_law_unlike" 1 ["_law_names_here", "_law_name"] [true, false] Lw.m_law_unlike) (z_len : mg "len" = none) (z_range : mg "range" = none) : FnOk P w K mg base (L2.CX P w) 3 f fd ["_law_src_here", "_law_many"] (VSp K ca [true, false] Lw.m_law_names) := by
  refine vf_of (k := 2) F sc_law_names rfl (by decide) fun cdv A outer s H E vs hr B => ?_
  have tk : Takes (ctOf P w K mg base ca N_law_names "_law_names" (defScope s_law_names) f cdv A outer s H E [true, false] vs B).X _ := takes_of rfl rfl rfl rfl
  exact (jb_cons (js_set 2 sc_law_names.nd rfl (by first | exact Or.inl rfl | exact Or.inr rfl) (by intro h; cases h) (je_dx D_law_next hr (by decide) tk (by rfl) (jar_r 0 (pv 0) (jar_d jd_int jar_nil))))
    (jb_cons (js_set 3 sc_law_names.nd rfl (by first | exact Or.inl rfl | exact Or.inr rfl) (by intro h; cases h) (je_dx D_law_word hr (by decide) tk (by rfl) (jar_r 0 (pv 0) (jar_d (jd_fz (je_add jd_int (jd_fz (je_dx D_law_next hr (by decide) tk (by rfl) (jar_r 0 (pv 0) (jar_d jd_int jar_nil)))))) jar_nil))))
    (jb_cons (js_set 4 sc_law_names.nd rfl (by first | exact Or.inl rfl | exact Or.inr rfl) (by intro h; cases h) (je_dx D_law_next hr (by decide) tk (by rfl) (jar_r 0 (pv 0) (jar_d (jd_len (by rfl) z_len (jv_var 3 (pv 3))) jar_nil))))
    (jb_cons (js_set 5 sc_law_names.nd rfl (by first | exact Or.inl rfl | exact Or.inr rfl) (by intro h; cases h) (je_lst ja_nil))
    (jb_cons (js_for PassesOwn.leaving rfl (ji_range1 (by rfl) z_range (ja_cons (jd_var 1 (pv 1)) ja_nil)) (jg_name 6 (by intro h; cases h) (pg_name (i := 6) sc_law_names.nd rfl (by first | exact Or.inl rfl | exact Or.inr rfl))) (jb_cons (js_set 7 sc_law_names.nd rfl (by first | exact Or.inl rfl | exact Or.inr rfl) (by intro h; cases h) (je_add (jd_fz (je_add (jd_fz (je_slV (jv_var 3 (pv 3)) jo_no (jo_so (jd_var 4 (pv 4))))) (jd_fz (je_dx D_law_word hr (by decide) tk (by rfl) (jar_r 0 (pv 0) (jar_d jd_int jar_nil)))))) (jd_fz (je_slV (jv_var 3 (pv 3)) (jo_so (jd_fz (je_add (jd_var 4 (pv 4)) jd_int))) jo_no))))
    (jb_cons (js_if (jt_cmpN (cv_eq hr) (jv_var 2 (pv 2)) (jv_d jd_int) (nomark _)) (jb_one (js_set 7 sc_law_names.nd rfl (by first | exact Or.inl rfl | exact Or.inr rfl) (by intro h; cases h) (je_sl (jd_var 3 (pv 3)) jo_no (jo_so (jd_fz (je_add jd_int (jd_fz (je_dx D_law_next hr (by decide) tk (by rfl) (jar_r 0 (pv 0) (jar_d (jd_len (by rfl) z_len (jv_var 3 (pv 3))) jar_nil)))))))))) jb_nil)
    (jb_cons (js_if (jt_cmpN (cv_eq hr) (jv_var 2 (pv 2)) (jv_d jd_int) (nomark _)) (jb_one (js_set 7 sc_law_names.nd rfl (by first | exact Or.inl rfl | exact Or.inr rfl) (by intro h; cases h) (je_dx D_law_word hr (by decide) tk (by rfl) (jar_r 0 (pv 0) (jar_d (jd_fz (je_add jd_int (jd_fz (je_dx D_law_next hr (by decide) tk (by rfl) (jar_r 0 (pv 0) (jar_d jd_int jar_nil)))))) jar_nil))))) jb_nil)
    (jb_one (js_expr (je_append 5 (pv 5) (jd_fz (je_dx D_law_unlike hr (by decide) tk (by rfl) (jar_r 5 (pv 5) (jar_d (jd_var 7 (pv 7)) jar_nil)))))))))))
    (jb_one (js_ret (je_move 5 (pv 5)))))))))
theorem ok_Folk_init {f : Addr} {fd : FuncData} (F : Fun K "__init__" "Folk.__init__" s_Folk_init f fd) (hC_Folk : Cls K (ca 0)) (hn_Folk_arrivals : NoAttr K (ca 0) "arrivals") (hn_Folk_ranks : NoAttr K (ca 0) "ranks") (hn_Folk_deaths : NoAttr K (ca 0) "deaths") : FnOk P w K mg base (L2.CX P w) 1 f fd ["self"] (VSp K ca [true] Lw.m_Folk_init) := by
  refine vf_of (k := 0) F sc_Folk_init rfl (by decide) fun cdv A outer s H E vs hr B => ?_
  have tk : Takes (ctOf P w K mg base ca N_Folk_init "Folk.__init__" (defScope s_Folk_init) f cdv A outer s H E [true] vs B).X _ := takes_of rfl rfl rfl rfl
  exact (jb_cons (js_fst (C := 0) hC_Folk hn_Folk_arrivals (pv 0) je_newK)
    (jb_cons (js_fst (C := 0) hC_Folk hn_Folk_ranks (pv 0) (je_lst ja_nil))
    (jb_one (js_fst (C := 0) hC_Folk hn_Folk_deaths (pv 0) je_newK))))
theorem ok_measure {f : Addr} {fd : FuncData} (F : Fun K "measure" "measure" s_measure f fd)  : FnOk P w K mg base (L2.CX P w) 1 f fd ["number", "low", "high"] (VSp K ca [false, false, false] Lw.m_measure) := by
  refine vf_of (k := 0) F sc_measure rfl (by decide) fun cdv A outer s H E vs hr B => ?_
  have tk : Takes (ctOf P w K mg base ca N_measure "measure" (defScope s_measure) f cdv A outer s H E [false, false, false] vs B).X _ := takes_of rfl rfl rfl rfl
  exact (jb_one (js_if (jt_w (jw_or (jt_cmpN cv_lt (jv_var 0 (pv 0)) (jv_var 1 (pv 1)) (nomark _)) (jw_or1 (jt_cmpN cv_gt (jv_var 0 (pv 0)) (jv_var 2 (pv 2)) (nomark _))))) (jb_one js_neverR) jb_nil))
theorem ok_is_name {f : Addr} {fd : FuncData} (F : Fun K "is_name" "is_name" s_is_name f fd) (z_len : mg "len" = none) (z_LETTERS : ∃ t, mg "LETTERS" = some (.str "abcdefghijklmnopqrstuvwxyz" t)) : FnOk P w K mg base (L2.CX P w) 1 f fd ["text"] (VSp K ca [false] Lw.m_is_name) := by
  refine vf_of (k := 0) F sc_is_name rfl (by decide) fun cdv A outer s H E vs hr B => ?_
  have tk : Takes (ctOf P w K mg base ca N_is_name "is_name" (defScope s_is_name) f cdv A outer s H E [false] vs B).X _ := takes_of rfl rfl rfl rfl
  exact (jb_cons (js_if (jt_w (jw_or (jt_cmpN cv_lt (jv_d (jd_len (by rfl) z_len (jv_var 0 (pv 0)))) (jv_d jd_int) (nomark _)) (jw_or1 (jt_cmpN cv_gt (jv_d (jd_len (by rfl) z_len (jv_var 0 (pv 0)))) (jv_d jd_int) (nomark _))))) (jb_one (js_ret (je_d jd_bl))) jb_nil)
    (jb_cons (js_for PassesOwn.leaving rfl (ji_any (jd_var 0 (pv 0))) (jg_name 1 (by intro h; cases h) (pg_name (i := 1) sc_is_name.nd rfl (by first | exact Or.inl rfl | exact Or.inr rfl))) (jb_one (js_if (jt_cmpN (cv_notIn hr) (jv_var 1 (pv 1)) (jv_d (jd_gs (by rfl) z_LETTERS)) rfl) (jb_one (js_ret (je_d jd_bl))) jb_nil)))
    (jb_one (js_ret (je_d jd_bl)))))
theorem ok_Folk_come {f : Addr} {fd : FuncData} (F : Fun K "come" "Folk.come" s_Folk_come f fd) (D_is_name : Dx P w K mg base ca "is_name" 1 ["text"] [false] Lw.m_is_name) (D_measure : Dx P w K mg base ca "measure" 1 ["number", "low", "high"] [false, false, false] Lw.m_measure) (hC_Folk : Cls K (ca 0)) (hn_Folk_arrivals : NoAttr K (ca 0) "arrivals") (hn_Folk_ranks : NoAttr K (ca 0) "ranks") (z_len : mg "len" = none) (z_LAST_DAY : ∃ t, mg "LAST_DAY" = some (.int 9999 t)) (z_MOST_WEIGHT : ∃ t, mg "MOST_WEIGHT" = some (.int 1000 t)) (z_MOST_FOLK : ∃ t, mg "MOST_FOLK" = some (.int 40 t)) : FnOk P w K mg base (L2.CX P w) 2 f fd ["self", "name", "day", "weight"] (VSg K ca [(0, 0, [("arrivals", 4), ("ranks", 5), ("deaths", 6)])] 4 [true, false, false, false, true, true, true] Lw.m_Folk_come) := by
  refine vg_of (obs := [(0, 0, [("arrivals", 4), ("ranks", 5), ("deaths", 6)])]) (md := [true, false, false, false, true, true, true]) (k := 1) F sc_Folk_come (by decide) (by decide) (gh_def (by decide +kernel)) fun cdv A outer s H E ws hr B hwl hob => ?_
  have tk : Takes (ctOf P w K mg base ca N_Folk_come "Folk.come" (defScope s_Folk_come) f cdv A outer s H E [true, false, false, false, true, true, true] ws B).X _ := takes_of rfl rfl rfl rfl
  have hv := hv_of hwl
  have O_self := obAt_of (P := P) (w := w) (K := K) (mg := mg) (base := base) (N := N_Folk_come) (qual := "Folk.come") (sc := defScope s_Folk_come) (f := f) (cdv := cdv) (A := A) (outer := outer) (s := s) (H := H) (E := E) (md := [true, false, false, false, true, true, true]) (i := 0) (C := 0) (fl := [("arrivals", 4), ("ranks", 5), ("deaths", 6)]) hob List.mem_cons_self rfl (by decide)
  exact (jb_cons (js_if (jt_not (jt_val (jd_fz (je_dx D_is_name hr (by decide) tk (by rfl) (jar_d (jd_var 1 (pv 1)) jar_nil))))) (jb_one js_neverR) jb_nil)
    (jb_cons (js_expr (je_dx D_measure hr (by decide) tk (by rfl) (jar_d (jd_var 2 (pv 2)) (jar_d jd_int (jar_d (jd_gi (by rfl) z_LAST_DAY) jar_nil)))))
    (jb_cons (js_expr (je_dx D_measure hr (by decide) tk (by rfl) (jar_d (jd_var 3 (pv 3)) (jar_d jd_int (jar_d (jd_gi (by rfl) z_MOST_WEIGHT) jar_nil)))))
    (jb_cons (js_if (jt_dinF hr (psl_fld O_self rfl hC_Folk hn_Folk_arrivals (psl_var (pv 0))) (jd_var 1 (pv 1))) (jb_one js_neverR) jb_nil)
    (jb_cons (js_if (jt_cmpN cv_ge (jv_d (jd_dlen (by rfl) z_len (jx_fld (psl_fld O_self rfl hC_Folk hn_Folk_arrivals (psl_var (pv 0)))))) (jv_d (jd_gi (by rfl) z_MOST_FOLK)) (nomark _)) (jb_one js_neverR) jb_nil)
    (jb_cons (js_dputF hr (psl_fld O_self rfl hC_Folk hn_Folk_arrivals (psl_var (pv 0))) (jd_var 1 (pv 1)) (jd_var 2 (pv 2)))
    (jb_one (js_expr (je_appendF (psl_fld O_self rfl hC_Folk hn_Folk_ranks (psl_var (pv 0))) (jd_tup (ja_cons (jd_var 1 (pv 1)) (ja_cons (jd_var 2 (pv 2)) (ja_cons (jd_var 3 (pv 3)) ja_nil)))))))))))))
theorem ok_Folk_known {f : Addr} {fd : FuncData} (F : Fun K "known" "Folk.known" s_Folk_known f fd) (hC_Folk : Cls K (ca 0)) (hn_Folk_arrivals : NoAttr K (ca 0) "arrivals") : FnOk P w K mg base (L2.CX P w) 1 f fd ["self", "name"] (VSg K ca [(0, 0, [("arrivals", 2), ("ranks", 3), ("deaths", 4)])] 2 [true, false, true, true, true] Lw.m_Folk_known) := by
  refine vg_of (obs := [(0, 0, [("arrivals", 2), ("ranks", 3), ("deaths", 4)])]) (md := [true, false, true, true, true]) (k := 0) F sc_Folk_known (by decide) (by decide) (gh_def (by decide +kernel)) fun cdv A outer s H E ws hr B hwl hob => ?_
  have tk : Takes (ctOf P w K mg base ca N_Folk_known "Folk.known" (defScope s_Folk_known) f cdv A outer s H E [true, false, true, true, true] ws B).X _ := takes_of rfl rfl rfl rfl
  have hv := hv_of hwl
  have O_self := obAt_of (P := P) (w := w) (K := K) (mg := mg) (base := base) (N := N_Folk_known) (qual := "Folk.known") (sc := defScope s_Folk_known) (f := f) (cdv := cdv) (A := A) (outer := outer) (s := s) (H := H) (E := E) (md := [true, false, true, true, true]) (i := 0) (C := 0) (fl := [("arrivals", 2), ("ranks", 3), ("deaths", 4)]) hob List.mem_cons_self rfl (by decide)
  exact (jb_one (js_if (jt_dninF hr (psl_fld O_self rfl hC_Folk hn_Folk_arrivals (psl_var (pv 0))) (jd_var 1 (pv 1))) (jb_one js_neverR) jb_nil))
theorem ok_Folk_after_coming {f : Addr} {fd : FuncData} (F : Fun K "after_coming" "Folk.after_coming" s_Folk_after_coming f fd) (hC_Folk : Cls K (ca 0)) (hn_Folk_arrivals : NoAttr K (ca 0) "arrivals") : FnOk P w K mg base (L2.CX P w) 1 f fd ["self", "name", "day"] (VSg K ca [(0, 0, [("arrivals", 3), ("ranks", 4), ("deaths", 5)])] 3 [true, false, false, true, true, true] Lw.m_Folk_after_coming) := by
  refine vg_of (obs := [(0, 0, [("arrivals", 3), ("ranks", 4), ("deaths", 5)])]) (md := [true, false, false, true, true, true]) (k := 0) F sc_Folk_after_coming (by decide) (by decide) (gh_def (by decide +kernel)) fun cdv A outer s H E ws hr B hwl hob => ?_
  have tk : Takes (ctOf P w K mg base ca N_Folk_after_coming "Folk.after_coming" (defScope s_Folk_after_coming) f cdv A outer s H E [true, false, false, true, true, true] ws B).X _ := takes_of rfl rfl rfl rfl
  have hv := hv_of hwl
  have O_self := obAt_of (P := P) (w := w) (K := K) (mg := mg) (base := base) (N := N_Folk_after_coming) (qual := "Folk.after_coming") (sc := defScope s_Folk_after_coming) (f := f) (cdv := cdv) (A := A) (outer := outer) (s := s) (H := H) (E := E) (md := [true, false, false, true, true, true]) (i := 0) (C := 0) (fl := [("arrivals", 3), ("ranks", 4), ("deaths", 5)]) hob List.mem_cons_self rfl (by decide)
  exact (jb_one (js_if (jt_cmpN cv_lt (jv_var 2 (pv 2)) (jv_d (jd_dgetF hr (psl_fld O_self rfl hC_Folk hn_Folk_arrivals (psl_var (pv 0))) (jd_var 1 (pv 1)))) (nomark _)) (jb_one js_neverR) jb_nil))
theorem ok_Folk_die {f : Addr} {fd : FuncData} (F : Fun K "die" "Folk.die" s_Folk_die f fd) (D_measure : Dx P w K mg base ca "measure" 1 ["number", "low", "high"] [false, false, false] Lw.m_measure) (D_Folk_known : MxG P w K mg base ca 0 "known" 1 ["self", "name"] [(0, 0, [("arrivals", 2), ("ranks", 3), ("deaths", 4)])] [true, false, true, true, true] Lw.m_Folk_known) (D_Folk_after_coming : MxG P w K mg base ca 0 "after_coming" 1 ["self", "name", "day"] [(0, 0, [("arrivals", 3), ("ranks", 4), ("deaths", 5)])] [true, false, false, true, true, true] Lw.m_Folk_after_coming) (hC_Folk : Cls K (ca 0)) (hn_Folk_deaths : NoAttr K (ca 0) "deaths") (z_LAST_DAY : ∃ t, mg "LAST_DAY" = some (.int 9999 t)) : FnOk P w K mg base (L2.CX P w) 2 f fd ["self", "name", "day", "heir"] (VSg K ca [(0, 0, [("arrivals", 4), ("ranks", 5), ("deaths", 6)])] 4 [true, false, false, false, true, true, true] Lw.m_Folk_die) := by
  refine vg_of (obs := [(0, 0, [("arrivals", 4), ("ranks", 5), ("deaths", 6)])]) (md := [true, false, false, false, true, true, true]) (k := 1) F sc_Folk_die (by decide) (by decide) (gh_def (by decide +kernel)) fun cdv A outer s H E ws hr B hwl hob => ?_
  have tk : Takes (ctOf P w K mg base ca N_Folk_die "Folk.die" (defScope s_Folk_die) f cdv A outer s H E [true, false, false, false, true, true, true] ws B).X _ := takes_of rfl rfl rfl rfl
  have hv := hv_of hwl
  have O_self := obAt_of (P := P) (w := w) (K := K) (mg := mg) (base := base) (N := N_Folk_die) (qual := "Folk.die") (sc := defScope s_Folk_die) (f := f) (cdv := cdv) (A := A) (outer := outer) (s := s) (H := H) (E := E) (md := [true, false, false, false, true, true, true]) (i := 0) (C := 0) (fl := [("arrivals", 4), ("ranks", 5), ("deaths", 6)]) hob List.mem_cons_self rfl (by decide)
  exact (jb_cons (js_expr (je_dx D_measure hr (by decide) tk (by rfl) (jar_d (jd_var 2 (pv 2)) (jar_d jd_int (jar_d (jd_gi (by rfl) z_LAST_DAY) jar_nil)))))
    (jb_cons (js_expr (je_mxG D_Folk_known hr (by decide) tk O_self (psl_var (pv 0)) (jag_d (jd_var 1 (pv 1)) jag_nil) (obsArg_one O_self rfl (fs := ["arrivals", "ranks", "deaths"]) rfl rfl rfl (by decide))))
    (jb_cons (js_expr (je_mxG D_Folk_known hr (by decide) tk O_self (psl_var (pv 0)) (jag_d (jd_var 3 (pv 3)) jag_nil) (obsArg_one O_self rfl (fs := ["arrivals", "ranks", "deaths"]) rfl rfl rfl (by decide))))
    (jb_cons (js_expr (je_mxG D_Folk_after_coming hr (by decide) tk O_self (psl_var (pv 0)) (jag_d (jd_var 1 (pv 1)) (jag_d (jd_var 2 (pv 2)) jag_nil)) (obsArg_one O_self rfl (fs := ["arrivals", "ranks", "deaths"]) rfl rfl rfl (by decide))))
    (jb_cons (js_expr (je_mxG D_Folk_after_coming hr (by decide) tk O_self (psl_var (pv 0)) (jag_d (jd_var 3 (pv 3)) (jag_d (jd_var 2 (pv 2)) jag_nil)) (obsArg_one O_self rfl (fs := ["arrivals", "ranks", "deaths"]) rfl rfl rfl (by decide))))
    (jb_cons (js_if (jt_dinF hr (psl_fld O_self rfl hC_Folk hn_Folk_deaths (psl_var (pv 0))) (jd_var 1 (pv 1))) (jb_one js_neverR) jb_nil)
    (jb_cons (js_if (jt_w (jw_or (jt_cmpN (cv_eq hr) (jv_var 3 (pv 3)) (jv_var 1 (pv 1)) (nomark _)) (jw_or1 (jt_dinF hr (psl_fld O_self rfl hC_Folk hn_Folk_deaths (psl_var (pv 0))) (jd_var 3 (pv 3)))))) (jb_one js_neverR) jb_nil)
    (jb_one (js_dputF hr (psl_fld O_self rfl hC_Folk hn_Folk_deaths (psl_var (pv 0))) (jd_var 1 (pv 1)) (jd_tup (ja_cons (jd_var 2 (pv 2)) (ja_cons (jd_var 3 (pv 3)) ja_nil))))))))))))
theorem ok_law_folk {f : Addr} {fd : FuncData} (F : Fun K "_law_folk" "_law_folk" s_law_folk f fd) (D_law_next : Dx P w K mg base ca "_law_next" 1 ["_law_src_here", "_law_base"] [true, false] Lw.m_law_next) (D_Folk_come : MxG P w K mg base ca 0 "come" 2 ["self", "name", "day", "weight"] [(0, 0, [("arrivals", 4), ("ranks", 5), ("deaths", 6)])] [true, false, false, false, true, true, true] Lw.m_Folk_come) (D_Folk_die : MxG P w K mg base ca 0 "die" 2 ["self", "name", "day", "heir"] [(0, 0, [("arrivals", 4), ("ranks", 5), ("deaths", 6)])] [true, false, false, false, true, true, true] Lw.m_Folk_die) (z_list : mg "list" = none) (z_range : mg "range" = none) (z_len : mg "len" = none) : FnOk P w K mg base (L2.CX P w) 3 f fd ["_law_src_here", "_law_names_here", "_law_folk_here"] (VSg K ca [(2, 0, [("arrivals", 3), ("ranks", 4), ("deaths", 5)])] 3 [true, true, true, true, true, true] Lw.m_law_folk) := by
  refine vg_of (obs := [(2, 0, [("arrivals", 3), ("ranks", 4), ("deaths", 5)])]) (md := [true, true, true, true, true, true]) (k := 2) F sc_law_folk (by decide) (by decide) (gh_def (by decide +kernel)) fun cdv A outer s H E ws hr B hwl hob => ?_
  have tk : Takes (ctOf P w K mg base ca N_law_folk "_law_folk" (defScope s_law_folk) f cdv A outer s H E [true, true, true, true, true, true] ws B).X _ := takes_of rfl rfl rfl rfl
  have hv := hv_of hwl
  have O_law_folk_here := obAt_of (P := P) (w := w) (K := K) (mg := mg) (base := base) (N := N_law_folk) (qual := "_law_folk") (sc := defScope s_law_folk) (f := f) (cdv := cdv) (A := A) (outer := outer) (s := s) (H := H) (E := E) (md := [true, true, true, true, true, true]) (i := 2) (C := 0) (fl := [("arrivals", 3), ("ranks", 4), ("deaths", 5)]) hob List.mem_cons_self rfl (by decide)
  exact (jb_cons (js_set 6 sc_law_folk.nd rfl (by first | exact Or.inl rfl | exact Or.inr rfl) (by intro h; cases h) (je_lst ja_nil))
    (jb_cons (js_for PassesOwn.leaving rfl (ji_any (jd_var 1 (pv 1))) (jg_name 7 (by intro h; cases h) (pg_name (i := 7) sc_law_folk.nd rfl (by first | exact Or.inl rfl | exact Or.inr rfl))) (jb_cons (js_set 8 sc_law_folk.nd rfl (by first | exact Or.inl rfl | exact Or.inr rfl) (by intro h; cases h) (je_dx D_law_next hr (by decide) tk (by rfl) (jar_r 0 (pv 0) (jar_d jd_int jar_nil))))
    (jb_cons (js_expr (je_mxG D_Folk_come hr (by decide) tk O_law_folk_here (psl_var (pv 2)) (jag_d (jd_var 7 (pv 7)) (jag_d (jd_var 8 (pv 8)) (jag_d jd_int jag_nil))) (obsArg_one O_law_folk_here rfl (fs := ["arrivals", "ranks", "deaths"]) rfl rfl rfl (by decide))))
    (jb_one (js_expr (je_append 6 (pv 6) (jd_tup (ja_cons jd_str (ja_cons (jd_var 7 (pv 7)) (ja_cons (jd_var 8 (pv 8)) (ja_cons jd_int ja_nil)))))))))))
    (jb_cons (js_set 9 sc_law_folk.nd rfl (by first | exact Or.inl rfl | exact Or.inr rfl) (by intro h; cases h) (je_list (by rfl) z_list (jv_var 1 (pv 1))))
    (jb_cons (js_for PassesOwn.leaving rfl (ji_range1 (by rfl) z_range (ja_cons (jd_fz (je_dx D_law_next hr (by decide) tk (by rfl) (jar_r 0 (pv 0) (jar_d jd_int jar_nil)))) ja_nil)) (jg_name 10 (by intro h; cases h) (pg_name (i := 10) sc_law_folk.nd rfl (by first | exact Or.inl rfl | exact Or.inr rfl))) (jb_one (js_if (jt_cmpN cv_gt (jv_d (jd_len (by rfl) z_len (jv_var 9 (pv 9)))) (jv_d jd_int) (nomark _)) (jb_cons (js_set 7 sc_law_folk.nd rfl (by first | exact Or.inl rfl | exact Or.inr rfl) (by intro h; cases h) (je_d (jd_popAt 9 (pv 9) (jd_fz (je_dx D_law_next hr (by decide) tk (by rfl) (jar_r 0 (pv 0) (jar_d (jd_len (by rfl) z_len (jv_var 9 (pv 9))) jar_nil)))))))
    (jb_cons (js_set 11 sc_law_folk.nd rfl (by first | exact Or.inl rfl | exact Or.inr rfl) (by intro h; cases h) (je_d (jd_ixP 9 (pv 9) (jd_fz (je_dx D_law_next hr (by decide) tk (by rfl) (jar_r 0 (pv 0) (jar_d (jd_len (by rfl) z_len (jv_var 9 (pv 9))) jar_nil)))))))
    (jb_cons (js_set 8 sc_law_folk.nd rfl (by first | exact Or.inl rfl | exact Or.inr rfl) (by intro h; cases h) (je_add jd_int (jd_fz (je_dx D_law_next hr (by decide) tk (by rfl) (jar_r 0 (pv 0) (jar_d jd_int jar_nil))))))
    (jb_cons (js_expr (je_mxG D_Folk_die hr (by decide) tk O_law_folk_here (psl_var (pv 2)) (jag_d (jd_var 7 (pv 7)) (jag_d (jd_var 8 (pv 8)) (jag_d (jd_var 11 (pv 11)) jag_nil))) (obsArg_one O_law_folk_here rfl (fs := ["arrivals", "ranks", "deaths"]) rfl rfl rfl (by decide))))
    (jb_one (js_expr (je_append 6 (pv 6) (jd_tup (ja_cons jd_str (ja_cons (jd_var 7 (pv 7)) (ja_cons (jd_var 8 (pv 8)) (ja_cons (jd_var 11 (pv 11)) ja_nil)))))))))))) jb_nil)))
    (jb_one (js_ret (je_move 6 (pv 6))))))))
theorem ok_law_death {f : Addr} {fd : FuncData} (F : Fun K "_law_death" "_law_death" s_law_death f fd)  : FnOk P w K mg base (L2.CX P w) 1 f fd ["_law_deeds", "_law_name"] (VSg K ca [] 2 [true, false] Lw.m_law_death) := by
  refine vg_of (obs := []) (md := [true, false]) (k := 0) F sc_law_death (by decide) (by decide) (gh_def (by decide +kernel)) fun cdv A outer s H E ws hr B hwl hob => ?_
  have tk : Takes (ctOf P w K mg base ca N_law_death "_law_death" (defScope s_law_death) f cdv A outer s H E [true, false] ws B).X _ := takes_of rfl rfl rfl rfl
  have hv := hv_of hwl
  exact (jb_cons (js_forF PassesOwn.leaving rfl (psl_var (pv 0)) rfl (hv 0 rfl) (jg_name 2 (by intro h; cases h) (pg_name (i := 2) sc_law_death.nd rfl (by first | exact Or.inl rfl | exact Or.inr rfl))) (jb_one (js_if (jt_w (jw_and (jt_cmpN (cv_eq hr) (jv_d (jd_ixP 2 (pv 2) jd_int)) (jv_d jd_str) (nomark _)) (jw_and1 (jt_cmpN (cv_eq hr) (jv_d (jd_ixP 2 (pv 2) jd_int)) (jv_var 1 (pv 1)) (nomark _))))) (jb_one (js_ret (je_d (jd_tup (ja_cons (jd_ixP 2 (pv 2) jd_int) (ja_cons (jd_ixP 2 (pv 2) jd_int) ja_nil)))))) jb_nil)))
    (jb_one (js_ret (je_d jd_non))))
theorem ok_law_is_dead {f : Addr} {fd : FuncData} (F : Fun K "_law_is_dead" "_law_is_dead" s_law_is_dead f fd) (D_law_death : DxG P w K mg base ca "_law_death" 1 ["_law_deeds", "_law_name"] [] [true, false] Lw.m_law_death) : FnOk P w K mg base (L2.CX P w) 2 f fd ["_law_deeds", "_law_name", "_law_day"] (VSp K ca [true, false, false] Lw.m_law_is_dead) := by
  refine vf_of (k := 1) F sc_law_is_dead rfl (by decide) fun cdv A outer s H E vs hr B => ?_
  have tk : Takes (ctOf P w K mg base ca N_law_is_dead "_law_is_dead" (defScope s_law_is_dead) f cdv A outer s H E [true, false, false] vs B).X _ := takes_of rfl rfl rfl rfl
  exact (jb_cons (js_set 3 sc_law_is_dead.nd rfl (by first | exact Or.inl rfl | exact Or.inr rfl) (by intro h; cases h) (je_dxG D_law_death hr (by decide) tk (by rfl) (jag_r 0 (pv 0) (jag_d (jd_var 1 (pv 1)) jag_nil)) obsArg_nil))
    (jb_one (js_ret (je_d (jd_and (jd_cmpN cv_isN (jv_var 3 (pv 3)) (jv_d jd_non) (nomark _)) (jd_one (jd_cmpN cv_le (jv_d (jd_ixP 3 (pv 3) jd_int)) (jv_var 2 (pv 2)) (nomark _))))))))
theorem ok_law_heir {f : Addr} {fd : FuncData} (F : Fun K "_law_heir" "_law_heir" s_law_heir f fd) (D_law_is_dead : Dx P w K mg base ca "_law_is_dead" 2 ["_law_deeds", "_law_name", "_law_day"] [true, false, false] Lw.m_law_is_dead) (D_law_death : DxG P w K mg base ca "_law_death" 1 ["_law_deeds", "_law_name"] [] [true, false] Lw.m_law_death) (z_range : mg "range" = none) : FnOk P w K mg base (L2.CX P w) 3 f fd ["_law_deeds", "_law_name", "_law_day"] (VSp K ca [true, false, false] Lw.m_law_heir) := by
  refine vf_of (k := 2) F sc_law_heir rfl (by decide) fun cdv A outer s H E vs hr B => ?_
  have tk : Takes (ctOf P w K mg base ca N_law_heir "_law_heir" (defScope s_law_heir) f cdv A outer s H E [true, false, false] vs B).X _ := takes_of rfl rfl rfl rfl
  exact (jb_cons (js_for PassesOwn.leaving rfl (ji_range1 (by rfl) z_range (ja_cons jd_int ja_nil)) (jg_name 3 (by intro h; cases h) (pg_name (i := 3) sc_law_heir.nd rfl (by first | exact Or.inl rfl | exact Or.inr rfl))) (jb_cons (js_if (jt_not (jt_val (jd_fz (je_dx D_law_is_dead hr (by decide) tk (by rfl) (jar_r 0 (pv 0) (jar_d (jd_var 1 (pv 1)) (jar_d (jd_var 2 (pv 2)) jar_nil))))))) (jb_one (js_ret (je_move 1 (pv 1)))) jb_nil)
    (jb_one (js_set 1 sc_law_heir.nd rfl (by first | exact Or.inl rfl | exact Or.inr rfl) (by intro h; cases h) (je_d (jd_ix (jd_fz (je_dxG D_law_death hr (by decide) tk (by rfl) (jag_r 0 (pv 0) (jag_d (jd_var 1 (pv 1)) jag_nil)) obsArg_nil)) jd_int))))))
    (jb_one (js_ret (je_move 1 (pv 1)))))
theorem ok_law_events {f : Addr} {fd : FuncData} (F : Fun K "_law_events" "_law_events" s_law_events f fd) (D_law_next : Dx P w K mg base ca "_law_next" 1 ["_law_src_here", "_law_base"] [true, false] Lw.m_law_next) (D_law_heir : Dx P w K mg base ca "_law_heir" 3 ["_law_deeds", "_law_name", "_law_day"] [true, false, false] Lw.m_law_heir) (z_range : mg "range" = none) (z_len : mg "len" = none) : FnOk P w K mg base (L2.CX P w) 4 f fd ["_law_src_here", "_law_deeds", "_law_names_here", "_law_brought", "_law_many"] (VSp K ca [true, true, true, false, false] Lw.m_law_events) := by
  refine vf_of (k := 3) F sc_law_events rfl (by decide) fun cdv A outer s H E vs hr B => ?_
  have tk : Takes (ctOf P w K mg base ca N_law_events "_law_events" (defScope s_law_events) f cdv A outer s H E [true, true, true, false, false] vs B).X _ := takes_of rfl rfl rfl rfl
  exact (jb_cons (js_set 5 sc_law_events.nd rfl (by first | exact Or.inl rfl | exact Or.inr rfl) (by intro h; cases h) (je_lst ja_nil))
    (jb_cons (js_asg (jg_tup rfl (jgs_cons (jg_name 6 (by intro h; cases h) (pg_name (i := 6) sc_law_events.nd rfl (by first | exact Or.inl rfl | exact Or.inr rfl))) (jgs_cons (jg_name 7 (by intro h; cases h) (pg_name (i := 7) sc_law_events.nd rfl (by first | exact Or.inl rfl | exact Or.inr rfl))) jgs_nil))) (jd_var 3 (pv 3)))
    (jb_cons (js_for PassesOwn.leaving rfl (ji_range1 (by rfl) z_range (ja_cons (jd_var 4 (pv 4)) ja_nil)) (jg_name 8 (by intro h; cases h) (pg_name (i := 8) sc_law_events.nd rfl (by first | exact Or.inl rfl | exact Or.inr rfl))) (jb_cons (js_set 9 sc_law_events.nd rfl (by first | exact Or.inl rfl | exact Or.inr rfl) (by intro h; cases h) (je_add (jd_var 7 (pv 7)) (jd_fz (je_dx D_law_next hr (by decide) tk (by rfl) (jar_r 0 (pv 0) (jar_d jd_int jar_nil))))))
    (jb_cons (js_set 10 sc_law_events.nd rfl (by first | exact Or.inl rfl | exact Or.inr rfl) (by intro h; cases h) (je_d (jd_ixP 2 (pv 2) (jd_fz (je_dx D_law_next hr (by decide) tk (by rfl) (jar_r 0 (pv 0) (jar_d (jd_len (by rfl) z_len (jv_var 2 (pv 2))) jar_nil)))))))
    (jb_cons (js_set 11 sc_law_events.nd rfl (by first | exact Or.inl rfl | exact Or.inr rfl) (by intro h; cases h) (je_d (jd_ixP 2 (pv 2) (jd_fz (je_dx D_law_next hr (by decide) tk (by rfl) (jar_r 0 (pv 0) (jar_d (jd_len (by rfl) z_len (jv_var 2 (pv 2))) jar_nil)))))))
    (jb_cons (js_if (jt_cmpN cv_gt (jv_d (jd_fz (je_dx D_law_next hr (by decide) tk (by rfl) (jar_r 0 (pv 0) (jar_d jd_int jar_nil))))) (jv_d jd_int) (nomark _)) (jb_one (js_set 11 sc_law_events.nd rfl (by first | exact Or.inl rfl | exact Or.inr rfl) (by intro h; cases h) (je_dx D_law_heir hr (by decide) tk (by rfl) (jar_r 1 (pv 1) (jar_d (jd_var 6 (pv 6)) (jar_d (jd_var 9 (pv 9)) jar_nil)))))) jb_nil)
    (jb_cons (js_if (jt_cmpN (cv_eq hr) (jv_d (jd_fz (je_dx D_law_next hr (by decide) tk (by rfl) (jar_r 0 (pv 0) (jar_d jd_int jar_nil))))) (jv_d jd_int) (nomark _)) (jb_one (js_expr (je_append 5 (pv 5) (jd_tup (ja_cons (jd_var 9 (pv 9)) (ja_cons jd_str (ja_cons jd_non (ja_cons (jd_var 10 (pv 10)) ja_nil)))))))) (jb_one (js_expr (je_append 5 (pv 5) (jd_tup (ja_cons (jd_var 9 (pv 9)) (ja_cons jd_str (ja_cons (jd_var 11 (pv 11)) (ja_cons (jd_var 10 (pv 10)) ja_nil)))))))))
    (jb_one (js_set 6 sc_law_events.nd rfl (by first | exact Or.inl rfl | exact Or.inr rfl) (by intro h; cases h) (je_d (jd_var 10 (pv 10)))))))))))
    (jb_cons (js_if (jt_cmpN (cv_eq hr) (jv_d (jd_fz (je_dx D_law_next hr (by decide) tk (by rfl) (jar_r 0 (pv 0) (jar_d jd_int jar_nil))))) (jv_d jd_int) (nomark _)) (jb_one (js_ret (je_move 5 (pv 5)))) jb_nil)
    (jb_cons (js_set 12 sc_law_events.nd rfl (by first | exact Or.inl rfl | exact Or.inr rfl) (by intro h; cases h) (je_lst ja_nil))
    (jb_cons (js_frz 5 (js_for PassesOwn.leaving rfl (ji_range2 (by rfl) z_range (ja_cons (jd_var 7 (pv 7)) (ja_cons (jd_fz (je_add (jd_var 7 (pv 7)) jd_int)) ja_nil))) (jg_name 13 (by intro h; cases h) (pg_name (i := 13) sc_law_events.nd rfl (by first | exact Or.inl rfl | exact Or.inr rfl))) (jb_one (js_expr (je_extend 12 (pv 12) (jd_fz (je_lc (own := [("_law_event", 14)]) rfl sc_law_events.nd (ji_any (jd_var 5 (pv 5))) (blkOk_by (own := [("_law_event", 14)]) (N := N_law_events) (sc := defScope s_law_events) (by decide +kernel)) (fun _ => (jg_name 14 (by intro h; cases h) (pg_name (i := 14) sc_law_events.nd rfl (by first | exact Or.inl rfl | exact Or.inr rfl)))) (by decide) (by intro k hk; simp only [List.map_cons, List.map_nil, List.mem_cons, List.not_mem_nil, or_false] at hk; rcases hk with rfl <;> (intro h; cases h)) (fun _ => (jts_one (jt_cmpN (cv_eq hr) (jv_d (jd_ixP 14 (pv 14) jd_int)) (jv_var 13 (pv 13)) (nomark _)))) (fun _ => (jd_var 14 (pv 14))))))))))
    (jb_one (js_ret (je_move 12 (pv 12))))))))))
theorem ok_day_of {f : Addr} {fd : FuncData} (F : Fun K "day_of" "day_of" s_day_of f fd)  : FnOk P w K mg base (L2.CX P w) 1 f fd ["event"] (VSp K ca [true] Lw.m_day_of) := by
  refine vf_of (k := 0) F sc_day_of rfl (by decide) fun cdv A outer s H E vs hr B => ?_
  have tk : Takes (ctOf P w K mg base ca N_day_of "day_of" (defScope s_day_of) f cdv A outer s H E [true] vs B).X _ := takes_of rfl rfl rfl rfl
  exact (jb_one (js_ret (je_d (jd_ixP 0 (pv 0) jd_int))))
theorem ok_Folk_dead {f : Addr} {fd : FuncData} (F : Fun K "dead" "Folk.dead" s_Folk_dead f fd) (D_measure : Dx P w K mg base ca "measure" 1 ["number", "low", "high"] [false, false, false] Lw.m_measure) (D_Folk_known : MxG P w K mg base ca 0 "known" 1 ["self", "name"] [(0, 0, [("arrivals", 2), ("ranks", 3), ("deaths", 4)])] [true, false, true, true, true] Lw.m_Folk_known) (hC_Folk : Cls K (ca 0)) (hn_Folk_deaths : NoAttr K (ca 0) "deaths") (z_LAST_DAY : ∃ t, mg "LAST_DAY" = some (.int 9999 t)) : FnOk P w K mg base (L2.CX P w) 2 f fd ["self", "name", "day"] (VSg K ca [(0, 0, [("arrivals", 3), ("ranks", 4), ("deaths", 5)])] 3 [true, false, false, true, true, true] Lw.m_Folk_dead) := by
  refine vg_of (obs := [(0, 0, [("arrivals", 3), ("ranks", 4), ("deaths", 5)])]) (md := [true, false, false, true, true, true]) (k := 1) F sc_Folk_dead (by decide) (by decide) (gh_def (by decide +kernel)) fun cdv A outer s H E ws hr B hwl hob => ?_
  have tk : Takes (ctOf P w K mg base ca N_Folk_dead "Folk.dead" (defScope s_Folk_dead) f cdv A outer s H E [true, false, false, true, true, true] ws B).X _ := takes_of rfl rfl rfl rfl
  have hv := hv_of hwl
  have O_self := obAt_of (P := P) (w := w) (K := K) (mg := mg) (base := base) (N := N_Folk_dead) (qual := "Folk.dead") (sc := defScope s_Folk_dead) (f := f) (cdv := cdv) (A := A) (outer := outer) (s := s) (H := H) (E := E) (md := [true, false, false, true, true, true]) (i := 0) (C := 0) (fl := [("arrivals", 3), ("ranks", 4), ("deaths", 5)]) hob List.mem_cons_self rfl (by decide)
  exact (jb_cons (js_expr (je_dx D_measure hr (by decide) tk (by rfl) (jar_d (jd_var 2 (pv 2)) (jar_d jd_int (jar_d (jd_gi (by rfl) z_LAST_DAY) jar_nil)))))
    (jb_cons (js_expr (je_mxG D_Folk_known hr (by decide) tk O_self (psl_var (pv 0)) (jag_d (jd_var 1 (pv 1)) jag_nil) (obsArg_one O_self rfl (fs := ["arrivals", "ranks", "deaths"]) rfl rfl rfl (by decide))))
    (jb_one (js_ret (je_d (jd_and (jd_dinF hr (psl_fld O_self rfl hC_Folk hn_Folk_deaths (psl_var (pv 0))) (jd_var 1 (pv 1))) (jd_one (jd_cmpN cv_le (jv_d (jd_ix (jd_dgetF hr (psl_fld O_self rfl hC_Folk hn_Folk_deaths (psl_var (pv 0))) (jd_var 1 (pv 1))) jd_int)) (jv_var 2 (pv 2)) (nomark _)))))))))
theorem ok_Folk_death {f : Addr} {fd : FuncData} (F : Fun K "death" "Folk.death" s_Folk_death f fd) (hC_Folk : Cls K (ca 0)) (hn_Folk_deaths : NoAttr K (ca 0) "deaths") : FnOk P w K mg base (L2.CX P w) 1 f fd ["self", "name"] (VSg K ca [(0, 0, [("arrivals", 2), ("ranks", 3), ("deaths", 4)])] 2 [true, false, true, true, true] Lw.m_Folk_death) := by
  refine vg_of (obs := [(0, 0, [("arrivals", 2), ("ranks", 3), ("deaths", 4)])]) (md := [true, false, true, true, true]) (k := 0) F sc_Folk_death (by decide) (by decide) (gh_def (by decide +kernel)) fun cdv A outer s H E ws hr B hwl hob => ?_
  have tk : Takes (ctOf P w K mg base ca N_Folk_death "Folk.death" (defScope s_Folk_death) f cdv A outer s H E [true, false, true, true, true] ws B).X _ := takes_of rfl rfl rfl rfl
  have hv := hv_of hwl
  have O_self := obAt_of (P := P) (w := w) (K := K) (mg := mg) (base := base) (N := N_Folk_death) (qual := "Folk.death") (sc := defScope s_Folk_death) (f := f) (cdv := cdv) (A := A) (outer := outer) (s := s) (H := H) (E := E) (md := [true, false, true, true, true]) (i := 0) (C := 0) (fl := [("arrivals", 2), ("ranks", 3), ("deaths", 4)]) hob List.mem_cons_self rfl (by decide)
  exact (jb_one (js_ret (je_d (jd_dgetNF hr (psl_fld O_self rfl hC_Folk hn_Folk_deaths (psl_var (pv 0))) (jd_var 1 (pv 1))))))
theorem ok_leave {f : Addr} {fd : FuncData} (F : Fun K "leave" "leave" s_leave f fd) (D_Folk_dead : MxG P w K mg base ca 0 "dead" 2 ["self", "name", "day"] [(0, 0, [("arrivals", 3), ("ranks", 4), ("deaths", 5)])] [true, false, false, true, true, true] Lw.m_Folk_dead) (D_Folk_death : MxG P w K mg base ca 0 "death" 1 ["self", "name"] [(0, 0, [("arrivals", 2), ("ranks", 3), ("deaths", 4)])] [true, false, true, true, true] Lw.m_Folk_death) (z_max : mg "max" = none) : FnOk P w K mg base (L2.CX P w) 3 f fd ["steps", "folk", "day"] (VSg K ca [(1, 0, [("arrivals", 3), ("ranks", 4), ("deaths", 5)])] 3 [true, true, false, true, true, true] Lw.m_leave) := by
  refine vg_of (obs := [(1, 0, [("arrivals", 3), ("ranks", 4), ("deaths", 5)])]) (md := [true, true, false, true, true, true]) (k := 2) F sc_leave (by decide) (by decide) (gh_def (by decide +kernel)) fun cdv A outer s H E ws hr B hwl hob => ?_
  have tk : Takes (ctOf P w K mg base ca N_leave "leave" (defScope s_leave) f cdv A outer s H E [true, true, false, true, true, true] ws B).X _ := takes_of rfl rfl rfl rfl
  have hv := hv_of hwl
  have O_folk := obAt_of (P := P) (w := w) (K := K) (mg := mg) (base := base) (N := N_leave) (qual := "leave") (sc := defScope s_leave) (f := f) (cdv := cdv) (A := A) (outer := outer) (s := s) (H := H) (E := E) (md := [true, true, false, true, true, true]) (i := 1) (C := 0) (fl := [("arrivals", 3), ("ranks", 4), ("deaths", 5)]) hob List.mem_cons_self rfl (by decide)
  exact (jb_one (js_while (fun _ => 100) PassesOwn.leaving (jt_val (jd_fz (je_mxG D_Folk_dead hr (by decide) tk O_folk (psl_var (pv 1)) (jag_d (jd_ix (jd_ixP 0 (pv 0) (jd_neg jd_int)) jd_int) (jag_d (jd_var 2 (pv 2)) jag_nil)) (obsArg_one O_folk rfl (fs := ["arrivals", "ranks", "deaths"]) rfl rfl rfl (by decide))))) (jb_cons (js_set 6 sc_leave.nd rfl (by first | exact Or.inl rfl | exact Or.inr rfl) (by intro h; cases h) (je_d (jd_ix (jd_ixP 0 (pv 0) (jd_neg jd_int)) jd_int)))
    (jb_cons (js_asg (jg_tup rfl (jgs_cons (jg_name 7 (by intro h; cases h) (pg_name (i := 7) sc_leave.nd rfl (by first | exact Or.inl rfl | exact Or.inr rfl))) (jgs_cons (jg_name 8 (by intro h; cases h) (pg_name (i := 8) sc_leave.nd rfl (by first | exact Or.inl rfl | exact Or.inr rfl))) jgs_nil))) (jd_fz (je_mxG D_Folk_death hr (by decide) tk O_folk (psl_var (pv 1)) (jag_d (jd_var 6 (pv 6)) jag_nil) (obsArg_one O_folk rfl (fs := ["arrivals", "ranks", "deaths"]) rfl rfl rfl (by decide)))))
    (jb_one (js_expr (je_append 0 (pv 0) (jd_tup (ja_cons (jd_max rfl (by rfl) z_max (ja_cons (jd_var 7 (pv 7)) (ja_cons (jd_ix (jd_ixP 0 (pv 0) (jd_neg jd_int)) jd_int) ja_nil))) (ja_cons jd_str (ja_cons (jd_var 6 (pv 6)) (ja_cons (jd_var 8 (pv 8)) ja_nil))))))))))))
theorem ok_road {f : Addr} {fd : FuncData} (F : Fun K "road" "road" s_road f fd) (D_leave : DxG P w K mg base ca "leave" 3 ["steps", "folk", "day"] [(1, 0, [("arrivals", 3), ("ranks", 4), ("deaths", 5)])] [true, true, false, true, true, true] Lw.m_leave) (K_day_of : KeyAt0 P w K mg "day_of") (z_sorted : mg "sorted" = none) : FnOk P w K mg base (L2.CX P w) 4 f fd ["brought", "events", "folk", "day"] (VSg K ca [(2, 0, [("arrivals", 4), ("ranks", 5), ("deaths", 6)])] 4 [false, false, true, false, true, true, true] Lw.m_road) := by
  refine vg_of (obs := [(2, 0, [("arrivals", 4), ("ranks", 5), ("deaths", 6)])]) (md := [false, false, true, false, true, true, true]) (k := 3) F sc_road (by decide) (by decide) (gh_def (by decide +kernel)) fun cdv A outer s H E ws hr B hwl hob => ?_
  have tk : Takes (ctOf P w K mg base ca N_road "road" (defScope s_road) f cdv A outer s H E [false, false, true, false, true, true, true] ws B).X _ := takes_of rfl rfl rfl rfl
  have hv := hv_of hwl
  have O_folk := obAt_of (P := P) (w := w) (K := K) (mg := mg) (base := base) (N := N_road) (qual := "road") (sc := defScope s_road) (f := f) (cdv := cdv) (A := A) (outer := outer) (s := s) (H := H) (E := E) (md := [false, false, true, false, true, true, true]) (i := 2) (C := 0) (fl := [("arrivals", 4), ("ranks", 5), ("deaths", 6)]) hob List.mem_cons_self rfl (by decide)
  exact (jb_cons (js_if (jt_cmpN cv_lt (jv_var 3 (pv 3)) (jv_d (jd_ixP 0 (pv 0) jd_int)) (nomark _)) (jb_one (js_ret (je_lst ja_nil))) jb_nil)
    (jb_cons (js_set 7 sc_road.nd rfl (by first | exact Or.inl rfl | exact Or.inr rfl) (by intro h; cases h) (je_lst (ja_cons (jd_tup (ja_cons (jd_ixP 0 (pv 0) jd_int) (ja_cons jd_str (ja_cons jd_non (ja_cons (jd_ixP 0 (pv 0) jd_int) ja_nil))))) ja_nil)))
    (jb_cons (js_for PassesOwn.leaving rfl (ji_any (jd_fz (je_sortK0 hr K_day_of (by rfl) (by rfl) z_sorted (jd_var 1 (pv 1))))) (jg_tup rfl (jgs_cons (jg_name 8 (by intro h; cases h) (pg_name (i := 8) sc_road.nd rfl (by first | exact Or.inl rfl | exact Or.inr rfl))) (jgs_cons (jg_name 9 (by intro h; cases h) (pg_name (i := 9) sc_road.nd rfl (by first | exact Or.inl rfl | exact Or.inr rfl))) (jgs_cons (jg_name 10 (by intro h; cases h) (pg_name (i := 10) sc_road.nd rfl (by first | exact Or.inl rfl | exact Or.inr rfl))) (jgs_cons (jg_name 11 (by intro h; cases h) (pg_name (i := 11) sc_road.nd rfl (by first | exact Or.inl rfl | exact Or.inr rfl))) jgs_nil))))) (jb_cons (js_if (jt_cmpN cv_gt (jv_var 8 (pv 8)) (jv_var 3 (pv 3)) (nomark _)) (jb_one js_break) jb_nil)
    (jb_cons (js_expr (je_dxG D_leave hr (by decide) tk (by rfl) (jag_r 7 (pv 7) (jag_o O_folk (psl_var (pv 2)) (jag_d (jd_var 8 (pv 8)) jag_nil))) (obsArg_one O_folk rfl (fs := ["arrivals", "ranks", "deaths"]) rfl rfl rfl (by decide))))
    (jb_cons (js_set 12 sc_road.nd rfl (by first | exact Or.inl rfl | exact Or.inr rfl) (by intro h; cases h) (je_d (jd_ix (jd_ixP 7 (pv 7) (jd_neg jd_int)) jd_int)))
    (jb_one (js_if (jt_cmpN (cv_eq hr) (jv_var 9 (pv 9)) (jv_d jd_str) (nomark _)) (jb_one (js_expr (je_append 7 (pv 7) (jd_tup (ja_cons (jd_var 8 (pv 8)) (ja_cons jd_str (ja_cons (jd_var 12 (pv 12)) (ja_cons (jd_var 11 (pv 11)) ja_nil)))))))) (jb_one (js_if (jt_cmpN (cv_eq hr) (jv_var 12 (pv 12)) (jv_var 10 (pv 10)) (nomark _)) (jb_one (js_expr (je_append 7 (pv 7) (jd_tup (ja_cons (jd_var 8 (pv 8)) (ja_cons jd_str (ja_cons (jd_var 10 (pv 10)) (ja_cons (jd_var 11 (pv 11)) ja_nil)))))))) jb_nil))))))))
    (jb_cons (js_expr (je_dxG D_leave hr (by decide) tk (by rfl) (jag_r 7 (pv 7) (jag_o O_folk (psl_var (pv 2)) (jag_d (jd_var 3 (pv 3)) jag_nil))) (obsArg_one O_folk rfl (fs := ["arrivals", "ranks", "deaths"]) rfl rfl rfl (by decide))))
    (jb_one (js_ret (je_move 7 (pv 7))))))))
theorem ok_law_whole {f : Addr} {fd : FuncData} (F : Fun K "_law_whole" "_law_whole" s_law_whole f fd) (z_isinstance : mg "isinstance" = none) (z_int : mg "int" = none) (z_bool : mg "bool" = none) : FnOk P w K mg base (L2.CX P w) 1 f fd ["_law_found"] (VSp K ca [false] Lw.m_law_whole) := by
  refine vf_of (k := 0) F sc_law_whole rfl (by decide) fun cdv A outer s H E vs hr B => ?_
  have tk : Takes (ctOf P w K mg base ca N_law_whole "_law_whole" (defScope s_law_whole) f cdv A outer s H E [false] vs B).X _ := takes_of rfl rfl rfl rfl
  exact (jb_one (js_ret (je_d (jd_and (jd_isi (T := "int") (by rfl) z_isinstance (by rfl) z_int (by decide +kernel) (jv_var 0 (pv 0))) (jd_one (jd_not (jd_isi (T := "bool") (by rfl) z_isinstance (by rfl) z_bool (by decide +kernel) (jv_var 0 (pv 0)))))))))
theorem ok_law_same {f : Addr} {fd : FuncData} (F : Fun K "_law_same" "_law_same" s_law_same f fd) (D_law_whole : Dx P w K mg base ca "_law_whole" 1 ["_law_found"] [false] Lw.m_law_whole) (z_isinstance : mg "isinstance" = none) (z_bool : mg "bool" = none) (z_int : mg "int" = none) (z_str : mg "str" = none) (z_list : mg "list" = none) (z_tuple : mg "tuple" = none) (z_len : mg "len" = none) (z_zip : mg "zip" = none) (hg : mg "_law_same" = some (.ref f)) (hk : PySem.W.keepIn K (.ref f) = true) (hb : Binds K fd ["_law_found", "_law_due"] []) : ∀ k_ : Nat, Dx P w K mg base ca "_law_same" (2 + k_) ["_law_found", "_law_due"] [false, false] (Lw.m_law_same k_)
  | 0 => dx_stuck hg hk hb
  | k_ + 1 => by
    have D_law_same := ok_law_same F D_law_whole z_isinstance z_bool z_int z_str z_list z_tuple z_len z_zip hg hk hb k_
    refine dx_of (vf_of (k := 2 + k_) F sc_law_same rfl (by decide) fun cdv A outer s H E vs hr B => ?_) hg hk hb
    have tk : Takes (ctOf P w K mg base ca N_law_same "_law_same" (defScope s_law_same) f cdv A outer s H E [false, false] vs B).X _ := takes_of rfl rfl rfl rfl
    exact (jb_cons (js_if (jt_cmpN cv_is (jv_var 1 (pv 1)) (jv_d jd_non) (nomark _)) (jb_one (js_ret (je_d (jd_cmpN cv_is (jv_var 0 (pv 0)) (jv_d jd_non) (nomark _))))) jb_nil)
    (jb_cons (js_if (jt_val (jd_isi (T := "bool") (by rfl) z_isinstance (by rfl) z_bool (by decide +kernel) (jv_var 1 (pv 1)))) (jb_one (js_ret (je_d (jd_and (jd_isi (T := "bool") (by rfl) z_isinstance (by rfl) z_bool (by decide +kernel) (jv_var 0 (pv 0))) (jd_one (jd_cmpN (cv_eq hr) (jv_var 0 (pv 0)) (jv_var 1 (pv 1)) (nomark _))))))) jb_nil)
    (jb_cons (js_if (jt_val (jd_isi (T := "int") (by rfl) z_isinstance (by rfl) z_int (by decide +kernel) (jv_var 1 (pv 1)))) (jb_one (js_ret (je_d (jd_and (jd_fz (je_dx D_law_whole hr (by omega) tk (by rfl) (jar_d (jd_var 0 (pv 0)) jar_nil))) (jd_one (jd_cmpN (cv_eq hr) (jv_var 0 (pv 0)) (jv_var 1 (pv 1)) (nomark _))))))) jb_nil)
    (jb_cons (js_if (jt_val (jd_isi (T := "str") (by rfl) z_isinstance (by rfl) z_str (by decide +kernel) (jv_var 1 (pv 1)))) (jb_one (js_ret (je_d (jd_and (jd_isi (T := "str") (by rfl) z_isinstance (by rfl) z_str (by decide +kernel) (jv_var 0 (pv 0))) (jd_one (jd_cmpN (cv_eq hr) (jv_var 0 (pv 0)) (jv_var 1 (pv 1)) (nomark _))))))) jb_nil)
    (jb_cons (js_if (jt_w (jw_or (jt_cmpN (cv_ne hr) (jv_d (jd_isi (T := "list") (by rfl) z_isinstance (by rfl) z_list (by decide +kernel) (jv_var 1 (pv 1)))) (jv_d (jd_isi (T := "list") (by rfl) z_isinstance (by rfl) z_list (by decide +kernel) (jv_var 0 (pv 0)))) (nomark _)) (jw_or1 (jt_cmpN (cv_ne hr) (jv_d (jd_isi (T := "tuple") (by rfl) z_isinstance (by rfl) z_tuple (by decide +kernel) (jv_var 1 (pv 1)))) (jv_d (jd_isi (T := "tuple") (by rfl) z_isinstance (by rfl) z_tuple (by decide +kernel) (jv_var 0 (pv 0)))) (nomark _))))) (jb_one (js_ret (je_d jd_bl))) jb_nil)
    (jb_cons (js_if (jt_cmpN (cv_ne hr) (jv_d (jd_len (by rfl) z_len (jv_var 0 (pv 0)))) (jv_d (jd_len (by rfl) z_len (jv_var 1 (pv 1)))) (nomark _)) (jb_one (js_ret (je_d jd_bl))) jb_nil)
    (jb_cons (js_for PassesOwn.leaving rfl (ji_zip (by rfl) z_zip (ja_cons (jd_var 0 (pv 0)) (ja_cons (jd_var 1 (pv 1)) ja_nil))) (jg_tup rfl (jgs_cons (jg_name 2 (by intro h; cases h) (pg_name (i := 2) sc_law_same.nd rfl (by first | exact Or.inl rfl | exact Or.inr rfl))) (jgs_cons (jg_name 3 (by intro h; cases h) (pg_name (i := 3) sc_law_same.nd rfl (by first | exact Or.inl rfl | exact Or.inr rfl))) jgs_nil))) (jb_one (js_if (jt_not (jt_val (jd_fz (je_dx D_law_same hr (by omega) tk (by rfl) (jar_d (jd_var 2 (pv 2)) (jar_d (jd_var 3 (pv 3)) jar_nil)))))) (jb_one (js_ret (je_d jd_bl))) jb_nil)))
    (jb_one (js_ret (je_d jd_bl))))))))))
theorem ok_law_step_fits {f : Addr} {fd : FuncData} (F : Fun K "_law_step_fits" "_law_step_fits" s_law_step_fits f fd) (D_law_whole : Dx P w K mg base ca "_law_whole" 1 ["_law_found"] [false] Lw.m_law_whole) (D_law_same : Dx P w K mg base ca "_law_same" 14 ["_law_found", "_law_due"] [false, false] (Lw.m_law_same 12)) (D_law_is_dead : Dx P w K mg base ca "_law_is_dead" 2 ["_law_deeds", "_law_name", "_law_day"] [true, false, false] Lw.m_law_is_dead) (D_law_death : DxG P w K mg base ca "_law_death" 1 ["_law_deeds", "_law_name"] [] [true, false] Lw.m_law_death) (z_isinstance : mg "isinstance" = none) (z_tuple : mg "tuple" = none) (z_len : mg "len" = none) : FnOk P w K mg base (L2.CX P w) 15 f fd ["_law_deeds", "_law_events_here", "_law_step", "_law_ahead"] (VSp K ca [true, true, false, false] Lw.m_law_step_fits) := by
  refine vf_of (k := 14) F sc_law_step_fits rfl (by decide) fun cdv A outer s H E vs hr B => ?_
  have tk : Takes (ctOf P w K mg base ca N_law_step_fits "_law_step_fits" (defScope s_law_step_fits) f cdv A outer s H E [true, true, false, false] vs B).X _ := takes_of rfl rfl rfl rfl
  exact (jb_cons (js_if (jt_w (jw_or (jt_not (jt_val (jd_isi (T := "tuple") (by rfl) z_isinstance (by rfl) z_tuple (by decide +kernel) (jv_var 2 (pv 2))))) (jw_or (jt_cmpN (cv_ne hr) (jv_d (jd_len (by rfl) z_len (jv_var 2 (pv 2)))) (jv_d jd_int) (nomark _)) (jw_or1 (jt_not (jt_val (jd_fz (je_dx D_law_whole hr (by decide) tk (by rfl) (jar_d (jd_ixP 2 (pv 2) jd_int) jar_nil))))))))) (jb_one (js_ret (je_d jd_bl))) jb_nil)
    (jb_cons (js_asg (jg_tup rfl (jgs_cons (jg_name 4 (by intro h; cases h) (pg_name (i := 4) sc_law_step_fits.nd rfl (by first | exact Or.inl rfl | exact Or.inr rfl))) (jgs_cons (jg_name 5 (by intro h; cases h) (pg_name (i := 5) sc_law_step_fits.nd rfl (by first | exact Or.inl rfl | exact Or.inr rfl))) (jgs_cons (jg_name 6 (by intro h; cases h) (pg_name (i := 6) sc_law_step_fits.nd rfl (by first | exact Or.inl rfl | exact Or.inr rfl))) (jgs_cons (jg_name 7 (by intro h; cases h) (pg_name (i := 7) sc_law_step_fits.nd rfl (by first | exact Or.inl rfl | exact Or.inr rfl))) jgs_nil))))) (jd_var 2 (pv 2)))
    (jb_cons (js_if (jt_w (jw_or (jt_cmpN cv_lt (jv_var 4 (pv 4)) (jv_d (jd_ixP 3 (pv 3) jd_int)) (nomark _)) (jw_or1 (jt_not (jt_val (jd_fz (je_dx D_law_same hr (by decide) tk (by rfl) (jar_d (jd_var 6 (pv 6)) (jar_d (jd_ixP 3 (pv 3) jd_int) jar_nil))))))))) (jb_one (js_ret (je_d jd_bl))) jb_nil)
    (jb_cons (js_if (jt_cmpN (cv_eq hr) (jv_var 5 (pv 5)) (jv_d jd_str) (nomark _)) (jb_one (js_ret (je_d (jd_cmpN (cv_in hr) (jv_d (jd_tup (ja_cons (jd_var 4 (pv 4)) (ja_cons jd_str (ja_cons (jd_var 6 (pv 6)) (ja_cons (jd_var 7 (pv 7)) ja_nil)))))) (jv_var 1 (pv 1)) rfl)))) jb_nil)
    (jb_cons (js_if (jt_cmpN (cv_eq hr) (jv_var 5 (pv 5)) (jv_d jd_str) (nomark _)) (jb_one (js_ret (je_d (jd_cmpN (cv_in hr) (jv_d (jd_tup (ja_cons (jd_var 4 (pv 4)) (ja_cons jd_str (ja_cons jd_non (ja_cons (jd_var 7 (pv 7)) ja_nil)))))) (jv_var 1 (pv 1)) rfl)))) jb_nil)
    (jb_cons (js_if (jt_w (jw_or (jt_cmpN (cv_ne hr) (jv_var 5 (pv 5)) (jv_d jd_str) (nomark _)) (jw_or1 (jt_not (jt_val (jd_fz (je_dx D_law_is_dead hr (by decide) tk (by rfl) (jar_r 0 (pv 0) (jar_d (jd_var 6 (pv 6)) (jar_d (jd_var 4 (pv 4)) jar_nil)))))))))) (jb_one (js_ret (je_d jd_bl))) jb_nil)
    (jb_cons (js_asg (jg_tup rfl (jgs_cons (jg_name 8 (by intro h; cases h) (pg_name (i := 8) sc_law_step_fits.nd rfl (by first | exact Or.inl rfl | exact Or.inr rfl))) (jgs_cons (jg_name 9 (by intro h; cases h) (pg_name (i := 9) sc_law_step_fits.nd rfl (by first | exact Or.inl rfl | exact Or.inr rfl))) jgs_nil))) (jd_fz (je_dxG D_law_death hr (by decide) tk (by rfl) (jag_r 0 (pv 0) (jag_d (jd_var 6 (pv 6)) jag_nil)) obsArg_nil)))
    (jb_one (js_ret (je_d (jd_and (jd_fz (je_dx D_law_same hr (by decide) tk (by rfl) (jar_d (jd_var 7 (pv 7)) (jar_d (jd_var 9 (pv 9)) jar_nil)))) (jd_one (jd_or (jd_cmpN (cv_eq hr) (jv_var 4 (pv 4)) (jv_var 8 (pv 8)) (nomark _)) (jd_one (jd_cmpN (cv_eq hr) (jv_var 4 (pv 4)) (jv_d (jd_ixP 3 (pv 3) jd_int)) (nomark _))))))))))))))))
theorem ok_law_walks {f : Addr} {fd : FuncData} (F : Fun K "_law_walks" "_law_walks" s_law_walks f fd) (D_law_same : Dx P w K mg base ca "_law_same" 14 ["_law_found", "_law_due"] [false, false] (Lw.m_law_same 12)) (D_law_step_fits : Dx P w K mg base ca "_law_step_fits" 15 ["_law_deeds", "_law_events_here", "_law_step", "_law_ahead"] [true, true, false, false] Lw.m_law_step_fits) (D_law_is_dead : Dx P w K mg base ca "_law_is_dead" 2 ["_law_deeds", "_law_name", "_law_day"] [true, false, false] Lw.m_law_is_dead) (z_isinstance : mg "isinstance" = none) (z_list : mg "list" = none) (z_len : mg "len" = none) (z_range : mg "range" = none) : FnOk P w K mg base (L2.CX P w) 16 f fd ["_law_deeds", "_law_brought", "_law_events_here", "_law_found", "_law_day"] (VSp K ca [true, true, true, true, false] Lw.m_law_walks) := by
  refine vf_of (k := 15) F sc_law_walks rfl (by decide) fun cdv A outer s H E vs hr B => ?_
  have tk : Takes (ctOf P w K mg base ca N_law_walks "_law_walks" (defScope s_law_walks) f cdv A outer s H E [true, true, true, true, false] vs B).X _ := takes_of rfl rfl rfl rfl
  exact (jb_cons (js_if (jt_w (jw_or (jt_not (jt_val (jd_isi (T := "list") (by rfl) z_isinstance (by rfl) z_list (by decide +kernel) (jv_var 3 (pv 3))))) (jw_or1 (jt_cmpN (cv_eq hr) (jv_d (jd_len (by rfl) z_len (jv_var 3 (pv 3)))) (jv_d jd_int) (nomark _))))) (jb_one (js_ret (je_d jd_bl))) jb_nil)
    (jb_cons (js_if (jt_not (jt_val (jd_fz (je_dx D_law_same hr (by decide) tk (by rfl) (jar_d (jd_ixP 3 (pv 3) jd_int) (jar_d (jd_tup (ja_cons (jd_ixP 1 (pv 1) jd_int) (ja_cons jd_str (ja_cons jd_non (ja_cons (jd_ixP 1 (pv 1) jd_int) ja_nil))))) jar_nil)))))) (jb_one (js_ret (je_d jd_bl))) jb_nil)
    (jb_cons (js_for PassesOwn.leaving rfl (ji_range2 (by rfl) z_range (ja_cons jd_int (ja_cons (jd_len (by rfl) z_len (jv_var 3 (pv 3))) ja_nil))) (jg_name 5 (by intro h; cases h) (pg_name (i := 5) sc_law_walks.nd rfl (by first | exact Or.inl rfl | exact Or.inr rfl))) (jb_one (js_if (jt_not (jt_val (jd_fz (je_dx D_law_step_fits hr (by decide) tk (by rfl) (jar_r 0 (pv 0) (jar_r 2 (pv 2) (jar_d (jd_ixP 3 (pv 3) (jd_var 5 (pv 5))) (jar_d (jd_ixP 3 (pv 3) (jd_sub (jd_var 5 (pv 5)) jd_int)) jar_nil)))))))) (jb_one (js_ret (je_d jd_bl))) jb_nil)))
    (jb_one (js_ret (je_d (jd_and (jd_cmpN cv_le (jv_d (jd_ix (jd_ixP 3 (pv 3) (jd_neg jd_int)) jd_int)) (jv_var 4 (pv 4)) (nomark _)) (jd_one (jd_not (jd_fz (je_dx D_law_is_dead hr (by decide) tk (by rfl) (jar_r 0 (pv 0) (jar_d (jd_ix (jd_ixP 3 (pv 3) (jd_neg jd_int)) jd_int) (jar_d (jd_var 4 (pv 4)) jar_nil))))))))))))))
theorem ok_holder {f : Addr} {fd : FuncData} (F : Fun K "holder" "holder" s_holder f fd) (D_road : DxG P w K mg base ca "road" 4 ["brought", "events", "folk", "day"] [(2, 0, [("arrivals", 4), ("ranks", 5), ("deaths", 6)])] [false, false, true, false, true, true, true] Lw.m_road) (z_len : mg "len" = none) : FnOk P w K mg base (L2.CX P w) 5 f fd ["brought", "events", "folk", "day"] (VSg K ca [(2, 0, [("arrivals", 4), ("ranks", 5), ("deaths", 6)])] 4 [false, false, true, false, true, true, true] Lw.m_holder) := by
  refine vg_of (obs := [(2, 0, [("arrivals", 4), ("ranks", 5), ("deaths", 6)])]) (md := [false, false, true, false, true, true, true]) (k := 4) F sc_holder (by decide) (by decide) (gh_def (by decide +kernel)) fun cdv A outer s H E ws hr B hwl hob => ?_
  have tk : Takes (ctOf P w K mg base ca N_holder "holder" (defScope s_holder) f cdv A outer s H E [false, false, true, false, true, true, true] ws B).X _ := takes_of rfl rfl rfl rfl
  have hv := hv_of hwl
  have O_folk := obAt_of (P := P) (w := w) (K := K) (mg := mg) (base := base) (N := N_holder) (qual := "holder") (sc := defScope s_holder) (f := f) (cdv := cdv) (A := A) (outer := outer) (s := s) (H := H) (E := E) (md := [false, false, true, false, true, true, true]) (i := 2) (C := 0) (fl := [("arrivals", 4), ("ranks", 5), ("deaths", 6)]) hob List.mem_cons_self rfl (by decide)
  exact (jb_cons (js_set 7 sc_holder.nd rfl (by first | exact Or.inl rfl | exact Or.inr rfl) (by intro h; cases h) (je_dxG D_road hr (by decide) tk (by rfl) (jag_d (jd_var 0 (pv 0)) (jag_d (jd_var 1 (pv 1)) (jag_o O_folk (psl_var (pv 2)) (jag_d (jd_var 3 (pv 3)) jag_nil)))) (obsArg_one O_folk rfl (fs := ["arrivals", "ranks", "deaths"]) rfl rfl rfl (by decide))))
    (jb_cons (js_if (jt_cmpN (cv_eq hr) (jv_d (jd_len (by rfl) z_len (jv_var 7 (pv 7)))) (jv_d jd_int) (nomark _)) (jb_one (js_ret (je_d jd_non))) jb_nil)
    (jb_one (js_ret (je_d (jd_ix (jd_ixP 7 (pv 7) (jd_neg jd_int)) jd_int))))))
theorem ok_law {f : Addr} {fd : FuncData} (F : Fun K "law" "law" s_law f fd) (D_law_src : Dx P w K mg base ca "_law_src" 1 ["_law_script"] [true] Lw.m_law_src) (D_law_names : Dx P w K mg base ca "_law_names" 3 ["_law_src_here", "_law_many"] [true, false] Lw.m_law_names) (D_law_next : Dx P w K mg base ca "_law_next" 1 ["_law_src_here", "_law_base"] [true, false] Lw.m_law_next) (D_Folk_init : CxG P w K mg base ca 0 "Folk" 1 Lw.m_Folk_init) (D_law_folk : DxG P w K mg base ca "_law_folk" 3 ["_law_src_here", "_law_names_here", "_law_folk_here"] [(2, 0, [("arrivals", 3), ("ranks", 4), ("deaths", 5)])] [true, true, true, true, true, true] Lw.m_law_folk) (D_law_events : Dx P w K mg base ca "_law_events" 4 ["_law_src_here", "_law_deeds", "_law_names_here", "_law_brought", "_law_many"] [true, true, true, false, false] Lw.m_law_events) (D_road : DxG P w K mg base ca "road" 4 ["brought", "events", "folk", "day"] [(2, 0, [("arrivals", 4), ("ranks", 5), ("deaths", 6)])] [false, false, true, false, true, true, true] Lw.m_road) (D_law_walks : Dx P w K mg base ca "_law_walks" 16 ["_law_deeds", "_law_brought", "_law_events_here", "_law_found", "_law_day"] [true, true, true, true, false] Lw.m_law_walks) (D_law_same : Dx P w K mg base ca "_law_same" 14 ["_law_found", "_law_due"] [false, false] (Lw.m_law_same 12)) (D_holder : DxG P w K mg base ca "holder" 5 ["brought", "events", "folk", "day"] [(2, 0, [("arrivals", 4), ("ranks", 5), ("deaths", 6)])] [false, false, true, false, true, true, true] Lw.m_holder) (z_len : mg "len" = none) (z_range : mg "range" = none) (z_list : mg "list" = none) : FnOk P w K mg base (L2.CX P w) 17 f fd ["_law_script"] (VSp K ca [true] Lw.m_main_k25) := by
  refine vsp_of (md := [true]) ?_ rfl
  refine vg_of (obs := []) (md := [true]) (k := 16) F sc_law (by decide) (by decide) (gh_def (by decide +kernel)) fun cdv A outer s H E ws hr B hwl hob => ?_
  have tk : Takes (ctOf P w K mg base ca N_law "law" (defScope s_law) f cdv A outer s H E [true] ws B).X _ := takes_of rfl rfl rfl rfl
  have hv := hv_of hwl
  exact (jb_cons (js_set 1 sc_law.nd rfl (by first | exact Or.inl rfl | exact Or.inr rfl) (by intro h; cases h) (je_dx D_law_src hr (by decide) tk (by rfl) (jar_r 0 (pv 0) jar_nil)))
    (jb_cons (js_set 2 sc_law.nd rfl (by first | exact Or.inl rfl | exact Or.inr rfl) (by intro h; cases h) (je_d (jd_fz (je_dx D_law_names hr (by decide) tk (by rfl) (jar_r 1 (pv 1) (jar_d (jd_fz (je_add jd_int (jd_fz (je_dx D_law_next hr (by decide) tk (by rfl) (jar_r 1 (pv 1) (jar_d jd_int jar_nil)))))) jar_nil))))))
    (jb_new [("arrivals", 10), ("ranks", 11), ("deaths", 12)] [true, false, false, true, false, false, false, false, false, false, true, true, true] (je_cxG D_Folk_init hr (by decide) (by rfl)) sc_law.nd rfl (by first | exact Or.inl rfl | exact Or.inr rfl) (show ghOk N_law (defScope s_law) [10, 11, 12] = true from by decide +kernel) hv rfl rfl rfl rfl (by decide) (fun _ _ hv hl_ O_law_folk_here => have tk := tkLater hl_ tk; (jb_cons (js_set 4 sc_law.nd rfl (by first | exact Or.inl rfl | exact Or.inr rfl) (by intro h; cases h) (je_dxG D_law_folk hr (by decide) tk (by rfl) (jag_r 1 (pv 1) (jag_r 2 (pv 2) (jag_o O_law_folk_here (psl_var (pv 3)) jag_nil))) (obsArg_one O_law_folk_here rfl (fs := ["arrivals", "ranks", "deaths"]) rfl rfl rfl (by decide))))
    (jb_cons (js_set 5 sc_law.nd rfl (by first | exact Or.inl rfl | exact Or.inr rfl) (by intro h; cases h) (je_d (jd_tup (ja_cons (jd_ixP 2 (pv 2) (jd_fz (je_dx D_law_next hr (by decide) tk (by rfl) (jar_r 1 (pv 1) (jar_d (jd_len (by rfl) z_len (jv_var 2 (pv 2))) jar_nil))))) (ja_cons (jd_fz (je_add jd_int (jd_fz (je_dx D_law_next hr (by decide) tk (by rfl) (jar_r 1 (pv 1) (jar_d jd_int jar_nil)))))) ja_nil)))))
    (jb_cons (js_set 6 sc_law.nd rfl (by first | exact Or.inl rfl | exact Or.inr rfl) (by intro h; cases h) (je_d (jd_fz (je_dx D_law_events hr (by decide) tk (by rfl) (jar_r 1 (pv 1) (jar_r 4 (pv 4) (jar_r 2 (pv 2) (jar_d (jd_var 5 (pv 5)) (jar_d (jd_fz (je_dx D_law_next hr (by decide) tk (by rfl) (jar_r 1 (pv 1) (jar_d jd_int jar_nil)))) jar_nil)))))))))
    (jb_cons (js_set 7 sc_law.nd rfl (by first | exact Or.inl rfl | exact Or.inr rfl) (by intro h; cases h) (je_d (jd_fz (je_lst ja_nil))))
    (jb_cons (js_for PassesOwn.leaving rfl (ji_range2 (by rfl) z_range (ja_cons (jd_ixP 5 (pv 5) jd_int) (ja_cons (jd_fz (je_add (jd_ixP 5 (pv 5) jd_int) jd_int)) ja_nil))) (jg_name 8 (by intro h; cases h) (pg_name (i := 8) sc_law.nd rfl (by first | exact Or.inl rfl | exact Or.inr rfl))) (jb_cons (js_set 9 sc_law.nd rfl (by first | exact Or.inl rfl | exact Or.inr rfl) (by intro h; cases h) (je_d (jd_fz (je_dxG D_road hr (by decide) tk (by rfl) (jag_d (jd_var 5 (pv 5)) (jag_d (jd_fz (je_list (by rfl) z_list (jv_var 6 (pv 6)))) (jag_o O_law_folk_here (psl_var (pv 3)) (jag_d (jd_var 8 (pv 8)) jag_nil)))) (obsArg_one O_law_folk_here rfl (fs := ["arrivals", "ranks", "deaths"]) rfl rfl rfl (by decide))))))
    (jb_cons (js_if (jt_not (jt_val (jd_fz (je_dx D_law_walks hr (by decide) tk (by rfl) (jar_r 4 (pv 4) (jar_r 5 (pv 5) (jar_r 6 (pv 6) (jar_r 9 (pv 9) (jar_d (jd_var 8 (pv 8)) jar_nil))))))))) (jb_one (js_ret (je_d jd_bl))) jb_nil)
    (jb_cons (js_if (jt_not (jt_val (jd_fz (je_dx D_law_same hr (by decide) tk (by rfl) (jar_d (jd_fz (je_slV (jv_var 9 (pv 9)) jo_no (jo_so (jd_len (by rfl) z_len (jv_var 7 (pv 7)))))) (jar_d (jd_var 7 (pv 7)) jar_nil)))))) (jb_one (js_ret (je_d jd_bl))) jb_nil)
    (jb_cons (js_if (jt_not (jt_val (jd_fz (je_dx D_law_same hr (by decide) tk (by rfl) (jar_d (jd_fz (je_dxG D_holder hr (by decide) tk (by rfl) (jag_d (jd_var 5 (pv 5)) (jag_d (jd_fz (je_list (by rfl) z_list (jv_var 6 (pv 6)))) (jag_o O_law_folk_here (psl_var (pv 3)) (jag_d (jd_var 8 (pv 8)) jag_nil)))) (obsArg_one O_law_folk_here rfl (fs := ["arrivals", "ranks", "deaths"]) rfl rfl rfl (by decide)))) (jar_d (jd_ix (jd_ixP 9 (pv 9) (jd_neg jd_int)) jd_int) jar_nil)))))) (jb_one (js_ret (je_d jd_bl))) jb_nil)
    (jb_one (js_set 7 sc_law.nd rfl (by first | exact Or.inl rfl | exact Or.inr rfl) (by intro h; cases h) (je_d (jd_var 9 (pv 9))))))))))
    (jb_one (js_ret (je_d (jd_cmpN (cv_eq hr) (jv_d (jd_fz (je_dxG D_road hr (by decide) tk (by rfl) (jag_d (jd_var 5 (pv 5)) (jag_d (jd_fz (je_list (by rfl) z_list (jv_var 6 (pv 6)))) (jag_o O_law_folk_here (psl_var (pv 3)) (jag_d (jd_sub (jd_ixP 5 (pv 5) jd_int) jd_int) jag_nil)))) (obsArg_one O_law_folk_here rfl (fs := ["arrivals", "ranks", "deaths"]) rfl rfl rfl (by decide))))) (jv_d (jd_fz (je_lst ja_nil))) (nomark _))))))))))))))
end
end Tx

namespace Tx
open PySem PySem.Spec PyProof.Rows L2 VS
theorem all_mk {l : PySem.W.OpenLaw} {w : World} {K : PySem.W.Frag} {h : Heap} {mg : Str → Option Value} {fa : Addr} (X : K.In h) (G : h.Ns mainGlobals mg) (hfa : mg "law" = some (.ref fa))
    {C_Folk : Addr}
    {f0 : Addr} {od0 an0 : Option Addr} {sl0 : Array (Option Value)} {oc0 kV0 dc0 pm0 cd0 ct0 : Value}
    {f1 : Addr} {od1 an1 : Option Addr} {sl1 : Array (Option Value)} {oc1 kV1 dc1 pm1 cd1 ct1 : Value}
    {f2 : Addr} {od2 an2 : Option Addr} {sl2 : Array (Option Value)} {oc2 kV2 dc2 pm2 cd2 ct2 : Value}
    {f3 : Addr} {od3 an3 : Option Addr} {sl3 : Array (Option Value)} {oc3 kV3 dc3 pm3 cd3 ct3 : Value}
    {f4 : Addr} {od4 an4 : Option Addr} {sl4 : Array (Option Value)} {oc4 kV4 dc4 pm4 cd4 ct4 : Value}
    {f5 : Addr} {od5 an5 : Option Addr} {sl5 : Array (Option Value)} {oc5 kV5 dc5 pm5 cd5 ct5 : Value}
    {f6 : Addr} {od6 an6 : Option Addr} {sl6 : Array (Option Value)} {oc6 kV6 dc6 pm6 cd6 ct6 : Value}
    {f7 : Addr} {od7 an7 : Option Addr} {sl7 : Array (Option Value)} {oc7 kV7 dc7 pm7 cd7 ct7 : Value}
    {f8 : Addr} {od8 an8 : Option Addr} {sl8 : Array (Option Value)} {oc8 kV8 dc8 pm8 cd8 ct8 : Value}
    {f9 : Addr} {od9 an9 : Option Addr} {sl9 : Array (Option Value)} {oc9 kV9 dc9 pm9 cd9 ct9 : Value}
    {f10 : Addr} {od10 an10 : Option Addr} {sl10 : Array (Option Value)} {oc10 kV10 dc10 pm10 cd10 ct10 : Value}
    {f11 : Addr} {od11 an11 : Option Addr} {sl11 : Array (Option Value)} {oc11 kV11 dc11 pm11 cd11 ct11 : Value}
    {f12 : Addr} {od12 an12 : Option Addr} {sl12 : Array (Option Value)} {oc12 kV12 dc12 pm12 cd12 ct12 : Value}
    {f13 : Addr} {od13 an13 : Option Addr} {sl13 : Array (Option Value)} {oc13 kV13 dc13 pm13 cd13 ct13 : Value}
    {f14 : Addr} {od14 an14 : Option Addr} {sl14 : Array (Option Value)} {oc14 kV14 dc14 pm14 cd14 ct14 : Value}
    {f15 : Addr} {od15 an15 : Option Addr} {sl15 : Array (Option Value)} {oc15 kV15 dc15 pm15 cd15 ct15 : Value}
    {f16 : Addr} {od16 an16 : Option Addr} {sl16 : Array (Option Value)} {oc16 kV16 dc16 pm16 cd16 ct16 : Value}
    {f17 : Addr} {od17 an17 : Option Addr} {sl17 : Array (Option Value)} {oc17 kV17 dc17 pm17 cd17 ct17 : Value}
    {f18 : Addr} {od18 an18 : Option Addr} {sl18 : Array (Option Value)} {oc18 kV18 dc18 pm18 cd18 ct18 : Value}
    {f19 : Addr} {od19 an19 : Option Addr} {sl19 : Array (Option Value)} {oc19 kV19 dc19 pm19 cd19 ct19 : Value}
    {f20 : Addr} {od20 an20 : Option Addr} {sl20 : Array (Option Value)} {oc20 kV20 dc20 pm20 cd20 ct20 : Value}
    {f21 : Addr} {od21 an21 : Option Addr} {sl21 : Array (Option Value)} {oc21 kV21 dc21 pm21 cd21 ct21 : Value}
    {f22 : Addr} {od22 an22 : Option Addr} {sl22 : Array (Option Value)} {oc22 kV22 dc22 pm22 cd22 ct22 : Value}
    {f23 : Addr} {od23 an23 : Option Addr} {sl23 : Array (Option Value)} {oc23 kV23 dc23 pm23 cd23 ct23 : Value}
    {f24 : Addr} {od24 an24 : Option Addr} {sl24 : Array (Option Value)} {oc24 kV24 dc24 pm24 cd24 ct24 : Value}
    {f25 : Addr} {od25 an25 : Option Addr} {sl25 : Array (Option Value)} {oc25 kV25 dc25 pm25 cd25 ct25 : Value}
    {f26 : Addr} {od26 an26 : Option Addr} {sl26 : Array (Option Value)} {oc26 kV26 dc26 pm26 cd26 ct26 : Value}
    {f27 : Addr} {od27 an27 : Option Addr} {sl27 : Array (Option Value)} {oc27 kV27 dc27 pm27 cd27 ct27 : Value}
    {t_LETTERS : Tok}
    {t_LAST_DAY : Tok}
    {t_MOST_WEIGHT : Tok}
    {t_MOST_FOLK : Tok}
    (aC_Folk : PySem.W.nsIn K mainGlobals "Folk" = some (some (.ref C_Folk))) (pC_Folk : PySem.W.plainGet K C_Folk Str.empty = true) (dC_Folk : PySem.W.hasDictIn K C_Folk = true) (oC_Folk : PySem.W.plainOver K C_Folk = true) (sC_Folk : PySem.W.findIn K (.ref C_Folk) "__setattr__" = some (some (.builtin "object.__setattr__"))) (mC_Folk : PySem.W.makesIn K C_Folk = true) (kC_Folk : PySem.W.keepIn K (.ref C_Folk) = true)
    (nC_Folk_arrivals : PySem.W.findIn K (.ref C_Folk) "arrivals" = some none)
    (nC_Folk_ranks : PySem.W.findIn K (.ref C_Folk) "ranks" = some none)
    (nC_Folk_deaths : PySem.W.findIn K (.ref C_Folk) "deaths" = some none)
    (a0 : PySem.W.nsIn K mainGlobals "_law_src" = some (some (.ref f0))) (l0 : K.lookup f0 = some ⟨oc0, od0, .func (PySem.W.fnOf "_law_src" "_law_src" (defArgs s_law_src) (defBody s_law_src) (defScope s_law_src) .none kV0 dc0 pm0 an0 cd0 ct0), sl0⟩) (c0 : PySem.W.codeIn K cd0 "_law_src" = true) (k0 : PySem.W.keepIn K (.ref f0) = true)
    (a1 : PySem.W.nsIn K mainGlobals "_law_next" = some (some (.ref f1))) (l1 : K.lookup f1 = some ⟨oc1, od1, .func (PySem.W.fnOf "_law_next" "_law_next" (defArgs s_law_next) (defBody s_law_next) (defScope s_law_next) .none kV1 dc1 pm1 an1 cd1 ct1), sl1⟩) (c1 : PySem.W.codeIn K cd1 "_law_next" = true) (k1 : PySem.W.keepIn K (.ref f1) = true)
    (a2 : PySem.W.nsIn K mainGlobals "_law_word" = some (some (.ref f2))) (l2 : K.lookup f2 = some ⟨oc2, od2, .func (PySem.W.fnOf "_law_word" "_law_word" (defArgs s_law_word) (defBody s_law_word) (defScope s_law_word) .none kV2 dc2 pm2 an2 cd2 ct2), sl2⟩) (c2 : PySem.W.codeIn K cd2 "_law_word" = true) (k2 : PySem.W.keepIn K (.ref f2) = true)
    (a3 : PySem.W.nsIn K mainGlobals "_law_unlike" = some (some (.ref f3))) (l3 : K.lookup f3 = some ⟨oc3, od3, .func (PySem.W.fnOf "_law_unlike" "_law_unlike" (defArgs s_law_unlike) (defBody s_law_unlike) (defScope s_law_unlike) .none kV3 dc3 pm3 an3 cd3 ct3), sl3⟩) (c3 : PySem.W.codeIn K cd3 "_law_unlike" = true) (k3 : PySem.W.keepIn K (.ref f3) = true)
    (a4 : PySem.W.nsIn K mainGlobals "_law_names" = some (some (.ref f4))) (l4 : K.lookup f4 = some ⟨oc4, od4, .func (PySem.W.fnOf "_law_names" "_law_names" (defArgs s_law_names) (defBody s_law_names) (defScope s_law_names) .none kV4 dc4 pm4 an4 cd4 ct4), sl4⟩) (c4 : PySem.W.codeIn K cd4 "_law_names" = true) (k4 : PySem.W.keepIn K (.ref f4) = true)
    (a5 : PySem.W.findIn K (.ref C_Folk) "__init__" = some (some (.ref f5))) (n5 : PySem.W.isFn K (.ref f5) = true) (l5 : K.lookup f5 = some ⟨oc5, od5, .func (PySem.W.fnOf "__init__" "Folk.__init__" (defArgs s_Folk_init) (defBody s_Folk_init) (defScope s_Folk_init) .none kV5 dc5 pm5 an5 cd5 ct5), sl5⟩) (c5 : PySem.W.codeIn K cd5 "Folk.__init__" = true) (k5 : PySem.W.keepIn K (.ref f5) = true)
    (a6 : PySem.W.nsIn K mainGlobals "measure" = some (some (.ref f6))) (l6 : K.lookup f6 = some ⟨oc6, od6, .func (PySem.W.fnOf "measure" "measure" (defArgs s_measure) (defBody s_measure) (defScope s_measure) .none kV6 dc6 pm6 an6 cd6 ct6), sl6⟩) (c6 : PySem.W.codeIn K cd6 "measure" = true) (k6 : PySem.W.keepIn K (.ref f6) = true)
    (a7 : PySem.W.nsIn K mainGlobals "is_name" = some (some (.ref f7))) (l7 : K.lookup f7 = some ⟨oc7, od7, .func (PySem.W.fnOf "is_name" "is_name" (defArgs s_is_name) (defBody s_is_name) (defScope s_is_name) .none kV7 dc7 pm7 an7 cd7 ct7), sl7⟩) (c7 : PySem.W.codeIn K cd7 "is_name" = true) (k7 : PySem.W.keepIn K (.ref f7) = true)
    (a8 : PySem.W.findIn K (.ref C_Folk) "come" = some (some (.ref f8))) (n8 : PySem.W.isFn K (.ref f8) = true) (l8 : K.lookup f8 = some ⟨oc8, od8, .func (PySem.W.fnOf "come" "Folk.come" (defArgs s_Folk_come) (defBody s_Folk_come) (defScope s_Folk_come) .none kV8 dc8 pm8 an8 cd8 ct8), sl8⟩) (c8 : PySem.W.codeIn K cd8 "Folk.come" = true) (k8 : PySem.W.keepIn K (.ref f8) = true)
    (a9 : PySem.W.findIn K (.ref C_Folk) "known" = some (some (.ref f9))) (n9 : PySem.W.isFn K (.ref f9) = true) (l9 : K.lookup f9 = some ⟨oc9, od9, .func (PySem.W.fnOf "known" "Folk.known" (defArgs s_Folk_known) (defBody s_Folk_known) (defScope s_Folk_known) .none kV9 dc9 pm9 an9 cd9 ct9), sl9⟩) (c9 : PySem.W.codeIn K cd9 "Folk.known" = true) (k9 : PySem.W.keepIn K (.ref f9) = true)
    (a10 : PySem.W.findIn K (.ref C_Folk) "after_coming" = some (some (.ref f10))) (n10 : PySem.W.isFn K (.ref f10) = true) (l10 : K.lookup f10 = some ⟨oc10, od10, .func (PySem.W.fnOf "after_coming" "Folk.after_coming" (defArgs s_Folk_after_coming) (defBody s_Folk_after_coming) (defScope s_Folk_after_coming) .none kV10 dc10 pm10 an10 cd10 ct10), sl10⟩) (c10 : PySem.W.codeIn K cd10 "Folk.after_coming" = true) (k10 : PySem.W.keepIn K (.ref f10) = true)
    (a11 : PySem.W.findIn K (.ref C_Folk) "die" = some (some (.ref f11))) (n11 : PySem.W.isFn K (.ref f11) = true) (l11 : K.lookup f11 = some ⟨oc11, od11, .func (PySem.W.fnOf "die" "Folk.die" (defArgs s_Folk_die) (defBody s_Folk_die) (defScope s_Folk_die) .none kV11 dc11 pm11 an11 cd11 ct11), sl11⟩) (c11 : PySem.W.codeIn K cd11 "Folk.die" = true) (k11 : PySem.W.keepIn K (.ref f11) = true)
    (a12 : PySem.W.nsIn K mainGlobals "_law_folk" = some (some (.ref f12))) (l12 : K.lookup f12 = some ⟨oc12, od12, .func (PySem.W.fnOf "_law_folk" "_law_folk" (defArgs s_law_folk) (defBody s_law_folk) (defScope s_law_folk) .none kV12 dc12 pm12 an12 cd12 ct12), sl12⟩) (c12 : PySem.W.codeIn K cd12 "_law_folk" = true) (k12 : PySem.W.keepIn K (.ref f12) = true)
    (a13 : PySem.W.nsIn K mainGlobals "_law_death" = some (some (.ref f13))) (l13 : K.lookup f13 = some ⟨oc13, od13, .func (PySem.W.fnOf "_law_death" "_law_death" (defArgs s_law_death) (defBody s_law_death) (defScope s_law_death) .none kV13 dc13 pm13 an13 cd13 ct13), sl13⟩) (c13 : PySem.W.codeIn K cd13 "_law_death" = true) (k13 : PySem.W.keepIn K (.ref f13) = true)
    (a14 : PySem.W.nsIn K mainGlobals "_law_is_dead" = some (some (.ref f14))) (l14 : K.lookup f14 = some ⟨oc14, od14, .func (PySem.W.fnOf "_law_is_dead" "_law_is_dead" (defArgs s_law_is_dead) (defBody s_law_is_dead) (defScope s_law_is_dead) .none kV14 dc14 pm14 an14 cd14 ct14), sl14⟩) (c14 : PySem.W.codeIn K cd14 "_law_is_dead" = true) (k14 : PySem.W.keepIn K (.ref f14) = true)
    (a15 : PySem.W.nsIn K mainGlobals "_law_heir" = some (some (.ref f15))) (l15 : K.lookup f15 = some ⟨oc15, od15, .func (PySem.W.fnOf "_law_heir" "_law_heir" (defArgs s_law_heir) (defBody s_law_heir) (defScope s_law_heir) .none kV15 dc15 pm15 an15 cd15 ct15), sl15⟩) (c15 : PySem.W.codeIn K cd15 "_law_heir" = true) (k15 : PySem.W.keepIn K (.ref f15) = true)
    (a16 : PySem.W.nsIn K mainGlobals "_law_events" = some (some (.ref f16))) (l16 : K.lookup f16 = some ⟨oc16, od16, .func (PySem.W.fnOf "_law_events" "_law_events" (defArgs s_law_events) (defBody s_law_events) (defScope s_law_events) .none kV16 dc16 pm16 an16 cd16 ct16), sl16⟩) (c16 : PySem.W.codeIn K cd16 "_law_events" = true) (k16 : PySem.W.keepIn K (.ref f16) = true)
    (a17 : PySem.W.nsIn K mainGlobals "day_of" = some (some (.ref f17))) (l17 : K.lookup f17 = some ⟨oc17, od17, .func (PySem.W.fnOf "day_of" "day_of" (defArgs s_day_of) (defBody s_day_of) (defScope s_day_of) .none kV17 dc17 pm17 an17 cd17 ct17), sl17⟩) (c17 : PySem.W.codeIn K cd17 "day_of" = true) (k17 : PySem.W.keepIn K (.ref f17) = true)
    (a18 : PySem.W.findIn K (.ref C_Folk) "dead" = some (some (.ref f18))) (n18 : PySem.W.isFn K (.ref f18) = true) (l18 : K.lookup f18 = some ⟨oc18, od18, .func (PySem.W.fnOf "dead" "Folk.dead" (defArgs s_Folk_dead) (defBody s_Folk_dead) (defScope s_Folk_dead) .none kV18 dc18 pm18 an18 cd18 ct18), sl18⟩) (c18 : PySem.W.codeIn K cd18 "Folk.dead" = true) (k18 : PySem.W.keepIn K (.ref f18) = true)
    (a19 : PySem.W.findIn K (.ref C_Folk) "death" = some (some (.ref f19))) (n19 : PySem.W.isFn K (.ref f19) = true) (l19 : K.lookup f19 = some ⟨oc19, od19, .func (PySem.W.fnOf "death" "Folk.death" (defArgs s_Folk_death) (defBody s_Folk_death) (defScope s_Folk_death) .none kV19 dc19 pm19 an19 cd19 ct19), sl19⟩) (c19 : PySem.W.codeIn K cd19 "Folk.death" = true) (k19 : PySem.W.keepIn K (.ref f19) = true)
    (a20 : PySem.W.nsIn K mainGlobals "leave" = some (some (.ref f20))) (l20 : K.lookup f20 = some ⟨oc20, od20, .func (PySem.W.fnOf "leave" "leave" (defArgs s_leave) (defBody s_leave) (defScope s_leave) .none kV20 dc20 pm20 an20 cd20 ct20), sl20⟩) (c20 : PySem.W.codeIn K cd20 "leave" = true) (k20 : PySem.W.keepIn K (.ref f20) = true)
    (a21 : PySem.W.nsIn K mainGlobals "road" = some (some (.ref f21))) (l21 : K.lookup f21 = some ⟨oc21, od21, .func (PySem.W.fnOf "road" "road" (defArgs s_road) (defBody s_road) (defScope s_road) .none kV21 dc21 pm21 an21 cd21 ct21), sl21⟩) (c21 : PySem.W.codeIn K cd21 "road" = true) (k21 : PySem.W.keepIn K (.ref f21) = true)
    (a22 : PySem.W.nsIn K mainGlobals "_law_whole" = some (some (.ref f22))) (l22 : K.lookup f22 = some ⟨oc22, od22, .func (PySem.W.fnOf "_law_whole" "_law_whole" (defArgs s_law_whole) (defBody s_law_whole) (defScope s_law_whole) .none kV22 dc22 pm22 an22 cd22 ct22), sl22⟩) (c22 : PySem.W.codeIn K cd22 "_law_whole" = true) (k22 : PySem.W.keepIn K (.ref f22) = true)
    (a23 : PySem.W.nsIn K mainGlobals "_law_same" = some (some (.ref f23))) (l23 : K.lookup f23 = some ⟨oc23, od23, .func (PySem.W.fnOf "_law_same" "_law_same" (defArgs s_law_same) (defBody s_law_same) (defScope s_law_same) .none kV23 dc23 pm23 an23 cd23 ct23), sl23⟩) (c23 : PySem.W.codeIn K cd23 "_law_same" = true) (k23 : PySem.W.keepIn K (.ref f23) = true)
    (a24 : PySem.W.nsIn K mainGlobals "_law_step_fits" = some (some (.ref f24))) (l24 : K.lookup f24 = some ⟨oc24, od24, .func (PySem.W.fnOf "_law_step_fits" "_law_step_fits" (defArgs s_law_step_fits) (defBody s_law_step_fits) (defScope s_law_step_fits) .none kV24 dc24 pm24 an24 cd24 ct24), sl24⟩) (c24 : PySem.W.codeIn K cd24 "_law_step_fits" = true) (k24 : PySem.W.keepIn K (.ref f24) = true)
    (a25 : PySem.W.nsIn K mainGlobals "_law_walks" = some (some (.ref f25))) (l25 : K.lookup f25 = some ⟨oc25, od25, .func (PySem.W.fnOf "_law_walks" "_law_walks" (defArgs s_law_walks) (defBody s_law_walks) (defScope s_law_walks) .none kV25 dc25 pm25 an25 cd25 ct25), sl25⟩) (c25 : PySem.W.codeIn K cd25 "_law_walks" = true) (k25 : PySem.W.keepIn K (.ref f25) = true)
    (a26 : PySem.W.nsIn K mainGlobals "holder" = some (some (.ref f26))) (l26 : K.lookup f26 = some ⟨oc26, od26, .func (PySem.W.fnOf "holder" "holder" (defArgs s_holder) (defBody s_holder) (defScope s_holder) .none kV26 dc26 pm26 an26 cd26 ct26), sl26⟩) (c26 : PySem.W.codeIn K cd26 "holder" = true) (k26 : PySem.W.keepIn K (.ref f26) = true)
    (a27 : PySem.W.nsIn K mainGlobals "law" = some (some (.ref f27))) (l27 : K.lookup f27 = some ⟨oc27, od27, .func (PySem.W.fnOf "law" "law" (defArgs s_law) (defBody s_law) (defScope s_law) .none kV27 dc27 pm27 an27 cd27 ct27), sl27⟩) (c27 : PySem.W.codeIn K cd27 "law" = true) (k27 : PySem.W.keepIn K (.ref f27) = true)
    (y_list : PySem.W.nsIn K mainGlobals "list" = some none)
    (y_len : PySem.W.nsIn K mainGlobals "len" = some none)
    (y_range : PySem.W.nsIn K mainGlobals "range" = some none)
    (y_max : PySem.W.nsIn K mainGlobals "max" = some none)
    (y_sorted : PySem.W.nsIn K mainGlobals "sorted" = some none)
    (y_isinstance : PySem.W.nsIn K mainGlobals "isinstance" = some none)
    (y_int : PySem.W.nsIn K mainGlobals "int" = some none)
    (y_bool : PySem.W.nsIn K mainGlobals "bool" = some none)
    (y_str : PySem.W.nsIn K mainGlobals "str" = some none)
    (y_tuple : PySem.W.nsIn K mainGlobals "tuple" = some none)
    (y_zip : PySem.W.nsIn K mainGlobals "zip" = some none)
    (y_LETTERS : PySem.W.nsIn K mainGlobals "LETTERS" = some (some (.str "abcdefghijklmnopqrstuvwxyz" t_LETTERS)))
    (y_LAST_DAY : PySem.W.nsIn K mainGlobals "LAST_DAY" = some (some (.int 9999 t_LAST_DAY)))
    (y_MOST_WEIGHT : PySem.W.nsIn K mainGlobals "MOST_WEIGHT" = some (some (.int 1000 t_MOST_WEIGHT)))
    (y_MOST_FOLK : PySem.W.nsIn K mainGlobals "MOST_FOLK" = some (some (.int 40 t_MOST_FOLK)))
    : ∃ fd : FuncData, (∀ (s : Shared) (v : Value), BindsTo s fd ⟨[v], []⟩ [("_law_script", v)]) ∧ ∀ base : Heap, K.In base → base.Ns mainGlobals mg → FnOk l.prog w K mg base (L2.CX l.prog w) 17 fa fd ["_law_script"] (fun vs H Q E => ∀ ca, VSp K ca [true] Lw.m_main_k25 vs H Q E) := by
  have e := hfa.symm.trans (PySem.W.mg_of X G a27)
  cases e
  have z_list := PySem.W.mg_none_of X G y_list
  have z_len := PySem.W.mg_none_of X G y_len
  have z_range := PySem.W.mg_none_of X G y_range
  have z_max := PySem.W.mg_none_of X G y_max
  have z_sorted := PySem.W.mg_none_of X G y_sorted
  have z_isinstance := PySem.W.mg_none_of X G y_isinstance
  have z_int := PySem.W.mg_none_of X G y_int
  have z_bool := PySem.W.mg_none_of X G y_bool
  have z_str := PySem.W.mg_none_of X G y_str
  have z_tuple := PySem.W.mg_none_of X G y_tuple
  have z_zip := PySem.W.mg_none_of X G y_zip
  have z_LETTERS : ∃ t, mg "LETTERS" = some (.str "abcdefghijklmnopqrstuvwxyz" t) := ⟨_, PySem.W.mg_of X G y_LETTERS⟩
  have z_LAST_DAY : ∃ t, mg "LAST_DAY" = some (.int 9999 t) := ⟨_, PySem.W.mg_of X G y_LAST_DAY⟩
  have z_MOST_WEIGHT : ∃ t, mg "MOST_WEIGHT" = some (.int 1000 t) := ⟨_, PySem.W.mg_of X G y_MOST_WEIGHT⟩
  have z_MOST_FOLK : ∃ t, mg "MOST_FOLK" = some (.int 40 t) := ⟨_, PySem.W.mg_of X G y_MOST_FOLK⟩
  have F0 := fun_mk (st := s_law_src) l0 c0 k0
  have b0 := F0.binds (ps := ["_law_script"]) fun _ _ _ _ _ _ us hl => match us, hl with | [_], _ => rfl
  have F1 := fun_mk (st := s_law_next) l1 c1 k1
  have b1 := F1.binds (ps := ["_law_src_here", "_law_base"]) fun _ _ _ _ _ _ us hl => match us, hl with | [_, _], _ => rfl
  have F2 := fun_mk (st := s_law_word) l2 c2 k2
  have b2 := F2.binds (ps := ["_law_src_here", "_law_many"]) fun _ _ _ _ _ _ us hl => match us, hl with | [_, _], _ => rfl
  have F3 := fun_mk (st := s_law_unlike) l3 c3 k3
  have b3 := F3.binds (ps := ["_law_names_here", "_law_name"]) fun _ _ _ _ _ _ us hl => match us, hl with | [_, _], _ => rfl
  have F4 := fun_mk (st := s_law_names) l4 c4 k4
  have b4 := F4.binds (ps := ["_law_src_here", "_law_many"]) fun _ _ _ _ _ _ us hl => match us, hl with | [_, _], _ => rfl
  have F5 := fun_mk (st := s_Folk_init) l5 c5 k5
  have b5 := F5.binds (ps := ["self"]) fun _ _ _ _ _ _ us hl => match us, hl with | [_], _ => rfl
  have F6 := fun_mk (st := s_measure) l6 c6 k6
  have b6 := F6.binds (ps := ["number", "low", "high"]) fun _ _ _ _ _ _ us hl => match us, hl with | [_, _, _], _ => rfl
  have F7 := fun_mk (st := s_is_name) l7 c7 k7
  have b7 := F7.binds (ps := ["text"]) fun _ _ _ _ _ _ us hl => match us, hl with | [_], _ => rfl
  have F8 := fun_mk (st := s_Folk_come) l8 c8 k8
  have b8 := F8.binds (ps := ["self", "name", "day", "weight"]) fun _ _ _ _ _ _ us hl => match us, hl with | [_, _, _, _], _ => rfl
  have F9 := fun_mk (st := s_Folk_known) l9 c9 k9
  have b9 := F9.binds (ps := ["self", "name"]) fun _ _ _ _ _ _ us hl => match us, hl with | [_, _], _ => rfl
  have F10 := fun_mk (st := s_Folk_after_coming) l10 c10 k10
  have b10 := F10.binds (ps := ["self", "name", "day"]) fun _ _ _ _ _ _ us hl => match us, hl with | [_, _, _], _ => rfl
  have F11 := fun_mk (st := s_Folk_die) l11 c11 k11
  have b11 := F11.binds (ps := ["self", "name", "day", "heir"]) fun _ _ _ _ _ _ us hl => match us, hl with | [_, _, _, _], _ => rfl
  have F12 := fun_mk (st := s_law_folk) l12 c12 k12
  have b12 := F12.binds (ps := ["_law_src_here", "_law_names_here", "_law_folk_here"]) fun _ _ _ _ _ _ us hl => match us, hl with | [_, _, _], _ => rfl
  have F13 := fun_mk (st := s_law_death) l13 c13 k13
  have b13 := F13.binds (ps := ["_law_deeds", "_law_name"]) fun _ _ _ _ _ _ us hl => match us, hl with | [_, _], _ => rfl
  have F14 := fun_mk (st := s_law_is_dead) l14 c14 k14
  have b14 := F14.binds (ps := ["_law_deeds", "_law_name", "_law_day"]) fun _ _ _ _ _ _ us hl => match us, hl with | [_, _, _], _ => rfl
  have F15 := fun_mk (st := s_law_heir) l15 c15 k15
  have b15 := F15.binds (ps := ["_law_deeds", "_law_name", "_law_day"]) fun _ _ _ _ _ _ us hl => match us, hl with | [_, _, _], _ => rfl
  have F16 := fun_mk (st := s_law_events) l16 c16 k16
  have b16 := F16.binds (ps := ["_law_src_here", "_law_deeds", "_law_names_here", "_law_brought", "_law_many"]) fun _ _ _ _ _ _ us hl => match us, hl with | [_, _, _, _, _], _ => rfl
  have F17 := fun_mk (st := s_day_of) l17 c17 k17
  have b17 := F17.binds (ps := ["event"]) fun _ _ _ _ _ _ us hl => match us, hl with | [_], _ => rfl
  have F18 := fun_mk (st := s_Folk_dead) l18 c18 k18
  have b18 := F18.binds (ps := ["self", "name", "day"]) fun _ _ _ _ _ _ us hl => match us, hl with | [_, _, _], _ => rfl
  have F19 := fun_mk (st := s_Folk_death) l19 c19 k19
  have b19 := F19.binds (ps := ["self", "name"]) fun _ _ _ _ _ _ us hl => match us, hl with | [_, _], _ => rfl
  have F20 := fun_mk (st := s_leave) l20 c20 k20
  have b20 := F20.binds (ps := ["steps", "folk", "day"]) fun _ _ _ _ _ _ us hl => match us, hl with | [_, _, _], _ => rfl
  have F21 := fun_mk (st := s_road) l21 c21 k21
  have b21 := F21.binds (ps := ["brought", "events", "folk", "day"]) fun _ _ _ _ _ _ us hl => match us, hl with | [_, _, _, _], _ => rfl
  have F22 := fun_mk (st := s_law_whole) l22 c22 k22
  have b22 := F22.binds (ps := ["_law_found"]) fun _ _ _ _ _ _ us hl => match us, hl with | [_], _ => rfl
  have F23 := fun_mk (st := s_law_same) l23 c23 k23
  have b23 := F23.binds (ps := ["_law_found", "_law_due"]) fun _ _ _ _ _ _ us hl => match us, hl with | [_, _], _ => rfl
  have F24 := fun_mk (st := s_law_step_fits) l24 c24 k24
  have b24 := F24.binds (ps := ["_law_deeds", "_law_events_here", "_law_step", "_law_ahead"]) fun _ _ _ _ _ _ us hl => match us, hl with | [_, _, _, _], _ => rfl
  have F25 := fun_mk (st := s_law_walks) l25 c25 k25
  have b25 := F25.binds (ps := ["_law_deeds", "_law_brought", "_law_events_here", "_law_found", "_law_day"]) fun _ _ _ _ _ _ us hl => match us, hl with | [_, _, _, _, _], _ => rfl
  have F26 := fun_mk (st := s_holder) l26 c26 k26
  have b26 := F26.binds (ps := ["brought", "events", "folk", "day"]) fun _ _ _ _ _ _ us hl => match us, hl with | [_, _, _, _], _ => rfl
  have F27 := fun_mk (st := s_law) l27 c27 k27
  refine ⟨PySem.W.fnOf "law" "law" (defArgs s_law) (defBody s_law) (defScope s_law) .none kV27 dc27 pm27 an27 cd27 ct27, fun s v => .of_eq rfl, fun base _ _ => ?_⟩
  have K_day_of : KeyAt0 l.prog w K mg "day_of" := key_at0 F17 sc_day_of rfl b17 (PySem.W.mg_of X G a17) (by rfl) rfl
  have hC_Folk : Cls K C_Folk := ⟨pC_Folk, dC_Folk, oC_Folk, sC_Folk⟩
  refine FnOk.imp (sp := VSp K (fun _ => C_Folk) [true] Lw.m_main_k25) ?_ fun vs H Q E h => h _
  have D_law_src := dx_of (ok_law_src (P := l.prog) (w := w) (base := base) (ca := fun _ => C_Folk) F0 z_list) (PySem.W.mg_of X G a0) k0 b0
  have D_law_next := dx_of (ok_law_next (P := l.prog) (w := w) (base := base) (ca := fun _ => C_Folk) F1 z_len) (PySem.W.mg_of X G a1) k1 b1
  have D_law_word := dx_of (ok_law_word (P := l.prog) (w := w) (base := base) (ca := fun _ => C_Folk) F2 D_law_next z_range) (PySem.W.mg_of X G a2) k2 b2
  have D_law_unlike := dx_of (ok_law_unlike (P := l.prog) (w := w) (base := base) (ca := fun _ => C_Folk) F3 z_range z_len) (PySem.W.mg_of X G a3) k3 b3
  have D_law_names := dx_of (ok_law_names (P := l.prog) (w := w) (base := base) (ca := fun _ => C_Folk) F4 D_law_next D_law_word D_law_unlike z_len z_range) (PySem.W.mg_of X G a4) k4 b4
  have D_Folk_init : CxG l.prog w K mg base (fun _ => C_Folk) 0 "Folk" 1 Lw.m_Folk_init := ⟨_, _, _, ⟨mC_Folk, a5, n5, kC_Folk⟩, ok_Folk_init (P := l.prog) (w := w) (base := base) (ca := fun _ => C_Folk) F5 hC_Folk nC_Folk_arrivals nC_Folk_ranks nC_Folk_deaths, PySem.W.mg_of X G aC_Folk, b5⟩
  have D_measure := dx_of (ok_measure (P := l.prog) (w := w) (base := base) (ca := fun _ => C_Folk) F6 ) (PySem.W.mg_of X G a6) k6 b6
  have D_is_name := dx_of (ok_is_name (P := l.prog) (w := w) (base := base) (ca := fun _ => C_Folk) F7 z_len z_LETTERS) (PySem.W.mg_of X G a7) k7 b7
  have D_Folk_come : MxG l.prog w K mg base (fun _ => C_Folk) 0 "come" 2 ["self", "name", "day", "weight"] [(0, 0, [("arrivals", 4), ("ranks", 5), ("deaths", 6)])] [true, false, false, false, true, true, true] Lw.m_Folk_come := ⟨_, _, ok_Folk_come (P := l.prog) (w := w) (base := base) (ca := fun _ => C_Folk) F8 D_is_name D_measure hC_Folk nC_Folk_arrivals nC_Folk_ranks z_len z_LAST_DAY z_MOST_WEIGHT z_MOST_FOLK, hC_Folk, ⟨a8, n8, k8⟩, b8⟩
  have D_Folk_known : MxG l.prog w K mg base (fun _ => C_Folk) 0 "known" 1 ["self", "name"] [(0, 0, [("arrivals", 2), ("ranks", 3), ("deaths", 4)])] [true, false, true, true, true] Lw.m_Folk_known := ⟨_, _, ok_Folk_known (P := l.prog) (w := w) (base := base) (ca := fun _ => C_Folk) F9 hC_Folk nC_Folk_arrivals, hC_Folk, ⟨a9, n9, k9⟩, b9⟩
  have D_Folk_after_coming : MxG l.prog w K mg base (fun _ => C_Folk) 0 "after_coming" 1 ["self", "name", "day"] [(0, 0, [("arrivals", 3), ("ranks", 4), ("deaths", 5)])] [true, false, false, true, true, true] Lw.m_Folk_after_coming := ⟨_, _, ok_Folk_after_coming (P := l.prog) (w := w) (base := base) (ca := fun _ => C_Folk) F10 hC_Folk nC_Folk_arrivals, hC_Folk, ⟨a10, n10, k10⟩, b10⟩
  have D_Folk_die : MxG l.prog w K mg base (fun _ => C_Folk) 0 "die" 2 ["self", "name", "day", "heir"] [(0, 0, [("arrivals", 4), ("ranks", 5), ("deaths", 6)])] [true, false, false, false, true, true, true] Lw.m_Folk_die := ⟨_, _, ok_Folk_die (P := l.prog) (w := w) (base := base) (ca := fun _ => C_Folk) F11 D_measure D_Folk_known D_Folk_after_coming hC_Folk nC_Folk_deaths z_LAST_DAY, hC_Folk, ⟨a11, n11, k11⟩, b11⟩
  have D_law_folk : DxG l.prog w K mg base (fun _ => C_Folk) "_law_folk" 3 ["_law_src_here", "_law_names_here", "_law_folk_here"] [(2, 0, [("arrivals", 3), ("ranks", 4), ("deaths", 5)])] [true, true, true, true, true, true] Lw.m_law_folk := ⟨_, _, ok_law_folk (P := l.prog) (w := w) (base := base) (ca := fun _ => C_Folk) F12 D_law_next D_Folk_come D_Folk_die z_list z_range z_len, PySem.W.mg_of X G a12, k12, b12⟩
  have D_law_death : DxG l.prog w K mg base (fun _ => C_Folk) "_law_death" 1 ["_law_deeds", "_law_name"] [] [true, false] Lw.m_law_death := ⟨_, _, ok_law_death (P := l.prog) (w := w) (base := base) (ca := fun _ => C_Folk) F13 , PySem.W.mg_of X G a13, k13, b13⟩
  have D_law_is_dead := dx_of (ok_law_is_dead (P := l.prog) (w := w) (base := base) (ca := fun _ => C_Folk) F14 D_law_death) (PySem.W.mg_of X G a14) k14 b14
  have D_law_heir := dx_of (ok_law_heir (P := l.prog) (w := w) (base := base) (ca := fun _ => C_Folk) F15 D_law_is_dead D_law_death z_range) (PySem.W.mg_of X G a15) k15 b15
  have D_law_events := dx_of (ok_law_events (P := l.prog) (w := w) (base := base) (ca := fun _ => C_Folk) F16 D_law_next D_law_heir z_range z_len) (PySem.W.mg_of X G a16) k16 b16
  have D_day_of := dx_of (ok_day_of (P := l.prog) (w := w) (base := base) (ca := fun _ => C_Folk) F17 ) (PySem.W.mg_of X G a17) k17 b17
  have D_Folk_dead : MxG l.prog w K mg base (fun _ => C_Folk) 0 "dead" 2 ["self", "name", "day"] [(0, 0, [("arrivals", 3), ("ranks", 4), ("deaths", 5)])] [true, false, false, true, true, true] Lw.m_Folk_dead := ⟨_, _, ok_Folk_dead (P := l.prog) (w := w) (base := base) (ca := fun _ => C_Folk) F18 D_measure D_Folk_known hC_Folk nC_Folk_deaths z_LAST_DAY, hC_Folk, ⟨a18, n18, k18⟩, b18⟩
  have D_Folk_death : MxG l.prog w K mg base (fun _ => C_Folk) 0 "death" 1 ["self", "name"] [(0, 0, [("arrivals", 2), ("ranks", 3), ("deaths", 4)])] [true, false, true, true, true] Lw.m_Folk_death := ⟨_, _, ok_Folk_death (P := l.prog) (w := w) (base := base) (ca := fun _ => C_Folk) F19 hC_Folk nC_Folk_deaths, hC_Folk, ⟨a19, n19, k19⟩, b19⟩
  have D_leave : DxG l.prog w K mg base (fun _ => C_Folk) "leave" 3 ["steps", "folk", "day"] [(1, 0, [("arrivals", 3), ("ranks", 4), ("deaths", 5)])] [true, true, false, true, true, true] Lw.m_leave := ⟨_, _, ok_leave (P := l.prog) (w := w) (base := base) (ca := fun _ => C_Folk) F20 D_Folk_dead D_Folk_death z_max, PySem.W.mg_of X G a20, k20, b20⟩
  have D_road : DxG l.prog w K mg base (fun _ => C_Folk) "road" 4 ["brought", "events", "folk", "day"] [(2, 0, [("arrivals", 4), ("ranks", 5), ("deaths", 6)])] [false, false, true, false, true, true, true] Lw.m_road := ⟨_, _, ok_road (P := l.prog) (w := w) (base := base) (ca := fun _ => C_Folk) F21 D_leave K_day_of z_sorted, PySem.W.mg_of X G a21, k21, b21⟩
  have D_law_whole := dx_of (ok_law_whole (P := l.prog) (w := w) (base := base) (ca := fun _ => C_Folk) F22 z_isinstance z_int z_bool) (PySem.W.mg_of X G a22) k22 b22
  have D_law_same := ok_law_same (P := l.prog) (w := w) (base := base) (ca := fun _ => C_Folk) F23 D_law_whole z_isinstance z_bool z_int z_str z_list z_tuple z_len z_zip (PySem.W.mg_of X G a23) k23 b23 12
  have D_law_step_fits := dx_of (ok_law_step_fits (P := l.prog) (w := w) (base := base) (ca := fun _ => C_Folk) F24 D_law_whole D_law_same D_law_is_dead D_law_death z_isinstance z_tuple z_len) (PySem.W.mg_of X G a24) k24 b24
  have D_law_walks := dx_of (ok_law_walks (P := l.prog) (w := w) (base := base) (ca := fun _ => C_Folk) F25 D_law_same D_law_step_fits D_law_is_dead z_isinstance z_list z_len z_range) (PySem.W.mg_of X G a25) k25 b25
  have D_holder : DxG l.prog w K mg base (fun _ => C_Folk) "holder" 5 ["brought", "events", "folk", "day"] [(2, 0, [("arrivals", 4), ("ranks", 5), ("deaths", 6)])] [false, false, true, false, true, true, true] Lw.m_holder := ⟨_, _, ok_holder (P := l.prog) (w := w) (base := base) (ca := fun _ => C_Folk) F26 D_road z_len, PySem.W.mg_of X G a26, k26, b26⟩
  exact ok_law F27 D_law_src D_law_names D_law_next D_Folk_init D_law_folk D_law_events D_road D_law_walks D_law_same D_holder z_len z_range z_list
end Tx
open PySem PySem.W PyProof.Rows
set_option maxHeartbeats 0 in
theorem PySem.Challenge.cw_forsworn_k25_whole_roads_walked_holds : PySem.Challenge.rw_forsworn_k25_whole_roads_walked.Holds := by
  w_on; o_law; k_head; (case hw => w_witness2)
  k_fill
  refine L2.walk_of (l := PySem.Challenge.rw_forsworn_k25_whole_roads_walked) (n := 63) (k := 17) (x := "_law_script") (CX := fun w => L2.CX PySem.Challenge.rw_forsworn_k25_whole_roads_walked.prog w) (sp := fun w => fun vs H Q E => ∀ ca, VS.VSp _ ca [true] Lw.m_main_k25 vs H Q E) rfl (by decide) rfl ⟨rfl, by decide, by decide⟩ (fun w h Y => PySem.W.kIn_of Y) ?F (fun _ _ a ns hl _ hS => (Lw.true_k25 ns hl).elim fun L h => fun ca => VS.law_sp hS h) (fun _ H s e s' h => VS.cx_false H s e s' h)
  case F =>
    intro w mg fa h KX G hmg
    refine' Tx.all_mk KX G hmg ?aC_Folk ?pC_Folk ?dC_Folk ?oC_Folk ?sC_Folk ?mC_Folk ?kC_Folk ?nC_Folk_arrivals ?nC_Folk_ranks ?nC_Folk_deaths ?a0 ?l0 ?c0 ?k0 ?a1 ?l1 ?c1 ?k1 ?a2 ?l2 ?c2 ?k2 ?a3 ?l3 ?c3 ?k3 ?a4 ?l4 ?c4 ?k4 ?a5 ?n5 ?l5 ?c5 ?k5 ?a6 ?l6 ?c6 ?k6 ?a7 ?l7 ?c7 ?k7 ?a8 ?n8 ?l8 ?c8 ?k8 ?a9 ?n9 ?l9 ?c9 ?k9 ?a10 ?n10 ?l10 ?c10 ?k10 ?a11 ?n11 ?l11 ?c11 ?k11 ?a12 ?l12 ?c12 ?k12 ?a13 ?l13 ?c13 ?k13 ?a14 ?l14 ?c14 ?k14 ?a15 ?l15 ?c15 ?k15 ?a16 ?l16 ?c16 ?k16 ?a17 ?l17 ?c17 ?k17 ?a18 ?n18 ?l18 ?c18 ?k18 ?a19 ?n19 ?l19 ?c19 ?k19 ?a20 ?l20 ?c20 ?k20 ?a21 ?l21 ?c21 ?k21 ?a22 ?l22 ?c22 ?k22 ?a23 ?l23 ?c23 ?k23 ?a24 ?l24 ?c24 ?k24 ?a25 ?l25 ?c25 ?k25 ?a26 ?l26 ?c26 ?k26 ?a27 ?l27 ?c27 ?k27 ?y_list ?y_len ?y_range ?y_max ?y_sorted ?y_isinstance ?y_int ?y_bool ?y_str ?y_tuple ?y_zip ?y_LETTERS ?y_LAST_DAY ?y_MOST_WEIGHT ?y_MOST_FOLK
    (case aC_Folk => k_is); (case pC_Folk => k_is); (case dC_Folk => k_is); (case oC_Folk => k_is); (case sC_Folk => k_is); (case mC_Folk => k_is)
    (case kC_Folk => k_is); (case nC_Folk_arrivals => k_is); (case nC_Folk_ranks => k_is); (case nC_Folk_deaths => k_is); (case a0 => k_is); (case l0 => k_is)
    (case c0 => k_is); (case k0 => k_is); (case a1 => k_is); (case l1 => k_is); (case c1 => k_is); (case k1 => k_is)
    (case a2 => k_is); (case l2 => k_is); (case c2 => k_is); (case k2 => k_is); (case a3 => k_is); (case l3 => k_is)
    (case c3 => k_is); (case k3 => k_is); (case a4 => k_is); (case l4 => k_is); (case c4 => k_is); (case k4 => k_is)
    (case a5 => k_is); (case n5 => k_is); (case l5 => k_is); (case c5 => k_is); (case k5 => k_is); (case a6 => k_is)
    (case l6 => k_is); (case c6 => k_is); (case k6 => k_is); (case a7 => k_is); (case l7 => k_is); (case c7 => k_is)
    (case k7 => k_is); (case a8 => k_is); (case n8 => k_is); (case l8 => k_is); (case c8 => k_is); (case k8 => k_is)
    (case a9 => k_is); (case n9 => k_is); (case l9 => k_is); (case c9 => k_is); (case k9 => k_is); (case a10 => k_is)
    (case n10 => k_is); (case l10 => k_is); (case c10 => k_is); (case k10 => k_is); (case a11 => k_is); (case n11 => k_is)
    (case l11 => k_is); (case c11 => k_is); (case k11 => k_is); (case a12 => k_is); (case l12 => k_is); (case c12 => k_is)
    (case k12 => k_is); (case a13 => k_is); (case l13 => k_is); (case c13 => k_is); (case k13 => k_is); (case a14 => k_is)
    (case l14 => k_is); (case c14 => k_is); (case k14 => k_is); (case a15 => k_is); (case l15 => k_is); (case c15 => k_is)
    (case k15 => k_is); (case a16 => k_is); (case l16 => k_is); (case c16 => k_is); (case k16 => k_is); (case a17 => k_is)
    (case l17 => k_is); (case c17 => k_is); (case k17 => k_is); (case a18 => k_is); (case n18 => k_is); (case l18 => k_is)
    (case c18 => k_is); (case k18 => k_is); (case a19 => k_is); (case n19 => k_is); (case l19 => k_is); (case c19 => k_is)
    (case k19 => k_is); (case a20 => k_is); (case l20 => k_is); (case c20 => k_is); (case k20 => k_is); (case a21 => k_is)
    (case l21 => k_is); (case c21 => k_is); (case k21 => k_is); (case a22 => k_is); (case l22 => k_is); (case c22 => k_is)
    (case k22 => k_is); (case a23 => k_is); (case l23 => k_is); (case c23 => k_is); (case k23 => k_is); (case a24 => k_is)
    (case l24 => k_is); (case c24 => k_is); (case k24 => k_is); (case a25 => k_is); (case l25 => k_is); (case c25 => k_is)
    (case k25 => k_is); (case a26 => k_is); (case l26 => k_is); (case c26 => k_is); (case k26 => k_is); (case a27 => k_is)
    (case l27 => k_is); (case c27 => k_is); (case k27 => k_is); (case y_list => k_is); (case y_len => k_is); (case y_range => k_is)
    (case y_max => k_is); (case y_sorted => k_is); (case y_isinstance => k_is); (case y_int => k_is); (case y_bool => k_is); (case y_str => k_is)
    (case y_tuple => k_is); (case y_zip => k_is); (case y_LETTERS => k_is); (case y_LAST_DAY => k_is); (case y_MOST_WEIGHT => k_is); (case y_MOST_FOLK => k_is)


