import PyProof.Rows.All
import Wide.All
import OpenK.AllK
import Wide.FinOn
import HandS.ForMost
import HandS.ForSpec
import HandS.Flow
import HandS.IsInst
import HandS.Style
import HandS.Deep
import HandS.List
import HandS.SetFor
import HandS.SortKw
import HandS.Zip
import KE.SortKeyHeap
import PyProof.SeqRoads2
import PySem.Challenge.RW_forsworn_k03_fewest_names
set_option Elab.async false
set_option linter.all false
set_option maxRecDepth 100000
set_option maxHeartbeats 4000000
/-! Value semantics over the hand layer: data, owned things, a state by values, and what it is that a piece of syntax computes. -/
namespace VS
open PySem PySem.Spec PyProof.Rows L2

abbrev D := PyData
abbrev Path := List Nat
/-- what a slot holds: data that nobody changes; a list, a dict that is one's own; an object; the script -/
inductive S where
  | d (d : D)
  | ol (ds : List D)
  | odK (kvs : List (Key × D))
  | odT (kvs : List (List Key × D))
  | ob (c : Nat) (fs : List (Str × S))
  | scr (ns : List Int)
abbrev LS := List (Option S)
inductive R (α : Type) where
  | ok (a : α) (L : LS)
  | err (c : Nat) (L : LS)
  | stuck
def R.bind {α β : Type} (r : R α) (k : α → LS → R β) : R β :=
  match r with
  | .ok a L => k a L
  | .err c L => .err c L
  | .stuck => .stuck
theorem R.bind_ok {α β : Type} (a : α) (L : LS) (k : α → LS → R β) : (R.ok a L).bind k = k a L := rfl
theorem R.bind_err {α β : Type} (c : Nat) (L : LS) (k : α → LS → R β) : (R.err c L : R α).bind k = .err c L := rfl
theorem R.bind_stuck {α β : Type} (k : α → LS → R β) : (R.stuck : R α).bind k = .stuck := rfl

/-! ### data on a heap -/
mutual
inductive Dq (K : PySem.W.Frag) (F : Hp) : V → D → Prop
  | non : Dq K F .non .none
  | bl (b : Bool) : Dq K F (.bl b) (.bool b)
  | int (i : Int) : Dq K F (.int i) (.int i)
  | str (x : Str) : Dq K F (.str x) (.str x)
  | lst {a : Addr} {xs : List V} {ds : List D} : F a = some (.lst xs) → DqA K F xs ds → Dq K F (.ref a) (.list ds)
  | tup {a : Addr} {xs : List V} {ds : List D} : SqT K F a xs → DqA K F xs ds → Dq K F (.ref a) (.tuple ds)
inductive DqA (K : PySem.W.Frag) (F : Hp) : List V → List D → Prop
  | nil : DqA K F [] []
  | cons {v : V} {vs : List V} {d : D} {ds : List D} : Dq K F v d → DqA K F vs ds → DqA K F (v :: vs) (d :: ds)
end
section
variable {K : PySem.W.Frag} {F F' H H' : Hp}
theorem rd_same {a : Addr} {u : HO} (e : Same H H') (h : Rd H a u) : Rd H' a u := by
  rcases h with h | ⟨o, h⟩
  · exact .inl (e a _ h)
  · exact .inr ⟨o, e a _ h⟩
theorem sqt_same {a : Addr} {xs : List V} (e : Same H H') (h : SqT K H a xs) : SqT K H' a xs := by
  rcases h with h | h
  · exact .inl (rd_same e h)
  · exact .inr h
theorem sql_same {a : Addr} {xs : List V} (e : Same H H') (h : SqL K H a xs) : SqL K H' a xs := e.seq h
mutual
theorem Dq.mono (e : Same F F') : ∀ (d : D) (v : V), Dq K F v d → Dq K F' v d
  | .none, _, h => by cases h; exact .non
  | .bool _, _, h => by cases h; exact .bl _
  | .int _, _, h => by cases h; exact .int _
  | .str _, _, h => by cases h; exact .str _
  | .list ds, _, h => by
    cases h with
    | lst a b => exact .lst (e _ _ a) (DqA.mono e ds _ b)
  | .tuple ds, _, h => by
    cases h with
    | tup a b => exact .tup (sqt_same e a) (DqA.mono e ds _ b)
  | .dict _, _, h => by cases h
theorem DqA.mono (e : Same F F') : ∀ (ds : List D) (vs : List V), DqA K F vs ds → DqA K F' vs ds
  | [], _, h => by cases h; exact .nil
  | d :: ds, _, h => by
    cases h with
    | cons a b => exact .cons (Dq.mono e d _ a) (DqA.mono e ds _ b)
end
mutual
theorem Dq.dp : ∀ (d : D) (v : V), Dq K F v d → Dp K F v d
  | .none, _, h => by cases h; exact .non
  | .bool _, _, h => by cases h; exact .bl _
  | .int _, _, h => by cases h; exact .int _
  | .str _, _, h => by cases h; exact .str _
  | .list ds, _, h => by
    cases h with
    | lst a b => exact .lst (.inl (.inl a)) (DqA.dp ds _ b)
  | .tuple ds, _, h => by
    cases h with
    | tup a b => exact .tup a (DqA.dp ds _ b)
  | .dict _, _, h => by cases h
theorem DqA.dp : ∀ (ds : List D) (vs : List V), DqA K F vs ds → DpAll K F vs ds
  | [], _, h => by cases h; exact .nil
  | d :: ds, _, h => by
    cases h with
    | cons a b => exact .cons (Dq.dp d _ a) (DqA.dp ds _ b)
end
theorem Dq.up {v : V} {d : D} (e : Same F F') (h : Dq K F v d) : Dq K F' v d := Dq.mono e d v h
theorem DqA.up {v : List V} {d : List D} (e : Same F F') (h : DqA K F v d) : DqA K F' v d := DqA.mono e d v h
theorem DqA.len : ∀ {vs : List V} {ds : List D}, DqA K F vs ds → vs.length = ds.length
  | _, _, .nil => rfl
  | _, _, .cons _ t => by rw [List.length_cons, List.length_cons, t.len]
theorem DqA.append : ∀ {xs ys : List V} {ds es : List D}, DqA K F xs ds → DqA K F ys es → DqA K F (xs ++ ys) (ds ++ es)
  | _, _, _, _, .nil, s => s
  | _, _, _, _, .cons r t, s => .cons r (t.append s)
theorem DqA.one {v : V} {d : D} (h : Dq K F v d) : DqA K F [v] [d] := .cons h .nil
theorem DqA.get : ∀ {vs : List V} {ds : List D} {i : Nat} {d : D}, DqA K F vs ds → ds[i]? = some d → ∃ v, vs[i]? = some v ∧ Dq K F v d
  | _, _, _, _, .nil, e => by simp at e
  | _, _, 0, _, .cons r _, e => by simp at e; subst e; exact ⟨_, rfl, r⟩
  | _, _, i + 1, d, .cons _ t, e => by
    obtain ⟨u, h1, h2⟩ := DqA.get (i := i) (d := d) t (by simpa using e)
    exact ⟨u, by simpa using h1, h2⟩
theorem DqA.set {v : V} {d : D} (r : Dq K F v d) : ∀ {vs : List V} {ds : List D} (i : Nat), DqA K F vs ds → DqA K F (vs.set i v) (ds.set i d)
  | _, _, _, .nil => .nil
  | _, _, 0, .cons _ t => .cons r t
  | _, _, i + 1, .cons q t => .cons q (DqA.set r i t)
theorem DqA.take : ∀ {vs : List V} {ds : List D} (n : Nat), DqA K F vs ds → DqA K F (vs.take n) (ds.take n)
  | _, _, 0, _ => .nil
  | _, _, _ + 1, .nil => .nil
  | _, _, n + 1, .cons r t => .cons r (DqA.take n t)
theorem DqA.drop : ∀ {vs : List V} {ds : List D} (n : Nat), DqA K F vs ds → DqA K F (vs.drop n) (ds.drop n)
  | _, _, 0, r => r
  | _, _, _ + 1, .nil => .nil
  | _, _, n + 1, .cons _ t => DqA.drop n t
theorem DqA.erase : ∀ {vs : List V} {ds : List D} (n : Nat), DqA K F vs ds → DqA K F (vs.eraseIdx n) (ds.eraseIdx n)
  | _, _, _, .nil => .nil
  | _, _, 0, .cons _ t => t
  | _, _, n + 1, .cons r t => .cons r (DqA.erase n t)
theorem DqA.dropLast {vs : List V} {ds : List D} (h : DqA K F vs ds) : DqA K F vs.dropLast ds.dropLast := by
  rw [List.dropLast_eq_take, List.dropLast_eq_take, h.len]
  exact h.take _
theorem DqA.replicate {v : V} {d : D} (r : Dq K F v d) : ∀ n : Nat, DqA K F (List.replicate n v) (List.replicate n d)
  | 0 => .nil
  | n + 1 => .cons r (DqA.replicate r n)
theorem DqA.ints : ∀ ns : List Int, DqA K F (ns.map V.int) (ns.map PyData.int)
  | [] => .nil
  | n :: ns => .cons (.int n) (DqA.ints ns)
def DqK {κ : Type} (K : PySem.W.Frag) (F : Hp) : List (κ × V) → List (κ × D) → Prop := Paired fun p q => p.1 = q.1 ∧ Dq K F p.2 q.2
theorem DqK.up {κ : Type} {l : List (κ × V)} {m : List (κ × D)} (e : Same F F') (h : DqK K F l m) : DqK K F' l m := Paired.mapP h fun _ _ z => ⟨z.1, z.2.up e⟩
end

/-! ### slots on a heap -/
mutual
inductive RS (K : PySem.W.Frag) (ca : Nat → Addr) (F H : Hp) (ow : Addr → Option Path) : Path → S → V → Prop
  | d {p : Path} {d : D} {v : V} : Dq K F v d → RS K ca F H ow p (.d d) v
  | ol {p : Path} {l : Addr} {vs : List V} {ds : List D} : H l = some (.lst vs) → ow l = some p → DqA K F vs ds → RS K ca F H ow p (.ol ds) (.ref l)
  | odK {p : Path} {l : Addr} {vs : List (Key × V)} {ds : List (Key × D)} : H l = some (.dK vs) → ow l = some p → DqK K F vs ds → RS K ca F H ow p (.odK ds) (.ref l)
  | odT {p : Path} {l : Addr} {vs : List (List Key × V)} {ds : List (List Key × D)} : H l = some (.dT vs) → ow l = some p → DqK K F vs ds → RS K ca F H ow p (.odT ds) (.ref l)
  | ob {p : Path} {a dx : Addr} {c : Nat} {vs : List (Str × V)} {fs : List (Str × S)} : H a = some (.ins (ca c) dx vs) → ow a = some p → RF K ca F H ow p 0 fs vs → RS K ca F H ow p (.ob c fs) (.ref a)
  | scr {p : Path} {a : Addr} {ns : List Int} : SqL K F a (ns.map V.int) → RS K ca F H ow p (.scr ns) (.ref a)
inductive RF (K : PySem.W.Frag) (ca : Nat → Addr) (F H : Hp) (ow : Addr → Option Path) : Path → Nat → List (Str × S) → List (Str × V) → Prop
  | nil {p : Path} {i : Nat} : RF K ca F H ow p i [] []
  | cons {p : Path} {i : Nat} {x : Str} {s : S} {v : V} {fs : List (Str × S)} {vs : List (Str × V)} : RS K ca F H ow (p ++ [i]) s v → RF K ca F H ow p (i + 1) fs vs → RF K ca F H ow p i ((x, s) :: fs) ((x, v) :: vs)
end
section
variable {K : PySem.W.Frag} {ca : Nat → Addr} {F F' H H' : Hp} {ow ow' : Addr → Option Path}
/-- what bears on the thing at p is as it was, at p' -/
def Keeps (H H' : Hp) (ow ow' : Addr → Option Path) (p p' : Path) : Prop := ∀ a q, ow a = some (p ++ q) → H' a = H a ∧ ow' a = some (p' ++ q)
theorem Keeps.sub {p p' : Path} (k : Keeps H H' ow ow' p p') (r : Path) : Keeps H H' ow ow' (p ++ r) (p' ++ r) := fun a q h => by
  rw [List.append_assoc] at h ⊢
  exact k a _ h
mutual
theorem RS.move (e : Same F F') : ∀ (s : S) (p p' : Path) (v : V), Keeps H H' ow ow' p p' → RS K ca F H ow p s v → RS K ca F' H' ow' p' s v
  | .d _, p, p', v, k, h => by
    cases h with
    | d a => exact .d (a.up e)
  | .ol _, p, p', v, k, h => by
    cases h with
    | ol a b c =>
      obtain ⟨x, y⟩ := k _ [] (by rw [List.append_nil]; exact b)
      rw [List.append_nil] at y
      exact .ol (x.trans a) y (c.up e)
  | .odK _, p, p', v, k, h => by
    cases h with
    | odK a b c =>
      obtain ⟨x, y⟩ := k _ [] (by rw [List.append_nil]; exact b)
      rw [List.append_nil] at y
      exact .odK (x.trans a) y (c.up e)
  | .odT _, p, p', v, k, h => by
    cases h with
    | odT a b c =>
      obtain ⟨x, y⟩ := k _ [] (by rw [List.append_nil]; exact b)
      rw [List.append_nil] at y
      exact .odT (x.trans a) y (c.up e)
  | .ob _ fs, p, p', v, k, h => by
    cases h with
    | ob a b c =>
      obtain ⟨x, y⟩ := k _ [] (by rw [List.append_nil]; exact b)
      rw [List.append_nil] at y
      exact .ob (x.trans a) y (RF.move e fs _ _ _ _ k c)
  | .scr _, p, p', v, k, h => by
    cases h with
    | scr a => exact .scr (sql_same e a)
theorem RF.move (e : Same F F') : ∀ (fs : List (Str × S)) (p p' : Path) (i : Nat) (vs : List (Str × V)), Keeps H H' ow ow' p p' → RF K ca F H ow p i fs vs → RF K ca F' H' ow' p' i fs vs
  | [], p, p', i, vs, k, h => by cases h; exact .nil
  | (x, s) :: fs, p, p', i, vs, k, h => by
    cases h with
    | cons a b => exact .cons (RS.move e s _ _ _ (k.sub [i]) a) (RF.move e fs _ _ _ _ k b)
end
theorem RS.go {s : S} {p p' : Path} {v : V} (h : RS K ca F H ow p s v) (e : Same F F') (k : Keeps H H' ow ow' p p') : RS K ca F' H' ow' p' s v := RS.move e s p p' v k h

/-- a state by values: G is not touched, F is data, ow tells whose the rest is; pn: slots that stay -/
structure Rl (K : PySem.W.Frag) (ca : Nat → Addr) (pn : List (Option V)) (G F : Hp) (ow : Addr → Option Path) (σ : L2.St) (H : Hp) (L : LS) : Prop where
  exF : Same F H
  exG : Same G H
  dF : ∀ a p, ow a = some p → F a = none ∧ G a = none ∧ H a ≠ none
  dG : ∀ a o, F a = some o → G a = none
  len : L.length = σ.length
  sl : ∀ (i : Nat) (s : S), L[i]? = some (some s) → ∃ v, σ[i]? = some (some v) ∧ RS K ca F H ow [i + 1] s v
  pin : ∀ (i : Nat) (v : V), pn[i]? = some (some v) → σ[i]? = some (some v)
end
end VS

namespace VS
open PySem PySem.Spec PyProof.Rows L2

/-- what a judgement is about: the def's context, what is wished of an error, the classes' places, which slots stay -/
structure Ct where
  X : Cx
  W : WX
  ca : Nat → Addr
  pb : List Bool
  v0 : List V
def pinOf : List Bool → List V → List (Option V)
  | b :: bs, v :: vs => (if b then some v else none) :: pinOf bs vs
  | _, _ => []
theorem pinOf_mk : ∀ {bs : List Bool} {vs : List V} {i : Nat} {v : V}, (pinOf bs vs)[i]? = some (some v) → bs[i]? = some true ∧ vs[i]? = some v
  | b :: bs, u :: vs, 0, v, h => by
    have h' : (if b then some u else none) = some v := Option.some.inj h
    cases b with
    | true => exact ⟨rfl, by rw [if_pos rfl] at h'; cases h'; rfl⟩
    | false => cases h'
  | b :: bs, u :: vs, i + 1, v, h => pinOf_mk (bs := bs) (vs := vs) (i := i) h
  | [], _, _, _, h => by cases h
  | _ :: _, [], _, _, h => by cases h
theorem pinOf_at : ∀ {bs : List Bool} {vs : List V} {i : Nat} {v : V}, bs[i]? = some true → vs[i]? = some v → (pinOf bs vs)[i]? = some (some v)
  | b :: bs, u :: vs, 0, v, h, h2 => by
    have e1 : b = true := Option.some.inj h
    have e2 : u = v := Option.some.inj h2
    subst e1 e2
    rfl
  | b :: bs, u :: vs, i + 1, v, h, h2 => pinOf_at (bs := bs) (vs := vs) (i := i) h h2
  | [], _, _, _, h, _ => by cases h
  | _ :: _, [], _, _, _, h => by cases h
abbrev Ct.Rl (c : Ct) (G F : Hp) (ow : Addr → Option Path) (σ : L2.St) (H : Hp) (L : LS) : Prop := VS.Rl c.X.K c.ca (pinOf c.pb c.v0) G F ow σ H L

/-- from a state on: what comes of r, told to t -/
def Post (c : Ct) (G : Hp) (n : Bool) (F H : Hp) (σ : L2.St) {α β : Type} (r : R α) (B : Hp → Hp → (Addr → Option Path) → α → β → Prop) (t : (β → Hp → Prop) → Prop) : Prop :=
  match r with
  | .ok a L => ∀ Q : β → Hp → Prop, (∀ b H' F' ow', Same F F' → (n = true → Same H H') → c.Rl G F' ow' σ H' L → B F' H' ow' a b → Q b H') → t Q
  | .err e L => (∀ H' F' ow', Same F F' → c.Rl G F' ow' σ H' L → c.W (.ref (c.ca e)) none σ H') → ∀ Q : β → Hp → Prop, t Q
  | .stuck => True
section
variable {c : Ct} {G F H : Hp} {ow : Addr → Option Path} {σ : L2.St} {L : LS} {n n1 n2 : Bool} {α β γ δ : Type}
theorem and_of {a b : Bool} (h : (a && b) = true) : a = true ∧ b = true := by
  cases a <;> cases b <;> first | exact ⟨rfl, rfl⟩ | cases h
theorem Post.bind {r : R α} {k : α → LS → R γ} {B1 : Hp → Hp → (Addr → Option Path) → α → β → Prop} {B2 : Hp → Hp → (Addr → Option Path) → γ → δ → Prop} {t1 : (β → Hp → Prop) → Prop} {t2 : β → Hp → (δ → Hp → Prop) → Prop}
    (h1 : Post c G n1 F H σ r B1 t1)
    (h2 : ∀ a L1 b H1 F1 ow1, r = .ok a L1 → Same F F1 → (n1 = true → Same H H1) → c.Rl G F1 ow1 σ H1 L1 → B1 F1 H1 ow1 a b → Post c G n2 F1 H1 σ (k a L1) B2 (t2 b H1)) :
    Post c G (n1 && n2) F H σ (r.bind k) B2 (fun Q => t1 fun b H1 => t2 b H1 Q) := by
  cases r with
  | stuck => trivial
  | err e L1 => exact fun hw Q => h1 hw _
  | ok a L1 =>
    rw [R.bind_ok]
    cases hk : k a L1 with
    | stuck => trivial
    | ok z L2 =>
      intro Q hq
      refine h1 _ fun b H1 F1 ow1 e1 s1 R1 q1 => ?_
      have h := h2 a L1 b H1 F1 ow1 rfl e1 s1 R1 q1
      rw [hk] at h
      exact h Q fun b' H2 F2 ow2 e2 s2 R2 q2 => hq b' H2 F2 ow2 (e1.trans e2) (fun hn => (s1 (and_of hn).1).trans (s2 (and_of hn).2)) R2 q2
    | err e L2 =>
      intro hw Q
      refine h1 _ fun b H1 F1 ow1 e1 s1 R1 q1 => ?_
      have h := h2 a L1 b H1 F1 ow1 rfl e1 s1 R1 q1
      rw [hk] at h
      exact h (fun H2 F2 ow2 e2 R2 => hw H2 F2 ow2 (e1.trans e2) R2) Q
theorem Post.val {a : α} {b : β} {B : Hp → Hp → (Addr → Option Path) → α → β → Prop} (Rr : c.Rl G F ow σ H L) (h : B F H ow a b) : Post c G n F H σ (.ok a L) B (fun Q => Q b H) :=
  fun _ q => q b H F ow (Same.refl F) (fun _ => Same.refl H) Rr h
theorem Post.imp {r : R α} {B : Hp → Hp → (Addr → Option Path) → α → β → Prop} {t u : (β → Hp → Prop) → Prop} (h : Post c G n F H σ r B t) (k : ∀ Q, t Q → u Q) : Post c G n F H σ r B u := by
  cases r with
  | stuck => trivial
  | ok a L1 => exact fun Q q => k Q (h Q q)
  | err e L1 => exact fun hw Q => k Q (h hw Q)
theorem Post.low {r : R α} {B : Hp → Hp → (Addr → Option Path) → α → β → Prop} {t : (β → Hp → Prop) → Prop} (h : Post c G true F H σ r B t) : Post c G n F H σ r B t := by
  cases r with
  | stuck => trivial
  | ok a L1 => exact fun Q q => h Q fun b H1 F1 ow1 e1 s1 R1 q1 => q b H1 F1 ow1 e1 (fun _ => s1 rfl) R1 q1
  | err e L1 => exact h
end

/-! ### the judgements -/
def Jdg (c : Ct) (n : Bool) {α β : Type} (g : LS → R α) (B : PySem.W.Frag → Hp → Hp → (Addr → Option Path) → α → β → Prop) (t : L2.St → Hp → (β → Hp → Prop) → Prop) : Prop :=
  ∀ G F ow σ H L, c.Rl G F ow σ H L → Post c G n F H σ (g L) (B c.X.K) (t σ H)
def BD : PySem.W.Frag → Hp → Hp → (Addr → Option Path) → D → V → Prop := fun K F _ _ d v => Dq K F v d
def BA : PySem.W.Frag → Hp → Hp → (Addr → Option Path) → List D → List V → Prop := fun K F _ _ d v => DqA K F v d
def BE (ca : Nat → Addr) : PySem.W.Frag → Hp → Hp → (Addr → Option Path) → S → V → Prop := fun K F H ow s v => RS K ca F H ow [0] s v
def BB : PySem.W.Frag → Hp → Hp → (Addr → Option Path) → Bool → Bool → Prop := fun _ _ _ _ a b => b = a
/-- a list that is looked at -/
def BV : PySem.W.Frag → Hp → Hp → (Addr → Option Path) → D → V → Prop := fun K F H _ d v => Dq K F v d ∨ ∃ l vs ds, v = .ref l ∧ d = .list ds ∧ SqL K H l vs ∧ DqA K F vs ds
def JD (c : Ct) (n : Bool) (e : Expr) (g : LS → R D) : Prop := ∃ t, PE c.X e t ∧ Jdg c n g BD t
def JE (c : Ct) (n : Bool) (e : Expr) (g : LS → R S) : Prop := ∃ t, PE c.X e t ∧ Jdg c n g (BE c.ca) t
def JV (c : Ct) (n : Bool) (e : Expr) (g : LS → R D) : Prop := ∃ t, PE c.X e t ∧ Jdg c n g BV t
def JT (c : Ct) (n : Bool) (e : Expr) (g : LS → R Bool) : Prop := ∃ t, PT c.X e t ∧ Jdg c n g BB t
def JW (c : Ct) (n : Bool) (e : Expr) (g : LS → R Bool) : Prop := ∃ t, PW c.X e t ∧ Jdg c n g BB t
def JA (c : Ct) (n : Bool) (es : List Expr) (g : LS → R (List D)) : Prop := ∃ t, PA c.X es t ∧ Jdg c n g BA t

/-! ### what lies at [0] is frozen; what a slot holds is frozen, moved -/
section
variable {K : PySem.W.Frag} {ca : Nat → Addr} {pn : List (Option V)} {G F H : Hp} {ow : Addr → Option Path} {σ : L2.St} {L : LS}
def offAt (ow : Addr → Option Path) (l : Addr) : Addr → Option Path := fun a => if a = l then none else ow a
theorem offAt_same (ow : Addr → Option Path) (l : Addr) : offAt ow l l = none := if_pos rfl
theorem offAt_ne {ow : Addr → Option Path} {l a : Addr} (h : a ≠ l) : offAt ow l a = ow a := if_neg h
theorem upd_same_of {l : Addr} {o : HO} (h : F l = none) : Same F (upd F l o) := fun b u e => by
  rw [upd_ne (ne_of_none e h)]
  exact e
theorem set_get {α : Type} {l : List α} {i j : Nat} {a b : α} (h : (l.set i a)[j]? = some b) : (i = j ∧ a = b) ∨ (i ≠ j ∧ l[j]? = some b) := by
  by_cases e : i = j
  · subst e
    rw [List.getElem?_set] at h
    by_cases hl : i < l.length
    · simp [hl] at h
      exact .inl ⟨rfl, h⟩
    · simp [hl] at h
  · rw [List.getElem?_set_ne e] at h
    exact .inr ⟨e, h⟩
theorem keeps_off {l : Addr} {p : Path} (h : ∀ q, ow l ≠ some (p ++ q)) : Keeps H H ow (offAt ow l) p p := fun a q e => by
  have ha : a ≠ l := fun z => by
    subst z
    exact h q e
  exact ⟨rfl, by rw [offAt_ne ha]; exact e⟩
/-- a list that is owned at p becomes data; L': what the slots hold then -/
theorem Rl.frz {l : Addr} {vs : List V} {p : Path} {L' : LS} (r : Rl K ca pn G F ow σ H L) (hl : H l = some (.lst vs)) (ho : ow l = some p) (hlen : L'.length = L.length)
    (hs : ∀ (j : Nat) (s : S), L'[j]? = some (some s) → (L[j]? = some (some s) ∧ ∀ q, p ≠ (j + 1) :: q) ∨ ∃ v, σ[j]? = some (some v) ∧ RS K ca (upd F l (.lst vs)) H (offAt ow l) [j + 1] s v) :
    Same F (upd F l (.lst vs)) ∧ Rl K ca pn G (upd F l (.lst vs)) (offAt ow l) σ H L' := by
  obtain ⟨f0, g0, h0⟩ := r.dF l p ho
  have e : Same F (upd F l (.lst vs)) := upd_same_of f0
  refine ⟨e, fun a o h => ?_, r.exG, fun a q h => ?_, fun a o h => ?_, hlen.trans r.len, fun j s h => ?_, r.pin⟩
  · by_cases z : a = l
    · subst z
      rw [upd_same] at h
      cases h
      exact hl
    · rw [upd_ne z] at h
      exact r.exF a o h
  · by_cases z : a = l
    · subst z
      rw [offAt_same] at h
      cases h
    · rw [offAt_ne z] at h
      obtain ⟨x, y, w⟩ := r.dF a q h
      exact ⟨by rw [upd_ne z]; exact x, y, w⟩
  · by_cases z : a = l
    · subst z
      exact g0
    · rw [upd_ne z] at h
      exact r.dG a o h
  · rcases hs j s h with ⟨h1, h2⟩ | h1
    · obtain ⟨v, q1, q2⟩ := r.sl j s h1
      exact ⟨v, q1, q2.go e (keeps_off fun q z => h2 q (by rw [ho] at z; exact Option.some.inj z))⟩
    · exact h1
/-- all that is owned below root i goes to root j -/
def reroot (ow : Addr → Option Path) (i j : Nat) : Addr → Option Path := fun a => match ow a with
  | some (r :: q) => if r = i then some (j :: q) else some (r :: q)
  | x => x
theorem reroot_at {i j : Nat} {a : Addr} {q : Path} (h : ow a = some (i :: q)) : reroot ow i j a = some (j :: q) := by
  unfold reroot
  rw [h]
  exact if_pos rfl
theorem reroot_ne {i j r : Nat} {a : Addr} {q : Path} (h : ow a = some (r :: q)) (hr : r ≠ i) : reroot ow i j a = some (r :: q) := by
  unfold reroot
  rw [h]
  exact if_neg hr
theorem reroot_some {i j : Nat} {a : Addr} {p : Path} (h : reroot ow i j a = some p) : ∃ q, ow a = some q := by
  unfold reroot at h
  split at h
  · exact ⟨_, by assumption⟩
  · exact ⟨p, h⟩
/-- a store: what lies at root i is the new content of slot k, L' the slots then -/
theorem Rl.moved {i j : Nat} {σ' : L2.St} {L' : LS} (r : Rl K ca pn G F ow σ H L) (hlen : L'.length = σ'.length)
    (hs : ∀ (k : Nat) (s : S), L'[k]? = some (some s) → (L[k]? = some (some s) ∧ σ'[k]? = σ[k]? ∧ k + 1 ≠ i) ∨ ∃ v, σ'[k]? = some (some v) ∧ RS K ca F H (reroot ow i j) [k + 1] s v)
    (hp : ∀ (k : Nat) (v : V), pn[k]? = some (some v) → σ'[k]? = some (some v)) : Rl K ca pn G F (reroot ow i j) σ' H L' := by
  refine ⟨r.exF, r.exG, fun a q h => ?_, r.dG, hlen, fun k s h => ?_, hp⟩
  · obtain ⟨q', h'⟩ := reroot_some h
    exact r.dF a q' h'
  · rcases hs k s h with ⟨h1, h2, h3⟩ | h1
    · obtain ⟨v, q1, q2⟩ := r.sl k s h1
      refine ⟨v, h2.trans q1, q2.go (Same.refl F) fun a q e => ⟨rfl, ?_⟩⟩
      exact reroot_ne (q := q) e h3
    · exact h1
theorem keeps_reroot {i j : Nat} : Keeps H H ow (reroot ow i j) [i] [j] := fun _ _ e => ⟨rfl, reroot_at e⟩
end
end VS

namespace VS
open PySem PySem.Spec PyProof.Rows L2

section
variable {c : Ct} {n n1 n2 n3 : Bool}

/-! ### constants, names -/
def gC (d : D) : LS → R D := fun L => .ok d L
theorem jd_c {e : Expr} {v : V} {d : D} (h : PE c.X e (tC v)) (hd : ∀ K F, Dq K F v d) : JD c true e (gC d) := ⟨_, h, fun G F ow σ H L Rr => Post.val Rr (hd _ _)⟩
theorem jd_int {i j pos} : JD c true (.Constant (.int i) j pos) (gC (.int i)) := jd_c pe_int fun _ _ => .int _
theorem jd_bl {b j pos} : JD c true (.Constant (.bool b) j pos) (gC (.bool b)) := jd_c pe_bl fun _ _ => .bl _
theorem jd_non {j pos} : JD c true (.Constant .none j pos) (gC .none) := jd_c pe_non fun _ _ => .non
theorem jd_str {x j pos} : JD c true (.Constant (.str x) j pos) (gC (.str x)) := jd_c pe_str fun _ _ => .str _

/-- a name that is read: what it holds becomes data -/
def gVar (i : Nat) : LS → R D := fun L => match L[i]? with
  | some (some (.d d)) => .ok d L
  | some (some (.ol ds)) => .ok (.list ds) (L.set i (some (.d (.list ds))))
  | _ => .stuck
theorem jd_var (i : Nat) {x : Str} {pos : Pos} (h : PE c.X (.Name x pos) (tVar i)) : JD c true (.Name x pos) (gVar i) := by
  refine ⟨_, h, fun G F ow σ H L Rr => ?_⟩
  unfold gVar
  cases hL : L[i]? with
  | none => trivial
  | some o =>
    cases o with
    | none => trivial
    | some s =>
      obtain ⟨v, hv, rs⟩ := Rr.sl i s hL
      cases s with
      | d d =>
        cases rs with
        | d q => exact (Post.val (b := v) Rr q).imp fun Q q => ⟨v, hv, q⟩
      | ol ds =>
        cases rs with
        | ol a b q =>
          have hlt : i < L.length := (List.getElem?_eq_some_iff.mp hL).1
          obtain ⟨e, r'⟩ := Rr.frz (L' := L.set i (some (.d (.list ds)))) a b (List.length_set ..) (fun j s' h' => by
            rcases set_get h' with ⟨rfl, hs⟩ | ⟨hj, hs⟩
            · cases Option.some.inj hs
              exact .inr ⟨_, hv, .d (.lst upd_same (q.up (upd_same_of (Rr.dF _ _ b).1)))⟩
            · exact .inl ⟨hs, fun q z => hj (by injection z with z _; omega)⟩)
          refine Post.imp (t := fun Q => Q _ H) ?_ fun Q q => ⟨_, hv, q⟩
          intro Q q'
          exact q' _ H _ _ e (fun _ => Same.refl H) r' (.lst upd_same (q.up e))
      | _ => trivial
/-- a name that is read for the last time: what it holds goes on -/
def gMove (i : Nat) : LS → R S := fun L => match L[i]? with
  | some (some (.d d)) => .ok (.d d) L
  | some (some (.scr _)) => .stuck
  | some (some s) => .ok s (L.set i none)
  | _ => .stuck
theorem je_move (i : Nat) {x : Str} {pos : Pos} (h : PE c.X (.Name x pos) (tVar i)) : JE c true (.Name x pos) (gMove i) := by
  refine ⟨_, h, fun G F ow σ H L Rr => ?_⟩
  unfold gMove
  cases hL : L[i]? with
  | none => trivial
  | some o =>
    cases o with
    | none => trivial
    | some s =>
      obtain ⟨v, hv, rs⟩ := Rr.sl i s hL
      have own : ∀ s, RS c.X.K c.ca F H ow [i + 1] s v → Post c G true F H σ (.ok s (L.set i none)) (BE c.ca c.X.K) (tVar i σ H) := fun s rs => by
        refine Post.imp (t := fun Q => Q v H) ?_ fun Q q => ⟨_, hv, q⟩
        intro Q q'
        refine q' v H F (reroot ow (i + 1) 0) (Same.refl F) (fun _ => Same.refl H) (Rr.moved ((List.length_set ..).trans Rr.len) (fun k s' h' => ?_) Rr.pin) (rs.go (Same.refl F) keeps_reroot)
        rcases set_get h' with ⟨rfl, hs⟩ | ⟨hj, hs⟩
        · cases hs
        · exact .inl ⟨hs, rfl, by omega⟩
      cases s with
      | d d => exact (Post.val (b := v) (B := BE c.ca c.X.K) Rr (by cases rs with | d q => exact .d q)).imp fun Q q => ⟨v, hv, q⟩
      | scr ns => trivial
      | ol ds => exact own _ rs
      | odK ds => exact own _ rs
      | odT ds => exact own _ rs
      | ob k fs => exact own _ rs
/-- a list that a name holds, looked at -/
def gPeek (i : Nat) : LS → R D := fun L => match L[i]? with
  | some (some (.d d)) => .ok d L
  | some (some (.ol ds)) => .ok (.list ds) L
  | some (some (.scr ns)) => .ok (.list (ns.map PyData.int)) L
  | _ => .stuck
theorem peek_bv {K : PySem.W.Frag} {ca : Nat → Addr} {F H : Hp} {ow : Addr → Option Path} {p : Path} {s : S} {v : V} (e : Same F H) (rs : RS K ca F H ow p s v) :
    match s with
    | .d d => BV K F H ow d v
    | .ol ds => BV K F H ow (.list ds) v
    | .scr ns => BV K F H ow (.list (ns.map PyData.int)) v
    | _ => True := by
  cases rs with
  | d q => exact .inl q
  | ol a b q => exact .inr ⟨_, _, _, rfl, rfl, .of a, q⟩
  | scr a => exact .inr ⟨_, _, _, rfl, rfl, sql_same e a, DqA.ints _⟩
  | odK a b q => trivial
  | odT a b q => trivial
  | ob a b q => trivial
theorem jv_var (i : Nat) {x : Str} {pos : Pos} (h : PE c.X (.Name x pos) (tVar i)) : JV c true (.Name x pos) (gPeek i) := by
  refine ⟨_, h, fun G F ow σ H L Rr => ?_⟩
  unfold gPeek
  cases hL : L[i]? with
  | none => trivial
  | some o =>
    cases o with
    | none => trivial
    | some s =>
      obtain ⟨v, hv, rs⟩ := Rr.sl i s hL
      have hb := peek_bv Rr.exF rs
      cases s with
      | d d => exact (Post.val (b := v) Rr hb).imp fun Q q => ⟨v, hv, q⟩
      | scr ns => exact (Post.val (b := v) Rr hb).imp fun Q q => ⟨v, hv, q⟩
      | ol ds => exact (Post.val (b := v) Rr hb).imp fun Q q => ⟨v, hv, q⟩
      | _ => trivial

/-! ### between the judgements -/
def gD (g : LS → R D) : LS → R S := fun L => (g L).bind fun d L1 => .ok (.d d) L1
theorem je_d {e : Expr} {g : LS → R D} (h : JD c n e g) : JE c n e (gD g) := by
  obtain ⟨t, ht, hg⟩ := h
  refine ⟨t, ht, fun G F ow σ H L Rr => ?_⟩
  have := (hg G F ow σ H L Rr).bind (n2 := true) (k := fun d L1 => .ok (.d d) L1) (B2 := BE c.ca c.X.K) (t2 := fun b H1 Q => Q b H1) fun a L1 b H1 F1 ow1 _ _ _ R1 q => Post.val (a := S.d a) (B := BE c.ca c.X.K) R1 (RS.d q)
  rw [Bool.and_true] at this
  exact this
theorem jv_d {e : Expr} {g : LS → R D} (h : JD c n e g) : JV c n e g := by
  obtain ⟨t, ht, hg⟩ := h
  refine ⟨t, ht, fun G F ow σ H L Rr => ?_⟩
  have p := hg G F ow σ H L Rr
  cases hr : g L with
  | stuck => trivial
  | err e L1 => rw [hr] at p; exact p
  | ok a L1 =>
    rw [hr] at p
    exact fun Q q => p Q fun b H' F' ow' e1 s1 R1 q1 => q b H' F' ow' e1 s1 R1 (.inl q1)
/-- what is made here is kept as data -/
def frS : S → LS → R D
  | .d d, L => .ok d L
  | .ol ds, L => .ok (.list ds) L
  | _, _ => .stuck
def gFz (g : LS → R S) : LS → R D := fun L => (g L).bind frS
theorem post_fz {G F H : Hp} {ow : Addr → Option Path} {σ : L2.St} {L : LS} {s : S} {v : V} (Rr : c.Rl G F ow σ H L) (rs : RS c.X.K c.ca F H ow [0] s v) : Post c G true F H σ (frS s L) (BD c.X.K) (fun Q => Q v H) := by
  cases s with
  | d d => exact Post.val Rr (by cases rs with | d q => exact q)
  | ol ds =>
    cases rs with
    | ol a b q =>
      obtain ⟨e, r'⟩ := Rr.frz (L' := L) a b rfl (fun j s' h' => .inl ⟨h', fun q z => by injection z with z _; omega⟩)
      intro Q q'
      exact q' _ H _ _ e (fun _ => Same.refl H) r' (.lst upd_same (q.up e))
  | odK _ => trivial
  | odT _ => trivial
  | ob _ _ => trivial
  | scr _ => trivial
theorem jd_fz {e : Expr} {g : LS → R S} (h : JE c n e g) : JD c n e (gFz g) := by
  obtain ⟨t, ht, hg⟩ := h
  refine ⟨t, ht, fun G F ow σ H L Rr => ?_⟩
  have := (hg G F ow σ H L Rr).bind (n2 := true) (k := frS) (B2 := BD c.X.K) (t2 := fun b H1 Q => Q b H1) fun a L1 b H1 F1 ow1 _ _ _ R1 q => post_fz R1 q
  rw [Bool.and_true] at this
  exact this

/-! ### new objects -/
def onAt (ow : Addr → Option Path) (l : Addr) (p : Path) : Addr → Option Path := fun a => if a = l then some p else ow a
theorem onAt_same (ow : Addr → Option Path) (l : Addr) (p : Path) : onAt ow l p l = some p := if_pos rfl
theorem onAt_ne {ow : Addr → Option Path} {l a : Addr} {p : Path} (h : a ≠ l) : onAt ow l p a = ow a := if_neg h
theorem ne_fresh {H : Hp} {a l : Addr} (h : H a ≠ none) (hl : H l = none) : a ≠ l := fun z => by
  subst z
  exact h hl
section
variable {K : PySem.W.Frag} {ca : Nat → Addr} {pn : List (Option V)} {G F H : Hp} {ow : Addr → Option Path} {σ : L2.St} {L : LS}
theorem Rl.keepsNew (r : Rl K ca pn G F ow σ H L) {l : Addr} {o : HO} {p q : Path} (hl : H l = none) : Keeps H (upd H l o) ow (onAt ow l p) q q := fun a w h => by
  have ha : a ≠ l := ne_fresh (r.dF a _ h).2.2 hl
  exact ⟨upd_ne ha, by rw [onAt_ne ha]; exact h⟩
/-- a new thing of one's own -/
theorem Rl.new (r : Rl K ca pn G F ow σ H L) {l : Addr} {o : HO} {p : Path} (hl : H l = none) : Same H (upd H l o) ∧ Rl K ca pn G F (onAt ow l p) σ (upd H l o) L := by
  have e : Same H (upd H l o) := upd_same_of hl
  have fN : F l = none := r.exF.free hl
  have gN : G l = none := r.exG.free hl
  refine ⟨e, r.exF.trans e, r.exG.trans e, fun a q h => ?_, r.dG, r.len, fun i s h => ?_, r.pin⟩
  · by_cases z : a = l
    · subst z
      exact ⟨fN, gN, by rw [upd_same]; exact fun z => nomatch z⟩
    · rw [onAt_ne z] at h
      obtain ⟨x, y, w⟩ := r.dF a q h
      exact ⟨x, y, by rw [upd_ne z]; exact w⟩
  · obtain ⟨v, q1, q2⟩ := r.sl i s h
    exact ⟨v, q1, q2.go (Same.refl F) (r.keepsNew hl)⟩
/-- a new thing that is data -/
theorem Rl.newF (r : Rl K ca pn G F ow σ H L) {l : Addr} {o : HO} (hl : H l = none) : Same F (upd F l o) ∧ Same H (upd H l o) ∧ Rl K ca pn G (upd F l o) ow σ (upd H l o) L := by
  have e : Same H (upd H l o) := upd_same_of hl
  have fN : F l = none := r.exF.free hl
  have gN : G l = none := r.exG.free hl
  refine ⟨upd_same_of fN, e, fun a u h => ?_, r.exG.trans e, fun a q h => ?_, fun a u h => ?_, r.len, fun i s h => ?_, r.pin⟩
  · by_cases z : a = l
    · subst z
      rw [upd_same] at h ⊢
      exact h
    · rw [upd_ne z] at h ⊢
      exact r.exF a u h
  · have ha : a ≠ l := ne_fresh (r.dF a _ h).2.2 hl
    obtain ⟨x, y, w⟩ := r.dF a q h
    exact ⟨by rw [upd_ne ha]; exact x, y, by rw [upd_ne ha]; exact w⟩
  · by_cases z : a = l
    · subst z
      exact gN
    · rw [upd_ne z] at h
      exact r.dG a u h
  · obtain ⟨v, q1, q2⟩ := r.sl i s h
    refine ⟨v, q1, q2.go (upd_same_of fN) fun a w h => ?_⟩
    exact ⟨upd_ne (ne_fresh (r.dF a _ h).2.2 hl), h⟩
end
theorem post_new {G F H : Hp} {ow : Addr → Option Path} {σ : L2.St} {L : LS} {vs : List V} {ds : List D} (Rr : c.Rl G F ow σ H L) (h : DqA c.X.K F vs ds) :
    Post c G true F H σ (.ok (.ol ds) L) (BE c.ca c.X.K) (fun Q => ∀ l, H l = none → Q (.ref l) (upd H l (.lst vs))) := by
  intro Q q l hl
  obtain ⟨e, r'⟩ := Rr.new (o := .lst vs) (p := [0]) hl
  exact q _ _ F _ (Same.refl F) (fun _ => e) r' (.ol upd_same (onAt_same ..) h)
theorem post_tup {G F H : Hp} {ow : Addr → Option Path} {σ : L2.St} {L : LS} {vs : List V} {ds : List D} (Rr : c.Rl G F ow σ H L) (h : DqA c.X.K F vs ds) :
    Post c G true F H σ (.ok (.tuple ds) L) (BD c.X.K) (fun Q => ∀ l, H l = none → Q (.ref l) (upd H l (.tup vs))) := by
  intro Q q l hl
  obtain ⟨e1, e, r'⟩ := Rr.newF (o := .tup vs) hl
  exact q _ _ _ ow e1 (fun _ => e) r' (.tup (.of upd_same) (h.up e1))

/-! ### argument lists, displays -/
def gNil : LS → R (List D) := fun L => .ok [] L
def gCons (a : LS → R D) (r : LS → R (List D)) : LS → R (List D) := fun L => (a L).bind fun d L1 => (r L1).bind fun ds L2 => .ok (d :: ds) L2
theorem ja_nil : JA c true [] gNil := ⟨_, pa_nil, fun G F ow σ H L Rr => Post.val Rr .nil⟩
theorem ja_cons {e : Expr} {es : List Expr} {a : LS → R D} {r : LS → R (List D)} (h1 : JD c n1 e a) (h2 : JA c n2 es r) (hs : starEach (e :: es) c.X.env = (false, eval e c.X.env) :: starEach es c.X.env := by rfl) : JA c (n1 && n2) (e :: es) (gCons a r) := by
  obtain ⟨t1, p1, q1⟩ := h1
  obtain ⟨t2, p2, q2⟩ := h2
  refine ⟨_, pa_cons p1 p2 hs, fun G F ow σ H L Rr => ?_⟩
  refine (q1 G F ow σ H L Rr).bind fun d L1 v H1 F1 ow1 _ _ _ R1 b1 => ?_
  have := (q2 G F1 ow1 σ H1 L1 R1).bind (n2 := true) (k := fun ds L2 => .ok (d :: ds) L2) (B2 := BA c.X.K) (t2 := fun vs H2 Q => Q (v :: vs) H2) fun ds L2 vs H2 F2 ow2 _ e2 _ R2 b2 => Post.val R2 (.cons (b1.up e2) b2)
  rw [Bool.and_true] at this
  exact this
def gLst (a : LS → R (List D)) : LS → R S := fun L => (a L).bind fun ds L1 => if ds.length ≤ sizeLine then .ok (.ol ds) L1 else .stuck
def gTup (a : LS → R (List D)) : LS → R D := fun L => (a L).bind fun ds L1 => if ds.length ≤ sizeLine then .ok (.tuple ds) L1 else .stuck
theorem Post.guard {α β : Type} {G F H : Hp} {σ : L2.St} {p : Prop} [Decidable p] {r : R α} {B : Hp → Hp → (Addr → Option Path) → α → β → Prop} {t : (β → Hp → Prop) → Prop} (h : p → Post c G n F H σ r B t) : Post c G n F H σ (if p then r else .stuck) B t := by
  by_cases hp : p
  · rw [if_pos hp]
    exact h hp
  · rw [if_neg hp]
    trivial
theorem je_lst {es : List Expr} {pos : Pos} {a : LS → R (List D)} (h : JA c n es a) : JE c n (.List es pos) (gLst a) := by
  obtain ⟨t, p, q⟩ := h
  refine ⟨_, pe_lst p, fun G F ow σ H L Rr => ?_⟩
  have := (q G F ow σ H L Rr).bind (n2 := true) (k := fun ds L1 => if ds.length ≤ sizeLine then R.ok (.ol ds) L1 else .stuck) (B2 := BE c.ca c.X.K) (t2 := fun vs H1 Q => vs.length ≤ sizeLine ∧ ∀ l, H1 l = none → Q (.ref l) (upd H1 l (.lst vs)))
    fun ds L1 vs H1 F1 ow1 _ _ _ R1 b1 => Post.guard fun hz => (post_new R1 b1).imp fun Q q => ⟨by rw [DqA.len b1]; exact hz, q⟩
  rw [Bool.and_true] at this
  exact this
theorem jd_tup {es : List Expr} {k : Nat} {pos : Pos} {a : LS → R (List D)} (h : JA c n es a) : JD c n (.Tuple es k pos) (gTup a) := by
  obtain ⟨t, p, q⟩ := h
  refine ⟨_, pe_tup p, fun G F ow σ H L Rr => ?_⟩
  have := (q G F ow σ H L Rr).bind (n2 := true) (k := fun ds L1 => if ds.length ≤ sizeLine then R.ok (.tuple ds) L1 else .stuck) (B2 := BD c.X.K) (t2 := fun vs H1 Q => vs.length ≤ sizeLine ∧ ∀ l, H1 l = none → Q (.ref l) (upd H1 l (.tup vs)))
    fun ds L1 vs H1 F1 ow1 _ _ _ R1 b1 => Post.guard fun hz => (post_tup R1 b1).imp fun Q q => ⟨by rw [DqA.len b1]; exact hz, q⟩
  rw [Bool.and_true] at this
  exact this
end
end VS

namespace VS
open PySem PySem.Spec PyProof.Rows L2

section
variable {c : Ct} {n n1 n2 n3 : Bool}
theorem Post.bind1 {α β γ δ : Type} {G F H : Hp} {σ : L2.St} {r : R α} {k : α → LS → R γ} {B1 : Hp → Hp → (Addr → Option Path) → α → β → Prop} {B2 : Hp → Hp → (Addr → Option Path) → γ → δ → Prop} {t1 : (β → Hp → Prop) → Prop} {t2 : β → Hp → (δ → Hp → Prop) → Prop}
    (h1 : Post c G n F H σ r B1 t1)
    (h2 : ∀ a L1 b H1 F1 ow1, r = .ok a L1 → Same F F1 → (n = true → Same H H1) → c.Rl G F1 ow1 σ H1 L1 → B1 F1 H1 ow1 a b → Post c G true F1 H1 σ (k a L1) B2 (t2 b H1)) :
    Post c G n F H σ (r.bind k) B2 (fun Q => t1 fun b H1 => t2 b H1 Q) := by
  have h := h1.bind h2
  rw [Bool.and_true] at h
  exact h

/-! ### operators -/
/-- an operation whose answer is a plain value -/
def Leaf2 (K : PySem.W.Frag) (r : R2) (f : D → D → Option D) : Prop :=
  ∀ (F H : Hp) (x y : V) (d e z : D), Same F H → Dq K F x d → Dq K F y e → f d e = some z → ∃ v, Dq K F v z ∧ ∀ Q : VK, Q v H → r x y H Q
/-- .. or a new list -/
def Leaf2S (K : PySem.W.Frag) (r : R2) (f : D → D → Option S) : Prop :=
  ∀ (F H : Hp) (x y : V) (d e : D) (z : S), Same F H → Dq K F x d → Dq K F y e → f d e = some z →
    (∃ d v, z = .d d ∧ Dq K F v d ∧ ∀ Q : VK, Q v H → r x y H Q) ∨ ∃ ds vs, z = .ol ds ∧ DqA K F vs ds ∧ ∀ Q : VK, (∀ l, H l = none → Q (.ref l) (upd H l (.lst vs))) → r x y H Q
def ofO {α : Type} (o : Option α) (L : LS) : R α := match o with
  | some a => .ok a L
  | none => .stuck
theorem ofO_some {α : Type} (a : α) (L : LS) : ofO (some a) L = .ok a L := rfl
theorem ofO_none {α : Type} (L : LS) : (ofO none L : R α) = .stuck := rfl
def gOp {α : Type} (f : D → D → Option α) (a b : LS → R D) : LS → R α := fun L => (a L).bind fun d L1 => (b L1).bind fun e L2 => ofO (f d e) L2
theorem jdg_op {r : R2} {f : D → D → Option D} (lf : Leaf2 c.X.K r f) {ga gb : LS → R D} {ta tb : TE} (ha : Jdg c n1 ga BD ta) (hb : Jdg c n2 gb BD tb) : Jdg c (n1 && n2) (gOp f ga gb) BD (tOp r ta tb) := by
  intro G F ow σ H L Rr
  refine (ha G F ow σ H L Rr).bind fun d L1 v H1 F1 ow1 _ _ _ R1 b1 => ?_
  refine (hb G F1 ow1 σ H1 L1 R1).bind1 fun e L2 u H2 F2 ow2 _ e2 _ R2 b2 => ?_
  cases hf : f d e with
  | none => trivial
  | some z =>
    obtain ⟨w, hw, q⟩ := lf F2 H2 v u d e z R2.exF (b1.up e2) b2 hf
    exact (Post.val R2 hw).imp q
theorem jdg_opS {r : R2} {f : D → D → Option S} (lf : Leaf2S c.X.K r f) {ga gb : LS → R D} {ta tb : TE} (ha : Jdg c n1 ga BD ta) (hb : Jdg c n2 gb BD tb) : Jdg c (n1 && n2) (gOp f ga gb) (BE c.ca) (tOp r ta tb) := by
  intro G F ow σ H L Rr
  refine (ha G F ow σ H L Rr).bind fun d L1 v H1 F1 ow1 _ _ _ R1 b1 => ?_
  refine (hb G F1 ow1 σ H1 L1 R1).bind1 fun e L2 u H2 F2 ow2 _ e2 _ R2 b2 => ?_
  cases hf : f d e with
  | none => trivial
  | some z =>
    rcases lf F2 H2 v u d e z R2.exF (b1.up e2) b2 hf with ⟨d', w, rfl, hw, q⟩ | ⟨ds, vs, rfl, hw, q⟩
    · exact (Post.val (a := S.d d') (B := BE c.ca c.X.K) R2 (RS.d hw)).imp q
    · exact (post_new R2 hw).imp q
theorem Leaf2S.or {K : PySem.W.Frag} {r r' : R2} {f f' : D → D → Option S} (h : Leaf2S K r f) (h' : Leaf2S K r' f') : Leaf2S K (fun x y H Q => r x y H Q ∨ r' x y H Q) (fun d e => (f d e).orElse fun _ => f' d e) := by
  intro F H x y d e z s hx hy hf
  have hf : (f d e).orElse (fun _ => f' d e) = some z := hf
  cases h1 : f d e with
  | some w =>
    rw [h1] at hf
    rcases h F H x y d e w s hx hy h1 with ⟨a, b, p, q, k⟩ | ⟨a, b, p, q, k⟩
    · cases hf; exact .inl ⟨a, b, p, q, fun Q z => .inl (k Q z)⟩
    · cases hf; exact .inr ⟨a, b, p, q, fun Q z => .inl (k Q z)⟩
  | none =>
    rw [h1] at hf
    have h2 : f' d e = some z := hf
    rcases h' F H x y d e z s hx hy h2 with ⟨a, b, p, q, k⟩ | ⟨a, b, p, q, k⟩
    · exact .inl ⟨a, b, p, q, fun Q z => .inr (k Q z)⟩
    · exact .inr ⟨a, b, p, q, fun Q z => .inr (k Q z)⟩
/-- ints alone -/
def dInt2 (C : Int → Int → Bool) (g : Int → Int → D) : D → D → Option D
  | .int i, .int j => if C i j then some (g i j) else none
  | _, _ => none
theorem leaf_int {K : PySem.W.Frag} {r : R2} {C : Int → Int → Bool} {g : Int → Int → D} {gv : Int → Int → V} (hr : ∀ (i j : Int) (H : Hp) (Q : VK), C i j = true → Q (gv i j) H → r (.int i) (.int j) H Q) (hg : ∀ i j F, Dq K F (gv i j) (g i j)) : Leaf2 K r (dInt2 C g) := by
  intro F H x y d e z _ hx hy hf
  cases hx with
  | int i =>
    cases hy with
    | int j =>
      by_cases hC : C i j = true
      · have hf' : some (g i j) = some z := by
          have : dInt2 C g (.int i) (.int j) = some (g i j) := if_pos hC
          rw [this] at hf
          exact hf
        cases hf'
        exact ⟨_, hg i j F, fun Q q => hr i j H Q hC q⟩
      · have : dInt2 C g (.int i) (.int j) = none := if_neg hC
        rw [this] at hf
        cases hf
    | _ => cases hf
  | _ => cases hf
abbrev yes2 : Int → Int → Bool := fun _ _ => true
def mulOk (i j : Int) : Bool := decide ((-(2 ^ 64) < i ∧ i < 2 ^ 64) ∨ (-(2 ^ 64) < j ∧ j < 2 ^ 64))
def divOk (_ j : Int) : Bool := decide (0 < j ∧ j < 1073741824)
def modOk (_ j : Int) : Bool := decide (0 < j)
def powOk (i j : Int) : Bool := decide (0 ≤ j ∧ j ≤ 1000000 ∧ i.natAbs < 2 ^ 64)
theorem mulOk_to {i j : Int} (h : mulOk i j = true) : CMul i j := by
  have h' := of_decide_eq_true h
  exact h'
theorem divOk_to {i j : Int} (h : divOk i j = true) : CDiv i j := by
  have h' := of_decide_eq_true h
  exact h'
theorem powOk_to {i j : Int} (h : powOk i j = true) : CPow i j := by
  have h' := of_decide_eq_true h
  exact h'
def dSub : D → D → Option D := dInt2 yes2 fun i j => .int (i - j)
def dMod : D → D → Option D := dInt2 modOk fun i j => .int (i % j)
def dDiv : D → D → Option D := dInt2 divOk fun i j => .int (i / j)
def dPow : D → D → Option D := dInt2 powOk fun i j => .int (i ^ j.toNat)
def dLift (f : D → D → Option D) : D → D → Option S := fun d e => (f d e).map S.d
theorem Leaf2.lift {K : PySem.W.Frag} {r : R2} {f : D → D → Option D} (h : Leaf2 K r f) : Leaf2S K r (dLift f) := by
  intro F H x y d e z s hx hy hf
  obtain ⟨w, hw, e1⟩ := Option.map_eq_some_iff.mp hf
  obtain ⟨v, hv, q⟩ := h F H x y d e w s hx hy hw
  exact .inl ⟨w, v, e1.symm, hv, q⟩
def dAddI : D → D → Option D := dInt2 yes2 fun i j => .int (i + j)
def dAddT : D → D → Option D
  | .str x, .str y => if x.length + y.length ≤ sizeLine then some (.str (x ++ y)) else none
  | _, _ => none
def dAddL : D → D → Option S
  | .list xs, .list ys => if xs.length + ys.length ≤ sizeLine then some (.ol (xs ++ ys)) else none
  | _, _ => none
def dAdd : D → D → Option S := fun d e => (dLift dAddI d e).orElse fun _ => (dLift dAddT d e).orElse fun _ => dAddL d e
theorem dAdd_int (i j : Int) : dAdd (.int i) (.int j) = some (.d (.int (i + j))) := rfl
theorem dAdd_str (x y : Str) : dAdd (.str x) (.str y) = if x.length + y.length ≤ sizeLine then some (.d (.str (x ++ y))) else none := by
  show ((dAddT (.str x) (.str y)).map S.d).orElse _ = _
  unfold dAddT
  by_cases h : x.length + y.length ≤ sizeLine
  · simp [h]
  · simp [h, dAddL]
theorem dAdd_list (x y : List D) : dAdd (.list x) (.list y) = if x.length + y.length ≤ sizeLine then some (.ol (x ++ y)) else none := rfl
def dMulI : D → D → Option D := dInt2 mulOk fun i j => .int (i * j)
def repOk (n : Nat) (k : Int) : Bool := decide (-(2 ^ 63) ≤ k ∧ k < 2 ^ 63 ∧ n * k.toNat ≤ sizeLine)
def dMulL : D → D → Option S
  | .list xs, .int k => if repOk xs.length k then some (.ol (List.replicate k.toNat xs).flatten) else none
  | _, _ => none
def dMul : D → D → Option S := fun d e => (dLift dMulI d e).orElse fun _ => dMulL d e
theorem leaf_addI {K : PySem.W.Frag} : Leaf2 K (rI0 fun i j => .int (i + j)) dAddI := leaf_int (gv := fun i j => .int (i + j)) (fun i j H Q _ q => ⟨i, j, rfl, rfl, q⟩) fun _ _ _ => .int _
theorem leaf_addT {K : PySem.W.Frag} : Leaf2 K (fun x y H Q => ∃ i j, x = .str i ∧ y = .str j ∧ i.length + j.length ≤ sizeLine ∧ Q (.str (i ++ j)) H) dAddT := by
  intro F H x y d e z _ hx hy hf
  cases hx with
  | str a =>
    cases hy with
    | str b =>
      by_cases h : a.length + b.length ≤ sizeLine
      · have hz : some (PyData.str (a ++ b)) = some z := (if_pos h).symm.trans hf
        cases hz
        exact ⟨_, .str _, fun Q q => ⟨a, b, rfl, rfl, h, q⟩⟩
      · have hz : none = some z := (if_neg h).symm.trans hf
        cases hz
    | _ => cases hf
  | _ => cases hf
theorem leaf_addL {K : PySem.W.Frag} : Leaf2S K rCat dAddL := by
  intro F H x y d e z s hx hy hf
  cases hx with
  | lst a1 a2 =>
    cases hy with
    | lst b1 b2 =>
      rename_i l xs ds l' ys es
      by_cases h : ds.length + es.length ≤ sizeLine
      · have hz : some (S.ol (ds ++ es)) = some z := (if_pos h).symm.trans hf
        cases hz
        exact .inr ⟨_, xs ++ ys, rfl, a2.append b2, fun Q q => ⟨l, l', xs, ys, rfl, rfl, s _ _ a1, s _ _ b1, by rw [a2.len, b2.len]; exact h, q⟩⟩
      · have hz : none = some z := (if_neg h).symm.trans hf
        cases hz
    | _ => cases hf
  | _ => cases hf
theorem DqA.flat {K : PySem.W.Frag} {F : Hp} {vs : List V} {ds : List D} (h : DqA K F vs ds) : ∀ k : Nat, DqA K F (List.replicate k vs).flatten (List.replicate k ds).flatten
  | 0 => .nil
  | k + 1 => by
    rw [List.replicate_succ, List.replicate_succ, List.flatten_cons, List.flatten_cons]
    exact h.append (h.flat k)
theorem leaf_mulL {K : PySem.W.Frag} : Leaf2S K rRep dMulL := by
  intro F H x y d e z s hx hy hf
  cases hx with
  | lst a1 a2 =>
    cases hy with
    | int k =>
      rename_i l xs ds
      by_cases h : repOk ds.length k = true
      · have hz : some (S.ol (List.replicate k.toNat ds).flatten) = some z := (if_pos h).symm.trans hf
        cases hz
        obtain ⟨h1, h2, h3⟩ := of_decide_eq_true h
        exact .inr ⟨_, _, rfl, a2.flat _, fun Q q => ⟨l, k, xs, rfl, rfl, s _ _ a1, h1, h2, by rw [a2.len]; exact h3, q⟩⟩
      · have hz : none = some z := (if_neg h).symm.trans hf
        cases hz
    | _ => cases hf
  | _ => cases hf
variable {a b : Expr} {ga gb : LS → R D} {pos : Pos}
theorem je_add (ha : JD c n1 a ga) (hb : JD c n2 b gb) : JE c (n1 && n2) (.BinOp a .Add b pos) (gOp dAdd ga gb) := by
  obtain ⟨ta, p1, q1⟩ := ha
  obtain ⟨tb, p2, q2⟩ := hb
  exact ⟨_, pe_op (op_add.or (op_add_str.or op_cat)) p1 p2, jdg_opS (leaf_addI.lift.or (leaf_addT.lift.or leaf_addL)) q1 q2⟩
theorem je_mul (ha : JD c n1 a ga) (hb : JD c n2 b gb) : JE c (n1 && n2) (.BinOp a .Mult b pos) (gOp dMul ga gb) := by
  obtain ⟨ta, p1, q1⟩ := ha
  obtain ⟨tb, p2, q2⟩ := hb
  exact ⟨_, pe_op (op_mul.or op_rep) p1 p2, jdg_opS ((leaf_int (gv := fun i j => .int (i * j)) (fun i j H Q hc q => ⟨i, j, rfl, rfl, mulOk_to hc, q⟩) fun _ _ _ => .int _ : Leaf2 c.X.K (rI CMul fun i j => .int (i * j)) dMulI).lift.or leaf_mulL) q1 q2⟩
theorem jd_bin {op : Operator} {r : R2} {f : D → D → Option D} (ho : OpR c.X (binaryOp op) r) (lf : Leaf2 c.X.K r f) (ha : JD c n1 a ga) (hb : JD c n2 b gb) : JD c (n1 && n2) (.BinOp a op b pos) (gOp f ga gb) := by
  obtain ⟨ta, p1, q1⟩ := ha
  obtain ⟨tb, p2, q2⟩ := hb
  exact ⟨_, pe_op ho p1 p2, jdg_op lf q1 q2⟩
theorem jd_sub (ha : JD c n1 a ga) (hb : JD c n2 b gb) : JD c (n1 && n2) (.BinOp a .Sub b pos) (gOp dSub ga gb) :=
  jd_bin op_sub (leaf_int (gv := fun i j => .int (i - j)) (fun i j H Q _ q => ⟨i, j, rfl, rfl, q⟩) fun _ _ _ => .int _) ha hb
theorem jd_mod (ha : JD c n1 a ga) (hb : JD c n2 b gb) : JD c (n1 && n2) (.BinOp a .Mod b pos) (gOp dMod ga gb) :=
  jd_bin op_mod (leaf_int (gv := fun i j => .int (i % j)) (fun i j H Q hc q => ⟨i, j, rfl, rfl, of_decide_eq_true hc, q⟩) fun _ _ _ => .int _) ha hb
theorem jd_div (ha : JD c n1 a ga) (hb : JD c n2 b gb) : JD c (n1 && n2) (.BinOp a .FloorDiv b pos) (gOp dDiv ga gb) :=
  jd_bin op_fdiv (leaf_int (gv := fun i j => .int (i / j)) (fun i j H Q hc q => ⟨i, j, rfl, rfl, divOk_to hc, q⟩) fun _ _ _ => .int _) ha hb
theorem jd_pow (ha : JD c n1 a ga) (hb : JD c n2 b gb) : JD c (n1 && n2) (.BinOp a .Pow b pos) (gOp dPow ga gb) :=
  jd_bin op_pow (leaf_int (gv := fun i j => .int (i ^ j.toNat)) (fun i j H Q hc q => ⟨i, j, rfl, rfl, powOk_to hc, q⟩) fun _ _ _ => .int _) ha hb
def dNeg : D → Option D
  | .int i => some (.int (-i))
  | _ => none
def gUn {α : Type} (f : D → Option α) (a : LS → R D) : LS → R α := fun L => (a L).bind fun d L1 => ofO (f d) L1
theorem jd_neg (ha : JD c n a ga) : JD c n (.UnaryOp .USub a pos) (gUn dNeg ga) := by
  obtain ⟨ta, p1, q1⟩ := ha
  refine ⟨_, pe_un un_neg p1, fun G F ow σ H L Rr => (q1 G F ow σ H L Rr).bind1 fun d L1 v H1 F1 ow1 _ _ _ R1 b1 => ?_⟩
  cases b1 with
  | int i => exact (Post.val (a := PyData.int (-i)) (B := BD c.X.K) R1 (Dq.int _)).imp fun Q q => ⟨i, rfl, q⟩
  | _ => trivial

/-! ### comparisons -/
def dCmp (f : Int → Int → Bool) (g : Str → Str → Bool) : D → D → Option D
  | .int i, .int j => some (.bool (f i j))
  | .str x, .str y => some (.bool (g x y))
  | _, _ => none
def dLt : D → D → Option D := dCmp (fun i j => decide (i < j)) fun x y => decide (x.cps.toList < y.cps.toList)
def dLe : D → D → Option D := dCmp (fun i j => decide (i ≤ j)) fun x y => !decide (y.cps.toList < x.cps.toList)
def dGt : D → D → Option D := dCmp (fun i j => decide (j < i)) fun x y => decide (y.cps.toList < x.cps.toList)
def dGe : D → D → Option D := dCmp (fun i j => decide (j ≤ i)) fun x y => !decide (x.cps.toList < y.cps.toList)
theorem leaf_cmp {K : PySem.W.Frag} {f : Int → Int → Bool} {g : Str → Str → Bool} : Leaf2 K (fun x y H Q => rI0 (fun i j => .bl (f i j)) x y H Q ∨ ∃ i j, x = .str i ∧ y = .str j ∧ Q (.bl (g i j)) H) (dCmp f g) := by
  intro F H x y d e z _ hx hy hf
  cases hx with
  | int i =>
    cases hy with
    | int j =>
      cases hf
      exact ⟨_, .bl _, fun Q q => .inl ⟨i, j, rfl, rfl, q⟩⟩
    | _ => cases hf
  | str i =>
    cases hy with
    | str j =>
      cases hf
      exact ⟨_, .bl _, fun Q q => .inr ⟨i, j, rfl, rfl, q⟩⟩
    | _ => cases hf
  | _ => cases hf
/-- == of data: plain things, or all that can be laid -/
def scalD : D → D → Bool
  | .none, .none => true
  | .none, .int _ => true
  | .int _, .none => true
  | .none, .bool _ => true
  | .bool _, .none => true
  | .none, .str _ => true
  | .str _, .none => true
  | .int _, .int _ => true
  | .bool _, .bool _ => true
  | .str _, .str _ => true
  | .int _, .str _ => true
  | .str _, .int _ => true
  | .bool _, .str _ => true
  | .str _, .bool _ => true
  | _, _ => false
def eqOk (d e : D) : Prop := scalD d e = true ∨ (SeqAt.shaped d = true ∧ SeqAt.shaped e = true)
instance (d e : D) : Decidable (eqOk d e) := inferInstanceAs (Decidable (_ ∨ _))
def dEq : D → D → Option D := fun d e => if eqOk d e then some (.bool (d.eqv e)) else none
def dNe : D → D → Option D := fun d e => if eqOk d e then some (.bool (!d.eqv e)) else none
theorem scal_of {K : PySem.W.Frag} {F : Hp} {x y : V} {d e : D} (hx : Dq K F x d) (hy : Dq K F y e) (h : scalD d e = true) : scal x y = true ∧ d.eqv e = decide (x = y) := by
  cases hx <;> cases hy <;> first
    | (exfalso; exact Bool.noConfusion h)
    | (refine ⟨rfl, ?_⟩; simp only [PyData.eqv]; first | (symm; simp; done) | (rw [Bool.beq_eq_decide_eq]; apply decide_eq_decide.mpr; constructor; (intro z; rw [z]); (intro z; injection z)))
theorem leaf_eq {K : PySem.W.Frag} : Leaf2 K (fun x y H Q => rEq x y H Q ∨ rEqD K x y H Q) dEq := by
  intro F H x y d e z s hx hy hf
  unfold dEq at hf
  by_cases h : eqOk d e
  · rw [if_pos h] at hf
    cases hf
    rcases h with h | h
    · obtain ⟨h1, h2⟩ := scal_of hx hy h
      rw [h2]
      exact ⟨_, .bl _, fun Q q => .inl ⟨h1, q⟩⟩
    · exact ⟨_, .bl _, fun Q q => .inr ⟨d, e, (hx.up s).dp, (hy.up s).dp, h.1, h.2, q⟩⟩
  · rw [if_neg h] at hf
    cases hf
theorem leaf_ne {K : PySem.W.Frag} : Leaf2 K (fun x y H Q => rNe x y H Q ∨ rNeD K x y H Q) dNe := by
  intro F H x y d e z s hx hy hf
  unfold dNe at hf
  by_cases h : eqOk d e
  · rw [if_pos h] at hf
    cases hf
    rcases h with h | h
    · obtain ⟨h1, h2⟩ := scal_of hx hy h
      rw [h2]
      exact ⟨_, .bl _, fun Q q => .inl ⟨h1, q⟩⟩
    · exact ⟨_, .bl _, fun Q q => .inr ⟨d, e, (hx.up s).dp, (hy.up s).dp, h.1, h.2, q⟩⟩
  · rw [if_neg h] at hf
    cases hf
/-- is, is not: with None, of two bools -/
def dIs : D → D → Option D
  | .bool a, .bool b => some (.bool (decide (a = b)))
  | .none, .none => some (.bool true)
  | _, .none => some (.bool false)
  | _, _ => none
def dIsN : D → D → Option D
  | .bool a, .bool b => some (.bool (!decide (a = b)))
  | .none, .none => some (.bool false)
  | _, .none => some (.bool true)
  | _, _ => none
theorem leaf_is {K : PySem.W.Frag} : Leaf2 K (fun x y H Q => (y = .non ∧ Q (.bl (decide (x = .non))) H) ∨ rIsB x y H Q) dIs := by
  intro F H x y d e z s hx hy hf
  cases hy with
  | non => cases hx <;> (cases hf; exact ⟨_, .bl _, fun Q q => .inl ⟨rfl, q⟩⟩)
  | bl b =>
    cases hx with
    | bl a =>
      cases hf
      exact ⟨_, .bl _, fun Q q => .inr ⟨a, b, rfl, rfl, q⟩⟩
    | _ => cases hf
  | _ => cases hx <;> cases hf
theorem leaf_isN {K : PySem.W.Frag} : Leaf2 K (fun x y H Q => (y = .non ∧ Q (.bl (!decide (x = .non))) H) ∨ rNotB x y H Q) dIsN := by
  intro F H x y d e z s hx hy hf
  cases hy with
  | non => cases hx <;> (cases hf; exact ⟨_, .bl _, fun Q q => .inl ⟨rfl, q⟩⟩)
  | bl b =>
    cases hx with
    | bl a =>
      cases hf
      exact ⟨_, .bl _, fun Q q => .inr ⟨a, b, rfl, rfl, q⟩⟩
    | _ => cases hf
  | _ => cases hx <;> cases hf
/-- in: a list; a tuple of plain things; one sign in a text -/
def flatD : D → Bool
  | .none => true
  | .bool _ => true
  | .int _ => true
  | .str _ => true
  | _ => false
def inOk (d : D) (ds : List D) : Prop := (flatD d = true ∧ ds.all flatD = true) ∨ (SeqAt.shaped d = true ∧ SeqAt.shaped (.list ds) = true)
instance (d : D) (ds : List D) : Decidable (inOk d ds) := inferInstanceAs (Decidable (_ ∨ _))
def dInB (d e : D) : Option Bool := match e with
  | .list ds => if inOk d ds then some (ds.any fun z => z.eqv d) else none
  | .tuple ds => if flatD d = true ∧ ds.all flatD = true then some (ds.any fun z => z.eqv d) else none
  | .str y => (match d with
    | .str x => if x.length = 1 then some (decide (x.cps.getD 0 0 ∈ y.cps.toList)) else none
    | _ => none)
  | _ => none
def dIn : D → D → Option D := fun d e => (dInB d e).map .bool
def dNotIn : D → D → Option D := fun d e => (dInB d e).map fun b => .bool (!b)
theorem flat_of {K : PySem.W.Frag} {F : Hp} {v : V} {d : D} (h : Dq K F v d) (hd : flatD d = true) : flatV v = true := by
  cases h <;> first | rfl | cases hd
theorem flats_of {K : PySem.W.Frag} {F : Hp} : ∀ {vs : List V} {ds : List D}, DqA K F vs ds → ds.all flatD = true → vs.all flatV = true
  | _, _, .nil, _ => rfl
  | _, _, .cons a b, h => by
    rw [List.all_cons, Bool.and_eq_true] at h ⊢
    exact ⟨flat_of a h.1, flats_of b h.2⟩
theorem eqV_eqv {K : PySem.W.Frag} {F : Hp} {v u : V} {d e : D} (h : Dq K F v d) (h' : Dq K F u e) (hd : flatD d = true) (he : flatD e = true) : eqV v u = d.eqv e := by
  cases h <;> cases h' <;> first
    | rfl
    | (exfalso; exact Bool.noConfusion hd)
    | (exfalso; exact Bool.noConfusion he)
    | simp only [eqV, PyData.eqv]
theorem inV_any {K : PySem.W.Frag} {F : Hp} {v : V} {d : D} (h : Dq K F v d) (hd : flatD d = true) : ∀ {vs : List V} {ds : List D}, DqA K F vs ds → ds.all flatD = true → inV v vs = ds.any fun z => z.eqv d
  | _, _, .nil, _ => rfl
  | _, _, .cons a b, hh => by
    rw [List.all_cons, Bool.and_eq_true] at hh
    have := inV_any h hd b hh.2
    unfold inV at this ⊢
    rw [List.any_cons, List.any_cons, this, eqV_eqv a h hh.1 hd]
theorem one_sign {x : Str} (h : x.length = 1) : x = ⟨#[x.cps.getD 0 0]⟩ := by
  obtain ⟨cps⟩ := x
  have h' : cps.size = 1 := h
  congr 1
  apply Array.ext
  · simp [h']
  · intro i h1 h2
    have : i = 0 := by
      simp at h2
      omega
    subst this
    simp [Array.getD, h']
theorem in_core {K : PySem.W.Frag} {F H : Hp} {x y : V} {d e : D} {z : Bool} (s : Same F H) (hx : Dq K F x d) (hy : Dq K F y e) (hf : dInB d e = some z) (neg : Bool) (Q : VK) (q : Q (.bl (if neg then !z else z)) H) :
    (∃ (c : Nat) (w : Str), x = .str ⟨#[c]⟩ ∧ y = .str w ∧ Q (.bl (if neg then !decide (c ∈ w.cps.toList) else decide (c ∈ w.cps.toList))) H) ∨
      (∃ d ds, Dp K H x d ∧ Dp K H y (.list ds) ∧ SeqAt.shaped d = true ∧ SeqAt.shaped (.list ds) = true ∧ Q (.bl (if neg then !ds.any (fun z => PyData.eqv z d) else ds.any fun z => PyData.eqv z d)) H) ∨ rIn K neg x y H Q := by
  cases hy with
  | lst a1 a2 =>
    rename_i l vs ds
    have hf : (if inOk d ds then some (ds.any fun z => z.eqv d) else none) = some z := hf
    by_cases h : inOk d ds
    · rw [if_pos h] at hf
      cases hf
      rcases h with h | h
      · rw [← inV_any hx h.1 a2 h.2] at q
        exact .inr (.inr ⟨l, vs, rfl, .inl (.of (s _ _ a1)), flat_of hx h.1, flats_of a2 h.2, q⟩)
      · exact .inr (.inl ⟨d, ds, (hx.up s).dp, ((Dq.lst a1 a2).up s).dp, h.1, h.2, q⟩)
    · rw [if_neg h] at hf
      cases hf
  | tup a1 a2 =>
    rename_i l vs ds
    have hf : (if flatD d = true ∧ ds.all flatD = true then some (ds.any fun z => z.eqv d) else none) = some z := hf
    by_cases h : flatD d = true ∧ ds.all flatD = true
    · rw [if_pos h] at hf
      cases hf
      rw [← inV_any hx h.1 a2 h.2] at q
      exact .inr (.inr ⟨l, vs, rfl, .inr (sqt_same s a1), flat_of hx h.1, flats_of a2 h.2, q⟩)
    · rw [if_neg h] at hf
      cases hf
  | str w =>
    cases hx with
    | str x =>
      have hf' : (if x.length = 1 then some (decide (x.cps.getD 0 0 ∈ w.cps.toList)) else none) = some z := hf
      by_cases h : x.length = 1
      · rw [if_pos h] at hf'
        cases hf'
        exact .inl ⟨_, w, by rw [← one_sign h], rfl, q⟩
      · rw [if_neg h] at hf'
        cases hf'
    | _ => cases hf
  | _ => cases hx <;> cases hf
def rInAny (K : PySem.W.Frag) : R2 := fun x y H Q => (∃ (c : Nat) (z : Str), x = .str ⟨#[c]⟩ ∧ y = .str z ∧ Q (.bl (decide (c ∈ z.cps.toList))) H) ∨ rInD K x y H Q ∨ rIn K false x y H Q
def rNotInAny (K : PySem.W.Frag) : R2 := fun x y H Q => (∃ (c : Nat) (z : Str), x = .str ⟨#[c]⟩ ∧ y = .str z ∧ Q (.bl (!decide (c ∈ z.cps.toList))) H) ∨ rNotInD K x y H Q ∨ rIn K true x y H Q
theorem leaf_in {K : PySem.W.Frag} : Leaf2 K (rInAny K) dIn := by
  intro F H x y d e z s hx hy hf
  obtain ⟨b, hb, rfl⟩ := Option.map_eq_some_iff.mp hf
  exact ⟨_, .bl b, fun Q q => in_core s hx hy hb false Q q⟩
theorem leaf_notIn {K : PySem.W.Frag} : Leaf2 K (rNotInAny K) dNotIn := by
  intro F H x y d e z s hx hy hf
  obtain ⟨b, hb, rfl⟩ := Option.map_eq_some_iff.mp hf
  exact ⟨_, .bl (!b), fun Q q => in_core s hx hy hb true Q q⟩
/-- which comparison is what -/
def CmpF (c : Ct) (op : CmpOp) (f : D → D → Option D) : Prop := ∃ r : R2, OpR c.X (compareOp op) r ∧ Leaf2 c.X.K r f
variable {k : Nat}
theorem cm_lt : CmpF c .Lt dLt := ⟨_, op_lt.or op_lt_str, leaf_cmp⟩
theorem cm_le : CmpF c .LtE dLe := ⟨_, op_le.or op_le_str, leaf_cmp⟩
theorem cm_gt : CmpF c .Gt dGt := ⟨_, op_gt.or op_gt_str, leaf_cmp⟩
theorem cm_ge : CmpF c .GtE dGe := ⟨_, op_ge.or op_ge_str, leaf_cmp⟩
theorem cm_eq (hr : Room k c.X.A) : CmpF c .Eq dEq := ⟨_, op_eq.or (op_eqD hr.units), leaf_eq⟩
theorem cm_ne (hr : Room k c.X.A) : CmpF c .NotEq dNe := ⟨_, op_ne.or (op_neD hr.units), leaf_ne⟩
theorem cm_is : CmpF c .Is dIs := ⟨_, op_isN.or op_isBl, leaf_is⟩
theorem cm_isN : CmpF c .IsNot dIsN := ⟨_, op_notN.or op_notBl, leaf_isN⟩
theorem room65 {A : Around} (hr : Room k A) : A.units + 65 < cLine := by have := hr.un; omega
theorem cm_in (hr : Room k c.X.A) : CmpF c .In dIn := ⟨_, op_in_sign.or ((op_inD (room65 hr)).or op_in_seq), leaf_in⟩
theorem cm_notIn (hr : Room k c.X.A) : CmpF c .NotIn dNotIn := ⟨_, op_notIn_sign.or ((op_notInD (room65 hr)).or op_notIn_seq), leaf_notIn⟩
theorem jd_cmp {op : CmpOp} {f : D → D → Option D} (h : CmpF c op f) (ha : JD c n1 a ga) (hb : JD c n2 b gb) (hm : behindInMarks op b = false) : JD c (n1 && n2) (.Compare a [op] [b] pos) (gOp f ga gb) := by
  obtain ⟨ta, p1, q1⟩ := ha
  obtain ⟨tb, p2, q2⟩ := hb
  obtain ⟨r, h1, h2⟩ := h
  exact ⟨_, pe_cmpR h1 p1 p2 hm, jdg_op h2 q1 q2⟩
/-- a value that is True or False, as a test -/
def asB : D → LS → R Bool
  | .bool b, L => .ok b L
  | _, _ => .stuck
def gB (g : LS → R D) : LS → R Bool := fun L => (g L).bind asB
theorem jdg_B {g : LS → R D} {t : TE} (h : Jdg c n g BD t) : Jdg c n (gB g) BB (fun σ H Q => t σ H fun x H' => ∃ k, x = .bl k ∧ Q k H') := by
  intro G F ow σ H L Rr
  refine (h G F ow σ H L Rr).bind1 (t2 := fun x H' Q => ∃ k, x = .bl k ∧ Q k H') fun d L1 v H1 F1 ow1 _ _ _ R1 b1 => ?_
  cases b1 with
  | bl b => exact (Post.val (a := b) (b := b) (B := BB c.X.K) R1 rfl).imp fun Q q => ⟨b, rfl, q⟩
  | _ => trivial
theorem jt_cmp {op : CmpOp} {f : D → D → Option D} (h : CmpF c op f) (ha : JD c n1 a ga) (hb : JD c n2 b gb) (hm : behindInMarks op b = false) : JT c (n1 && n2) (.Compare a [op] [b] pos) (gB (gOp f ga gb)) := by
  obtain ⟨ta, p1, q1⟩ := ha
  obtain ⟨tb, p2, q2⟩ := hb
  obtain ⟨r, h1, h2⟩ := h
  exact ⟨_, pt_cmpR h1 p1 p2 hm, jdg_B (jdg_op h2 q1 q2)⟩
theorem jt_val {e : Expr} {g : LS → R D} (h : JD c n e g) (he : ∀ whole, isTrue e c.X.env whole = (do let v ← whole; standAt e.pos; holding [v] (truthy v)) := by intro _; rfl) : JT c n e (gB g) := by
  obtain ⟨t, p, q⟩ := h
  exact ⟨_, pt_val p he, jdg_B q⟩
variable {g1 g2 : LS → R Bool} {rest : List Expr}
def gAnd (a b : LS → R Bool) : LS → R Bool := fun L => (a L).bind fun x L1 => if x = true then b L1 else .ok false L1
def gOr (a b : LS → R Bool) : LS → R Bool := fun L => (a L).bind fun x L1 => if x = true then .ok true L1 else b L1
def gNot (a : LS → R Bool) : LS → R Bool := fun L => (a L).bind fun x L1 => .ok (!x) L1
theorem jw_and1 (ha : JT c n a g1) : JW c n (.BoolOp .And [a] pos) g1 := by
  obtain ⟨t, p, q⟩ := ha
  exact ⟨_, pw_and1 p, q⟩
theorem jw_or1 (ha : JT c n a g1) : JW c n (.BoolOp .Or [a] pos) g1 := by
  obtain ⟨t, p, q⟩ := ha
  exact ⟨_, pw_or1 p, q⟩
theorem jw_and (ha : JT c n1 a g1) (hb : JW c n2 (.BoolOp .And (b :: rest) pos) g2) : JW c (n1 && n2) (.BoolOp .And (a :: b :: rest) pos) (gAnd g1 g2) := by
  obtain ⟨t, p, q⟩ := ha
  obtain ⟨t', p', q'⟩ := hb
  refine ⟨_, pw_and p p', fun G F ow σ H L Rr => (q G F ow σ H L Rr).bind (t2 := fun x H1 Q => if x = true then t' σ H1 Q else Q false H1) fun x L1 v H1 F1 ow1 _ _ _ R1 b1 => ?_⟩
  cases b1
  cases x with
  | true => exact q' G F1 ow1 σ H1 L1 R1
  | false => exact Post.val (b := false) (B := BB c.X.K) R1 rfl
theorem jw_or (ha : JT c n1 a g1) (hb : JW c n2 (.BoolOp .Or (b :: rest) pos) g2) : JW c (n1 && n2) (.BoolOp .Or (a :: b :: rest) pos) (gOr g1 g2) := by
  obtain ⟨t, p, q⟩ := ha
  obtain ⟨t', p', q'⟩ := hb
  refine ⟨_, pw_or p p', fun G F ow σ H L Rr => (q G F ow σ H L Rr).bind (t2 := fun x H1 Q => if x = true then Q true H1 else t' σ H1 Q) fun x L1 v H1 F1 ow1 _ _ _ R1 b1 => ?_⟩
  cases b1
  cases x with
  | false => exact q' G F1 ow1 σ H1 L1 R1
  | true => exact Post.val (b := true) (B := BB c.X.K) R1 rfl
theorem jt_w {e : Expr} (h : JW c n e g1) : JT c n e g1 := by
  obtain ⟨t, p, q⟩ := h
  exact ⟨_, p.pt, q⟩
theorem jt_not (h : JT c n a g1) : JT c n (.UnaryOp .Not a pos) (gNot g1) := by
  obtain ⟨t, p, q⟩ := h
  refine ⟨_, pt_not p, fun G F ow σ H L Rr => (q G F ow σ H L Rr).bind1 (t2 := fun x H1 Q => Q (!x) H1) fun x L1 v H1 F1 ow1 _ _ _ R1 b1 => ?_⟩
  cases b1
  exact Post.val (b := !x) (B := BB c.X.K) R1 rfl
/-- and, or, not as values -/
def gAndV (a b : LS → R D) : LS → R D := fun L => (a L).bind fun d L1 => match d with
  | .bool x => if x = true then b L1 else .ok (.bool false) L1
  | _ => .stuck
def gOrV (a b : LS → R D) : LS → R D := fun L => (a L).bind fun d L1 => match d with
  | .bool x => if x = true then .ok (.bool true) L1 else b L1
  | _ => .stuck
def dNot : D → Option D
  | .bool b => some (.bool (!b))
  | _ => none
theorem jd_one {op} (h : JD c n a ga) : JD c n (.BoolOp op [a] pos) ga := by
  obtain ⟨t, p, q⟩ := h
  exact ⟨_, pe_one p, q⟩
theorem jd_and (ha : JD c n1 a ga) (hb : JD c n2 (.BoolOp .And (b :: rest) pos) gb) : JD c (n1 && n2) (.BoolOp .And (a :: b :: rest) pos) (gAndV ga gb) := by
  obtain ⟨t, p, q⟩ := ha
  obtain ⟨t', p', q'⟩ := hb
  refine ⟨_, pe_and p p', fun G F ow σ H L Rr => (q G F ow σ H L Rr).bind (t2 := fun x H1 Q => ∃ k, x = .bl k ∧ if k = true then t' σ H1 Q else Q (.bl false) H1) fun d L1 v H1 F1 ow1 _ _ _ R1 b1 => ?_⟩
  cases b1 with
  | bl x =>
    cases x with
    | true => exact (q' G F1 ow1 σ H1 L1 R1).imp fun Q h => ⟨true, rfl, h⟩
    | false => exact (Post.val (b := V.bl false) (B := BD c.X.K) R1 (.bl false)).imp fun Q h => ⟨false, rfl, h⟩
  | _ => trivial
theorem jd_or (ha : JD c n1 a ga) (hb : JD c n2 (.BoolOp .Or (b :: rest) pos) gb) : JD c (n1 && n2) (.BoolOp .Or (a :: b :: rest) pos) (gOrV ga gb) := by
  obtain ⟨t, p, q⟩ := ha
  obtain ⟨t', p', q'⟩ := hb
  refine ⟨_, pe_or p p', fun G F ow σ H L Rr => (q G F ow σ H L Rr).bind (t2 := fun x H1 Q => ∃ k, x = .bl k ∧ if k = true then Q (.bl true) H1 else t' σ H1 Q) fun d L1 v H1 F1 ow1 _ _ _ R1 b1 => ?_⟩
  cases b1 with
  | bl x =>
    cases x with
    | false => exact (q' G F1 ow1 σ H1 L1 R1).imp fun Q h => ⟨false, rfl, h⟩
    | true => exact (Post.val (b := V.bl true) (B := BD c.X.K) R1 (.bl true)).imp fun Q h => ⟨true, rfl, h⟩
  | _ => trivial
theorem jd_not (h : JD c n a ga) : JD c n (.UnaryOp .Not a pos) (gUn dNot ga) := by
  obtain ⟨t, p, q⟩ := h
  refine ⟨_, pe_not p, fun G F ow σ H L Rr => (q G F ow σ H L Rr).bind1 (t2 := fun (x : V) H1 (Q : VK) => ∃ k, x = V.bl k ∧ Q (V.bl (!k)) H1) fun x L1 v H1 F1 ow1 _ _ _ R1 b1 => ?_⟩
  cases b1 with
  | bl x => exact (Post.val (a := PyData.bool (!x)) (b := V.bl (!x)) (B := BD c.X.K) R1 (.bl _)).imp fun Q h => ⟨x, rfl, h⟩
  | _ => trivial
/-- a if t else b -/
def gIfE {α : Type} (t : LS → R Bool) (a b : LS → R α) : LS → R α := fun L => (t L).bind fun x L1 => if x = true then a L1 else b L1
theorem jd_if {e : Expr} (ht : JT c n1 e g1) (ha : JD c n2 a ga) (hb : JD c n3 b gb) : JD c (n1 && (n2 && n3)) (.IfExp e a b pos) (gIfE g1 ga gb) := by
  obtain ⟨t, p, q⟩ := ht
  obtain ⟨ta, p1, q1⟩ := ha
  obtain ⟨tb, p2, q2⟩ := hb
  refine ⟨_, pe_ifExp p p1 p2, fun G F ow σ H L Rr => (q G F ow σ H L Rr).bind (t2 := fun x H1 Q => if x = true then ta σ H1 Q else tb σ H1 Q) fun x L1 v H1 F1 ow1 _ _ _ R1 b1 => ?_⟩
  cases b1
  have weaken : ∀ {m : Bool} {r : R D} {t : (V → Hp → Prop) → Prop}, ((n2 && n3) = true → m = true) → Post c G m F1 H1 σ r (BD c.X.K) t → Post c G (n2 && n3) F1 H1 σ r (BD c.X.K) t := fun {m r t} hm h => by
    cases r with
    | stuck => trivial
    | err e L => exact h
    | ok z L => exact fun Q q => h Q fun b H' F' ow' e1 s1 => q b H' F' ow' e1 fun hn => s1 (hm hn)
  cases x with
  | true => exact weaken (fun h => (and_of h).1) (q1 G F1 ow1 σ H1 L1 R1)
  | false => exact weaken (fun h => (and_of h).2) (q2 G F1 ow1 σ H1 L1 R1)
end
end VS

namespace VS
open PySem PySem.Spec PyProof.Rows L2

section
variable {c : Ct} {n n1 n2 n3 : Bool} {a b : Expr} {ga gb : LS → R D} {pos : Pos}

/-! ### items -/
def dIx (d e : D) : Option D := match e with
  | .int i => (match d with
    | .list xs => atI xs i
    | .tuple xs => atI xs i
    | .str s => if s.length ≤ sizeLine then (atI s.cps.toList i).map fun k => .str ⟨#[k]⟩ else none
    | _ => none)
  | _ => none
theorem DqA.at {K : PySem.W.Frag} {F : Hp} {vs : List V} {ds : List D} {i : Int} {z : D} (h : DqA K F vs ds) (e : atI ds i = some z) : ∃ v, atI vs i = some v ∧ Dq K F v z := by
  unfold atI at e ⊢
  rw [h.len]
  cases hj : ixN ds.length i with
  | none => rw [hj] at e; cases e
  | some j =>
    rw [hj] at e
    exact h.get e
theorem ix_core {K : PySem.W.Frag} {F H : Hp} {ow : Addr → Option Path} {x y : V} {d e z : D} (s : Same F H) (hx : BV K F H ow d x) (hy : Dq K F y e) (hf : dIx d e = some z) : ∃ v, Dq K F v z ∧ ∀ Q : VK, Q v H → rIx K x y H Q := by
  cases hy with
  | int i =>
    have seq : ∀ {l : Addr} {vs : List V} {ds : List D}, x = .ref l → d = .list ds → SqL K H l vs → DqA K F vs ds → ∃ v, Dq K F v z ∧ ∀ Q : VK, Q v H → rIx K x (.int i) H Q := fun {l vs ds} hl hd h1 h2 => by
      subst hl hd
      obtain ⟨v, h3, h4⟩ := h2.at (show atI ds i = some z from hf)
      exact ⟨v, h4, fun Q q => .inl ⟨l, vs, i, v, rfl, rfl, h1, h3, q⟩⟩
    rcases hx with hx | ⟨l, vs, ds, rfl, rfl, h1, h2⟩
    · cases hx with
      | lst h1 h2 => exact seq rfl rfl (.of (s _ _ h1)) h2
      | tup h1 h2 =>
        rename_i l vs ds
        obtain ⟨v, h3, h4⟩ := h2.at (show atI ds i = some z from hf)
        exact ⟨v, h4, fun Q q => .inr (.inl ⟨l, vs, i, v, rfl, rfl, sqt_same s h1, h3, q⟩)⟩
      | str w =>
        have hf : (if w.length ≤ sizeLine then (atI w.cps.toList i).map fun k => PyData.str ⟨#[k]⟩ else none) = some z := hf
        by_cases hw : w.length ≤ sizeLine
        · rw [if_pos hw] at hf
          obtain ⟨k, hk, rfl⟩ := Option.map_eq_some_iff.mp hf
          exact ⟨_, .str _, fun Q q => .inr (.inr ⟨w, i, k, rfl, rfl, hw, hk, q⟩)⟩
        · rw [if_neg hw] at hf
          cases hf
      | _ => cases hf
    · exact seq rfl rfl h1 h2
  | _ => cases hf
theorem leaf_ix {K : PySem.W.Frag} : Leaf2 K (rIx K) dIx := fun F H x y d e z s hx hy hf => ix_core (ow := fun _ => none) s (.inl hx) hy hf
theorem jd_ix (ha : JD c n1 a ga) (hb : JD c n2 b gb) (hs : PlainIx b := by exact fun _ _ => rfl) : JD c (n1 && n2) (.Subscript a b pos) (gOp dIx ga gb) := by
  obtain ⟨ta, p1, q1⟩ := ha
  obtain ⟨tb, p2, q2⟩ := hb
  exact ⟨_, pe_ix ix_seq p1 p2 hs, jdg_op leaf_ix q1 q2⟩
theorem BV.up {K : PySem.W.Frag} {F F' H H' : Hp} {ow ow' : Addr → Option Path} {d : D} {v : V} (h : BV K F H ow d v) (e : Same F F') (e2 : Same H H') : BV K F' H' ow' d v := by
  rcases h with h | ⟨l, vs, ds, h1, h2, h3, h4⟩
  · exact .inl (h.up e)
  · exact .inr ⟨l, vs, ds, h1, h2, sql_same e2 h3, h4.up e⟩
/-- what is looked at, by an index that leaves all as it is -/
theorem jd_ixN (ha : JV c n1 a ga) (hb : JD c true b gb) (hs : PlainIx b := by exact fun _ _ => rfl) : JD c n1 (.Subscript a b pos) (gOp dIx ga gb) := by
  obtain ⟨ta, p1, q1⟩ := ha
  obtain ⟨tb, p2, q2⟩ := hb
  refine ⟨_, pe_ix ix_seq p1 p2 hs, fun G F ow σ H L Rr => ?_⟩
  refine (q1 G F ow σ H L Rr).bind1 (t2 := fun v H1 Q => tb σ H1 fun y H2 => rIx c.X.K v y H2 Q) fun d L1 v H1 F1 ow1 _ _ _ R1 b1 => ?_
  refine (q2 G F1 ow1 σ H1 L1 R1).bind1 (t2 := fun y H2 Q => rIx c.X.K v y H2 Q) fun e L2 u H2 F2 ow2 _ e2 s2 R2 b2 => ?_
  cases hf : dIx d e with
  | none => trivial
  | some z =>
    obtain ⟨w, hw, q⟩ := ix_core R2.exF (BV.up (ow' := ow2) b1 e2 (s2 rfl)) b2 hf
    exact (Post.val R2 hw).imp q
/-- x[e], x a name: looked at behind e -/
def gIxP (i : Nat) (gb : LS → R D) : LS → R D := fun L => match L[i]? with
  | some (some _) => (gb L).bind fun e L1 => (gPeek i L1).bind fun d L2 => ofO (dIx d e) L2
  | _ => .stuck
theorem peek_at {G F H : Hp} {ow : Addr → Option Path} {σ : L2.St} {L L' : LS} {i : Nat} {d : D} {v : V} (Rr : c.Rl G F ow σ H L) (hv : σ[i]? = some (some v)) (h : gPeek i L = .ok d L') : L' = L ∧ BV c.X.K F H ow d v := by
  unfold gPeek at h
  cases hL : L[i]? with
  | none => rw [hL] at h; cases h
  | some o =>
    rw [hL] at h
    cases o with
    | none => cases h
    | some s =>
      obtain ⟨u, hu, rs⟩ := Rr.sl i s hL
      rw [hv] at hu
      cases hu
      have hb := peek_bv Rr.exF rs
      cases s <;> cases h <;> exact ⟨rfl, hb⟩
theorem jd_ixP (i : Nat) {x : Str} {p : Pos} (ha : PE c.X (.Name x p) (tVar i)) (hb : JD c n b gb) (hs : PlainIx b := by exact fun _ _ => rfl) : JD c n (.Subscript (.Name x p) b pos) (gIxP i gb) := by
  obtain ⟨tb, p2, q2⟩ := hb
  refine ⟨_, pe_ix ix_seq ha p2 hs, fun G F ow σ H L Rr => ?_⟩
  unfold gIxP
  cases hL : L[i]? with
  | none => trivial
  | some o =>
    cases o with
    | none => trivial
    | some s =>
      obtain ⟨v, hv, rs⟩ := Rr.sl i s hL
      refine ((q2 G F ow σ H L Rr).bind1 (t2 := fun y H2 Q => rIx c.X.K v y H2 Q) fun e L1 u H1 F1 ow1 _ _ _ R1 b1 => ?_).imp fun Q q => ⟨v, hv, q⟩
      cases hp : gPeek i L1 with
      | stuck => trivial
      | err k L2 =>
        exfalso
        unfold gPeek at hp
        split at hp <;> cases hp
      | ok d L2 =>
        obtain ⟨rfl, hb⟩ := peek_at R1 hv hp
        rw [R.bind_ok]
        cases hf : dIx d e with
        | none => trivial
        | some z =>
          obtain ⟨w, hw, q⟩ := ix_core R1.exF hb b1 hf
          exact (Post.val R1 hw).imp q

/-! ### slices -/
def cutD (xs : List D) (lo hi : Option Int) : List D := (xs.drop (HT.sIx xs.length 0 lo)).take (HT.sIx xs.length xs.length hi - HT.sIx xs.length 0 lo)
theorem DqA.cut {K : PySem.W.Frag} {F : Hp} {vs : List V} {ds : List D} (h : DqA K F vs ds) (lo hi : Option Int) : DqA K F (cutV vs lo hi) (cutD ds lo hi) := by
  unfold cutV cutD
  rw [h.len]
  exact (h.drop _).take _
def dSl (d : D) (lo hi : Option Int) : Option S := match d with
  | .list xs => some (.ol (cutD xs lo hi))
  | .str s => if s.length ≤ sizeLine then some (.d (.str (cutS s lo hi))) else none
  | .tuple xs => if HT.sIx xs.length 0 lo = 0 ∧ HT.sIx xs.length xs.length hi = xs.length then none else some (.d (.tuple (cutD xs lo hi)))
  | _ => none
def BO : PySem.W.Frag → Hp → Hp → (Addr → Option Path) → Option Int → Option Int → Prop := fun _ _ _ _ x y => y = x
def JO (c : Ct) (n : Bool) (e : Option Expr) (g : LS → R (Option Int)) : Prop := ∃ t, PO c.X e t ∧ Jdg c n g BO t
def gNo : LS → R (Option Int) := fun L => .ok none L
def asI : D → LS → R (Option Int)
  | .int i, L => .ok (some i) L
  | _, _ => .stuck
def gSo (g : LS → R D) : LS → R (Option Int) := fun L => (g L).bind asI
theorem jo_no : JO c true none gNo := ⟨_, po_none, fun G F ow σ H L Rr => Post.val (B := BO c.X.K) Rr rfl⟩
theorem jo_so (h : JD c n a ga) : JO c n (some a) (gSo ga) := by
  obtain ⟨t, p, q⟩ := h
  refine ⟨_, po_some p, fun G F ow σ H L Rr => (q G F ow σ H L Rr).bind1 (t2 := fun (x : V) H1 (Q : Option Int → Hp → Prop) => ∃ i, x = V.int i ∧ Q (some i) H1) fun d L1 v H1 F1 ow1 _ _ _ R1 b1 => ?_⟩
  cases b1 with
  | int i => exact (Post.val (a := some i) (b := some i) (B := BO c.X.K) R1 rfl).imp fun Q q => ⟨i, rfl, q⟩
  | _ => trivial
def rSlAny (K : PySem.W.Frag) : V → Option Int → Option Int → Hp → VK → Prop := fun x lo hi H Q => rSlL K x lo hi H Q ∨ rSlS x lo hi H Q ∨ rSlT K x lo hi H Q
theorem sl_core {G F H : Hp} {ow : Addr → Option Path} {σ : L2.St} {L : LS} {d : D} {v : V} {lo hi : Option Int} (Rr : c.Rl G F ow σ H L) (hb : BV c.X.K F H ow d v) : Post c G true F H σ (ofO (dSl d lo hi) L) (BE c.ca c.X.K) (rSlAny c.X.K v lo hi H) := by
  have seq : ∀ {l : Addr} {vs : List V} {ds : List D}, v = .ref l → d = .list ds → SqL c.X.K H l vs → DqA c.X.K F vs ds → Post c G true F H σ (ofO (dSl d lo hi) L) (BE c.ca c.X.K) (rSlAny c.X.K v lo hi H) := fun {l vs ds} e1 e2 h1 h2 => by
    subst e1 e2
    exact (post_new Rr (h2.cut lo hi)).imp fun Q q => .inl ⟨l, vs, rfl, h1, q⟩
  rcases hb with hb | ⟨l, vs, ds, rfl, rfl, h1, h2⟩
  · cases hb with
    | lst h1 h2 => exact seq rfl rfl (.of (Rr.exF _ _ h1)) h2
    | str w =>
      show Post c G true F H σ (ofO (if w.length ≤ sizeLine then some (S.d (.str (cutS w lo hi))) else none) L) _ _
      by_cases hw : w.length ≤ sizeLine
      · rw [if_pos hw]
        exact (Post.val (a := S.d (.str (cutS w lo hi))) (B := BE c.ca c.X.K) Rr (RS.d (.str _))).imp fun Q q => .inr (.inl ⟨w, rfl, hw, q⟩)
      · rw [if_neg hw]
        trivial
    | tup h1 h2 =>
      rename_i l vs ds
      show Post c G true F H σ (ofO (if HT.sIx ds.length 0 lo = 0 ∧ HT.sIx ds.length ds.length hi = ds.length then none else some (S.d (.tuple (cutD ds lo hi)))) L) _ _
      by_cases hw : HT.sIx ds.length 0 lo = 0 ∧ HT.sIx ds.length ds.length hi = ds.length
      · rw [if_pos hw]
        trivial
      · rw [if_neg hw]
        intro Q q
        refine .inr (.inr ⟨l, vs, rfl, sqt_same Rr.exF h1, by rw [h2.len]; exact hw, fun p hp => ?_⟩)
        obtain ⟨e1, e, r'⟩ := Rr.newF (o := .tup (cutV vs lo hi)) hp
        exact q _ _ _ ow e1 (fun _ => e) r' (.d (.tup (.of upd_same) ((h2.cut lo hi).up e1)))
    | _ => trivial
  · exact seq rfl rfl h1 h2
def gSl (ga : LS → R D) (lo hi : LS → R (Option Int)) : LS → R S := fun L => (ga L).bind fun d L1 => (lo L1).bind fun l L2 => (hi L2).bind fun u L3 => ofO (dSl d l u) L3
variable {lo hi : Option Expr} {gl gh : LS → R (Option Int)} {p2 : Pos}
theorem je_sl (ha : JD c n1 a ga) (hl : JO c n2 lo gl) (hh : JO c n3 hi gh) : JE c (n1 && (n2 && n3)) (.Subscript a (.Slice lo hi none p2) pos) (gSl ga gl gh) := by
  obtain ⟨ta, pa, qa⟩ := ha
  obtain ⟨tl, pl, ql⟩ := hl
  obtain ⟨th, ph, qh⟩ := hh
  refine ⟨_, pe_slice (sl_list.or (sl_str.or sl_tup)) pa pl ph, fun G F ow σ H L Rr => ?_⟩
  refine (qa G F ow σ H L Rr).bind (t2 := fun v H1 Q => tl σ H1 fun l H2 => th σ H2 fun u H3 => rSlAny c.X.K v l u H3 Q) fun d L1 v H1 F1 ow1 _ _ _ R1 b1 => ?_
  refine (ql G F1 ow1 σ H1 L1 R1).bind (t2 := fun l H2 Q => th σ H2 fun u H3 => rSlAny c.X.K v l u H3 Q) fun l L2 l' H2 F2 ow2 _ e2 _ R2 b2 => ?_
  refine (qh G F2 ow2 σ H2 L2 R2).bind1 (t2 := fun u H3 Q => rSlAny c.X.K v l' u H3 Q) fun u L3 u' H3 F3 ow3 _ e3 _ R3 b3 => ?_
  cases b2
  cases b3
  exact sl_core R3 (.inl ((b1.up e2).up e3))
theorem je_slV (ha : JV c n1 a ga) (hl : JO c true lo gl) (hh : JO c true hi gh) : JE c n1 (.Subscript a (.Slice lo hi none p2) pos) (gSl ga gl gh) := by
  obtain ⟨ta, pa, qa⟩ := ha
  obtain ⟨tl, pl, ql⟩ := hl
  obtain ⟨th, ph, qh⟩ := hh
  refine ⟨_, pe_slice (sl_list.or (sl_str.or sl_tup)) pa pl ph, fun G F ow σ H L Rr => ?_⟩
  refine (qa G F ow σ H L Rr).bind1 (t2 := fun v H1 Q => tl σ H1 fun l H2 => th σ H2 fun u H3 => rSlAny c.X.K v l u H3 Q) fun d L1 v H1 F1 ow1 _ _ _ R1 b1 => ?_
  refine (ql G F1 ow1 σ H1 L1 R1).bind1 (t2 := fun l H2 Q => th σ H2 fun u H3 => rSlAny c.X.K v l u H3 Q) fun l L2 l' H2 F2 ow2 _ e2 s2 R2 b2 => ?_
  refine (qh G F2 ow2 σ H2 L2 R2).bind1 (t2 := fun u H3 Q => rSlAny c.X.K v l' u H3 Q) fun u L3 u' H3 F3 ow3 _ e3 s3 R3 b3 => ?_
  cases b2
  cases b3
  exact sl_core R3 (BV.up (BV.up (ow' := ow2) b1 e2 (s2 rfl)) e3 (s3 rfl))

/-! ### built-ins of one argument -/
/-- len -/
def dLen : D → Option D
  | .list xs => some (.int xs.length)
  | .tuple xs => some (.int xs.length)
  | .str s => if s.length ≤ sizeLine then some (.int s.length) else none
  | _ => none
/-- a call with one argument that is looked at -/
theorem jdg_call1 {α : Type} {ga : LS → R D} {B : PySem.W.Frag → Hp → Hp → (Addr → Option Path) → α → V → Prop} {r : List V → Hp → VK → Prop} {f : D → Option α} {ta : TE} (ha : Jdg c n ga BV ta)
    (lf : ∀ {G F H : Hp} {ow : Addr → Option Path} {σ : L2.St} {L : LS} {d : D} {v : V}, c.Rl G F ow σ H L → BV c.X.K F H ow d v → Post c G true F H σ (ofO (f d) L) (B c.X.K) (r [v] H)) : Jdg c n (gUn f ga) B (tCB r (tCons ta tNil)) :=
  fun G F ow σ H L Rr => (ha G F ow σ H L Rr).bind1 (t2 := fun v H1 Q => r [v] H1 Q) fun d L1 v H1 F1 ow1 _ _ _ R1 b1 => lf R1 b1
theorem jd_call1 {id : String} {x : Str} {p : Pos} {r : List V → Hp → VK → Prop} {f : D → Option D} (hc : CallR c.X (.builtin id) r) (hg : Gl c.X x) (hm : c.X.mg x = none) (hv : bootBuiltins x = some (.builtin id)) (ha : JV c n a ga)
    (lf : ∀ {G F H : Hp} {ow : Addr → Option Path} {σ : L2.St} {L : LS} {d : D} {v : V}, c.Rl G F ow σ H L → BV c.X.K F H ow d v → Post c G true F H σ (ofO (f d) L) (BD c.X.K) (r [v] H))
    (hn : x ≠ "__name__" := by decide) (hdb : (x == ("__debug__" : Str)) = false := by decide) (hs : starEach [a] c.X.env = (false, eval a c.X.env) :: starEach [] c.X.env := by rfl) (hpl : (backTo pos (starEach [] c.X.env)).any (·.1) = false := by rfl) :
    JD c n (.Call (.Name x p) [a] [] pos) (gUn f ga) := by
  obtain ⟨ta, pa, qa⟩ := ha
  exact ⟨_, pe_callB hc hg hm hv (pa_cons pa pa_nil hs) hn hdb hs hpl, jdg_call1 qa lf⟩
theorem je_callTy1 {T : String} {x : Str} {p : Pos} {r : List V → Hp → VK → Prop} {f : D → Option S} (hc : CallR c.X (.type T) r) (hg : Gl c.X x) (hm : c.X.mg x = none) (hv : bootBuiltins x = some (.type T)) (ha : JV c n a ga)
    (lf : ∀ {G F H : Hp} {ow : Addr → Option Path} {σ : L2.St} {L : LS} {d : D} {v : V}, c.Rl G F ow σ H L → BV c.X.K F H ow d v → Post c G true F H σ (ofO (f d) L) (BE c.ca c.X.K) (r [v] H))
    (hn : x ≠ "__name__" := by decide) (hdb : (x == ("__debug__" : Str)) = false := by decide) (hs : starEach [a] c.X.env = (false, eval a c.X.env) :: starEach [] c.X.env := by rfl) (hpl : (backTo pos (starEach [] c.X.env)).any (·.1) = false := by rfl) :
    JE c n (.Call (.Name x p) [a] [] pos) (gUn f ga) := by
  obtain ⟨ta, pa, qa⟩ := ha
  exact ⟨_, pe_callTy hc hg hm hv (pa_cons pa pa_nil hs) hn hdb hs hpl, jdg_call1 qa lf⟩
theorem len_core {G F H : Hp} {ow : Addr → Option Path} {σ : L2.St} {L : LS} {d : D} {v : V} (Rr : c.Rl G F ow σ H L) (hb : BV c.X.K F H ow d v) :
    Post c G true F H σ (ofO (dLen d) L) (BD c.X.K) (fun Q => ∃ (x : V) (m : Nat), [v] = [x] ∧ LenV c.X.K x H m ∧ Q (.int m) H) := by
  have fin : ∀ {m : Nat}, LenV c.X.K v H m → Post c G true F H σ (.ok (.int m) L) (BD c.X.K) (fun Q => ∃ (x : V) (m : Nat), [v] = [x] ∧ LenV c.X.K x H m ∧ Q (.int m) H) := fun {m} h =>
    (Post.val (a := PyData.int m) (b := V.int m) (B := BD c.X.K) Rr (.int _)).imp fun Q q => ⟨v, m, rfl, h, q⟩
  rcases hb with hb | ⟨l, vs, ds, rfl, rfl, h1, h2⟩
  · cases hb with
    | lst h1 h2 =>
      have := fin (.inl ⟨_, .of (Rr.exF _ _ h1), rfl⟩)
      rw [h2.len] at this
      exact this
    | tup h1 h2 =>
      have := fin (.inr ⟨_, sqt_same Rr.exF h1, rfl⟩)
      rw [h2.len] at this
      exact this
    | str w =>
      show Post c G true F H σ (ofO (if w.length ≤ sizeLine then some (PyData.int w.length) else none) L) _ _
      by_cases hw : w.length ≤ sizeLine
      · rw [if_pos hw]
        exact fin (m := w.length) ⟨hw, rfl⟩
      · rw [if_neg hw]
        trivial
    | _ => trivial
  · have := fin (.inl ⟨_, h1, rfl⟩)
    rw [h2.len] at this
    exact this
theorem jd_len {p : Pos} (hg : Gl c.X "len") (hm : c.X.mg "len" = none) (ha : JV c n a ga) (hs : starEach [a] c.X.env = (false, eval a c.X.env) :: starEach [] c.X.env := by rfl) : JD c n (.Call (.Name "len" p) [a] [] pos) (gUn dLen ga) :=
  jd_call1 call_len hg hm PySem.boot_len ha (fun Rr hb => len_core Rr hb) (by decide) (by decide) hs rfl
/-- list(x) -/
def dList : D → Option S
  | .list xs => some (.ol xs)
  | .tuple xs => some (.ol xs)
  | _ => none
theorem list_core {G F H : Hp} {ow : Addr → Option Path} {σ : L2.St} {L : LS} {d : D} {v : V} (Rr : c.Rl G F ow σ H L) (hb : BV c.X.K F H ow d v) :
    Post c G true F H σ (ofO (dList d) L) (BE c.ca c.X.K) (fun Q => ∃ p ys, [v] = [V.ref p] ∧ (SqL c.X.K H p ys ∨ SqT c.X.K H p ys) ∧ ∀ l, H l = none → Q (.ref l) (upd H l (.lst ys))) := by
  rcases hb with hb | ⟨l, vs, ds, rfl, rfl, h1, h2⟩
  · cases hb with
    | lst h1 h2 => exact (post_new Rr h2).imp fun Q q => ⟨_, _, rfl, .inl (.of (Rr.exF _ _ h1)), q⟩
    | tup h1 h2 => exact (post_new Rr h2).imp fun Q q => ⟨_, _, rfl, .inr (sqt_same Rr.exF h1), q⟩
    | _ => trivial
  · exact (post_new Rr h2).imp fun Q q => ⟨_, _, rfl, .inl h1, q⟩
theorem je_list {p : Pos} (hg : Gl c.X "list") (hm : c.X.mg "list" = none) (ha : JV c n a ga) (hs : starEach [a] c.X.env = (false, eval a c.X.env) :: starEach [] c.X.env := by rfl) : JE c n (.Call (.Name "list" p) [a] [] pos) (gUn dList ga) :=
  je_callTy1 call_list_of hg hm (by decide +kernel) ha (fun Rr hb => list_core Rr hb) (by decide) (by decide) hs rfl
/-- isinstance(x, T) -/
def dTy : D → String
  | .none => "NoneType"
  | .bool _ => "bool"
  | .int _ => "int"
  | .str _ => "str"
  | .list _ => "list"
  | .tuple _ => "tuple"
  | .dict _ => "dict"
def isTy (T : String) (d : D) : Option D := (kitB (dTy d) T).map .bool
def gIsi (T : String) (ga : LS → R D) : LS → R D := gUn (isTy T) ga
theorem ty_of {K : PySem.W.Frag} {F H : Hp} {ow : Addr → Option Path} {d : D} {v : V} (s : Same F H) (hb : BV K F H ow d v) : TyX K H v (.type (dTy d)) := by
  have lst : ∀ {l : Addr} {vs : List V}, SqL K H l vs → TyX K H (.ref l) (.type "list") := fun {l vs} h => by
    rcases h with (h | ⟨o, h⟩) | ⟨o, its, m, h, hc, _⟩
    · exact .base (.lst h)
    · exact .base (.frz h)
    · exact .kList h hc
  rcases hb with hb | ⟨l, vs, ds, rfl, rfl, h1, h2⟩
  · cases hb with
    | non => exact .base .non
    | bl b => exact .base (.bl b)
    | int b => exact .base (.int b)
    | str b => exact .base (.str b)
    | lst h1 h2 => exact lst (.of (s _ _ h1))
    | tup h1 h2 =>
      rcases sqt_same s h1 with (h | ⟨o, h⟩) | ⟨o, its, m, h, hc, _⟩
      · exact .base (.tup h)
      · exact .fTuple h
      · exact .kTuple h hc
  · exact lst h1
theorem jd_isi {T : String} {t : Str} {p p3 : Pos} (hg : Gl c.X "isinstance") (hm : c.X.mg "isinstance" = none) (hgT : Gl c.X t) (hmT : c.X.mg t = none) (hvT : bootBuiltins t = some (.type T)) (ha : JV c n a ga) (hnT : t ≠ "__name__" := by decide) (hdT : (t == ("__debug__" : Str)) = false := by decide)
    (hs : starEach [a, .Name t p3] c.X.env = (false, eval a c.X.env) :: starEach [.Name t p3] c.X.env := by rfl) (hs2 : starEach [.Name t p3] c.X.env = (false, eval (.Name t p3) c.X.env) :: starEach [] c.X.env := by rfl) (hpl : (backTo pos (starEach [.Name t p3] c.X.env)).any (·.1) = false := by rfl) :
    JD c n (.Call (.Name "isinstance" p) [a, .Name t p3] [] pos) (gIsi T ga) := by
  obtain ⟨ta, pa, qa⟩ := ha
  refine ⟨_, pe_callB call_isi hg hm (by decide +kernel) (pa_cons pa (pa_cons (pe_bltn (v := .ty T) hgT hmT hvT rfl hnT hdT) pa_nil hs2) hs) (by decide) (by decide) hs hpl, fun G F ow σ H L Rr => ?_⟩
  refine (qa G F ow σ H L Rr).bind1 (t2 := fun v H1 Q => rIsi c.X.K [v, .ty T] H1 Q) fun d L1 v H1 F1 ow1 _ _ _ R1 b1 => ?_
  unfold isTy
  cases hk : kitB (dTy d) T with
  | none => trivial
  | some b => exact (Post.val (a := PyData.bool b) (b := V.bl b) (B := BD c.X.K) R1 (.bl _)).imp fun Q q => ⟨v, .ty T, _, _, b, rfl, .ty T, ty_of R1.exF b1, kit_ty hk, q⟩
/-- sep.join(xs) -/
def strsOf : List D → Option (List Str)
  | [] => some []
  | .str x :: r => (strsOf r).map (x :: ·)
  | _ :: _ => none
theorem strs_of {K : PySem.W.Frag} {F : Hp} : ∀ {ds : List D} {vs : List V} {ys : List Str}, DqA K F vs ds → strsOf ds = some ys → vs = ys.map V.str
  | [], _, _, .nil, h => by
    cases h
    rfl
  | d :: ds, _, _, .cons a b, h => by
    cases a with
    | str x =>
      obtain ⟨zs, h1, rfl⟩ := Option.map_eq_some_iff.mp (show (strsOf ds).map (x :: ·) = some _ from h)
      rw [strs_of b h1]
      rfl
    | _ => cases h
def joinOk (a : Str) (ys : List Str) : Bool := decide ((ys.map (·.length)).sum + ys.length * a.length ≤ 16777216)
def dJoin (d e : D) : Option D := match d, e with
  | .str a, .list ds => (strsOf ds).bind fun ys => if joinOk a ys then some (.str (Txt.join a ys)) else none
  | _, _ => none
def gTxt (k : Str → LS → R D) : D → LS → R D
  | .str a, L => k a L
  | _, _ => .stuck
def gJoin (ga gb : LS → R D) : LS → R D := fun L => (ga L).bind (gTxt fun a L1 => (gb L1).bind fun e L2 => ofO (dJoin (.str a) e) L2)
theorem jd_join {apos : Pos} (ha : JD c n1 a ga) (hb : JV c n2 b gb) (hs : starEach [b] c.X.env = [(false, eval b c.X.env)] := by rfl) (hbase : attributeBase a "join" c.X.env (eval a c.X.env) = eval a c.X.env := by rfl) (hline : (apos.endLine == pos.line) = true := by rfl) :
    JD c (n1 && n2) (.Call (.Attribute a "join" apos) [b] [] pos) (gJoin ga gb) := by
  obtain ⟨ta, pa, qa⟩ := ha
  obtain ⟨tb, pb, qb⟩ := hb
  refine ⟨_, pe_join pa pb hs hbase hline, fun G F ow σ H L Rr => ?_⟩
  refine (qa G F ow σ H L Rr).bind (t2 := fun (v : V) H1 (Q : VK) => (∃ a, v = V.str a) ∧ tb σ H1 fun y H2 => ∃ a p, ∃ ys : List Str, v = V.str a ∧ [y] = [V.ref p] ∧ (SqL c.X.K H2 p (ys.map V.str) ∨ SqT c.X.K H2 p (ys.map V.str)) ∧ (ys.map (·.length)).sum + ys.length * a.length ≤ 16777216 ∧ Q (V.str (Txt.join a ys)) H2) fun d L1 v H1 F1 ow1 _ _ _ R1 b1 => ?_
  cases b1 with
  | str sep =>
    refine Post.imp (t := fun Q => tb σ H1 fun y H2 => ∃ a p, ∃ ys : List Str, V.str sep = V.str a ∧ [y] = [V.ref p] ∧ (SqL c.X.K H2 p (ys.map V.str) ∨ SqT c.X.K H2 p (ys.map V.str)) ∧ (ys.map (·.length)).sum + ys.length * a.length ≤ 16777216 ∧ Q (V.str (Txt.join a ys)) H2) ?_ fun Q q => ⟨⟨sep, rfl⟩, q⟩
    refine (qb G F1 ow1 σ H1 L1 R1).bind1 (t2 := fun y H2 Q => ∃ a p, ∃ ys : List Str, V.str sep = V.str a ∧ [y] = [V.ref p] ∧ (SqL c.X.K H2 p (ys.map V.str) ∨ SqT c.X.K H2 p (ys.map V.str)) ∧ (ys.map (·.length)).sum + ys.length * a.length ≤ 16777216 ∧ Q (V.str (Txt.join a ys)) H2) fun e L2 u H2 F2 ow2 _ e2 _ R2 b2 => ?_
    cases hf : dJoin (.str sep) e with
    | none => trivial
    | some z =>
      cases e with
      | list ds =>
        obtain ⟨ys, h1, h2⟩ := Option.bind_eq_some_iff.mp (show (strsOf ds).bind (fun ys => if joinOk sep ys then some (PyData.str (Txt.join sep ys)) else none) = some z from hf)
        by_cases hj : joinOk sep ys = true
        · rw [if_pos hj] at h2
          cases h2
          have hl : ∃ p, u = .ref p ∧ SqL c.X.K H2 p (ys.map V.str) := by
            rcases b2 with b2 | ⟨l, vs, ds', rfl, e1, q1, q2⟩
            · cases b2 with
              | lst q1 q2 => exact ⟨_, rfl, by rw [← strs_of q2 h1]; exact .of (R2.exF _ _ q1)⟩
            · cases e1
              exact ⟨_, rfl, by rw [← strs_of q2 h1]; exact q1⟩
          obtain ⟨p, rfl, hl⟩ := hl
          exact (Post.val (a := PyData.str (Txt.join sep ys)) (B := BD c.X.K) R2 (Dq.str _)).imp fun Q q => ⟨sep, p, ys, rfl, rfl, .inl hl, of_decide_eq_true hj, q⟩
        · rw [if_neg hj] at h2
          cases h2
      | _ => cases hf
  | _ => trivial
end
end VS

namespace VS
open PySem PySem.Spec PyProof.Rows L2

/-! ### statements -/
inductive O where
  | nx
  | rt (s : S)
  | bk
  | ct
/-- what follows is ready for r -/
def Fit (c : Ct) (G F : Hp) (r : R O) (E : Ends) : Prop := match r with
  | .ok .nx L => ∀ σ' H' F' ow', Same F F' → c.Rl G F' ow' σ' H' L → E.nx σ' H'
  | .ok .bk L => ∀ σ' H' F' ow', Same F F' → c.Rl G F' ow' σ' H' L → E.bk σ' H'
  | .ok .ct L => ∀ σ' H' F' ow', Same F F' → c.Rl G F' ow' σ' H' L → E.ct σ' H'
  | .ok (.rt s) L => ∀ v σ' H' F' ow', Same F F' → c.Rl G F' ow' σ' H' L → RS c.X.K c.ca F' H' ow' [0] s v → E.rt v H'
  | .err e L => ∀ σ' H' F' ow', Same F F' → c.Rl G F' ow' σ' H' L → c.W (.ref (c.ca e)) none σ' H'
  | .stuck => False
theorem Fit.up {c : Ct} {G F F1 : Hp} {r : R O} {E : Ends} (e : Same F F1) (h : Fit c G F r E) : Fit c G F1 r E := by
  cases r with
  | stuck => exact h
  | err k L => exact fun σ' H' F' ow' e' => h σ' H' F' ow' (e.trans e')
  | ok o L => cases o with
    | nx => exact fun σ' H' F' ow' e' => h σ' H' F' ow' (e.trans e')
    | bk => exact fun σ' H' F' ow' e' => h σ' H' F' ow' (e.trans e')
    | ct => exact fun σ' H' F' ow' e' => h σ' H' F' ow' (e.trans e')
    | rt s => exact fun v σ' H' F' ow' e' => h v σ' H' F' ow' (e.trans e')
def JdgS (c : Ct) (g : LS → R O) (t : TS) : Prop := ∀ G F ow σ H L, c.Rl G F ow σ H L → ∀ E : Ends, Fit c G F (g L) E → t E σ H
def JS (c : Ct) (s : Stmt) (g : LS → R O) : Prop := ∃ t, PS c.X s t ∧ JdgS c g t
def JB (c : Ct) (s : List Stmt) (g : LS → R O) : Prop := ∃ t, PSs c.X s t ∧ JdgS c g t
/-- a def's body: its stores must not be at a slot that stays -/
def Ct.free (c : Ct) (i : Nat) : Prop := c.pb[i]? ≠ some true

section
variable {c : Ct} {n n1 n2 n3 : Bool} {a b : Expr} {ga gb : LS → R D} {pos : Pos} {st : Stmt} {rest : List Stmt} {g g1 g2 : LS → R O}
def gNext : LS → R O := fun L => .ok .nx L
def gSeq (g1 g2 : LS → R O) : LS → R O := fun L => match g1 L with
  | .ok .nx L1 => g2 L1
  | r => r
theorem jb_nil : JB c [] gNext := ⟨_, pss_nil, fun G F ow σ H L Rr E h => h σ H F ow (Same.refl F) Rr⟩
theorem jb_cons (h1 : JS c st g1) (h2 : JB c rest g2) : JB c (st :: rest) (gSeq g1 g2) := by
  obtain ⟨t, p, q⟩ := h1
  obtain ⟨t', p', q'⟩ := h2
  refine ⟨_, pss_cons p p', fun G F ow σ H L Rr E h => ?_⟩
  refine q G F ow σ H L Rr { E with nx := t' E } ?_
  unfold gSeq at h
  cases hr : g1 L with
  | stuck => rw [hr] at h; exact h
  | err k L1 => rw [hr] at h; exact h
  | ok o L1 =>
    rw [hr] at h
    cases o with
    | nx => exact fun σ' H' F' ow' e R' => q' G F' ow' σ' H' L1 R' E (Fit.up e h)
    | bk => exact h
    | ct => exact h
    | rt s => exact h
theorem jb_one (h1 : JS c st g1) : JB c [st] g1 := by
  obtain ⟨t, p, q⟩ := h1
  exact ⟨_, pss_one p, q⟩
theorem js_pass : JS c (.Pass pos) gNext := ⟨_, ps_pass, fun G F ow σ H L Rr E h => h σ H F ow (Same.refl F) Rr⟩
theorem js_break : JS c (.Break pos) (fun L => .ok .bk L) := ⟨_, ps_break, fun G F ow σ H L Rr E h => h σ H F ow (Same.refl F) Rr⟩
theorem js_continue : JS c (.Continue pos) (fun L => .ok .ct L) := ⟨_, ps_continue, fun G F ow σ H L Rr E h => h σ H F ow (Same.refl F) Rr⟩
theorem js_doc {x j pos pos'} : JS c (.Expr (.Constant (.str x) j pos) pos') gNext := ⟨_, ps_doc, fun G F ow σ H L Rr E h => h σ H F ow (Same.refl F) Rr⟩

/-- an evaluation, then what is ready for the rest -/
theorem Post.use {α β : Type} {G F H : Hp} {σ : L2.St} {r : R α} {k : α → LS → R O} {B : Hp → Hp → (Addr → Option Path) → α → β → Prop} {t : (β → Hp → Prop) → Prop} {E : Ends} {Q : β → Hp → Prop}
    (h : Post c G n F H σ r B t) (f : Fit c G F (r.bind k) E)
    (hq : ∀ a L1 b H1 F1 ow1, r = .ok a L1 → Same F F1 → c.Rl G F1 ow1 σ H1 L1 → B F1 H1 ow1 a b → Fit c G F1 (k a L1) E → Q b H1) : t Q := by
  cases r with
  | stuck => exact f.elim
  | err e L1 => exact h (fun H' F' ow' e' R' => f σ H' F' ow' e' R') Q
  | ok a L1 => exact h Q fun b H1 F1 ow1 e1 _ R1 b1 => hq a L1 b H1 F1 ow1 rfl e1 R1 b1 (Fit.up e1 f)
def gDrop {α : Type} (g : LS → R α) : LS → R O := fun L => (g L).bind fun _ L1 => .ok .nx L1
theorem js_expr {g : LS → R S} (h : JE c n a g) (hs : swapsWith a none pos.line c.X.env = pure false := by rfl) : JS c (.Expr a pos) (gDrop g) := by
  obtain ⟨t, p, q⟩ := h
  refine ⟨_, ps_expr p hs, fun G F ow σ H L Rr E f => ?_⟩
  exact (q G F ow σ H L Rr).use f fun s L1 v H1 F1 ow1 _ _ R1 _ f1 => f1 σ H1 F1 ow1 (Same.refl F1) R1
def gRet (g : LS → R S) : LS → R O := fun L => (g L).bind fun s L1 => .ok (.rt s) L1
theorem js_ret {g : LS → R S} (h : JE c n a g) : JS c (.Return (some a) pos) (gRet g) := by
  obtain ⟨t, p, q⟩ := h
  refine ⟨_, ps_ret p, fun G F ow σ H L Rr E f => ?_⟩
  exact (q G F ow σ H L Rr).use f fun s L1 v H1 F1 ow1 _ _ R1 b1 f1 => f1 v σ H1 F1 ow1 (Same.refl F1) R1 b1
def gRetN : LS → R O := fun L => .ok (.rt (.d .none)) L
theorem js_retN : JS c (.Return none pos) gRetN := ⟨_, ps_retN, fun G F ow σ H L Rr E f => f .non σ H F ow (Same.refl F) Rr (.d .non)⟩
def gIf (t : LS → R Bool) (x y : LS → R O) : LS → R O := fun L => (t L).bind fun b L1 => if b = true then x L1 else y L1
theorem js_if {e : Expr} {xs ys : List Stmt} {t : LS → R Bool} (ht : JT c n e t) (hx : JB c xs g1) (hy : JB c ys g2) : JS c (.If e xs ys pos) (gIf t g1 g2) := by
  obtain ⟨t0, p0, q0⟩ := ht
  obtain ⟨t1, p1, q1⟩ := hx
  obtain ⟨t2, p2, q2⟩ := hy
  refine ⟨_, ps_if p0 p1 p2, fun G F ow σ H L Rr E f => ?_⟩
  refine (q0 G F ow σ H L Rr).use f fun b L1 b' H1 F1 ow1 _ _ R1 b1 f1 => ?_
  cases b1
  cases b with
  | true => exact q1 G F1 ow1 σ H1 L1 R1 E f1
  | false => exact q2 G F1 ow1 σ H1 L1 R1 E f1

/-! ### stores -/
section
variable {G F H : Hp} {ow : Addr → Option Path} {σ : L2.St} {L : LS}
theorem pin_set {i : Nat} {v : Option V} (Rr : c.Rl G F ow σ H L) (hp : c.free i) : ∀ (k : Nat) (u : V), (pinOf c.pb c.v0)[k]? = some (some u) → (σ.set i v)[k]? = some (some u) := fun k u h => by
  have hk : i ≠ k := fun z => by
    subst z
    exact hp (pinOf_mk h).1
  rw [List.getElem?_set_ne hk]
  exact Rr.pin k u h
/-- what came of an expression goes into slot i -/
theorem Rl.store {i : Nat} {s : S} {v : V} (Rr : c.Rl G F ow σ H L) (rs : RS c.X.K c.ca F H ow [0] s v) (hp : c.free i) : c.Rl G F (reroot ow 0 (i + 1)) (σ.set i (some v)) H (L.set i (some s)) := by
  refine Rr.moved (by rw [List.length_set, List.length_set]; exact Rr.len) (fun k s' h => ?_) (pin_set Rr hp)
  have hlt : k < σ.length := by
    have := (List.getElem?_eq_some_iff.mp h).1
    rw [List.length_set] at this
    rw [← Rr.len]
    exact this
  rcases set_get h with ⟨rfl, hs⟩ | ⟨hk, hs⟩
  · cases Option.some.inj hs
    exact .inr ⟨v, by rw [List.getElem?_set]; simp [hlt], rs.go (Same.refl F) keeps_reroot⟩
  · exact .inl ⟨hs, List.getElem?_set_ne hk, by omega⟩
/-- data goes into slot i -/
theorem Rl.storeD {i : Nat} {d : D} {v : V} (Rr : c.Rl G F ow σ H L) (q : Dq c.X.K F v d) (hp : c.free i) : c.Rl G F ow (σ.set i (some v)) H (L.set i (some (.d d))) := by
  refine ⟨Rr.exF, Rr.exG, Rr.dF, Rr.dG, by rw [List.length_set, List.length_set]; exact Rr.len, fun k s' h => ?_, pin_set Rr hp⟩
  have hlt : k < σ.length := by
    have := (List.getElem?_eq_some_iff.mp h).1
    rw [List.length_set] at this
    rw [← Rr.len]
    exact this
  rcases set_get h with ⟨rfl, hs⟩ | ⟨hk, hs⟩
  · cases Option.some.inj hs
    exact ⟨v, by rw [List.getElem?_set]; simp [hlt], .d q⟩
  · obtain ⟨u, h1, h2⟩ := Rr.sl k s' hs
    exact ⟨u, (List.getElem?_set_ne hk).trans h1, h2⟩
/-- the thing at l, slot i's own (or part of it), is changed -/
theorem Rl.put {i : Nat} {l : Addr} {o : HO} {q : Path} {s : S} (Rr : c.Rl G F ow σ H L) (ho : ow l = some ((i + 1) :: q)) (new : ∃ v, σ[i]? = some (some v) ∧ RS c.X.K c.ca F (upd H l o) ow [i + 1] s v) : c.Rl G F ow σ (upd H l o) (L.set i (some s)) := by
  obtain ⟨f0, g0, h0⟩ := Rr.dF l _ ho
  refine ⟨fun a u h => ?_, fun a u h => ?_, fun a p h => ?_, Rr.dG, by rw [List.length_set]; exact Rr.len, fun k s' h => ?_, Rr.pin⟩
  · rw [upd_ne (ne_of_none h f0)]
    exact Rr.exF a u h
  · rw [upd_ne (ne_of_none h g0)]
    exact Rr.exG a u h
  · obtain ⟨x, y, z⟩ := Rr.dF a p h
    refine ⟨x, y, ?_⟩
    by_cases e : a = l
    · subst e
      rw [upd_same]
      exact fun z => nomatch z
    · rw [upd_ne e]
      exact z
  · rcases set_get h with ⟨rfl, hs⟩ | ⟨hk, hs⟩
    · cases Option.some.inj hs
      exact new
    · obtain ⟨u, h1, h2⟩ := Rr.sl k s' hs
      refine ⟨u, h1, h2.go (Same.refl F) fun a w e => ⟨upd_ne fun z => ?_, e⟩⟩
      subst z
      rw [ho] at e
      injection e with e
      injection e with e _
      omega
end
def gAsg (i : Nat) (g : LS → R S) : LS → R O := fun L => (g L).bind fun s L1 => .ok .nx (L1.set i (some s))
theorem jdgS_asg {i : Nat} {g : LS → R S} {t : TE} (hp : c.free i) (q : Jdg c n g (BE c.ca) t) : JdgS c (gAsg i g) (tAsg t (L2.gName i)) := fun G F ow σ H L Rr E f =>
  (q G F ow σ H L Rr).use f fun s L1 v H1 F1 ow1 _ _ R1 b1 f1 => f1 _ H1 F1 _ (Same.refl F1) (Rl.store R1 b1 hp)
theorem js_set (i : Nat) {x : Str} {g : LS → R S} {pos' : Pos} (hN : c.X.N.Nodup) (hi : c.X.N[i]? = some x) (hx : Loc c.X.env.scope x) (hp : c.free i) (h : JE c n a g) (hs : swapsWith a (some (.Name x pos')) pos.line c.X.env = pure false := by rfl)
    (hf : c.X.fn x = true ∨ c.X.env.scope.names.lookup x = some .local := by first | exact .inl rfl | exact .inr rfl | assumption) : JS c (.Assign [.Name x pos'] a pos) (gAsg i g) := by
  obtain ⟨t, p, q⟩ := h
  exact ⟨_, ps_set hN hi hx p hs hf, jdgS_asg hp q⟩

/-! ### targets of data -/
def OutOf (ws : List Nat) (σ σ' : L2.St) : Prop := σ'.length = σ.length ∧ ∀ k, k ∉ ws → σ'[k]? = σ[k]?
def JG (c : Ct) (tg : Expr) (ws : List Nat) (f : D → LS → Option LS) : Prop := ∃ t, PG c.X tg t ∧ ∀ G F ow σ H L d v L', c.Rl G F ow σ H L → Dq c.X.K F v d → f d L = some L' → ∀ Q : L2.St → Hp → Prop, (∀ σ', OutOf ws σ σ' → c.Rl G F ow σ' H L' → Q σ' H) → t v σ H Q
def JGs (c : Ct) (tgs : List Expr) (ws : List Nat) (f : List D → LS → Option LS) : Prop := ∃ t, PGs c.X tgs t ∧ ∀ G F ow σ H L ds vs L', c.Rl G F ow σ H L → DqA c.X.K F vs ds → f ds L = some L' → ∀ Q : L2.St → Hp → Prop, (∀ σ', OutOf ws σ σ' → c.Rl G F ow σ' H L' → Q σ' H) → t vs σ H Q
def fName (i : Nat) : D → LS → Option LS := fun d L => some (L.set i (some (.d d)))
theorem jg_name (i : Nat) {x : Str} (hp : c.free i) (h : PG c.X (.Name x pos) (L2.gName i)) : JG c (.Name x pos) [i] (fName i) :=
  ⟨_, h, fun G F ow σ H L d v L' Rr q e Q k => by
    cases e
    refine k _ ⟨List.length_set .., fun k hk => List.getElem?_set_ne fun z => hk ?_⟩ (Rl.storeD Rr q hp)
    rw [z]
    exact List.mem_singleton.mpr rfl⟩
def fNil : List D → LS → Option LS
  | [], L => some L
  | _ :: _, _ => none
def fCons (f : D → LS → Option LS) (r : List D → LS → Option LS) : List D → LS → Option LS
  | d :: ds, L => (f d L).bind (r ds)
  | [], _ => none
theorem jgs_nil : JGs c [] [] fNil := ⟨_, pgs_nil, fun G F ow σ H L ds vs L' Rr q e Q k => by
  cases q with
  | nil =>
    cases e
    exact ⟨rfl, k σ ⟨rfl, fun _ _ => rfl⟩ Rr⟩
  | cons _ _ => cases e⟩
theorem jgs_cons {e : Expr} {es : List Expr} {ws vs : List Nat} {f : D → LS → Option LS} {r : List D → LS → Option LS} (h1 : JG c e ws f) (h2 : JGs c es vs r) (hs : (assignEach (e :: es) c.X.env).map (·.2) = assign e c.X.env :: (assignEach es c.X.env).map (·.2) := by rfl) : JGs c (e :: es) (ws ++ vs) (fCons f r) := by
  obtain ⟨t, p, q⟩ := h1
  obtain ⟨t', p', q'⟩ := h2
  refine ⟨_, pgs_cons p p' hs, fun G F ow σ H L ds vs L' Rr hd e Q k => ?_⟩
  cases hd with
  | nil => cases e
  | cons h1 h2 =>
    obtain ⟨L1, e1, e2⟩ := Option.bind_eq_some_iff.mp e
    refine ⟨_, _, rfl, q G F ow σ H L _ _ L1 Rr h1 e1 _ fun σ' o1 R' => q' G F ow σ' H L1 _ _ L' R' h2 e2 Q fun σ2 o2 R2 => k σ2 ⟨o2.1.trans o1.1, fun k hk => ?_⟩ R2⟩
    rw [List.mem_append, not_or] at hk
    exact (o2.2 k hk.2).trans (o1.2 k hk.1)
def fTup (m : Nat) (f : List D → LS → Option LS) : D → LS → Option LS
  | .tuple ds, L => if ds.length = m then f ds L else none
  | _, _ => none
theorem jg_tup {es : List Expr} {k m : Nat} {ws : List Nat} {f : List D → LS → Option LS} (hc : c.X.calm = true) (h : JGs c es ws f) (hm : (assignEach es c.X.env).length = m := by rfl) (hst : (assignEach es c.X.env).findIdx? (·.1) = none := by rfl) : JG c (.Tuple es k pos) ws (fTup m f) := by
  obtain ⟨t, p, q⟩ := h
  refine ⟨_, pg_tup hc p hm hst, fun G F ow σ H L d v L' Rr hd e Q k => ?_⟩
  cases hd with
  | tup h1 h2 =>
    rename_i l vs ds
    have e : (if ds.length = m then f ds L else none) = some L' := e
    by_cases hl : ds.length = m
    · rw [if_pos hl] at e
      exact ⟨l, vs, rfl, sqt_same Rr.exF h1, h2.len.trans hl, q G F ow σ H L ds vs L' Rr h2 e Q k⟩
    · rw [if_neg hl] at e
      cases e
  | _ => cases e
def gAsgT (f : D → LS → Option LS) (g : LS → R D) : LS → R O := fun L => (g L).bind fun d L1 => match f d L1 with
  | some L2 => .ok .nx L2
  | none => .stuck
theorem js_asg {tg : Expr} {ws : List Nat} {f : D → LS → Option LS} (ht : JG c tg ws f) (h : JD c n a ga) (hs : swapsWithSole [tg] a pos.line c.X.env = pure false := by rfl) (hw : swappedStores [tg] a c.X.env = pure none := by rfl)
    (h1 : (assignEach [tg] c.X.env).map (·.2) = [assign tg c.X.env] := by rfl) : JS c (.Assign [tg] a pos) (gAsgT f ga) := by
  obtain ⟨t, p, q⟩ := h
  obtain ⟨t', p', q'⟩ := ht
  refine ⟨_, ps_asg p p' hs hw h1, fun G F ow σ H L Rr E ft => ?_⟩
  refine (q G F ow σ H L Rr).use ft fun d L1 v H1 F1 ow1 _ _ R1 b1 f1 => ?_
  cases hf : f d L1 with
  | none => rw [hf] at f1; exact f1.elim
  | some L2 =>
    rw [hf] at f1
    exact q' G F1 ow1 σ H1 L1 d v L2 R1 b1 hf _ fun σ' _ R' => f1 σ' H1 F1 ow1 (Same.refl F1) R'

/-! ### x.append(e), x[k] = e on a slot's own list -/
def gOwnL (i : Nat) (k : List D → LS → R S) : LS → R S := fun L => match L[i]? with
  | some (some (.ol ds)) => k ds L
  | _ => .stuck
theorem ownL_at {G F H : Hp} {ow : Addr → Option Path} {σ : L2.St} {L : LS} {i : Nat} {ds : List D} (Rr : c.Rl G F ow σ H L) (h : L[i]? = some (some (.ol ds))) :
    ∃ l vs, σ[i]? = some (some (.ref l)) ∧ H l = some (.lst vs) ∧ ow l = some [i + 1] ∧ DqA c.X.K F vs ds := by
  obtain ⟨v, hv, rs⟩ := Rr.sl i _ h
  cases rs with
  | ol a b q => exact ⟨_, _, hv, a, b, q⟩
theorem Rl.putL {G F H : Hp} {ow : Addr → Option Path} {σ : L2.St} {L : LS} {i : Nat} {l : Addr} {vs : List V} {ds : List D} (Rr : c.Rl G F ow σ H L) (hv : σ[i]? = some (some (.ref l))) (ho : ow l = some [i + 1]) (q : DqA c.X.K F vs ds) :
    c.Rl G F ow σ (upd H l (.lst vs)) (L.set i (some (.ol ds))) := Rl.put Rr ho ⟨_, hv, .ol upd_same ho q⟩
def gApp (i : Nat) (g : LS → R D) : LS → R S := gOwnL i fun _ L => (g L).bind fun d L1 => gOwnL i (fun ds L2 => if ds.length < sizeLine then .ok (.d .none) (L2.set i (some (.ol (ds ++ [d])))) else .stuck) L1
theorem je_append (i : Nat) {x : Str} {p apos : Pos} (h : PE c.X (.Name x p) (tVar i)) (ha : JD c n a ga)
    (hbase : attributeBase (.Name x p) "append" c.X.env (eval (.Name x p) c.X.env) = eval (.Name x p) c.X.env := by rfl)
    (hfew : ((backTo pos (starEach [a] c.X.env)).all (fun x => !x.1) && (backToKw pos (keywordEach [] c.X.env)).all (fun x => x.1.isSome) && decide ([a].length + ([] : List Keyword).length + (if ([] : List Keyword).isEmpty then 0 else 1) < 30)) = true := by rfl)
    (hline : (apos.endLine == pos.line) = true := by rfl) (hs : starEach [a] c.X.env = (false, eval a c.X.env) :: starEach [] c.X.env := by rfl) (hplain : (backTo pos (starEach [] c.X.env)).any (·.1) = false := by rfl) :
    JE c false (.Call (.Attribute (.Name x p) "append" apos) [a] [] pos) (gApp i ga) := by
  obtain ⟨ta, pa, qa⟩ := ha
  refine ⟨_, pe_bm PySem.F.plainAttrs_list PySem.F.slot_list_append PySem.F.type_list_append mt_append h (pa_cons pa pa_nil hs) hbase hfew hline hs hplain, fun G F ow σ H L Rr => ?_⟩
  unfold gApp gOwnL
  cases hL : L[i]? with
  | none => trivial
  | some o =>
    cases o with
    | none => trivial
    | some s =>
      cases s with
      | ol ds0 =>
        obtain ⟨l, vs0, hv, h0, _, _⟩ := ownL_at Rr hL
        have key := (qa G F ow σ H L Rr).bind (n2 := false) (k := fun d L1 => gOwnL i (fun ds L2 => if ds.length < sizeLine then R.ok (S.d .none) (L2.set i (some (.ol (ds ++ [d])))) else .stuck) L1) (B2 := BE c.ca c.X.K) (t2 := fun y H1 Q => rAppend (.ref l) [y] H1 Q)
          fun d L1 v H1 F1 ow1 _ _ _ R1 b1 => by
            unfold gOwnL
            cases hL1 : L1[i]? with
            | none => trivial
            | some o =>
              cases o with
              | none => trivial
              | some s =>
                cases s with
                | ol ds =>
                  obtain ⟨l', vs, hv', h1, h2, h3⟩ := ownL_at R1 hL1
                  rw [hv] at hv'
                  cases hv'
                  refine Post.guard fun hz => ?_
                  intro Q q
                  exact ⟨l, vs, v, rfl, rfl, h1, by rw [h3.len]; exact hz, q _ _ F1 ow1 (Same.refl F1) (fun z => nomatch z) (Rl.putL R1 hv h2 (h3.append (.one b1))) (.d .non)⟩
                | _ => trivial
        rw [Bool.and_false] at key
        exact key.imp fun Q q => ⟨_, hv, .inl ⟨rfl, _, .of h0⟩, q⟩
      | _ => trivial
/-- x[k] = e -/
def setAt (i : Nat) (d : D) : D → LS → R O
  | .int k, L => (match L[i]? with
    | some (some (.ol ds)) => (match ixN ds.length k with
      | some j => .ok .nx (L.set i (some (.ol (ds.set j d))))
      | none => .stuck)
    | _ => .stuck)
  | _, _ => .stuck
def gSetIx (i : Nat) (gk g : LS → R D) : LS → R O := fun L => (g L).bind fun d L1 => match L1[i]? with
  | some (some _) => (gk L1).bind (setAt i d)
  | _ => .stuck
theorem js_setIx (i : Nat) {x : Str} {k : Expr} {gk : LS → R D} {p p3 : Pos} (h : PE c.X (.Name x p) (tVar i)) (hk : JD c n1 k gk) (ha : JD c n2 a ga)
    (hb : ∀ v, assign (.Subscript (.Name x p) k p3) c.X.env v = (do
      let ov ← holding [v] (eval (.Name x p) c.X.env)
      let iv ← holding [v, ov] (eval k c.X.env)
      standAt p3
      holding [v, ov, iv] (setItem ov iv v)
      release [v, ov, iv] []) := by intro _; rfl)
    (hs : swapsWithSole [.Subscript (.Name x p) k p3] a pos.line c.X.env = pure false := by rfl) (hw : swappedStores [.Subscript (.Name x p) k p3] a c.X.env = pure none := by rfl) (h1 : (assignEach [.Subscript (.Name x p) k p3] c.X.env).map (·.2) = [assign (.Subscript (.Name x p) k p3) c.X.env] := by rfl) :
    JS c (.Assign [.Subscript (.Name x p) k p3] a pos) (gSetIx i gk ga) := by
  obtain ⟨ta, pa, qa⟩ := ha
  obtain ⟨tk, pk, qk⟩ := hk
  refine ⟨_, ps_asg pa (pg_sub h pk set_list hb) hs hw h1, fun G F ow σ H L Rr E ft => ?_⟩
  refine (qa G F ow σ H L Rr).use ft fun d L1 v H1 F1 ow1 _ _ R1 b1 f1 => ?_
  cases hL : L1[i]? with
  | none => rw [hL] at f1; exact f1.elim
  | some o =>
    rw [hL] at f1
    cases o with
    | none => exact f1.elim
    | some s =>
      obtain ⟨u, hu, _⟩ := R1.sl i s hL
      refine ⟨u, hu, ?_⟩
      refine (qk G F1 ow1 σ H1 L1 R1).use f1 fun e L2 w H2 F2 ow2 _ e2 R2 b2 f2 => ?_
      cases b2 with
      | int m =>
        have f2 : Fit c G F2 (match L2[i]? with
          | some (some (.ol ds)) => (match ixN ds.length m with
            | some j => R.ok .nx (L2.set i (some (.ol (ds.set j d))))
            | none => .stuck)
          | _ => .stuck) E := f2
        cases hL2 : L2[i]? with
        | none => rw [hL2] at f2; exact f2.elim
        | some o =>
          rw [hL2] at f2
          cases o with
          | none => exact f2.elim
          | some s =>
            cases s with
            | ol ds =>
              obtain ⟨l, vs, hv', h1', h2, h3⟩ := ownL_at R2 hL2
              rw [hu] at hv'
              cases hv'
              dsimp only at f2
              cases hj : ixN ds.length m with
              | none => rw [hj] at f2; exact f2.elim
              | some j =>
                rw [hj] at f2
                exact ⟨l, vs, m, j, rfl, rfl, h1', by rw [h3.len]; exact hj, f2 _ _ F2 ow2 (Same.refl F2) (Rl.putL R2 hu h2 (h3.set (b1.up e2) j))⟩
            | _ => exact f2.elim
      | _ => exact f2.elim

/-! ### for -/
/-- the walk yields these -/
def ItOk (K : PySem.W.Frag) (F : Hp) (ds : List D) (J : It) : Prop := ∀ (i : Nat) (H : Hp), Same F H → (ds.length ≤ i → J.stop i H) ∧ ∀ d, ds[i]? = some d → J.go i H ∧ ∀ x H', J.yld i H x H' →
  (H' = H ∧ Dq K F x d) ∨ ∃ p vs es, d = .tuple es ∧ x = .ref p ∧ H p = none ∧ H' = upd H p (.tup vs) ∧ DqA K F vs es
theorem ItOk.up {K : PySem.W.Frag} {F F' : Hp} {ds : List D} {J : It} (e : Same F F') (h : ItOk K F ds J) : ItOk K F' ds J := fun i H s => by
  obtain ⟨h1, h2⟩ := h i H (e.trans s)
  refine ⟨h1, fun d hd => ?_⟩
  obtain ⟨h3, h4⟩ := h2 d hd
  refine ⟨h3, fun x H' y => ?_⟩
  rcases h4 x H' y with ⟨a, b⟩ | ⟨p, vs, es, a, b, c, d, q⟩
  · exact .inl ⟨a, b.up e⟩
  · exact .inr ⟨p, vs, es, a, b, c, d, q.up e⟩
def BI : PySem.W.Frag → Hp → Hp → (Addr → Option Path) → List D → It → Prop := fun K F _ _ ds J => ItOk K F ds J
def JI (c : Ct) (n : Bool) (tg iter : Expr) (g : LS → R (List D)) : Prop := ∃ wi, PI c.X tg iter wi ∧ Jdg c n g BI wi
/-- over a list, a range -/
def asL : D → LS → R (List D)
  | .list ds, L => .ok ds L
  | _, _ => .stuck
def asT : D → LS → R (List D)
  | .tuple ds, L => .ok ds L
  | _, _ => .stuck
variable {tg : Expr}
theorem ji_list (h : JD c n a ga) : JI c n tg a (fun L => (ga L).bind asL) := by
  obtain ⟨t, p, q⟩ := h
  refine ⟨_, pi_list p, fun G F ow σ H L Rr => (q G F ow σ H L Rr).bind1 (t2 := fun v H1 Q => ∃ a, v = V.ref a ∧ (∃ xs, SqL c.X.K H1 a xs) ∧ Q (Itl c.X.K a) H1) fun d L1 v H1 F1 ow1 _ _ _ R1 b1 => ?_⟩
  cases b1 with
  | @lst l vs ds h1 h2 =>
    refine (Post.val (a := ds) (b := Itl c.X.K l) (B := BI c.X.K) R1 fun i H s => ⟨fun hi => ⟨vs, .of (s _ _ h1), by rw [h2.len]; exact hi⟩, fun d hd => ?_⟩).imp fun Q q => ⟨l, rfl, ⟨vs, .of (R1.exF _ _ h1)⟩, q⟩
    obtain ⟨v, h3, h4⟩ := h2.get hd
    exact ⟨⟨vs, v, .of (s _ _ h1), h3⟩, fun x H' ⟨e1, e2⟩ => .inl ⟨e1, by
      have := e2 vs (.of (s _ _ h1))
      rw [h3] at this
      cases this
      exact h4⟩⟩
  | _ => trivial
theorem ji_tup (h : JD c n a ga) : JI c n tg a (fun L => (ga L).bind asT) := by
  obtain ⟨t, p, q⟩ := h
  refine ⟨_, pi_tup p, fun G F ow σ H L Rr => (q G F ow σ H L Rr).bind1 (t2 := fun v H1 Q => ∃ a, v = V.ref a ∧ (∃ xs, SqT c.X.K H1 a xs) ∧ Q (Itt c.X.K a) H1) fun d L1 v H1 F1 ow1 _ _ _ R1 b1 => ?_⟩
  cases b1 with
  | @tup l vs ds h1 h2 =>
    refine (Post.val (a := ds) (b := Itt c.X.K l) (B := BI c.X.K) R1 fun i H s => ⟨fun hi => ⟨vs, sqt_same s h1, by rw [h2.len]; exact hi⟩, fun d hd => ?_⟩).imp fun Q q => ⟨l, rfl, ⟨vs, sqt_same R1.exF h1⟩, q⟩
    obtain ⟨v, h3, h4⟩ := h2.get hd
    exact ⟨⟨vs, v, sqt_same s h1, h3⟩, fun x H' ⟨e1, e2⟩ => .inl ⟨e1, by
      have := e2 vs (sqt_same s h1)
      rw [h3] at this
      cases this
      exact h4⟩⟩
  | _ => trivial
/-- lo, lo + 1, .. -/
def intsD (lo : Int) (m : Nat) : List D := (List.range m).map fun i => PyData.int (lo + (i : Nat))
theorem intsD_len (lo : Int) (m : Nat) : (intsD lo m).length = m := by
  unfold intsD
  rw [List.length_map, List.length_range]
theorem itr_ok {K : PySem.W.Frag} {F : Hp} {lo : Int} {m : Nat} : ItOk K F (intsD lo m) (Itr lo m) := fun i H s => by
  rw [intsD_len]
  refine ⟨fun h => h, fun d hd => ?_⟩
  have hi : i < m := by
    have := (List.getElem?_eq_some_iff.mp hd).1
    rw [intsD_len] at this
    exact this
  unfold intsD at hd
  rw [List.getElem?_map, List.getElem?_range hi] at hd
  cases hd
  exact ⟨hi, fun x H' ⟨e1, e2⟩ => .inl ⟨e1, by rw [e2]; exact .int _⟩⟩
def rng1 : List D → LS → R (List D)
  | [.int j], L => if -(2 ^ 62) ≤ j ∧ j < 2 ^ 62 then .ok (intsD 0 j.toNat) L else .stuck
  | _, _ => .stuck
def rng2 : List D → LS → R (List D)
  | [.int i, .int j], L => if -(2 ^ 62) ≤ i ∧ i < 2 ^ 62 ∧ -(2 ^ 62) ≤ j ∧ j < 2 ^ 62 then .ok (intsD i (j - i).toNat) L else .stuck
  | _, _ => .stuck
theorem ji_range1 {gs : LS → R (List D)} {p : Pos} (hg : Gl c.X "range") (hm : c.X.mg "range" = none) (h : JA c n [a] gs) (hs : starEach [a] c.X.env = [(false, eval a c.X.env)] := by rfl) : JI c n tg (.Call (.Name "range" p) [a] [] pos) (fun L => (gs L).bind rng1) := by
  obtain ⟨t, pa, q⟩ := h
  refine ⟨_, pi_range1 hg hm pa hs, fun G F ow σ H L Rr => (q G F ow σ H L Rr).bind1 (t2 := fun vs H1 Q => ∃ j : Int, vs = [V.int j] ∧ -(2 ^ 62) ≤ j ∧ j < 2 ^ 62 ∧ Q (Itr 0 j.toNat) H1) fun ds L1 vs H1 F1 ow1 _ _ _ R1 b1 => ?_⟩
  cases b1 with
  | nil => trivial
  | cons x y =>
    cases y with
    | cons _ _ => cases x <;> trivial
    | nil =>
      cases x with
      | int j => exact Post.guard fun hj => (Post.val (a := intsD 0 j.toNat) (b := Itr 0 j.toNat) (B := BI c.X.K) R1 itr_ok).imp fun Q q => ⟨j, rfl, hj.1, hj.2, q⟩
      | _ => trivial
theorem ji_range2 {gs : LS → R (List D)} {p : Pos} (hg : Gl c.X "range") (hm : c.X.mg "range" = none) (h : JA c n [a, b] gs) (hs : starEach [a, b] c.X.env = [(false, eval a c.X.env), (false, eval b c.X.env)] := by rfl) (hs2 : starEach [b] c.X.env = [(false, eval b c.X.env)] := by rfl) : JI c n tg (.Call (.Name "range" p) [a, b] [] pos) (fun L => (gs L).bind rng2) := by
  obtain ⟨t, pa, q⟩ := h
  refine ⟨_, pi_range2 hg hm pa hs hs2, fun G F ow σ H L Rr => (q G F ow σ H L Rr).bind1 (t2 := fun vs H1 Q => ∃ i j : Int, vs = [V.int i, V.int j] ∧ (-(2 ^ 62) ≤ i ∧ i < 2 ^ 62 ∧ -(2 ^ 62) ≤ j ∧ j < 2 ^ 62) ∧ Q (Itr i (j - i).toNat) H1) fun ds L1 vs H1 F1 ow1 _ _ _ R1 b1 => ?_⟩
  cases b1 with
  | nil => trivial
  | cons x y =>
    cases y with
    | nil => cases x <;> trivial
    | cons y z =>
      cases z with
      | cons _ _ => cases x <;> cases y <;> trivial
      | nil =>
        cases x with
        | int i =>
          cases y with
          | int j => exact Post.guard fun hj => (Post.val (a := intsD i (j - i).toNat) (b := Itr i (j - i).toNat) (B := BI c.X.K) R1 itr_ok).imp fun Q q => ⟨i, j, rfl, hj, q⟩
          | _ => trivial
        | _ => cases y <;> trivial
def forGo (f : D → LS → Option LS) (g : LS → R O) : List D → LS → R O
  | [], L => .ok .nx L
  | d :: ds, L => match f d L with
    | none => .stuck
    | some L1 => match g L1 with
      | .ok .nx L2 => forGo f g ds L2
      | .ok .ct L2 => forGo f g ds L2
      | .ok .bk L2 => .ok .nx L2
      | r => r
def gFor (gi : LS → R (List D)) (f : D → LS → Option LS) (g : LS → R O) : LS → R O := fun L => (gi L).bind fun ds L1 => forGo f g ds L1
theorem js_for {ws : List Nat} {iter : Expr} {body : List Stmt} {gi : LS → R (List D)} {f : D → LS → Option LS} (hp : PassesOwn (model c.X.prog c.X.w) c.X.A c.X.env c.X.xe) (hc : c.X.calm = true) (hi : JI c n tg iter gi) (hg : JG c tg ws f) (hb : JB c body g)
    (hs : ∀ x, foldedSetIterable iter c.X.env x = pure x := by intro _; rfl) : JS c (.For tg iter body [] pos) (gFor gi f g) := by
  obtain ⟨wi, p1, q1⟩ := hi
  obtain ⟨tt, p2, q2⟩ := hg
  obtain ⟨tb, p3, q3⟩ := hb
  refine ⟨_, ps_for hp hc p1 p2 p3 hs, fun G F ow σ H L Rr E ft => ?_⟩
  refine (q1 G F ow σ H L Rr).use ft fun ds L1 J H1 F1 ow1 _ _ R1 b1 f1 => ?_
  refine ⟨fun i m σ H => m = ds.length - i ∧ i ≤ ds.length ∧ ∃ F' ow' L', Same F1 F' ∧ c.Rl G F' ow' σ H L' ∧ Fit c G F' (forGo f g (ds.drop i) L') E, ⟨ds.length, rfl, Nat.zero_le _, F1, ow1, L1, Same.refl F1, R1, f1⟩, fun i m σ2 H2 hW => ?_⟩
  obtain ⟨rfl, hi, F2, ow2, L2, e2, R2, f2⟩ := hW
  obtain ⟨k1, k2⟩ := (ItOk.up e2 b1) i H2 R2.exF
  by_cases hlt : i < ds.length
  · have hd : ds[i]? = some ds[i] := List.getElem?_eq_getElem hlt
    obtain ⟨k3, k4⟩ := k2 _ hd
    rw [List.drop_eq_getElem_cons hlt] at f2
    refine .inr ⟨k3, fun σ' H' => ∃ F' ow' L', Same F1 F' ∧ c.Rl G F' ow' σ' H' L' ∧ Fit c G F' (forGo f g (ds.drop (i + 1)) L') E, fun σ' H' ⟨F', ow', L', w1, w2, w3⟩ => ⟨ds.length - (i + 1), by omega, rfl, hlt, F', ow', L', w1, w2, w3⟩, fun x H' y => ?_⟩
    have step : ∀ {F3 : Hp} {H3 : Hp}, Same F2 F3 → c.Rl G F3 ow2 σ2 H3 L2 → Dq c.X.K F3 x ds[i] → tt x σ2 H3 fun σ4 H4 => tb { nx := fun σ' H' => ∃ F' ow' L', Same F1 F' ∧ c.Rl G F' ow' σ' H' L' ∧ Fit c G F' (forGo f g (ds.drop (i + 1)) L') E, rt := E.rt, bk := E.nx, ct := fun σ' H' => ∃ F' ow' L', Same F1 F' ∧ c.Rl G F' ow' σ' H' L' ∧ Fit c G F' (forGo f g (ds.drop (i + 1)) L') E } σ4 H4 := fun {F3 H3} e3 R3 hx => by
      have f3 : Fit c G F3 (forGo f g (ds[i] :: ds.drop (i + 1)) L2) E := Fit.up e3 f2
      unfold forGo at f3
      cases hf : f ds[i] L2 with
      | none => rw [hf] at f3; exact f3.elim
      | some L3 =>
        rw [hf] at f3
        refine q2 G F3 ow2 σ2 H3 L2 _ x L3 R3 hx hf _ fun σ4 _ R4 => ?_
        refine q3 G F3 ow2 σ4 H3 L3 R4 _ ?_
        dsimp only at f3
        cases hr : g L3 with
        | stuck => rw [hr] at f3; exact f3.elim
        | err k L4 => rw [hr] at f3; exact f3
        | ok o L4 =>
          rw [hr] at f3
          cases o with
          | nx => exact fun σ' H' F' ow' e' R' => ⟨F', ow', L4, (e2.trans e3).trans e', R', Fit.up e' f3⟩
          | ct => exact fun σ' H' F' ow' e' R' => ⟨F', ow', L4, (e2.trans e3).trans e', R', Fit.up e' f3⟩
          | bk => exact f3
          | rt s => exact f3
    rcases k4 x H' y with ⟨rfl, hx⟩ | ⟨p, vs, es, he, rfl, hp', rfl, hq⟩
    · exact step (Same.refl F2) R2 hx
    · obtain ⟨w1, w2, w3⟩ := R2.newF (o := .tup vs) hp'
      rw [he] at step
      exact step w1 w3 (.tup (.of upd_same) (hq.up w1))
  · have hl : ds.length ≤ i := Nat.le_of_not_lt hlt
    rw [List.drop_eq_nil_of_le hl] at f2
    exact .inl ⟨k1 hl, f2 σ2 H2 F2 ow2 (Same.refl F2) R2⟩
/-- while, with so many turns at most -/
def whGo (t : LS → R Bool) (g : LS → R O) : Nat → LS → R O
  | 0, _ => .stuck
  | k + 1, L => (t L).bind fun b L1 => if b = true then (match g L1 with
      | .ok .nx L2 => whGo t g k L2
      | .ok .ct L2 => whGo t g k L2
      | .ok .bk L2 => .ok .nx L2
      | r => r) else .ok .nx L1
def gWhile (m : LS → Nat) (t : LS → R Bool) (g : LS → R O) : LS → R O := fun L => whGo t g (m L) L
theorem js_while (m : LS → Nat) {e : Expr} {body : List Stmt} {t : LS → R Bool} (hp : PassesOwn (model c.X.prog c.X.w) c.X.A c.X.env c.X.xe) (ht : JT c n e t) (hb : JB c body g) : JS c (.While e body [] pos) (gWhile m t g) := by
  obtain ⟨tt, p2, q2⟩ := ht
  obtain ⟨tb, p3, q3⟩ := hb
  refine ⟨_, ps_while hp p2 p3, fun G F ow σ H L Rr E ft => ?_⟩
  refine ⟨fun k σ H => ∃ F' ow' L', Same F F' ∧ c.Rl G F' ow' σ H L' ∧ Fit c G F' (whGo t g k L') E, ⟨m L, F, ow, L, Same.refl F, Rr, ft⟩, fun k σ1 H1 hW => ?_⟩
  obtain ⟨F1, ow1, L1, e1, R1, f1⟩ := hW
  cases k with
  | zero => exact f1.elim
  | succ k =>
    refine (q2 G F1 ow1 σ1 H1 L1 R1).use f1 fun b L2 b' H2 F2 ow2 _ e2 R2 b1 f2 => ?_
    cases b1
    cases b with
    | false => exact f2 σ1 H2 F2 ow2 (Same.refl F2) R2
    | true =>
      refine ⟨fun σ' H' => ∃ F' ow' L', Same F F' ∧ c.Rl G F' ow' σ' H' L' ∧ Fit c G F' (whGo t g k L') E, fun σ' H' w => ⟨k, Nat.lt_succ_self k, w⟩, ?_⟩
      refine q3 G F2 ow2 σ1 H2 L2 R2 _ ?_
      have f2 : Fit c G F2 (match g L2 with
        | .ok .nx L2 => whGo t g k L2
        | .ok .ct L2 => whGo t g k L2
        | .ok .bk L2 => .ok .nx L2
        | r => r) E := f2
      cases hr : g L2 with
      | stuck => rw [hr] at f2; exact f2.elim
      | err k L4 => rw [hr] at f2; exact f2
      | ok o L4 =>
        rw [hr] at f2
        cases o with
        | nx => exact fun σ' H' F' ow' e' R' => ⟨F', ow', L4, (e1.trans e2).trans e', R', Fit.up e' f2⟩
        | ct => exact fun σ' H' F' ow' e' R' => ⟨F', ow', L4, (e1.trans e2).trans e', R', Fit.up e' f2⟩
        | bk => exact f2
        | rt s => exact f2
end
end VS

namespace VS
open PySem PySem.Spec PyProof.Rows L2

/-! ### a def -/
def maskL : List Bool → LS → LS
  | b :: bs, o :: L => (if b then o else none) :: maskL bs L
  | _ :: bs, [] => none :: maskL bs []
  | [], _ => []
def endOf (md : List Bool) : R O → R S
  | .ok .nx L => .ok (.d .none) (maskL md L)
  | .ok (.rt s) L => .ok s (maskL md L)
  | .ok _ _ => .stuck
  | .err e L => .err e (maskL md L)
  | .stuck => .stuck
def runDef (md : List Bool) (N : Nat) (g : LS → R O) : LS → R S := fun ss => endOf md (g (ss ++ List.replicate (N - ss.length) none))
/-- a def's promise by values: md tells which parameters are handed as things that it may change -/
def VSp (K : PySem.W.Frag) (ca : Nat → Addr) (md : List Bool) (m : LS → R S) : Sp := fun vs H Q E => ∃ G F ow ss, ss.length = md.length ∧ Rl K ca [] G F ow (vs.map some) H ss ∧ match m ss with
  | .ok s L => ∀ v H' F' ow', Same F F' → Rl K ca [] G F' ow' (vs.map some) H' L → RS K ca F' H' ow' [0] s v → Q v H'
  | .err e L => ∀ H' F' ow', Same F F' → Rl K ca [] G F' ow' (vs.map some) H' L → E (.ref (ca e)) none H'
  | .stuck => False
theorem VSp.len {K : PySem.W.Frag} {ca : Nat → Addr} {md : List Bool} {m : LS → R S} {vs : List V} {H : Hp} {Q : VK} {E : XK} (h : VSp K ca md m vs H Q E) : vs.length = md.length := by
  obtain ⟨G, F, ow, ss, h1, h2, _⟩ := h
  have := h2.len
  rw [List.length_map] at this
  omega
theorem maskL_get : ∀ {md : List Bool} {L : LS} {i : Nat} {s : S}, (maskL md L)[i]? = some (some s) → md[i]? = some true ∧ L[i]? = some (some s)
  | b :: bs, o :: L, 0, s, h => by
    have h' : (if b then o else none) = some s := Option.some.inj h
    cases b with
    | true => exact ⟨rfl, congrArg some h'⟩
    | false => cases h'
  | b :: bs, o :: L, i + 1, s, h => maskL_get (md := bs) (L := L) (i := i) h
  | b :: bs, [], 0, s, h => by cases h
  | b :: bs, [], i + 1, s, h => by
    have := (maskL_get (md := bs) (L := []) (i := i) (s := s) h).2
    cases this
  | [], _, _, _, h => by cases h
theorem maskL_len : ∀ (md : List Bool) (L : LS), (maskL md L).length = md.length
  | [], L => by cases L <;> rfl
  | b :: bs, [] => by
    show (maskL bs []).length + 1 = _
    rw [maskL_len bs []] <;> rfl
  | b :: bs, o :: L => by
    show (maskL bs L).length + 1 = _
    rw [maskL_len bs L] <;> rfl
section
variable {P : Program} {w : World} {K : PySem.W.Frag} {mg : Str → Option Value} {base : Heap} {ca : Nat → Addr}
/-- the context of a def's body -/
abbrev ctOf (P : Program) (w : World) (K : PySem.W.Frag) (mg : Str → Option Value) (base : Heap) (ca : Nat → Addr) (N : List Str) (qual : Str) (sc : Scope) (f : Addr) (cdv : Value) (A : Around) (outer : List Env) (s : Shared) (H : Hp) (E : XK) (md : List Bool) (vs : List V) : Ct :=
  ⟨cxOf (L2.CX P w) P w K mg base N qual sc f cdv A outer s H E, fun cls d _ H => E cls d H, ca, md, vs⟩
theorem vf_of {x qual : Str} {st : Stmt} {f : Addr} {fd : FuncData} {N ps : List Str} {k : Nat} {md : List Bool} {g : LS → R O} (F : Fun K x qual st f fd) (S : FnScope N ps (defScope st)) (hmd : md.length = ps.length) (hN : ps.length ≤ N.length)
    (hb : ∀ (cdv : Value) (A : Around) (outer : List Env) (s : Shared) (H : Hp) (E : XK) (vs : List V), Room k (A.deeper (envOfC qual (defScope st) s.heap.objs.size f cdv)) → JB (ctOf P w K mg base ca N qual (defScope st) f cdv A outer s H E md vs) (defBody st) g) :
    FnOk P w K mg base (L2.CX P w) (k + 1) f fd ps (VSp K ca md (runDef md N.length g)) := by
  refine F.okX S (fun vs H Q E h => h.len.trans hmd) (fun cdv A outer s H vs Q E hr h => ?_)
  have hlen : vs.length = md.length := h.len
  obtain ⟨G, F0, ow, ss, h1, h2, h3⟩ := h
  obtain ⟨t, ht, hq⟩ := hb cdv A outer s H E vs hr
  refine ⟨t, ht, ?_⟩
  have hlv : ss.length = vs.length := by
    have := h2.len
    rw [List.length_map] at this
    exact this
  have pinv : ∀ (i : Nat) (v : V), (pinOf md vs)[i]? = some (some v) → (vs.map some)[i]? = some (some v) := fun i v h => by
    rw [List.getElem?_map, (pinOf_mk h).2]
    rfl
  have R0 : Rl K ca (pinOf md vs) G F0 ow (L2.start N vs) H (ss ++ List.replicate (N.length - ss.length) none) := by
    refine ⟨h2.exF, h2.exG, h2.dF, h2.dG, ?_, fun i s0 hi => ?_, fun i v hi => ?_⟩
    · unfold L2.start
      rw [List.length_append, List.length_append, List.length_replicate, List.length_replicate, List.length_map, hlv]
    · have hlt : i < ss.length := by
        by_cases z : i < ss.length
        · exact z
        · rw [List.getElem?_append_right (Nat.le_of_not_lt z), List.getElem?_replicate] at hi
          split at hi <;> cases hi
      rw [List.getElem?_append_left hlt] at hi
      obtain ⟨v, q1, q2⟩ := h2.sl i s0 hi
      refine ⟨v, ?_, q2⟩
      unfold L2.start
      rw [List.getElem?_append_left (by rw [List.length_map]; omega)]
      exact q1
    · have q := pinv i v hi
      unfold L2.start
      rw [List.getElem?_append_left (List.getElem?_eq_some_iff.mp q).1]
      exact q
  have back : ∀ {σ' : L2.St} {H' F' : Hp} {ow' : Addr → Option Path} {L : LS}, Rl K ca (pinOf md vs) G F' ow' σ' H' L → Rl K ca [] G F' ow' (vs.map some) H' (maskL md L) := fun {σ' H' F' ow' L} r => by
    refine ⟨r.exF, r.exG, r.dF, r.dG, ?_, fun i s0 hi => ?_, fun i v hi => by cases hi⟩
    · rw [maskL_len, List.length_map, hlen]
    · obtain ⟨m1, m2⟩ := maskL_get hi
      obtain ⟨v, q1, q2⟩ := r.sl i s0 m2
      have hlt : i < vs.length := by
        have := (List.getElem?_eq_some_iff.mp m1).1
        omega
      have hpin := r.pin i vs[i] (pinOf_at m1 (List.getElem?_eq_getElem hlt))
      rw [hpin] at q1
      cases q1
      exact ⟨_, by rw [List.getElem?_map, List.getElem?_eq_getElem hlt]; rfl, q2⟩
  refine hq G F0 ow (L2.start N vs) H _ R0 _ ?_
  unfold runDef at h3
  cases hr : g (ss ++ List.replicate (N.length - ss.length) none) with
  | stuck => rw [hr] at h3; exact h3
  | err e L =>
    rw [hr] at h3
    exact fun σ' H' F' ow' e' R' => h3 H' F' ow' e' (back R')
  | ok o L =>
    rw [hr] at h3
    cases o with
    | nx => exact fun σ' H' F' ow' e' R' => h3 .non H' F' ow' e' (back R') (.d .non)
    | rt s0 => exact fun v σ' H' F' ow' e' R' rs => h3 v H' F' ow' e' (back R') rs
    | bk => exact h3.elim
    | ct => exact h3.elim
end
end VS

namespace VS
open PySem PySem.Spec PyProof.Rows L2

/-! ### calls -/
inductive Ar where
  | d (g : LS → R D)
  | r (i : Nat)
inductive Av where
  | d (d : D)
  | r (i : Nat)
def evArgs : List Ar → LS → R (List Av)
  | [], L => .ok [] L
  | .d g :: as, L => (g L).bind fun d L1 => (evArgs as L1).bind fun xs L2 => .ok (.d d :: xs) L2
  | .r i :: as, L => match L[i]? with
    | some (some _) => (evArgs as L).bind fun xs L2 => .ok (.r i :: xs) L2
    | _ => .stuck
def AvOk (K : PySem.W.Frag) (σ : L2.St) (F : Hp) : List Av → List V → Prop := Paired fun x v => match x with
  | .d d => Dq K F v d
  | .r i => σ[i]? = some (some v)
theorem AvOk.up {K : PySem.W.Frag} {σ : L2.St} {F F' : Hp} {xs : List Av} {vs : List V} (e : Same F F') (h : AvOk K σ F xs vs) : AvOk K σ F' xs vs := Paired.mapP h fun x v z => by
  cases x with
  | d d => exact Dq.up e z
  | r i => exact z
def allD : List Ar → Bool
  | [] => true
  | .d _ :: as => allD as
  | .r _ :: _ => false
def refs : List Av → List Nat
  | [] => []
  | .d _ :: xs => refs xs
  | .r i :: xs => i :: refs xs
def JAr (c : Ct) (n : Bool) (es : List Expr) (as : List Ar) : Prop := ∃ t, PA c.X es t ∧ ∀ G F ow σ H L, c.Rl G F ow σ H L → Post c G n F H σ (evArgs as L) (fun F' _ _ xs vs => AvOk c.X.K σ F' xs vs ∧ (allD as = true → refs xs = [])) (t σ H)
section
variable {c : Ct} {n n1 n2 n3 : Bool} {a b : Expr} {ga gb : LS → R D} {pos : Pos} {es : List Expr} {as : List Ar}
theorem jar_nil : JAr c true [] [] := ⟨_, pa_nil, fun G F ow σ H L Rr => Post.val Rr ⟨.nil, fun _ => rfl⟩⟩
theorem jar_d (h1 : JD c n1 a ga) (h2 : JAr c n2 es as) (hs : starEach (a :: es) c.X.env = (false, eval a c.X.env) :: starEach es c.X.env := by rfl) : JAr c (n1 && n2) (a :: es) (.d ga :: as) := by
  obtain ⟨t1, p1, q1⟩ := h1
  obtain ⟨t2, p2, q2⟩ := h2
  refine ⟨_, pa_cons p1 p2 hs, fun G F ow σ H L Rr => ?_⟩
  refine (q1 G F ow σ H L Rr).bind fun d L1 v H1 F1 ow1 _ _ _ R1 b1 => ?_
  exact (q2 G F1 ow1 σ H1 L1 R1).bind1 (t2 := fun vs H2 Q => Q (v :: vs) H2) fun xs L2 vs H2 F2 ow2 _ e2 _ R2 b2 => Post.val R2 ⟨.cons (Dq.up e2 b1) b2.1, fun h => b2.2 h⟩
theorem jar_r (i : Nat) {x : Str} {p : Pos} (h1 : PE c.X (.Name x p) (tVar i)) (h2 : JAr c n es as) (hs : starEach (.Name x p :: es) c.X.env = (false, eval (.Name x p) c.X.env) :: starEach es c.X.env := by rfl) : JAr c n (.Name x p :: es) (.r i :: as) := by
  obtain ⟨t2, p2, q2⟩ := h2
  refine ⟨_, pa_cons h1 p2 hs, fun G F ow σ H L Rr => ?_⟩
  unfold evArgs
  cases hL : L[i]? with
  | none => trivial
  | some o =>
    cases o with
    | none => trivial
    | some s =>
      obtain ⟨v, hv, _⟩ := Rr.sl i s hL
      exact ((q2 G F ow σ H L Rr).bind1 (t2 := fun vs H2 Q => Q (v :: vs) H2) fun xs L2 vs H2 F2 ow2 _ e2 _ R2 b2 => Post.val (B := fun F' _ _ xs vs => AvOk c.X.K σ F' xs vs ∧ (allD (.r i :: as) = true → refs xs = [])) R2 ⟨.cons hv b2.1, fun h => nomatch h⟩).imp fun Q q => ⟨v, hv, q⟩

def slotOf (L : LS) : Av → Option S
  | .d d => some (.d d)
  | .r i => (L[i]?).join
def putBack : List Av → LS → LS → LS
  | .r i :: xs, o :: ss, L => putBack xs ss (L.set i o)
  | .d _ :: xs, _ :: ss, L => putBack xs ss L
  | _, _, L => L
def callAt (m : LS → R S) (xs : List Av) (L : LS) : R S := match m (xs.map (slotOf L)) with
  | .ok s ss => .ok s (putBack xs ss L)
  | .err e ss => .err e (putBack xs ss L)
  | .stuck => .stuck
def gCall (m : LS → R S) (as : List Ar) : LS → R S := fun L => (evArgs as L).bind fun xs L1 => if (refs xs).Nodup then callAt m xs L1 else .stuck
/-- where slot i is handed -/
def posR : List Av → Nat → Option Nat
  | [], _ => none
  | .r k :: xs, i => if k = i then some 0 else (posR xs i).map (· + 1)
  | .d _ :: xs, i => (posR xs i).map (· + 1)
theorem posR_at : ∀ {xs : List Av} {i j : Nat}, posR xs i = some j → xs[j]? = some (Av.r i)
  | .r k :: xs, i, j, h => by
    have h : (if k = i then some 0 else (posR xs i).map (· + 1)) = some j := h
    by_cases hk : k = i
    · rw [if_pos hk] at h
      cases h
      rw [hk]
      rfl
    · rw [if_neg hk] at h
      obtain ⟨l, h1, rfl⟩ := Option.map_eq_some_iff.mp h
      exact posR_at (xs := xs) h1
  | .d _ :: xs, i, j, h => by
    obtain ⟨l, h1, rfl⟩ := Option.map_eq_some_iff.mp (show (posR xs i).map (· + 1) = some j from h)
    exact posR_at (xs := xs) h1
  | [], _, _, h => by cases h
theorem mem_refs : ∀ {xs : List Av} {i j : Nat}, xs[j]? = some (.r i) → i ∈ refs xs
  | .r k :: xs, i, 0, h => by
    cases h
    exact List.mem_cons_self
  | .r k :: xs, i, j + 1, h => List.mem_cons_of_mem _ (mem_refs (xs := xs) h)
  | .d _ :: xs, i, 0, h => by cases h
  | .d _ :: xs, i, j + 1, h => mem_refs (xs := xs) (j := j) h
  | [], _, _, h => by cases h
theorem posR_of : ∀ {xs : List Av} {i j : Nat}, (refs xs).Nodup → xs[j]? = some (.r i) → posR xs i = some j
  | .r k :: xs, i, 0, _, h => by
    cases h
    exact if_pos rfl
  | .r k :: xs, i, j + 1, nd, h => by
    have h' : xs[j]? = some (.r i) := h
    have hk : k ≠ i := fun z => by
      subst z
      exact (List.nodup_cons.mp nd).1 (mem_refs h')
    show (if k = i then some 0 else (posR xs i).map (· + 1)) = _
    rw [if_neg hk, posR_of (List.nodup_cons.mp nd).2 h']
    rfl
  | .d _ :: xs, i, 0, _, h => by cases h
  | .d _ :: xs, i, j + 1, nd, h => by
    show (posR xs i).map (· + 1) = _
    rw [posR_of (xs := xs) nd (show xs[j]? = some (.r i) from h)]
    rfl
  | [], _, _, _, h => by cases h
theorem putBack_len : ∀ (xs : List Av) (ss L : LS), (putBack xs ss L).length = L.length
  | .r i :: xs, o :: ss, L => by
    show (putBack xs ss (L.set i o)).length = _
    rw [putBack_len xs ss, List.length_set]
  | .d _ :: xs, o :: ss, L => putBack_len xs ss L
  | [], _, L => rfl
  | .r _ :: _, [], L => rfl
  | .d _ :: _, [], L => rfl
theorem putBack_get : ∀ {xs : List Av} {ss L : LS} {k : Nat} {s : S}, (putBack xs ss L)[k]? = some (some s) → (∃ j : Nat, xs[j]? = some (Av.r k) ∧ ss[j]? = some (some s)) ∨ (L[k]? = some (some s) ∧ (ss.length = xs.length → k ∉ refs xs))
  | .r i :: xs, o :: ss, L, k, s, h => by
    have h : (putBack xs ss (L.set i o))[k]? = some (some s) := h
    rcases putBack_get h with ⟨j, h1, h2⟩ | ⟨h1, h2⟩
    · exact .inl ⟨j + 1, h1, h2⟩
    · rcases set_get h1 with ⟨rfl, h3⟩ | ⟨hk, h3⟩
      · exact .inl ⟨0, rfl, congrArg some h3⟩
      · refine .inr ⟨h3, fun hl hm => ?_⟩
        rcases List.mem_cons.mp hm with z | z
        · exact hk z.symm
        · exact h2 (by simpa using hl) z
  | .d _ :: xs, o :: ss, L, k, s, h => by
    have h : (putBack xs ss L)[k]? = some (some s) := h
    rcases putBack_get h with ⟨j, h1, h2⟩ | ⟨h1, h2⟩
    · exact .inl ⟨j + 1, h1, h2⟩
    · exact .inr ⟨h1, fun hl hm => h2 (by simpa using hl) hm⟩
  | [], ss, L, k, s, h => .inr ⟨h, fun _ hm => by cases hm⟩
  | .r _ :: _, [], L, k, s, h => .inr ⟨h, fun hl => by simp at hl⟩
  | .d _ :: _, [], L, k, s, h => .inr ⟨h, fun hl => by simp at hl⟩
section
variable {G F H : Hp} {ow : Addr → Option Path} {σ : L2.St} {L : LS} {xs : List Av} {vs : List V}
def owIn (ow : Addr → Option Path) (xs : List Av) : Addr → Option Path := fun a => match ow a with
  | some ((r + 1) :: q) => (posR xs r).map fun j => (j + 1) :: q
  | _ => none
def gIn (G F H : Hp) (oc : Addr → Option Path) : Hp := fun a => if (oc a).isSome then none else if (F a).isSome then none else H a
def owOut (ow oc oc' : Addr → Option Path) (xs : List Av) : Addr → Option Path := fun a => match oc' a with
  | some (0 :: q) => some (0 :: q)
  | some ((j + 1) :: q) => (match xs[j]? with
    | some (.r i) => some ((i + 1) :: q)
    | _ => none)
  | some [] => none
  | none => if (oc a).isSome then none else ow a
theorem owIn_some {a : Addr} {p : Path} (h : owIn ow xs a = some p) : ∃ r q j, ow a = some ((r + 1) :: q) ∧ posR xs r = some j ∧ p = (j + 1) :: q := by
  unfold owIn at h
  split at h
  · rename_i r q e
    obtain ⟨j, h1, h2⟩ := Option.map_eq_some_iff.mp h
    exact ⟨r, q, j, e, h1, h2.symm⟩
  · cases h
theorem owIn_at {a : Addr} {r j : Nat} {q : Path} (h : ow a = some ((r + 1) :: q)) (hp : posR xs r = some j) : owIn ow xs a = some ((j + 1) :: q) := by
  unfold owIn
  rw [h]
  show (posR xs r).map _ = _
  rw [hp]
  rfl
theorem owIn_no {a : Addr} {r : Nat} {q : Path} (h : ow a = some ((r + 1) :: q)) (hp : posR xs r = none) : owIn ow xs a = none := by
  unfold owIn
  rw [h]
  show (posR xs r).map _ = _
  rw [hp]
  rfl
theorem isSome_ne {α : Type} {o : Option α} (h : o.isSome = true) : o ≠ none := fun z => by
  rw [z] at h
  cases h
theorem gIn_some {a : Addr} {o : HO} {oc : Addr → Option Path} (h : gIn G F H oc a = some o) : oc a = none ∧ F a = none ∧ H a = some o := by
  unfold gIn at h
  split at h
  · cases h
  · split at h
    · cases h
    · rename_i h1 h2
      refine ⟨?_, ?_, h⟩
      · cases e : oc a with
        | none => rfl
        | some p => rw [e] at h1; exact absurd rfl h1
      · cases e : F a with
        | none => rfl
        | some p => rw [e] at h2; exact absurd rfl h2
theorem gIn_at {a : Addr} {oc : Addr → Option Path} (h1 : oc a = none) (h2 : F a = none) : gIn G F H oc a = H a := by
  unfold gIn
  rw [h1, h2]
  rfl
theorem AvOk.get {K : PySem.W.Frag} : ∀ {xs : List Av} {vs : List V} {j : Nat} {x : Av}, AvOk K σ F xs vs → xs[j]? = some x → ∃ v, vs[j]? = some v ∧ match x with
    | .d d => Dq K F v d
    | .r i => σ[i]? = some (some v)
  | _, _, _, _, .nil, h => by cases h
  | _, _, 0, x, .cons r _, h => by
    cases h
    exact ⟨_, rfl, r⟩
  | _ :: xs, _ :: vs, j + 1, x, .cons _ t, h => AvOk.get (xs := xs) (vs := vs) (j := j) (x := x) t h
/-- what is handed in -/
theorem Rl.callIn (Rr : c.Rl G F ow σ H L) (av : AvOk c.X.K σ F xs vs) (nd : (refs xs).Nodup) : Rl c.X.K c.ca [] (gIn G F H (owIn ow xs)) F (owIn ow xs) (vs.map some) H (xs.map (slotOf L)) := by
  refine ⟨Rr.exF, fun a o h => (gIn_some h).2.2, fun a p h => ?_, fun a o h => ?_, ?_, fun j s h => ?_, fun i v h => by cases h⟩
  · obtain ⟨r, q, j, h1, h2, h3⟩ := owIn_some h
    obtain ⟨x, y, z⟩ := Rr.dF a _ h1
    refine ⟨x, ?_, z⟩
    unfold gIn
    rw [h]
    rfl
  · unfold gIn
    split
    · rfl
    · rw [h] <;> rfl
  · rw [List.length_map, List.length_map]
    exact Paired.length av
  · rw [List.getElem?_map] at h
    obtain ⟨x, hx, hs⟩ := Option.map_eq_some_iff.mp h
    obtain ⟨v, hv, q⟩ := AvOk.get (j := j) (x := x) av hx
    refine ⟨v, by rw [List.getElem?_map, hv]; rfl, ?_⟩
    cases x with
    | d d =>
      cases hs
      exact .d q
    | r i =>
      have hs' : (L[i]?).join = some s := hs
      have hL : L[i]? = some (some s) := by
        cases e : L[i]? with
        | none => rw [e] at hs'; cases hs'
        | some o => rw [e] at hs'; exact congrArg some hs'
      obtain ⟨u, hu, rs⟩ := Rr.sl i s hL
      have q' : σ[i]? = some (some v) := q
      rw [hu] at q'
      cases q'
      exact rs.go (Same.refl F) fun a w e => ⟨rfl, owIn_at e (posR_of nd hx)⟩
/-- what is handed back -/
theorem Rl.callOut {F' H' : Hp} {oc' : Addr → Option Path} {ss : LS} (Rr : c.Rl G F ow σ H L) (av : AvOk c.X.K σ F xs vs) (nd : (refs xs).Nodup) (e : Same F F')
    (r' : Rl c.X.K c.ca [] (gIn G F H (owIn ow xs)) F' oc' (vs.map some) H' ss) : c.Rl G F' (owOut ow (owIn ow xs) oc' xs) σ H' (putBack xs ss L) ∧ (refs xs = [] → Same H H') ∧
      ∀ {s : S} {v : V}, RS c.X.K c.ca F' H' oc' [0] s v → RS c.X.K c.ca F' H' (owOut ow (owIn ow xs) oc' xs) [0] s v := by
  have hlen : ss.length = xs.length := by
    have := r'.len
    rw [List.length_map] at this
    rw [this]
    exact (Paired.length av).symm
  have free : ∀ {a : Addr} {p : Path}, oc' a = some p → gIn G F H (owIn ow xs) a = none := fun {a p} h => (r'.dF a p h).2.1
  have gG : ∀ {a : Addr} {o : HO}, G a = some o → gIn G F H (owIn ow xs) a = some o := fun {a o} h => by
    have h1 : F a = none := by
      cases z : F a with
      | none => rfl
      | some u =>
        have := Rr.dG a u z
        rw [h] at this
        cases this
    have h2 : owIn ow xs a = none := by
      cases z : owIn ow xs a with
      | none => rfl
      | some p =>
        obtain ⟨r, q, j, w1, _, _⟩ := owIn_some z
        have := (Rr.dF a _ w1).2.1
        rw [h] at this
        cases this
    rw [gIn_at h2 h1]
    exact Rr.exG a o h
  have out_none : ∀ {a : Addr} {p : Path}, owOut ow (owIn ow xs) oc' xs a = some p → (∃ q, oc' a = some q) ∨ (oc' a = none ∧ owIn ow xs a = none ∧ ow a = some p) := fun {a p} h => by
    cases z : oc' a with
    | some q => exact .inl ⟨q, rfl⟩
    | none =>
      unfold owOut at h
      rw [z] at h
      have h : (if (owIn ow xs a).isSome = true then none else ow a) = some p := h
      split at h
      · cases h
      · rename_i h1
        refine .inr ⟨rfl, ?_, h⟩
        cases y : owIn ow xs a with
        | none => rfl
        | some w => rw [y] at h1; exact absurd rfl h1
  -- what was not handed in stays
  have stay : ∀ {a : Addr} {p : Path}, ow a = some p → owIn ow xs a = none → H' a = H a ∧ owOut ow (owIn ow xs) oc' xs a = some p ∧ oc' a = none ∧ F' a = none := fun {a p} h hn => by
    obtain ⟨x, y, z⟩ := Rr.dF a p h
    have hg : gIn G F H (owIn ow xs) a = H a := gIn_at hn x
    cases hH : H a with
    | none => exact absurd hH z
    | some o =>
      rw [hH] at hg
      have h1 : oc' a = none := by
        cases w : oc' a with
        | none => rfl
        | some q =>
          have := free w
          rw [hg] at this
          cases this
      refine ⟨r'.exG a o hg, ?_, h1, ?_⟩
      · unfold owOut
        rw [h1, hn]
        exact h
      · cases w : F' a with
        | none => rfl
        | some u =>
          have := r'.dG a u w
          rw [hg] at this
          cases this
  refine ⟨⟨r'.exF, fun a o h => r'.exG a o (gG h), fun a p h => ?_, fun a o h => ?_, by rw [putBack_len]; exact Rr.len, fun k s h => ?_, Rr.pin⟩, fun hr a o h => ?_, fun {s v} h => ?_⟩
  · rcases out_none h with ⟨q, h1⟩ | ⟨h1, h2, h3⟩
    · obtain ⟨x, y, z⟩ := r'.dF a q h1
      refine ⟨x, ?_, z⟩
      cases w : G a with
      | none => rfl
      | some o =>
        have := gG w
        rw [y] at this
        cases this
    · obtain ⟨x, y, z⟩ := Rr.dF a p h3
      obtain ⟨w1, w2, w3, w4⟩ := stay h3 h2
      exact ⟨w4, y, by rw [w1]; exact z⟩
  · have := r'.dG a o h
    cases w : G a with
    | none => rfl
    | some u =>
      have q := gG w
      rw [this] at q
      cases q
  · rcases putBack_get h with ⟨j, h1, h2⟩ | ⟨h1, h2⟩
    · obtain ⟨v, hv, rs⟩ := r'.sl j s h2
      obtain ⟨u, hu, q⟩ := AvOk.get (j := j) (x := .r k) av h1
      rw [List.getElem?_map, hu] at hv
      cases hv
      refine ⟨v, q, rs.go (Same.refl F') fun a w e => ⟨rfl, ?_⟩⟩
      unfold owOut
      rw [e]
      show (match xs[j]? with
        | some (.r i) => some ((i + 1) :: w)
        | _ => none) = _
      rw [h1]
      rfl
    · obtain ⟨v, hv, rs⟩ := Rr.sl k s h1
      have hk := h2 hlen
      have hp : posR xs k = none := by
        cases z : posR xs k with
        | none => rfl
        | some j => exact absurd (mem_refs (posR_at z)) hk
      refine ⟨v, hv, rs.go e fun a w z => ?_⟩
      obtain ⟨w1, w2, _, _⟩ := stay z (owIn_no z hp)
      exact ⟨w1, w2⟩
  · cases w : F a with
    | some u =>
      have := Rr.exF a u w
      rw [h] at this
      cases this
      exact r'.exF a o (e a o w)
    | none =>
      have hn : owIn ow xs a = none := by
        cases z : owIn ow xs a with
        | none => rfl
        | some p =>
          obtain ⟨r, q, j, _, w2, _⟩ := owIn_some z
          have := mem_refs (posR_at w2)
          rw [hr] at this
          cases this
      refine r'.exG a o ?_
      rw [gIn_at hn w]
      exact h
  · refine h.go (Same.refl F') fun a w z => ⟨rfl, ?_⟩
    unfold owOut
    rw [z]
    rfl
end
/-- f(..): a def of the text, by its promise -/
theorem je_call {k : Nat} {f : Addr} {fd : FuncData} {ps : List Str} {md : List Bool} {m : LS → R S} {x : Str} {p : Pos} {e : Expr} (F : FnOk c.X.prog c.X.w c.X.K c.X.mg c.X.base (L2.CX c.X.prog c.X.w) k f fd ps (VSp c.X.K c.ca md m)) (hr : Room k c.X.A) (tk : Takes c.X c.W)
    (hg : Gl c.X x) (hm : c.X.mg x = some (.ref f)) (hk : PySem.W.keepIn c.X.K (.ref f) = true) (hb : Binds c.X.K fd ps []) (ha : JAr c n (e :: es) as) (hl : as.length = md.length := by rfl)
    (hdb : (x == ("__debug__" : Str)) = false := by decide) (he : starEach (e :: es) c.X.env = (false, eval e c.X.env) :: starEach es c.X.env := by rfl) (hpl : (backTo pos (starEach es c.X.env)).any (·.1) = false := by rfl) :
    JE c (n && allD as) (.Call (.Name x p) (e :: es) [] pos) (gCall m as) := by
  obtain ⟨t, pa, qa⟩ := ha
  refine ⟨_, pe_callS F hr hg hm hk hb (fun σ => passAt tk σ) pa hdb he hpl, fun G F0 ow σ H L Rr => ?_⟩
  refine (qa G F0 ow σ H L Rr).bind (t2 := fun vs H1 Q => VSp c.X.K c.ca md m vs H1 Q (WE c.W σ)) fun xs L1 vs H1 F1 ow1 hev e1 _ R1 b1 => ?_
  obtain ⟨av, hn⟩ := b1
  refine Post.guard fun nd => ?_
  have hxl : xs.length = md.length := by
    rw [← hl]
    clear hl hn av R1 Rr
    have ev : ∀ (as : List Ar) (L L1 : LS) (xs : List Av), evArgs as L = .ok xs L1 → xs.length = as.length := by
      intro as
      induction as with
      | nil =>
        intro L L1 xs h
        cases h
        rfl
      | cons a as ih =>
        intro L L1 xs h
        cases a with
        | d g =>
          have h : ((g L).bind fun d L1 => (evArgs as L1).bind fun xs L2 => .ok (.d d :: xs) L2) = .ok xs L1 := h
          cases hg : g L with
          | stuck => rw [hg] at h; cases h
          | err k L2 => rw [hg] at h; cases h
          | ok d L2 =>
            rw [hg, R.bind_ok] at h
            cases hg2 : evArgs as L2 with
            | stuck => rw [hg2] at h; cases h
            | err k L3 => rw [hg2] at h; cases h
            | ok ys L3 =>
              have := ih L2 L3 ys hg2
              rw [hg2, R.bind_ok] at h
              cases h
              simp [this]
        | r i =>
          unfold evArgs at h
          split at h
          · cases hg2 : evArgs as L with
            | stuck => rw [hg2] at h; cases h
            | err k L3 => rw [hg2] at h; cases h
            | ok ys L3 =>
              have := ih L L3 ys hg2
              rw [hg2, R.bind_ok] at h
              cases h
              simp [this]
          · cases h
    exact ev as L L1 xs hev
  have rin := R1.callIn av nd
  unfold callAt
  cases hm' : m (xs.map (slotOf L1)) with
  | stuck => trivial
  | ok s ss =>
    intro Q q
    refine ⟨_, F1, _, xs.map (slotOf L1), by rw [List.length_map]; exact hxl, rin, ?_⟩
    rw [hm']
    intro v H' F' ow' e' r' rs
    obtain ⟨w1, w2, w3⟩ := R1.callOut av nd e' r'
    exact q v H' F' _ e' (fun h => w2 (hn h)) w1 (w3 rs)
  | err er ss =>
    intro hw Q
    refine ⟨_, F1, _, xs.map (slotOf L1), by rw [List.length_map]; exact hxl, rin, ?_⟩
    rw [hm']
    intro H' F' ow' e' r'
    obtain ⟨w1, w2, w3⟩ := R1.callOut av nd e' r'
    exact hw H' F' _ e' w1
end
end VS

namespace VS
open PySem PySem.Spec PyProof.Rows L2

/-! ### comprehensions -/
def wipeL (L : LS) : List Nat → LS
  | [] => L
  | v :: vs => (wipeL L vs).set v none
theorem wipeL_len (L : LS) : ∀ vs : List Nat, (wipeL L vs).length = L.length
  | [] => rfl
  | v :: vs => by
    show ((wipeL L vs).set v none).length = _
    rw [List.length_set, wipeL_len L vs]
theorem wipeL_some {L : LS} {i : Nat} {x : S} : ∀ {vs : List Nat}, (wipeL L vs)[i]? = some (some x) → L[i]? = some (some x) ∧ i ∉ vs
  | [], h => ⟨h, by simp⟩
  | v :: vs, h => by
    rcases set_get (show ((wipeL L vs).set v none)[i]? = some (some x) from h) with ⟨_, h1⟩ | ⟨h1, h2⟩
    · cases h1
    · obtain ⟨h3, h4⟩ := wipeL_some h2
      exact ⟨h3, by simp only [List.mem_cons, not_or]; exact ⟨fun e => h1 e.symm, h4⟩⟩
theorem wipe_out' {σ : L2.St} {i : Nat} : ∀ {vs : List Nat}, i ∉ vs → (wipe σ vs)[i]? = σ[i]?
  | [], _ => rfl
  | v :: vs, h => by
    simp only [List.mem_cons, not_or] at h
    show ((wipe σ vs).set v none)[i]? = _
    rw [List.getElem?_set_ne (fun e => h.1 e.symm), wipe_out' h.2]
theorem wipe_in {σ : L2.St} {i : Nat} : ∀ {vs : List Nat}, i ∈ vs → i < σ.length → (wipe σ vs)[i]? = some none
  | v :: vs, h, hl => by
    show ((wipe σ vs).set v none)[i]? = _
    by_cases e : v = i
    · subst e
      rw [List.getElem?_set_self (by rw [wipe_length]; exact hl)]
    · rw [List.getElem?_set_ne e]
      rcases List.mem_cons.mp h with z | z
      · exact absurd z.symm e
      · exact wipe_in z hl
theorem wipe_same {σ σ' : L2.St} {vs ws : List Nat} (o : OutOf ws (wipe σ vs) σ') (hw : ∀ k ∈ ws, k ∈ vs) : wipe σ' vs = wipe σ vs := by
  have hl : σ'.length = σ.length := by rw [o.1, wipe_length]
  apply List.ext_getElem?
  intro k
  by_cases hk : k ∈ vs
  · by_cases hlt : k < σ.length
    · rw [wipe_in hk (by omega), wipe_in hk hlt]
    · rw [List.getElem?_eq_none (by rw [wipe_length]; omega), List.getElem?_eq_none (by rw [wipe_length]; omega)]
  · rw [wipe_out' hk, o.2 k fun z => hk (hw k z)]
def lcGo (vs : List Nat) (f : D → LS → Option LS) (gt : LS → R Bool) (ge : LS → R D) : List D → List D → LS → R S
  | [], acc, L => .ok (.ol acc) L
  | d :: ds, acc, L => match f d L with
    | none => .stuck
    | some L1 => match gt L1 with
      | .ok b L2 => if b = true then (match ge L2 with
          | .ok y L3 => if acc.length < sizeLine then lcGo vs f gt ge ds (acc ++ [y]) (wipeL L3 vs) else .stuck
          | _ => .stuck) else lcGo vs f gt ge ds acc (wipeL L2 vs)
      | _ => .stuck
theorem lcGo_err {vs : List Nat} {f : D → LS → Option LS} {gt : LS → R Bool} {ge : LS → R D} {k : Nat} {L' : LS} : ∀ (ds acc : List D) (L : LS), lcGo vs f gt ge ds acc L ≠ .err k L'
  | [], acc, L, h => by cases h
  | d :: ds, acc, L, h => by
    unfold lcGo at h
    split at h
    · cases h
    · split at h
      · split at h
        · split at h
          · split at h
            · exact lcGo_err ds _ _ h
            · cases h
          · cases h
        · exact lcGo_err ds _ _ h
      · cases h
def gLc (vs : List Nat) (gi : LS → R (List D)) (f : D → LS → Option LS) (gt : LS → R Bool) (ge : LS → R D) : LS → R S := fun L => (gi L).bind fun ds L1 => lcGo vs f gt ge ds [] (wipeL L1 vs)
structure Bk where
  s : Shared
  H : Hp
  C : Addr
  cl : List (Str × Addr)
  fp : List Addr
/-- a comprehension's block -/
abbrev Ct.low (c : Ct) : Ct := { c with W := fun _ _ _ _ => False }
abbrev Ct.blk (c : Ct) (scope : Scope) (b : Bk) : Ct := { c with X := c.X.blk b.s b.H scope (compEnvC scope b.cl b.C c.X.env) b.fp, W := fun _ _ _ _ => False }
def JTs (c : Ct) (n : Bool) (ifs : List Expr) (g : LS → R Bool) : Prop := ∃ t, PTs c.X ifs t ∧ Jdg c n g BB t
section
variable {c : Ct} {n n1 n2 n3 : Bool} {scope : Scope}
def gYes : LS → R Bool := fun L => .ok true L
theorem jts_nil : JTs c true [] gYes := ⟨_, pts_nil, fun G F ow σ H L Rr => Post.val (b := true) (B := BB c.X.K) Rr rfl⟩
theorem jts_one {e : Expr} {g : LS → R Bool} (h : JT c n e g) : JTs c n [e] g := by
  obtain ⟨t, p, q⟩ := h
  exact ⟨_, pts_one p, q⟩
theorem jdg_all {α β : Type} {g : LS → R α} {B : PySem.W.Frag → Hp → Hp → (Addr → Option Path) → α → β → Prop} (T : Bk → L2.St → Hp → (β → Hp → Prop) → Prop) (h : ∀ b, Jdg c.low n g B (T b)) : Jdg c.low n g B (fun σ H Q => ∀ b, T b σ H Q) := by
  intro G F ow σ H L Rr
  have k := fun b => h b G F ow σ H L Rr
  cases hr : g L with
  | stuck => trivial
  | ok a L1 =>
    intro Q q b
    have := k b
    rw [hr] at this
    exact this Q q
  | err e L1 =>
    intro hw Q b
    have := k b
    rw [hr] at this
    exact this hw Q
theorem unif_D {e : Expr} {g : LS → R D} (h : ∀ b, JD (c.blk scope b) n e g) : ∃ t, (∀ b, PE (c.blk scope b).X e t) ∧ Jdg c.low n g BD t := by
  refine ⟨fun σ H Q => ∀ b, Classical.choose (h b) σ H Q, fun b => ⟨fun pins s σ H Q I hw => (Classical.choose_spec (h b)).1.run pins s σ H Q I (hw b)⟩, ?_⟩
  exact jdg_all _ fun b => (Classical.choose_spec (h b)).2
theorem unif_T {e : List Expr} {g : LS → R Bool} (h : ∀ b, JTs (c.blk scope b) n e g) : ∃ t, (∀ b, PTs (c.blk scope b).X e t) ∧ Jdg c.low n g BB t := by
  refine ⟨fun σ H Q => ∀ b, Classical.choose (h b) σ H Q, fun b => ⟨fun pins s σ H Q I hw => (Classical.choose_spec (h b)).1.run pins s σ H Q I (hw b)⟩, ?_⟩
  exact jdg_all _ fun b => (Classical.choose_spec (h b)).2
theorem unif_G {tg : Expr} {ws : List Nat} {f : D → LS → Option LS} (h : ∀ b, JG (c.blk scope b) tg ws f) : ∃ t, (∀ b, PG (c.blk scope b).X tg t) ∧
    ∀ G F ow σ H L d v L', c.Rl G F ow σ H L → Dq c.X.K F v d → f d L = some L' → ∀ Q : L2.St → Hp → Prop, (∀ σ', OutOf ws σ σ' → c.Rl G F ow σ' H L' → Q σ' H) → t v σ H Q := by
  refine ⟨fun v σ H Q => ∀ b, Classical.choose (h b) v σ H Q, fun b => ⟨fun pins s σ H v u Q I r hw => (Classical.choose_spec (h b)).1.run pins s σ H v u Q I r (hw b)⟩, ?_⟩
  exact fun G F ow σ H L d v L' Rr q e Q k b => (Classical.choose_spec (h b)).2 G F ow σ H L d v L' Rr q e Q k
section
variable {K : PySem.W.Frag} {ca : Nat → Addr} {pn : List (Option V)} {G F H : Hp} {ow : Addr → Option Path} {σ : L2.St} {L : LS} {vs : List Nat} {l : Addr} {o o' : HO}
theorem Rl.wipe (r : Rl K ca pn G F ow σ H L) (hp : ∀ (k : Nat) (v : V), pn[k]? = some (some v) → k ∉ vs) : Rl K ca pn G F ow (L2.wipe σ vs) H (wipeL L vs) :=
  ⟨r.exF, r.exG, r.dF, r.dG, by rw [wipeL_len, wipe_length]; exact r.len, fun i s h => by
    obtain ⟨h1, h2⟩ := wipeL_some h
    obtain ⟨v, q1, q2⟩ := r.sl i s h1
    exact ⟨v, (wipe_out' h2).trans q1, q2⟩, fun i v h => (wipe_out' (hp i v h)).trans (r.pin i v h)⟩
/-- a new thing that is set aside -/
theorem Rl.aside (r : Rl K ca pn G F ow σ H L) (hl : H l = none) : Rl K ca pn (upd G l o) F ow σ (upd H l o) L := by
  have e : Same H (upd H l o) := upd_same_of hl
  have fN : F l = none := r.exF.free hl
  refine ⟨r.exF.trans e, fun a u h => ?_, fun a q h => ?_, fun a u h => ?_, r.len, fun i s h => ?_, r.pin⟩
  · by_cases z : a = l
    · subst z
      rw [upd_same] at h ⊢
      exact h
    · rw [upd_ne z] at h ⊢
      exact r.exG a u h
  · obtain ⟨x, y, w⟩ := r.dF a q h
    have ha : a ≠ l := ne_fresh w hl
    exact ⟨x, by rw [upd_ne ha]; exact y, by rw [upd_ne ha]; exact w⟩
  · rw [upd_ne (ne_of_none h fN)]
    exact r.dG a u h
  · obtain ⟨v, q1, q2⟩ := r.sl i s h
    exact ⟨v, q1, q2.go (Same.refl F) fun a w h => ⟨upd_ne (ne_fresh (r.dF a _ h).2.2 hl), h⟩⟩
theorem upd_at {a : Addr} {u : HO} (h : upd G l o a = none) : a ≠ l := fun z => by
  subst z
  rw [upd_same] at h
  cases h
/-- what is set aside changes -/
theorem Rl.asideSet (r : Rl K ca pn (upd G l o) F ow σ H L) : Rl K ca pn (upd G l o') F ow σ (upd H l o') L := by
  have fN : F l = none := by
    cases z : F l with
    | none => rfl
    | some u =>
      have := r.dG l u z
      rw [upd_same] at this
      cases this
  refine ⟨fun a u h => ?_, fun a u h => ?_, fun a q h => ?_, fun a u h => ?_, r.len, fun i s h => ?_, r.pin⟩
  · rw [upd_ne (ne_of_none h fN)]
    exact r.exF a u h
  · by_cases z : a = l
    · subst z
      rw [upd_same] at h ⊢
      exact h
    · rw [upd_ne z] at h ⊢
      exact r.exG a u (by rw [upd_ne z]; exact h)
  · obtain ⟨x, y, w⟩ := r.dF a q h
    have ha : a ≠ l := upd_at (u := o) y
    rw [upd_ne ha] at y ⊢
    exact ⟨x, y, by rw [upd_ne ha]; exact w⟩
  · have ha : a ≠ l := ne_of_none h fN
    have := r.dG a u h
    rw [upd_ne ha] at this ⊢
    exact this
  · obtain ⟨v, q1, q2⟩ := r.sl i s h
    refine ⟨v, q1, q2.go (Same.refl F) fun a w h => ⟨upd_ne ?_, h⟩⟩
    exact upd_at (u := o) (r.dF a _ h).2.1
/-- what was set aside is one's own -/
theorem Rl.asideOut {σ' : L2.St} (r : Rl K ca pn (upd G l o) F ow σ H L) (hG : G l = none) (hlen : σ'.length = σ.length) (hs : ∀ (k : Nat) (s : S), L[k]? = some (some s) → σ'[k]? = σ[k]?)
    (hp : ∀ (k : Nat) (v : V), pn[k]? = some (some v) → σ'[k]? = some (some v)) : Rl K ca pn G F (onAt ow l [0]) σ' H L := by
  have hl : H l = some o := r.exG l o upd_same
  have fN : F l = none := by
    cases z : F l with
    | none => rfl
    | some u =>
      have := r.dG l u z
      rw [upd_same] at this
      cases this
  refine ⟨r.exF, fun a u h => ?_, fun a q h => ?_, fun a u h => ?_, r.len.trans hlen.symm, fun i s h => ?_, hp⟩
  · have ha : a ≠ l := ne_of_none h hG
    exact r.exG a u (by rw [upd_ne ha]; exact h)
  · by_cases z : a = l
    · subst z
      exact ⟨fN, hG, by rw [hl]; exact fun z => nomatch z⟩
    · rw [onAt_ne z] at h
      obtain ⟨x, y, w⟩ := r.dF a q h
      rw [upd_ne z] at y
      exact ⟨x, y, w⟩
  · have ha : a ≠ l := ne_of_none h fN
    have := r.dG a u h
    rw [upd_ne ha] at this
    exact this
  · obtain ⟨v, q1, q2⟩ := r.sl i s h
    refine ⟨v, (hs i s h).trans q1, q2.go (Same.refl F) fun a w h => ⟨rfl, ?_⟩⟩
    have ha : a ≠ l := upd_at (u := o) (r.dF a _ h).2.1
    rw [onAt_ne ha]
    exact h
end
theorem jdg_lc {gi : LS → R (List D)} {f : D → LS → Option LS} {gt : LS → R Bool} {ge : LS → R D} {wi : TI} {g : TG} {tt : TT} {te : TE} {vs ws : List Nat} (hi : Jdg c n1 gi BI wi)
    (hg : ∀ G F ow σ H L d v L', c.Rl G F ow σ H L → Dq c.X.K F v d → f d L = some L' → ∀ Q : L2.St → Hp → Prop, (∀ σ', OutOf ws σ σ' → c.Rl G F ow σ' H L' → Q σ' H) → g v σ H Q) (hws : ∀ k ∈ ws, k ∈ vs) (hp : ∀ k ∈ vs, c.free k)
    (ht : Jdg c.low n2 gt BB tt) (he : Jdg c.low n3 ge BD te) : Jdg c (n1 && (n2 && n3)) (gLc vs gi f gt ge) (BE c.ca) (tLc wi g tt te vs) := by
  have hpn : ∀ (k : Nat) (v : V), (pinOf c.pb c.v0)[k]? = some (some v) → k ∉ vs := fun k v h hk => hp k hk (pinOf_mk h).1
  intro G F0 ow σ H0 L0 Rr
  refine (hi G F0 ow σ H0 L0 Rr).bind (t2 := fun J H1 (Q : VK) => ∀ D, H1 D = none → ∃ W : Nat → Nat → Hp → Prop, (∃ m, W 0 m (upd H1 D (.lst []))) ∧ ∀ i m H, W i m H →
    (J.stop i H ∧ Q (V.ref D) H) ∨ (J.go i H ∧ ∃ Nx : Hp → Prop, (∀ H', Nx H' → ∃ m', m' < m ∧ W (i + 1) m' H') ∧ ∀ x H', J.yld i H x H' → g x (L2.wipe σ vs) H' fun σ2 H2 => L2.wipe σ2 vs = L2.wipe σ vs ∧ tt σ2 H2 fun b H3 =>
      if b = true then te σ2 H3 fun y H4 => ∃ acc, H4 D = some (.lst acc) ∧ acc.length < sizeLine ∧ Nx (upd H4 D (.lst (acc ++ [y]))) else Nx H3)) fun ds L1 J H1 F1 ow1 _ e1 s1 R1 b1 => ?_
  cases hr : lcGo vs f gt ge ds [] (wipeL L1 vs) with
  | stuck => trivial
  | err k L2 => exact absurd hr (lcGo_err ds [] _)
  | ok s Lf =>
    intro Q q D hD
    have gD : G D = none := R1.exG.free hD
    refine ⟨fun i m H => m = ds.length - i ∧ i ≤ ds.length ∧ ∃ F' ow' L' acc da, Same F1 F' ∧ ((n2 && n3) = true → Same H1 H) ∧ c.Rl (upd G D (.lst acc)) F' ow' (L2.wipe σ vs) H L' ∧ DqA c.X.K F' acc da ∧ lcGo vs f gt ge (ds.drop i) da L' = .ok s Lf ∧ ∀ (k : Nat) (s' : S), L'[k]? = some (some s') → k ∉ vs,
      ⟨ds.length, rfl, Nat.zero_le _, F1, ow1, wipeL L1 vs, [], [], Same.refl F1, fun _ => upd_same_of hD, (R1.wipe hpn).aside hD, .nil, hr, fun k s' h => (wipeL_some h).2⟩, ?_⟩
    rintro i m H ⟨rfl, hi', F2, ow2, LB, acc, da, e2, s2, R2, hacc, hgo, hno⟩
    obtain ⟨k1, k2⟩ := (ItOk.up e2 b1) i H R2.exF
    by_cases hlt : i < ds.length
    · obtain ⟨k3, k4⟩ := k2 _ (List.getElem?_eq_getElem hlt)
      rw [List.drop_eq_getElem_cons hlt] at hgo
      refine .inr ⟨k3, fun H' => ∃ F' ow' L' acc da, Same F1 F' ∧ ((n2 && n3) = true → Same H1 H') ∧ c.Rl (upd G D (.lst acc)) F' ow' (L2.wipe σ vs) H' L' ∧ DqA c.X.K F' acc da ∧ lcGo vs f gt ge (ds.drop (i + 1)) da L' = .ok s Lf ∧ ∀ (k : Nat) (s' : S), L'[k]? = some (some s') → k ∉ vs,
        fun H' w => ⟨ds.length - (i + 1), by omega, rfl, hlt, w⟩, fun x H' y => ?_⟩
      have step : ∀ {F3 H3 : Hp}, Same F2 F3 → Same H H3 → c.Rl (upd G D (.lst acc)) F3 ow2 (L2.wipe σ vs) H3 LB → Dq c.X.K F3 x ds[i] → g x (L2.wipe σ vs) H3 fun σ2 H2 => L2.wipe σ2 vs = L2.wipe σ vs ∧ tt σ2 H2 fun b H3 =>
          if b = true then te σ2 H3 fun y H4 => ∃ acc, H4 D = some (.lst acc) ∧ acc.length < sizeLine ∧ ∃ F' ow' L' acc' da, Same F1 F' ∧ ((n2 && n3) = true → Same H1 (upd H4 D (.lst (acc ++ [y])))) ∧ c.Rl (upd G D (.lst acc')) F' ow' (L2.wipe σ vs) (upd H4 D (.lst (acc ++ [y]))) L' ∧ DqA c.X.K F' acc' da ∧ lcGo vs f gt ge (ds.drop (i + 1)) da L' = .ok s Lf ∧ ∀ (k : Nat) (s' : S), L'[k]? = some (some s') → k ∉ vs
          else ∃ F' ow' L' acc da, Same F1 F' ∧ ((n2 && n3) = true → Same H1 H3) ∧ c.Rl (upd G D (.lst acc)) F' ow' (L2.wipe σ vs) H3 L' ∧ DqA c.X.K F' acc da ∧ lcGo vs f gt ge (ds.drop (i + 1)) da L' = .ok s Lf ∧ ∀ (k : Nat) (s' : S), L'[k]? = some (some s') → k ∉ vs := fun {F3 H3} e3 s3 R3 hx => by
        unfold lcGo at hgo
        cases hf : f ds[i] LB with
        | none => rw [hf] at hgo; cases hgo
        | some L3 =>
          rw [hf] at hgo
          refine hg _ F3 ow2 _ H3 LB _ x L3 R3 hx hf _ fun σ2 o2 R4 => ⟨wipe_same o2 hws, ?_⟩
          have wp := wipe_same o2 hws
          have hgo : (match gt L3 with
            | .ok b L2 => if b = true then (match ge L2 with
                | .ok y L3 => if da.length < sizeLine then lcGo vs f gt ge (ds.drop (i + 1)) (da ++ [y]) (wipeL L3 vs) else .stuck
                | _ => .stuck) else lcGo vs f gt ge (ds.drop (i + 1)) da (wipeL L2 vs)
            | _ => .stuck) = R.ok s Lf := hgo
          have pt := ht _ F3 ow2 σ2 H3 L3 R4
          cases hgt : gt L3 with
          | stuck => rw [hgt] at hgo; cases hgo
          | err k L5 => rw [hgt] at hgo; cases hgo
          | ok b L5 =>
            rw [hgt] at hgo pt
            refine pt _ fun b' H5 F5 ow5 e5 s5 R5 q5 => ?_
            have q5 : b' = b := q5
            subst q5
            cases b' with
            | false =>
              refine ⟨F5, ow5, wipeL L5 vs, acc, da, (e2.trans e3).trans e5, fun h => ((s2 h).trans s3).trans (s5 (and_of h).1), ?_, (hacc.up e3).up e5, hgo, fun k s' h => (wipeL_some h).2⟩
              have := R5.wipe (vs := vs) hpn
              rw [wp] at this
              exact this
            | true =>
              have hgo : (match ge L5 with
                | .ok y L3 => if da.length < sizeLine then lcGo vs f gt ge (ds.drop (i + 1)) (da ++ [y]) (wipeL L3 vs) else .stuck
                | _ => .stuck) = R.ok s Lf := hgo
              have pe := he _ F5 ow5 σ2 H5 L5 R5
              cases hge : ge L5 with
              | stuck => rw [hge] at hgo; cases hgo
              | err k L6 => rw [hge] at hgo; cases hgo
              | ok y L6 =>
                rw [hge] at hgo pe
                refine pe _ fun v H6 F6 ow6 e6 s6 R6 q6 => ?_
                have hgo : (if da.length < sizeLine then lcGo vs f gt ge (ds.drop (i + 1)) (da ++ [y]) (wipeL L6 vs) else .stuck) = R.ok s Lf := hgo
                by_cases hz : da.length < sizeLine
                · rw [if_pos hz] at hgo
                  have hH : H6 D = some (.lst acc) := R6.exG D _ upd_same
                  have hacc6 := (((hacc.up e3).up e5).up e6)
                  refine ⟨acc, hH, by rw [hacc.len]; exact hz, F6, ow6, wipeL L6 vs, acc ++ [v], da ++ [y], ((e2.trans e3).trans e5).trans e6, fun h => ?_, ?_, hacc6.append (.one q6), hgo, fun k s' h => (wipeL_some h).2⟩
                  · have := (((s2 h).trans s3).trans (s5 (and_of h).1)).trans (s6 (and_of h).2)
                    intro a u ha
                    rw [upd_ne (ne_of_none ha hD)]
                    exact this a u ha
                  · have := (R6.wipe (vs := vs) hpn).asideSet (o' := .lst (acc ++ [v]))
                    rw [wp] at this
                    exact this
                · rw [if_neg hz] at hgo
                  cases hgo
      rcases k4 x H' y with ⟨rfl, hx⟩ | ⟨p, ts, es, he', rfl, hp', rfl, hq⟩
      · exact step (Same.refl F2) (Same.refl _) R2 hx
      · obtain ⟨w1, w2, w3⟩ := R2.newF (o := .tup ts) hp'
        rw [he'] at step
        exact step w1 w2 w3 (.tup (.of upd_same) (hq.up w1))
    · have hl : ds.length ≤ i := Nat.le_of_not_lt hlt
      rw [List.drop_eq_nil_of_le hl] at hgo
      cases hgo
      refine .inl ⟨k1 hl, q _ H F2 _ e2 s2 (R2.asideOut (σ' := σ) gD (wipe_length σ vs).symm (fun k s' h => (wipe_out' (hno k s' h)).symm) fun k v h => ?_) (.ol (R2.exG D _ upd_same) (onAt_same ..) hacc)⟩
      rw [← wipe_out' (σ := σ) (hpn k v h)]
      exact R2.pin k v h
variable {elt tg iter : Expr} {ifs : List Expr} {own : List (Str × Nat)} {pos spos : Pos} {gi : LS → R (List D)} {f : D → LS → Option LS} {gt : LS → R Bool} {ge : LS → R D} {ws : List Nat}
theorem je_lc (hc : c.X.calm = true) (hN : c.X.N.Nodup) (hi : JI c n1 tg iter gi) (ok : BlkOk c.X.N c.X.env.scope scope own) (hg : ∀ b, JG (c.blk scope b) tg ws f) (hws : ∀ k ∈ ws, k ∈ own.map (·.2)) (hp : ∀ k ∈ own.map (·.2), c.free k)
    (ht : ∀ b, JTs (c.blk scope b) n2 ifs gt) (he : ∀ b, JD (c.blk scope b) n3 elt ge) (hs : ∀ x, foldedSetIterable iter c.X.env x = pure x := by intro _; rfl) : JE c (n1 && (n2 && n3)) (.ListComp elt [⟨tg, iter, ifs, 0⟩] scope pos) (gLc (own.map (·.2)) gi f gt ge) := by
  obtain ⟨wi, p1, q1⟩ := hi
  obtain ⟨tg', p2, q2⟩ := unif_G hg
  obtain ⟨tt, p3, q3⟩ := unif_T ht
  obtain ⟨te, p4, q4⟩ := unif_D he
  exact ⟨_, pe_lc hc hN p1 ok (fun s H C cl fp => p2 ⟨s, H, C, cl, fp⟩) (fun s H C cl fp => p3 ⟨s, H, C, cl, fp⟩) (fun s H C cl fp => p4 ⟨s, H, C, cl, fp⟩) hs, jdg_lc q1 q2 hws hp q3 q4⟩
theorem js_setLc {i : Nat} {y : Str} {py : Pos} (hc : c.X.calm = true) (hN : c.X.N.Nodup) (hy : c.X.N[i]? = some y) (hyl : c.X.env.scope.names.lookup y = some .local) (hfr : c.free i)
    (hsw : swapsWith (.ListComp elt [⟨tg, iter, ifs, 0⟩] scope pos) (some (.Name y py)) spos.line c.X.env = pure true) (hi : JI c n1 tg iter gi) (ok : BlkOk c.X.N c.X.env.scope scope own) (hg : ∀ b, JG (c.blk scope b) tg ws f) (hws : ∀ k ∈ ws, k ∈ own.map (·.2)) (hp : ∀ k ∈ own.map (·.2), c.free k)
    (ht : ∀ b, JTs (c.blk scope b) n2 ifs gt) (he : ∀ b, JD (c.blk scope b) n3 elt ge) (hs : ∀ x, foldedSetIterable iter c.X.env x = pure x := by intro _; rfl) : JS c (.Assign [.Name y py] (.ListComp elt [⟨tg, iter, ifs, 0⟩] scope pos) spos) (gAsg i (gLc (own.map (·.2)) gi f gt ge)) := by
  obtain ⟨wi, p1, q1⟩ := hi
  obtain ⟨tg', p2, q2⟩ := unif_G hg
  obtain ⟨tt, p3, q3⟩ := unif_T ht
  obtain ⟨te, p4, q4⟩ := unif_D he
  exact ⟨_, ps_setLc hc hN hy hyl hsw p1 ok (fun s H C cl fp => p2 ⟨s, H, C, cl, fp⟩) (fun s H C cl fp => p3 ⟨s, H, C, cl, fp⟩) (fun s H C cl fp => p4 ⟨s, H, C, cl, fp⟩) hs, jdgS_asg hfr (jdg_lc q1 q2 hws hp q3 q4)⟩
end

/-! ### raise -/
section
variable {c : Ct} {pos : Pos}
def gRaise (e : Nat) : LS → R O := fun L => .err e L
theorem js_raise {k : Nat} {e : Expr} (hc : c.X.calm = true) (tk : Takes c.X c.W) (he : PMk c.X e (fun _ H Q => Q (.ref (c.ca k)) none H)) : JS c (.Raise (some e) none pos) (gRaise k) :=
  ⟨_, ps_raise hc tk he, fun G F ow σ H L Rr E f => f σ H F ow (Same.refl F) Rr⟩
/-- what is never come to -/
theorem js_never {st : Stmt} : JS c st (fun _ => .stuck) := ⟨_, ps_never, fun G F ow σ H L Rr E f => f.elim⟩
end
end VS

namespace VS
open PySem PySem.Spec PyProof.Rows L2

/-! ### comparisons of what is looked at -/
theorem BV.dp {K : PySem.W.Frag} {F H : Hp} {ow : Addr → Option Path} {d : D} {v : V} (s : Same F H) (h : BV K F H ow d v) : Dp K H v d := by
  rcases h with h | ⟨l, vs, ds, rfl, rfl, h1, h2⟩
  · exact (h.up s).dp
  · exact .lst h1 (DqA.dp ds vs (h2.up s))
def Leaf2V (K : PySem.W.Frag) (r : R2) (f : D → D → Option D) : Prop :=
  ∀ (F H : Hp) (ow : Addr → Option Path) (x y : V) (d e z : D), Same F H → BV K F H ow d x → BV K F H ow e y → f d e = some z → ∃ v, Dq K F v z ∧ ∀ Q : VK, Q v H → r x y H Q
theorem Leaf2.view {K : PySem.W.Frag} {r : R2} {f : D → D → Option D} (h : Leaf2 K r f) (h1 : ∀ ds e, f (.list ds) e = none) (h2 : ∀ d es, f d (.list es) = none) : Leaf2V K r f := by
  intro F H ow x y d e z s hx hy hf
  rcases hx with hx | ⟨l, vs, ds, rfl, rfl, _, _⟩
  · rcases hy with hy | ⟨l, vs, ds, rfl, rfl, _, _⟩
    · exact h F H x y d e z s hx hy hf
    · rw [h2] at hf
      cases hf
  · rw [h1] at hf
    cases hf
theorem scal_flat {d e : D} (h : scalD d e = true) : (∀ ds, d ≠ .list ds) ∧ ∀ ds, e ≠ .list ds := by
  refine ⟨fun ds z => ?_, fun ds z => ?_⟩
  · subst z
    cases e <;> cases h
  · subst z
    cases d <;> cases h
theorem leafV_eq {K : PySem.W.Frag} : Leaf2V K (fun x y H Q => rEq x y H Q ∨ rEqD K x y H Q) dEq := by
  intro F H ow x y d e z s hx hy hf
  unfold dEq at hf
  by_cases h : eqOk d e
  · rw [if_pos h] at hf
    cases hf
    rcases h with h | h
    · obtain ⟨n1, n2⟩ := scal_flat h
      rcases hx with hx | ⟨l, vs, ds, _, e1, _⟩
      · rcases hy with hy | ⟨l, vs, ds, _, e1, _⟩
        · obtain ⟨h1, h2⟩ := scal_of hx hy h
          rw [h2]
          exact ⟨_, .bl _, fun Q q => .inl ⟨h1, q⟩⟩
        · exact absurd e1 (n2 ds)
      · exact absurd e1 (n1 ds)
    · exact ⟨_, .bl _, fun Q q => .inr ⟨d, e, hx.dp s, hy.dp s, h.1, h.2, q⟩⟩
  · rw [if_neg h] at hf
    cases hf
theorem leafV_ne {K : PySem.W.Frag} : Leaf2V K (fun x y H Q => rNe x y H Q ∨ rNeD K x y H Q) dNe := by
  intro F H ow x y d e z s hx hy hf
  unfold dNe at hf
  by_cases h : eqOk d e
  · rw [if_pos h] at hf
    cases hf
    rcases h with h | h
    · obtain ⟨n1, n2⟩ := scal_flat h
      rcases hx with hx | ⟨l, vs, ds, _, e1, _⟩
      · rcases hy with hy | ⟨l, vs, ds, _, e1, _⟩
        · obtain ⟨h1, h2⟩ := scal_of hx hy h
          rw [h2]
          exact ⟨_, .bl _, fun Q q => .inl ⟨h1, q⟩⟩
        · exact absurd e1 (n2 ds)
      · exact absurd e1 (n1 ds)
    · exact ⟨_, .bl _, fun Q q => .inr ⟨d, e, hx.dp s, hy.dp s, h.1, h.2, q⟩⟩
  · rw [if_neg h] at hf
    cases hf
theorem in_coreV {K : PySem.W.Frag} {F H : Hp} {ow : Addr → Option Path} {x y : V} {d e : D} {z : Bool} (s : Same F H) (hx : BV K F H ow d x) (hy : BV K F H ow e y) (hf : dInB d e = some z) (neg : Bool) (Q : VK) (q : Q (.bl (if neg then !z else z)) H) :
    (∃ (c : Nat) (w : Str), x = .str ⟨#[c]⟩ ∧ y = .str w ∧ Q (.bl (if neg then !decide (c ∈ w.cps.toList) else decide (c ∈ w.cps.toList))) H) ∨
      (∃ d ds, Dp K H x d ∧ Dp K H y (.list ds) ∧ SeqAt.shaped d = true ∧ SeqAt.shaped (.list ds) = true ∧ Q (.bl (if neg then !ds.any (fun z => PyData.eqv z d) else ds.any fun z => PyData.eqv z d)) H) ∨ rIn K neg x y H Q := by
  cases e with
  | list ds =>
    have hf : (if inOk d ds then some (ds.any fun z => z.eqv d) else none) = some z := hf
    by_cases h : inOk d ds
    · rw [if_pos h] at hf
      cases hf
      rcases h with h | h
      · rcases hx with hx | ⟨l, vs, ds', _, rfl, _⟩
        · have hs : ∃ l vs, y = .ref l ∧ SqL K H l vs ∧ DqA K F vs ds := by
            rcases hy with hy | ⟨l, vs, ds', rfl, e1, h3, h4⟩
            · cases hy with
              | lst a1 a2 => exact ⟨_, _, rfl, .of (s _ _ a1), a2⟩
            · cases e1
              exact ⟨l, vs, rfl, h3, h4⟩
          obtain ⟨l, vs, rfl, h3, h4⟩ := hs
          rw [← inV_any hx h.1 h4 h.2] at q
          exact .inr (.inr ⟨l, vs, rfl, .inl h3, flat_of hx h.1, flats_of h4 h.2, q⟩)
        · cases h.1
      · exact .inr (.inl ⟨d, ds, hx.dp s, hy.dp s, h.1, h.2, q⟩)
    · rw [if_neg h] at hf
      cases hf
  | tuple ds =>
    rcases hy with hy | ⟨l, vs, ds, rfl, e, _, _⟩
    · rcases hx with hx | ⟨l, vs, ds, rfl, rfl, _, _⟩
      · exact in_core s hx hy hf neg Q q
      · cases hf
    · cases e
  | str w =>
    rcases hy with hy | ⟨l, vs, ds, rfl, e, _, _⟩
    · rcases hx with hx | ⟨l, vs, ds, rfl, rfl, _, _⟩
      · exact in_core s hx hy hf neg Q q
      · cases hf
    · cases e
  | _ => cases hf
theorem leafV_in {K : PySem.W.Frag} : Leaf2V K (rInAny K) dIn := by
  intro F H ow x y d e z s hx hy hf
  obtain ⟨b, hb, rfl⟩ := Option.map_eq_some_iff.mp hf
  exact ⟨_, .bl b, fun Q q => in_coreV s hx hy hb false Q q⟩
theorem leafV_notIn {K : PySem.W.Frag} : Leaf2V K (rNotInAny K) dNotIn := by
  intro F H ow x y d e z s hx hy hf
  obtain ⟨b, hb, rfl⟩ := Option.map_eq_some_iff.mp hf
  exact ⟨_, .bl (!b), fun Q q => in_coreV s hx hy hb true Q q⟩
theorem dp_non {K : PySem.W.Frag} {F H : Hp} {ow : Addr → Option Path} {v : V} {d : D} (h : BV K F H ow d v) : decide (v = .non) = (match d with | .none => true | _ => false) := by
  rcases h with h | ⟨l, vs, ds, rfl, rfl, _, _⟩
  · cases h <;> rfl
  · rfl
theorem leafV_is {K : PySem.W.Frag} : Leaf2V K (fun x y H Q => (y = .non ∧ Q (.bl (decide (x = .non))) H) ∨ rIsB x y H Q) dIs := by
  intro F H ow x y d e z s hx hy hf
  rcases hx with hx | ⟨l, vs, ds, rfl, rfl, _, _⟩
  · rcases hy with hy | ⟨l, vs, ds, rfl, rfl, _, _⟩
    · exact leaf_is F H x y d e z s hx hy hf
    · cases d <;> cases hf
  · rcases hy with hy | ⟨l, vs, ds, rfl, rfl, _, _⟩
    · cases hy <;> cases hf
      exact ⟨_, .bl _, fun Q q => .inl ⟨rfl, q⟩⟩
    · cases hf
theorem leafV_isN {K : PySem.W.Frag} : Leaf2V K (fun x y H Q => (y = .non ∧ Q (.bl (!decide (x = .non))) H) ∨ rNotB x y H Q) dIsN := by
  intro F H ow x y d e z s hx hy hf
  rcases hx with hx | ⟨l, vs, ds, rfl, rfl, _, _⟩
  · rcases hy with hy | ⟨l, vs, ds, rfl, rfl, _, _⟩
    · exact leaf_isN F H x y d e z s hx hy hf
    · cases d <;> cases hf
  · rcases hy with hy | ⟨l, vs, ds, rfl, rfl, _, _⟩
    · cases hy <;> cases hf
      exact ⟨_, .bl _, fun Q q => .inl ⟨rfl, q⟩⟩
    · cases hf
section
variable {c : Ct} {n n1 n2 n3 : Bool} {a b : Expr} {ga gb : LS → R D} {pos : Pos} {k : Nat}
def CmpV (c : Ct) (op : CmpOp) (f : D → D → Option D) : Prop := ∃ r : R2, OpR c.X (compareOp op) r ∧ Leaf2V c.X.K r f
theorem dCmp_l {f : Int → Int → Bool} {g : Str → Str → Bool} (ds : List D) (e : D) : dCmp f g (.list ds) e = none := by cases e <;> rfl
theorem dCmp_r {f : Int → Int → Bool} {g : Str → Str → Bool} (d : D) (es : List D) : dCmp f g d (.list es) = none := by cases d <;> rfl
theorem cv_lt : CmpV c .Lt dLt := ⟨_, op_lt.or op_lt_str, leaf_cmp.view dCmp_l dCmp_r⟩
theorem cv_le : CmpV c .LtE dLe := ⟨_, op_le.or op_le_str, leaf_cmp.view dCmp_l dCmp_r⟩
theorem cv_gt : CmpV c .Gt dGt := ⟨_, op_gt.or op_gt_str, leaf_cmp.view dCmp_l dCmp_r⟩
theorem cv_ge : CmpV c .GtE dGe := ⟨_, op_ge.or op_ge_str, leaf_cmp.view dCmp_l dCmp_r⟩
theorem cv_eq (hr : Room k c.X.A) : CmpV c .Eq dEq := ⟨_, op_eq.or (op_eqD hr.units), leafV_eq⟩
theorem cv_ne (hr : Room k c.X.A) : CmpV c .NotEq dNe := ⟨_, op_ne.or (op_neD hr.units), leafV_ne⟩
theorem cv_is : CmpV c .Is dIs := ⟨_, op_isN.or op_isBl, leafV_is⟩
theorem cv_isN : CmpV c .IsNot dIsN := ⟨_, op_notN.or op_notBl, leafV_isN⟩
theorem cv_in (hr : Room k c.X.A) : CmpV c .In dIn := ⟨_, op_in_sign.or ((op_inD (room65 hr)).or op_in_seq), leafV_in⟩
theorem cv_notIn (hr : Room k c.X.A) : CmpV c .NotIn dNotIn := ⟨_, op_notIn_sign.or ((op_notInD (room65 hr)).or op_notIn_seq), leafV_notIn⟩
/-- the right side leaves all as it is -/
theorem jdg_cmpN {r : R2} {f : D → D → Option D} (lf : Leaf2V c.X.K r f) {ta tb : TE} (ha : Jdg c n1 ga BV ta) (hb : Jdg c true gb BV tb) : Jdg c n1 (gOp f ga gb) BD (tOp r ta tb) := by
  intro G F ow σ H L Rr
  refine (ha G F ow σ H L Rr).bind1 (t2 := fun v H1 Q => tb σ H1 fun y H2 => r v y H2 Q) fun d L1 v H1 F1 ow1 _ _ _ R1 b1 => ?_
  refine (hb G F1 ow1 σ H1 L1 R1).bind1 (t2 := fun y H2 Q => r v y H2 Q) fun e L2 u H2 F2 ow2 _ e2 s2 R2 b2 => ?_
  cases hf : f d e with
  | none => trivial
  | some z =>
    obtain ⟨w, hw, q⟩ := lf F2 H2 ow2 v u d e z R2.exF (BV.up (ow' := ow2) b1 e2 (s2 rfl)) b2 hf
    exact (Post.val R2 hw).imp q
theorem jdg_cmpD {r : R2} {f : D → D → Option D} (lf : Leaf2V c.X.K r f) {ta tb : TE} (ha : Jdg c n1 ga BD ta) (hb : Jdg c n2 gb BV tb) : Jdg c (n1 && n2) (gOp f ga gb) BD (tOp r ta tb) := by
  intro G F ow σ H L Rr
  refine (ha G F ow σ H L Rr).bind fun d L1 v H1 F1 ow1 _ _ _ R1 b1 => ?_
  refine (hb G F1 ow1 σ H1 L1 R1).bind1 fun e L2 u H2 F2 ow2 _ e2 _ R2 b2 => ?_
  cases hf : f d e with
  | none => trivial
  | some z =>
    obtain ⟨w, hw, q⟩ := lf F2 H2 ow2 v u d e z R2.exF (.inl (b1.up e2)) b2 hf
    exact (Post.val R2 hw).imp q
variable {op : CmpOp} {f : D → D → Option D}
theorem jd_cmpN (h : CmpV c op f) (ha : JV c n1 a ga) (hb : JV c true b gb) (hm : behindInMarks op b = false) : JD c n1 (.Compare a [op] [b] pos) (gOp f ga gb) := by
  obtain ⟨ta, p1, q1⟩ := ha
  obtain ⟨tb, p2, q2⟩ := hb
  obtain ⟨r, h1, h2⟩ := h
  exact ⟨_, pe_cmpR h1 p1 p2 hm, jdg_cmpN h2 q1 q2⟩
theorem jt_cmpN (h : CmpV c op f) (ha : JV c n1 a ga) (hb : JV c true b gb) (hm : behindInMarks op b = false) : JT c n1 (.Compare a [op] [b] pos) (gB (gOp f ga gb)) := by
  obtain ⟨ta, p1, q1⟩ := ha
  obtain ⟨tb, p2, q2⟩ := hb
  obtain ⟨r, h1, h2⟩ := h
  exact ⟨_, pt_cmpR h1 p1 p2 hm, jdg_B (jdg_cmpN h2 q1 q2)⟩
theorem jd_cmpD (h : CmpV c op f) (ha : JD c n1 a ga) (hb : JV c n2 b gb) (hm : behindInMarks op b = false) : JD c (n1 && n2) (.Compare a [op] [b] pos) (gOp f ga gb) := by
  obtain ⟨ta, p1, q1⟩ := ha
  obtain ⟨tb, p2, q2⟩ := hb
  obtain ⟨r, h1, h2⟩ := h
  exact ⟨_, pe_cmpR h1 p1 p2 hm, jdg_cmpD h2 q1 q2⟩
theorem jt_cmpD (h : CmpV c op f) (ha : JD c n1 a ga) (hb : JV c n2 b gb) (hm : behindInMarks op b = false) : JT c (n1 && n2) (.Compare a [op] [b] pos) (gB (gOp f ga gb)) := by
  obtain ⟨ta, p1, q1⟩ := ha
  obtain ⟨tb, p2, q2⟩ := hb
  obtain ⟨r, h1, h2⟩ := h
  exact ⟨_, pt_cmpR h1 p1 p2 hm, jdg_B (jdg_cmpD h2 q1 q2)⟩

/-! ### walks over a list, a tuple, a text -/
theorem PI_or {X : Cx} {tg e : Expr} {w1 w2 : TI} (h1 : PI X tg e w1) (h2 : PI X tg e w2) : PI X tg e (fun σ H R => w1 σ H R ∨ w2 σ H R) := ⟨fun pins s σ H R I h => by
  rcases h with h | h
  · exact h1.run pins s σ H R I h
  · exact h2.run pins s σ H R I h⟩
def signs (x : Str) : List D := x.cps.toList.map fun k => PyData.str ⟨#[k]⟩
def asItems : D → LS → R (List D)
  | .list ds, L => .ok ds L
  | .tuple ds, L => .ok ds L
  | .str x, L => .ok (signs x) L
  | _, _ => .stuck
variable {tg : Expr}
theorem its_ok {K : PySem.W.Frag} {F : Hp} {x : Str} : ItOk K F (signs x) (Its x) := fun i H s => by
  unfold signs
  rw [List.length_map, Array.length_toList]
  refine ⟨fun h => h, fun d hd => ?_⟩
  have hi : i < x.cps.size := by
    have := (List.getElem?_eq_some_iff.mp hd).1
    rw [List.length_map, Array.length_toList] at this
    exact this
  refine ⟨hi, fun v H' ⟨e1, k, hk, e2⟩ => .inl ⟨e1, ?_⟩⟩
  subst e2
  rw [List.getElem?_map, Array.getElem?_toList, hk] at hd
  cases hd
  exact .str _
theorem jdg_itl {t : TE} (q : Jdg c n ga BD t) : Jdg c n (fun L => (ga L).bind asL) BI (iList c.X.K t) := fun G F ow σ H L Rr =>
  (q G F ow σ H L Rr).bind1 (t2 := fun v H1 Q => ∃ a, v = V.ref a ∧ (∃ xs, SqL c.X.K H1 a xs) ∧ Q (Itl c.X.K a) H1) fun d L1 v H1 F1 ow1 _ _ _ R1 b1 => by
    cases b1 with
    | @lst l vs ds h1 h2 =>
      refine (Post.val (a := ds) (b := Itl c.X.K l) (B := BI c.X.K) R1 fun i H s => ⟨fun hi => ⟨vs, .of (s _ _ h1), by rw [h2.len]; exact hi⟩, fun d hd => ?_⟩).imp fun Q q => ⟨l, rfl, ⟨vs, .of (R1.exF _ _ h1)⟩, q⟩
      obtain ⟨v, h3, h4⟩ := h2.get hd
      exact ⟨⟨vs, v, .of (s _ _ h1), h3⟩, fun x H' ⟨e1, e2⟩ => .inl ⟨e1, by
        have := e2 vs (.of (s _ _ h1))
        rw [h3] at this
        cases this
        exact h4⟩⟩
    | _ => trivial
theorem jdg_itt {t : TE} (q : Jdg c n ga BD t) : Jdg c n (fun L => (ga L).bind asT) BI (iTup c.X.K t) := fun G F ow σ H L Rr =>
  (q G F ow σ H L Rr).bind1 (t2 := fun v H1 Q => ∃ a, v = V.ref a ∧ (∃ xs, SqT c.X.K H1 a xs) ∧ Q (Itt c.X.K a) H1) fun d L1 v H1 F1 ow1 _ _ _ R1 b1 => by
    cases b1 with
    | @tup l vs ds h1 h2 =>
      refine (Post.val (a := ds) (b := Itt c.X.K l) (B := BI c.X.K) R1 fun i H s => ⟨fun hi => ⟨vs, sqt_same s h1, by rw [h2.len]; exact hi⟩, fun d hd => ?_⟩).imp fun Q q => ⟨l, rfl, ⟨vs, sqt_same R1.exF h1⟩, q⟩
      obtain ⟨v, h3, h4⟩ := h2.get hd
      exact ⟨⟨vs, v, sqt_same s h1, h3⟩, fun x H' ⟨e1, e2⟩ => .inl ⟨e1, by
        have := e2 vs (sqt_same s h1)
        rw [h3] at this
        cases this
        exact h4⟩⟩
    | _ => trivial
def asX : D → LS → R (List D)
  | .str x, L => .ok (signs x) L
  | _, _ => .stuck
theorem jdg_its {t : TE} (q : Jdg c n ga BD t) : Jdg c n (fun L => (ga L).bind asX) BI (iStr t) := fun G F ow σ H L Rr =>
  (q G F ow σ H L Rr).bind1 (t2 := fun v H1 Q => ∃ x, v = V.str x ∧ Q (Its x) H1) fun d L1 v H1 F1 ow1 _ _ _ R1 b1 => by
    cases b1 with
    | str x => exact (Post.val (a := signs x) (b := Its x) (B := BI c.X.K) R1 its_ok).imp fun Q q => ⟨x, rfl, q⟩
    | _ => trivial
theorem ji_any (h : JD c n a ga) : JI c n tg a (fun L => (ga L).bind asItems) := by
  obtain ⟨t, p, q⟩ := h
  refine ⟨fun σ H R => iList c.X.K t σ H R ∨ iTup c.X.K t σ H R ∨ iStr t σ H R, PI_or (pi_list p) (PI_or (pi_tup p) (pi_str p)), fun G F ow σ H L Rr => ?_⟩
  have h1 := jdg_itl q G F ow σ H L Rr
  have h2 := jdg_itt q G F ow σ H L Rr
  have h3 := jdg_its q G F ow σ H L Rr
  show Post c G n F H σ ((ga L).bind asItems) _ _
  dsimp only at h1 h2 h3
  cases hr : ga L with
  | stuck => trivial
  | err e L1 =>
    rw [hr] at h1
    exact Post.imp h1 fun Q z => .inl z
  | ok d L1 =>
    rw [hr] at h1 h2 h3
    cases d with
    | list ds => exact Post.imp h1 fun Q z => .inl z
    | tuple ds => exact Post.imp h2 fun Q z => .inr (.inl z)
    | str x => exact Post.imp h3 fun Q z => .inr (.inr z)
    | _ => trivial
end
end VS

namespace VS
open PySem PySem.Spec PyProof.Rows L2

/-! ### a def of the text, ready to be called; the law's own end -/
structure Dx (P : Program) (w : World) (K : PySem.W.Frag) (mg : Str → Option Value) (base : Heap) (ca : Nat → Addr) (x : Str) (k : Nat) (ps : List Str) (md : List Bool) (m : LS → R S) : Prop where
  ex : ∃ f fd, FnOk P w K mg base (L2.CX P w) k f fd ps (VSp K ca md m) ∧ mg x = some (.ref f) ∧ PySem.W.keepIn K (.ref f) = true ∧ Binds K fd ps []
theorem dx_of {P : Program} {w : World} {K : PySem.W.Frag} {mg : Str → Option Value} {base : Heap} {ca : Nat → Addr} {x : Str} {k : Nat} {ps : List Str} {md : List Bool} {m : LS → R S} {f : Addr} {fd : FuncData}
    (h : FnOk P w K mg base (L2.CX P w) k f fd ps (VSp K ca md m)) (hg : mg x = some (.ref f)) (hk : PySem.W.keepIn K (.ref f) = true) (hb : Binds K fd ps []) : Dx P w K mg base ca x k ps md m := ⟨f, fd, h, hg, hk, hb⟩
section
variable {c : Ct} {n : Bool} {pos : Pos} {es : List Expr} {as : List Ar}
theorem je_dx {x : Str} {k j : Nat} {ps : List Str} {md : List Bool} {m : LS → R S} {p : Pos} {e : Expr} (D : Dx c.X.prog c.X.w c.X.K c.X.mg c.X.base c.ca x k ps md m) (hr : Room j c.X.A) (hk : k ≤ j) (tk : Takes c.X c.W) (hg : Gl c.X x) (ha : JAr c n (e :: es) as) (hl : as.length = md.length := by rfl)
    (hdb : (x == ("__debug__" : Str)) = false := by decide) (he : starEach (e :: es) c.X.env = (false, eval e c.X.env) :: starEach es c.X.env := by rfl) (hpl : (backTo pos (starEach es c.X.env)).any (·.1) = false := by rfl) :
    JE c (n && allD as) (.Call (.Name x p) (e :: es) [] pos) (gCall m as) := by
  obtain ⟨f, fd, h1, h2, h3, h4⟩ := D.ex
  exact je_call h1 (hr.mono hk) tk hg h2 h3 h4 ha hl hdb he hpl
theorem jd_gs {x z : Str} (hg : Gl c.X x) (hm : ∃ t, c.X.mg x = some (.str z t)) (hd : (x == ("__debug__" : Str)) = false := by decide) : JD c true (.Name x pos) (gC (.str z)) := by
  obtain ⟨t, hm⟩ := hm
  exact jd_c (pe_glob (v := .str z) hg hm ⟨t, rfl⟩ hd) fun _ _ => .str _
theorem jd_gi {x : Str} {z : Int} (hg : Gl c.X x) (hm : ∃ t, c.X.mg x = some (.int z t)) (hd : (x == ("__debug__" : Str)) = false := by decide) : JD c true (.Name x pos) (gC (.int z)) := by
  obtain ⟨t, hm⟩ := hm
  exact jd_c (pe_glob (v := .int z) hg hm ⟨t, rfl⟩ hd) fun _ _ => .int _
end
/-- the law's promise from what it computes -/
theorem law_sp {K : PySem.W.Frag} {ca : Nat → Addr} {m : LS → R S} {H : Hp} {a : Addr} {ns : List Int} (hS : SqL K H a (ns.map V.int)) {L : LS} (h : m [some (.scr ns)] = .ok (.d (.bool true)) L) :
    VSp K ca [true] m [.ref a] H (fun v _ => v = .bl true) (fun _ _ _ => False) := by
  refine ⟨fun _ => none, H, fun _ => none, [some (.scr ns)], rfl, ⟨Same.refl H, (fun _ _ h => by cases h), (fun _ _ h => by cases h), (fun _ _ _ => rfl), rfl, fun i s hi => ?_, fun i v hi => by cases hi⟩, ?_⟩
  · cases i with
    | zero =>
      cases hi
      exact ⟨.ref a, rfl, .scr hS⟩
    | succ i => cases hi
  · rw [h]
    intro v H' F' ow' _ _ rs
    cases rs with
    | d q => cases q; rfl
theorem cx_false {P : Program} {w : World} (H : Hp) (s : Shared) (e : Value) (s' : Shared) : L2.CX P w [] H s (fun _ _ _ => False) e s' → False := fun h => by
  obtain ⟨_, _, _, _, _, _, _, _, _, _, _, _, z⟩ := h
  exact z
end VS

namespace VS
open PySem PySem.Spec PyProof.Rows L2
/-! ### reckoning with what defs compute: each combinator by what its parts come to -/
section
variable {α : Type} {L L1 L2 : LS} {i : Nat}
def seqK (r : R O) (g : LS → R O) : R O := match r with
  | .ok .nx L1 => g L1
  | r => r
theorem ev_seq (g1 g2 : LS → R O) (L : LS) : gSeq g1 g2 L = seqK (g1 L) g2 := rfl
theorem seqK_nx (L : LS) (g : LS → R O) : seqK (.ok .nx L) g = g L := rfl
theorem seqK_rt (s : S) (L : LS) (g : LS → R O) : seqK (.ok (.rt s) L) g = .ok (.rt s) L := rfl
theorem seqK_bk (L : LS) (g : LS → R O) : seqK (.ok .bk L) g = .ok .bk L := rfl
theorem seqK_ct (L : LS) (g : LS → R O) : seqK (.ok .ct L) g = .ok .ct L := rfl
theorem seqK_err (e : Nat) (L : LS) (g : LS → R O) : seqK (.err e L) g = .err e L := rfl
theorem ev_next (L : LS) : gNext L = .ok .nx L := rfl
def ifK (r : R Bool) (x y : LS → R O) : R O := r.bind fun b L1 => if b = true then x L1 else y L1
theorem ev_if (t : LS → R Bool) (x y : LS → R O) (L : LS) : gIf t x y L = ifK (t L) x y := rfl
theorem ifK_ok (b : Bool) (L : LS) (x y : LS → R O) : ifK (.ok b L) x y = if b = true then x L else y L := rfl
theorem ifK_err (e : Nat) (L : LS) (x y : LS → R O) : ifK (.err e L) x y = .err e L := rfl
def asgK (i : Nat) (r : R S) : R O := r.bind fun s L1 => .ok .nx (L1.set i (some s))
theorem ev_asg (i : Nat) (g : LS → R S) (L : LS) : gAsg i g L = asgK i (g L) := rfl
theorem asgK_ok (i : Nat) (s : S) (L : LS) : asgK i (.ok s L) = .ok .nx (L.set i (some s)) := rfl
theorem asgK_err (i e : Nat) (L : LS) : asgK i (.err e L) = .err e L := rfl
def retK (r : R S) : R O := r.bind fun s L1 => .ok (.rt s) L1
theorem ev_ret (g : LS → R S) (L : LS) : gRet g L = retK (g L) := rfl
theorem retK_ok (s : S) (L : LS) : retK (.ok s L) = .ok (.rt s) L := rfl
theorem retK_err (e : Nat) (L : LS) : retK (.err e L) = .err e L := rfl
theorem ev_retN (L : LS) : gRetN L = .ok (.rt (.d .none)) L := rfl
def dropK (r : R α) : R O := r.bind fun _ L1 => .ok .nx L1
theorem ev_drop (g : LS → R α) (L : LS) : gDrop g L = dropK (g L) := rfl
theorem dropK_ok (a : α) (L : LS) : dropK (.ok a L) = .ok .nx L := rfl
theorem dropK_err (e : Nat) (L : LS) : dropK (.err e L : R α) = .err e L := rfl
theorem ev_c (d : D) (L : LS) : gC d L = .ok d L := rfl
def dK (r : R D) : R S := r.bind fun d L1 => .ok (.d d) L1
theorem ev_d (g : LS → R D) (L : LS) : gD g L = dK (g L) := rfl
theorem dK_ok (d : D) (L : LS) : dK (.ok d L) = .ok (.d d) L := rfl
theorem dK_err (e : Nat) (L : LS) : dK (.err e L) = .err e L := rfl
def fzK (r : R S) : R D := r.bind frS
theorem ev_fz (g : LS → R S) (L : LS) : gFz g L = fzK (g L) := rfl
theorem fzK_d (d : D) (L : LS) : fzK (.ok (.d d) L) = .ok d L := rfl
theorem fzK_l (ds : List D) (L : LS) : fzK (.ok (.ol ds) L) = .ok (.list ds) L := rfl
theorem fzK_err (e : Nat) (L : LS) : fzK (.err e L) = .err e L := rfl
def opK1 (f : D → D → Option α) (b : LS → R D) (r : R D) : R α := r.bind fun d L1 => (b L1).bind fun e L2 => ofO (f d e) L2
def opK2 (f : D → D → Option α) (d : D) (r : R D) : R α := r.bind fun e L2 => ofO (f d e) L2
theorem ev_op (f : D → D → Option α) (a b : LS → R D) (L : LS) : gOp f a b L = opK1 f b (a L) := rfl
theorem opK1_ok (f : D → D → Option α) (b : LS → R D) (d : D) (L : LS) : opK1 f b (.ok d L) = opK2 f d (b L) := rfl
theorem opK1_err (f : D → D → Option α) (b : LS → R D) (e : Nat) (L : LS) : opK1 f b (.err e L) = .err e L := rfl
theorem opK2_ok (f : D → D → Option α) (d e : D) (L : LS) : opK2 f d (.ok e L) = ofO (f d e) L := rfl
theorem opK2_err (f : D → D → Option α) (d : D) (e : Nat) (L : LS) : opK2 f d (.err e L) = .err e L := rfl
def unK (f : D → Option α) (r : R D) : R α := r.bind fun d L1 => ofO (f d) L1
theorem ev_un (f : D → Option α) (a : LS → R D) (L : LS) : gUn f a L = unK f (a L) := rfl
theorem unK_ok (f : D → Option α) (d : D) (L : LS) : unK f (.ok d L) = ofO (f d) L := rfl
theorem unK_err (f : D → Option α) (e : Nat) (L : LS) : unK f (.err e L) = .err e L := rfl
theorem ev_isi (T : String) (a : LS → R D) (L : LS) : gIsi T a L = unK (isTy T) (a L) := rfl
def bK (r : R D) : R Bool := r.bind asB
theorem ev_b (g : LS → R D) (L : LS) : gB g L = bK (g L) := rfl
theorem bK_ok (b : Bool) (L : LS) : bK (.ok (.bool b) L) = .ok b L := rfl
theorem bK_err (e : Nat) (L : LS) : bK (.err e L) = .err e L := rfl
def andK (r : R Bool) (b : LS → R Bool) : R Bool := r.bind fun x L1 => if x = true then b L1 else .ok false L1
def orK (r : R Bool) (b : LS → R Bool) : R Bool := r.bind fun x L1 => if x = true then .ok true L1 else b L1
def notK (r : R Bool) : R Bool := r.bind fun x L1 => .ok (!x) L1
theorem ev_and (a b : LS → R Bool) (L : LS) : gAnd a b L = andK (a L) b := rfl
theorem andK_ok (x : Bool) (b : LS → R Bool) (L : LS) : andK (.ok x L) b = if x = true then b L else .ok false L := rfl
theorem andK_err (e : Nat) (b : LS → R Bool) (L : LS) : andK (.err e L) b = .err e L := rfl
theorem ev_or (a b : LS → R Bool) (L : LS) : gOr a b L = orK (a L) b := rfl
theorem orK_ok (x : Bool) (b : LS → R Bool) (L : LS) : orK (.ok x L) b = if x = true then .ok true L else b L := rfl
theorem orK_err (e : Nat) (b : LS → R Bool) (L : LS) : orK (.err e L) b = .err e L := rfl
theorem ev_not (a : LS → R Bool) (L : LS) : gNot a L = notK (a L) := rfl
theorem notK_ok (x : Bool) (L : LS) : notK (.ok x L) = .ok (!x) L := rfl
def andVK (r : R D) (b : LS → R D) : R D := r.bind fun d L1 => match d with
  | .bool x => if x = true then b L1 else .ok (.bool false) L1
  | _ => .stuck
def orVK (r : R D) (b : LS → R D) : R D := r.bind fun d L1 => match d with
  | .bool x => if x = true then .ok (.bool true) L1 else b L1
  | _ => .stuck
theorem ev_andV (a b : LS → R D) (L : LS) : gAndV a b L = andVK (a L) b := rfl
theorem andVK_ok (x : Bool) (b : LS → R D) (L : LS) : andVK (.ok (.bool x) L) b = if x = true then b L else .ok (.bool false) L := rfl
theorem ev_orV (a b : LS → R D) (L : LS) : gOrV a b L = orVK (a L) b := rfl
theorem orVK_ok (x : Bool) (b : LS → R D) (L : LS) : orVK (.ok (.bool x) L) b = if x = true then .ok (.bool true) L else b L := rfl
def ifEK (r : R Bool) (a b : LS → R α) : R α := r.bind fun x L1 => if x = true then a L1 else b L1
theorem ev_ifE (t : LS → R Bool) (a b : LS → R α) (L : LS) : gIfE t a b L = ifEK (t L) a b := rfl
theorem ifEK_ok (x : Bool) (a b : LS → R α) (L : LS) : ifEK (.ok x L) a b = if x = true then a L else b L := rfl
def consK1 (r : LS → R (List D)) (x : R D) : R (List D) := x.bind fun d L1 => (r L1).bind fun ds L2 => .ok (d :: ds) L2
def consK2 (d : D) (r : R (List D)) : R (List D) := r.bind fun ds L2 => .ok (d :: ds) L2
theorem ev_nil (L : LS) : gNil L = .ok [] L := rfl
theorem ev_cons (a : LS → R D) (r : LS → R (List D)) (L : LS) : gCons a r L = consK1 r (a L) := rfl
theorem consK1_ok (r : LS → R (List D)) (d : D) (L : LS) : consK1 r (.ok d L) = consK2 d (r L) := rfl
theorem consK1_err (r : LS → R (List D)) (e : Nat) (L : LS) : consK1 r (.err e L) = .err e L := rfl
theorem consK2_ok (d : D) (ds : List D) (L : LS) : consK2 d (.ok ds L) = .ok (d :: ds) L := rfl
theorem consK2_err (d : D) (e : Nat) (L : LS) : consK2 d (.err e L) = .err e L := rfl
def lstK (r : R (List D)) : R S := r.bind fun ds L1 => if ds.length ≤ sizeLine then .ok (.ol ds) L1 else .stuck
def tupK (r : R (List D)) : R D := r.bind fun ds L1 => if ds.length ≤ sizeLine then .ok (.tuple ds) L1 else .stuck
theorem ev_lst (a : LS → R (List D)) (L : LS) : gLst a L = lstK (a L) := rfl
theorem lstK_ok (ds : List D) (L : LS) : lstK (.ok ds L) = if ds.length ≤ sizeLine then .ok (.ol ds) L else .stuck := rfl
theorem ev_tup (a : LS → R (List D)) (L : LS) : gTup a L = tupK (a L) := rfl
theorem tupK_ok (ds : List D) (L : LS) : tupK (.ok ds L) = if ds.length ≤ sizeLine then .ok (.tuple ds) L else .stuck := rfl
theorem small_len {n : Nat} (h : n ≤ 1000000) : n ≤ sizeLine := by rw [PySem.sizeLine_eq]; omega
/-- names -/
def varK (i : Nat) (o : Option (Option S)) (L : LS) : R D := match o with
  | some (some (.d d)) => .ok d L
  | some (some (.ol ds)) => .ok (.list ds) (L.set i (some (.d (.list ds))))
  | _ => .stuck
theorem ev_var (i : Nat) (L : LS) : gVar i L = varK i L[i]? L := rfl
theorem varK_d (i : Nat) (d : D) (L : LS) : varK i (some (some (.d d))) L = .ok d L := rfl
theorem varK_l (i : Nat) (ds : List D) (L : LS) : varK i (some (some (.ol ds))) L = .ok (.list ds) (L.set i (some (.d (.list ds)))) := rfl
def peekK (o : Option (Option S)) (L : LS) : R D := match o with
  | some (some (.d d)) => .ok d L
  | some (some (.ol ds)) => .ok (.list ds) L
  | some (some (.scr ns)) => .ok (.list (ns.map PyData.int)) L
  | _ => .stuck
theorem ev_peek (i : Nat) (L : LS) : gPeek i L = peekK L[i]? L := rfl
theorem peekK_d (d : D) (L : LS) : peekK (some (some (.d d))) L = .ok d L := rfl
theorem peekK_l (ds : List D) (L : LS) : peekK (some (some (.ol ds))) L = .ok (.list ds) L := rfl
theorem peekK_s (ns : List Int) (L : LS) : peekK (some (some (.scr ns))) L = .ok (.list (ns.map PyData.int)) L := rfl
def moveK (i : Nat) (o : Option (Option S)) (L : LS) : R S := match o with
  | some (some (.d d)) => .ok (.d d) L
  | some (some (.scr _)) => .stuck
  | some (some s) => .ok s (L.set i none)
  | _ => .stuck
theorem ev_move (i : Nat) (L : LS) : gMove i L = moveK i L[i]? L := rfl
theorem moveK_d (i : Nat) (d : D) (L : LS) : moveK i (some (some (.d d))) L = .ok (.d d) L := rfl
theorem moveK_l (i : Nat) (ds : List D) (L : LS) : moveK i (some (some (.ol ds))) L = .ok (.ol ds) (L.set i none) := rfl
/-- items -/
def ixK (i : Nat) (o : Option (Option S)) (b : LS → R D) (L : LS) : R D := match o with
  | some (some _) => (b L).bind fun e L1 => (gPeek i L1).bind fun d L2 => ofO (dIx d e) L2
  | _ => .stuck
def ixK1 (i : Nat) (r : R D) : R D := r.bind fun e L1 => (gPeek i L1).bind fun d L2 => ofO (dIx d e) L2
def ixK2 (e : D) (r : R D) : R D := r.bind fun d L2 => ofO (dIx d e) L2
theorem ev_ixP (i : Nat) (b : LS → R D) (L : LS) : gIxP i b L = ixK i L[i]? b L := rfl
theorem ixK_ok (i : Nat) (s : S) (b : LS → R D) (L : LS) : ixK i (some (some s)) b L = ixK1 i (b L) := rfl
theorem ixK1_ok (i : Nat) (e : D) (L : LS) : ixK1 i (.ok e L) = ixK2 e (gPeek i L) := rfl
theorem ixK1_err (i e : Nat) (L : LS) : ixK1 i (.err e L) = .err e L := rfl
theorem ixK2_ok (e d : D) (L : LS) : ixK2 e (.ok d L) = ofO (dIx d e) L := rfl
theorem atI_nat' (xs : List D) (k : Nat) : atI xs (k : Int) = xs[k]? := by
  unfold atI ixN
  rw [if_pos (Int.natCast_nonneg k)]
  by_cases h : k < xs.length
  · rw [if_pos (by omega)]
    rfl
  · rw [if_neg (by omega), List.getElem?_eq_none (by omega)]
    rfl
theorem dIx_nat (xs : List D) (k : Nat) : dIx (.list xs) (.int (k : Int)) = xs[k]? := atI_nat' xs k
theorem dIx_natT (xs : List D) (k : Nat) : dIx (.tuple xs) (.int (k : Int)) = xs[k]? := atI_nat' xs k
theorem dIx_l0 (xs : List D) : dIx (.list xs) (.int 0) = xs[0]? := dIx_nat xs 0
theorem dIx_l1 (xs : List D) : dIx (.list xs) (.int 1) = xs[1]? := dIx_nat xs 1
theorem dIx_l2 (xs : List D) : dIx (.list xs) (.int 2) = xs[2]? := dIx_nat xs 2
theorem dIx_l3 (xs : List D) : dIx (.list xs) (.int 3) = xs[3]? := dIx_nat xs 3
theorem dIx_l4 (xs : List D) : dIx (.list xs) (.int 4) = xs[4]? := dIx_nat xs 4
theorem dIx_t0 (xs : List D) : dIx (.tuple xs) (.int 0) = xs[0]? := dIx_natT xs 0
theorem dIx_t1 (xs : List D) : dIx (.tuple xs) (.int 1) = xs[1]? := dIx_natT xs 1
theorem dIx_t2 (xs : List D) : dIx (.tuple xs) (.int 2) = xs[2]? := dIx_natT xs 2
theorem dIx_t3 (xs : List D) : dIx (.tuple xs) (.int 3) = xs[3]? := dIx_natT xs 3
/-- stores by place -/
def setK0 (i : Nat) (gk : LS → R D) (r : R D) : R O := r.bind fun d L1 => match L1[i]? with
  | some (some _) => (gk L1).bind (setAt i d)
  | _ => .stuck
def setK1 (i : Nat) (gk : LS → R D) (d : D) (o : Option (Option S)) (L : LS) : R O := match o with
  | some (some _) => (gk L).bind (setAt i d)
  | _ => .stuck
def setK2 (i : Nat) (d : D) (r : R D) : R O := r.bind (setAt i d)
def setK3 (i : Nat) (d : D) (k : Int) (o : Option (Option S)) (L : LS) : R O := match o with
  | some (some (.ol ds)) => (match ixN ds.length k with
    | some j => .ok .nx (L.set i (some (.ol (ds.set j d))))
    | none => .stuck)
  | _ => .stuck
theorem ev_setIx (i : Nat) (gk g : LS → R D) (L : LS) : gSetIx i gk g L = setK0 i gk (g L) := rfl
theorem setK0_ok (i : Nat) (gk : LS → R D) (d : D) (L : LS) : setK0 i gk (.ok d L) = setK1 i gk d L[i]? L := rfl
theorem setK0_err (i : Nat) (gk : LS → R D) (e : Nat) (L : LS) : setK0 i gk (.err e L) = .err e L := rfl
theorem setK1_ok (i : Nat) (gk : LS → R D) (d : D) (s : S) (L : LS) : setK1 i gk d (some (some s)) L = setK2 i d (gk L) := rfl
theorem setK2_ok (i : Nat) (d : D) (k : Int) (L : LS) : setK2 i d (.ok (.int k) L) = setK3 i d k L[i]? L := rfl
theorem setK3_nat (i : Nat) (d : D) (k : Nat) (ds : List D) (L : LS) : setK3 i d (k : Int) (some (some (.ol ds))) L = if k < ds.length then .ok .nx (L.set i (some (.ol (ds.set k d)))) else .stuck := by
  unfold setK3 ixN
  dsimp only
  rw [if_pos (Int.natCast_nonneg k)]
  by_cases h : k < ds.length
  · rw [if_pos (by omega), if_pos h]
    rfl
  · rw [if_neg (by omega), if_neg h]
theorem setK3_0 (i : Nat) (d : D) (ds : List D) (L : LS) : setK3 i d 0 (some (some (.ol ds))) L = if 0 < ds.length then .ok .nx (L.set i (some (.ol (ds.set 0 d)))) else .stuck := setK3_nat i d 0 ds L
theorem setK3_1 (i : Nat) (d : D) (ds : List D) (L : LS) : setK3 i d 1 (some (some (.ol ds))) L = if 1 < ds.length then .ok .nx (L.set i (some (.ol (ds.set 1 d)))) else .stuck := setK3_nat i d 1 ds L
theorem setK3_2 (i : Nat) (d : D) (ds : List D) (L : LS) : setK3 i d 2 (some (some (.ol ds))) L = if 2 < ds.length then .ok .nx (L.set i (some (.ol (ds.set 2 d)))) else .stuck := setK3_nat i d 2 ds L
theorem setK3_3 (i : Nat) (d : D) (ds : List D) (L : LS) : setK3 i d 3 (some (some (.ol ds))) L = if 3 < ds.length then .ok .nx (L.set i (some (.ol (ds.set 3 d)))) else .stuck := setK3_nat i d 3 ds L
theorem setK3_4 (i : Nat) (d : D) (ds : List D) (L : LS) : setK3 i d 4 (some (some (.ol ds))) L = if 4 < ds.length then .ok .nx (L.set i (some (.ol (ds.set 4 d)))) else .stuck := setK3_nat i d 4 ds L
/-- slices -/
def slK1 (lo hi : LS → R (Option Int)) (r : R D) : R S := r.bind fun d L1 => (lo L1).bind fun l L2 => (hi L2).bind fun u L3 => ofO (dSl d l u) L3
def slK2 (d : D) (hi : LS → R (Option Int)) (r : R (Option Int)) : R S := r.bind fun l L2 => (hi L2).bind fun u L3 => ofO (dSl d l u) L3
def slK3 (d : D) (l : Option Int) (r : R (Option Int)) : R S := r.bind fun u L3 => ofO (dSl d l u) L3
theorem ev_sl (a : LS → R D) (lo hi : LS → R (Option Int)) (L : LS) : gSl a lo hi L = slK1 lo hi (a L) := rfl
theorem slK1_ok (lo hi : LS → R (Option Int)) (d : D) (L : LS) : slK1 lo hi (.ok d L) = slK2 d hi (lo L) := rfl
theorem slK2_ok (d : D) (hi : LS → R (Option Int)) (l : Option Int) (L : LS) : slK2 d hi (.ok l L) = slK3 d l (hi L) := rfl
theorem slK3_ok (d : D) (l u : Option Int) (L : LS) : slK3 d l (.ok u L) = ofO (dSl d l u) L := rfl
theorem ev_no (L : LS) : gNo L = .ok none L := rfl
def soK (r : R D) : R (Option Int) := r.bind asI
theorem ev_so (g : LS → R D) (L : LS) : gSo g L = soK (g L) := rfl
theorem soK_ok (i : Int) (L : LS) : soK (.ok (.int i) L) = .ok (some i) L := rfl
theorem soK_err (e : Nat) (L : LS) : soK (.err e L) = .err e L := rfl
/-- join -/
def joinK1 (gb : LS → R D) (r : R D) : R D := r.bind (gTxt fun a L1 => (gb L1).bind fun e L2 => ofO (dJoin (.str a) e) L2)
def joinK2 (a : Str) (r : R D) : R D := r.bind fun e L2 => ofO (dJoin (.str a) e) L2
theorem ev_join (ga gb : LS → R D) (L : LS) : gJoin ga gb L = joinK1 gb (ga L) := rfl
theorem joinK1_ok (gb : LS → R D) (a : Str) (L : LS) : joinK1 gb (.ok (.str a) L) = joinK2 a (gb L) := rfl
theorem joinK2_ok (a : Str) (e : D) (L : LS) : joinK2 a (.ok e L) = ofO (dJoin (.str a) e) L := rfl
/-- append -/
def appK1 (i : Nat) (g : LS → R D) (o : Option (Option S)) (L : LS) : R S := match o with
  | some (some (.ol _)) => (g L).bind fun d L1 => gOwnL i (fun ds L2 => if ds.length < sizeLine then .ok (.d .none) (L2.set i (some (.ol (ds ++ [d])))) else .stuck) L1
  | _ => .stuck
def appK2 (i : Nat) (r : R D) : R S := r.bind fun d L1 => gOwnL i (fun ds L2 => if ds.length < sizeLine then .ok (.d .none) (L2.set i (some (.ol (ds ++ [d])))) else .stuck) L1
def appK3 (i : Nat) (d : D) (o : Option (Option S)) (L : LS) : R S := match o with
  | some (some (.ol ds)) => if ds.length < sizeLine then .ok (.d .none) (L.set i (some (.ol (ds ++ [d])))) else .stuck
  | _ => .stuck
theorem ev_app (i : Nat) (g : LS → R D) (L : LS) : gApp i g L = appK1 i g L[i]? L := rfl
theorem appK1_ok (i : Nat) (g : LS → R D) (ds : List D) (L : LS) : appK1 i g (some (some (.ol ds))) L = appK2 i (g L) := rfl
theorem appK2_ok (i : Nat) (d : D) (L : LS) : appK2 i (.ok d L) = appK3 i d L[i]? L := rfl
theorem appK2_err (i e : Nat) (L : LS) : appK2 i (.err e L) = .err e L := rfl
theorem appK3_ok (i : Nat) (d : D) (ds : List D) (L : LS) : appK3 i d (some (some (.ol ds))) L = if ds.length < sizeLine then .ok (.d .none) (L.set i (some (.ol (ds ++ [d])))) else .stuck := rfl
/-- calls -/
def eaK1 (as : List Ar) (r : R D) : R (List Av) := r.bind fun d L1 => (evArgs as L1).bind fun xs L2 => .ok (.d d :: xs) L2
def eaK2 (x : Av) (r : R (List Av)) : R (List Av) := r.bind fun xs L2 => .ok (x :: xs) L2
def eaK3 (i : Nat) (o : Option (Option S)) (as : List Ar) (L : LS) : R (List Av) := match o with
  | some (some _) => (evArgs as L).bind fun xs L2 => .ok (.r i :: xs) L2
  | _ => .stuck
theorem ev_a0 (L : LS) : evArgs [] L = .ok [] L := rfl
theorem ev_aD (g : LS → R D) (as : List Ar) (L : LS) : evArgs (.d g :: as) L = eaK1 as (g L) := rfl
theorem ev_aR (i : Nat) (as : List Ar) (L : LS) : evArgs (.r i :: as) L = eaK3 i L[i]? as L := rfl
theorem eaK1_ok (as : List Ar) (d : D) (L : LS) : eaK1 as (.ok d L) = eaK2 (.d d) (evArgs as L) := rfl
theorem eaK1_err (as : List Ar) (e : Nat) (L : LS) : eaK1 as (.err e L) = .err e L := rfl
theorem eaK3_ok (i : Nat) (s : S) (as : List Ar) (L : LS) : eaK3 i (some (some s)) as L = eaK2 (.r i) (evArgs as L) := rfl
theorem eaK2_ok (x : Av) (xs : List Av) (L : LS) : eaK2 x (.ok xs L) = .ok (x :: xs) L := rfl
theorem eaK2_err (x : Av) (e : Nat) (L : LS) : eaK2 x (.err e L) = .err e L := rfl
def callK (m : LS → R S) (r : R (List Av)) : R S := r.bind fun xs L1 => if (refs xs).Nodup then callAt m xs L1 else .stuck
def backK (xs : List Av) (L : LS) (r : R S) : R S := match r with
  | .ok s ss => .ok s (putBack xs ss L)
  | .err e ss => .err e (putBack xs ss L)
  | .stuck => .stuck
theorem ev_call (m : LS → R S) (as : List Ar) (L : LS) : gCall m as L = callK m (evArgs as L) := rfl
theorem callK_d1 (m : LS → R S) (d : D) (L : LS) : callK m (.ok [.d d] L) = backK [.d d] L (m [some (.d d)]) := rfl
theorem callK_gen (m : LS → R S) (xs : List Av) (L : LS) (h : (refs xs).Nodup) : callK m (.ok xs L) = backK xs L (m (xs.map (slotOf L))) := if_pos h
theorem refs_ds (ds : List D) : refs (ds.map .d) = [] := by
  induction ds with
  | nil => rfl
  | cons d ds ih => exact ih
theorem callK_d2 (m : LS → R S) (d0 d1 : D) (L : LS) : callK m (.ok [.d d0, .d d1] L) = backK [.d d0, .d d1] L (m [some (.d d0), some (.d d1)]) := rfl
theorem callK_d3 (m : LS → R S) (d0 d1 d2 : D) (L : LS) : callK m (.ok [.d d0, .d d1, .d d2] L) = backK [.d d0, .d d1, .d d2] L (m [some (.d d0), some (.d d1), some (.d d2)]) := rfl
theorem callK_d4 (m : LS → R S) (d0 d1 d2 d3 : D) (L : LS) : callK m (.ok [.d d0, .d d1, .d d2, .d d3] L) = backK [.d d0, .d d1, .d d2, .d d3] L (m [some (.d d0), some (.d d1), some (.d d2), some (.d d3)]) := rfl
theorem callK_d5 (m : LS → R S) (d0 d1 d2 d3 d4 : D) (L : LS) : callK m (.ok [.d d0, .d d1, .d d2, .d d3, .d d4] L) = backK [.d d0, .d d1, .d d2, .d d3, .d d4] L (m [some (.d d0), some (.d d1), some (.d d2), some (.d d3), some (.d d4)]) := rfl
theorem callK_d6 (m : LS → R S) (d0 d1 d2 d3 d4 d5 : D) (L : LS) : callK m (.ok [.d d0, .d d1, .d d2, .d d3, .d d4, .d d5] L) = backK [.d d0, .d d1, .d d2, .d d3, .d d4, .d d5] L (m [some (.d d0), some (.d d1), some (.d d2), some (.d d3), some (.d d4), some (.d d5)]) := rfl
theorem callK_d7 (m : LS → R S) (d0 d1 d2 d3 d4 d5 d6 : D) (L : LS) : callK m (.ok [.d d0, .d d1, .d d2, .d d3, .d d4, .d d5, .d d6] L) = backK [.d d0, .d d1, .d d2, .d d3, .d d4, .d d5, .d d6] L (m [some (.d d0), some (.d d1), some (.d d2), some (.d d3), some (.d d4), some (.d d5), some (.d d6)]) := rfl
theorem callK_d8 (m : LS → R S) (d0 d1 d2 d3 d4 d5 d6 d7 : D) (L : LS) : callK m (.ok [.d d0, .d d1, .d d2, .d d3, .d d4, .d d5, .d d6, .d d7] L) = backK [.d d0, .d d1, .d d2, .d d3, .d d4, .d d5, .d d6, .d d7] L (m [some (.d d0), some (.d d1), some (.d d2), some (.d d3), some (.d d4), some (.d d5), some (.d d6), some (.d d7)]) := rfl
theorem callK_r0 (m : LS → R S) (i : Nat)  (L : LS) : callK m (.ok [.r i] L) = backK [.r i] L (m [(L[i]?).join]) := callK_gen m _ L (List.nodup_cons.mpr ⟨List.not_mem_nil, List.nodup_nil⟩)
theorem callK_r1 (m : LS → R S) (i : Nat) (d0 : D) (L : LS) : callK m (.ok [.r i, .d d0] L) = backK [.r i, .d d0] L (m [(L[i]?).join, some (.d d0)]) := callK_gen m _ L (List.nodup_cons.mpr ⟨List.not_mem_nil, List.nodup_nil⟩)
theorem callK_r2 (m : LS → R S) (i : Nat) (d0 d1 : D) (L : LS) : callK m (.ok [.r i, .d d0, .d d1] L) = backK [.r i, .d d0, .d d1] L (m [(L[i]?).join, some (.d d0), some (.d d1)]) := callK_gen m _ L (List.nodup_cons.mpr ⟨List.not_mem_nil, List.nodup_nil⟩)
theorem callK_r3 (m : LS → R S) (i : Nat) (d0 d1 d2 : D) (L : LS) : callK m (.ok [.r i, .d d0, .d d1, .d d2] L) = backK [.r i, .d d0, .d d1, .d d2] L (m [(L[i]?).join, some (.d d0), some (.d d1), some (.d d2)]) := callK_gen m _ L (List.nodup_cons.mpr ⟨List.not_mem_nil, List.nodup_nil⟩)
theorem callK_r4 (m : LS → R S) (i : Nat) (d0 d1 d2 d3 : D) (L : LS) : callK m (.ok [.r i, .d d0, .d d1, .d d2, .d d3] L) = backK [.r i, .d d0, .d d1, .d d2, .d d3] L (m [(L[i]?).join, some (.d d0), some (.d d1), some (.d d2), some (.d d3)]) := callK_gen m _ L (List.nodup_cons.mpr ⟨List.not_mem_nil, List.nodup_nil⟩)
theorem callK_r5 (m : LS → R S) (i : Nat) (d0 d1 d2 d3 d4 : D) (L : LS) : callK m (.ok [.r i, .d d0, .d d1, .d d2, .d d3, .d d4] L) = backK [.r i, .d d0, .d d1, .d d2, .d d3, .d d4] L (m [(L[i]?).join, some (.d d0), some (.d d1), some (.d d2), some (.d d3), some (.d d4)]) := callK_gen m _ L (List.nodup_cons.mpr ⟨List.not_mem_nil, List.nodup_nil⟩)
theorem callK_r6 (m : LS → R S) (i : Nat) (d0 d1 d2 d3 d4 d5 : D) (L : LS) : callK m (.ok [.r i, .d d0, .d d1, .d d2, .d d3, .d d4, .d d5] L) = backK [.r i, .d d0, .d d1, .d d2, .d d3, .d d4, .d d5] L (m [(L[i]?).join, some (.d d0), some (.d d1), some (.d d2), some (.d d3), some (.d d4), some (.d d5)]) := callK_gen m _ L (List.nodup_cons.mpr ⟨List.not_mem_nil, List.nodup_nil⟩)
theorem callK_r7 (m : LS → R S) (i : Nat) (d0 d1 d2 d3 d4 d5 d6 : D) (L : LS) : callK m (.ok [.r i, .d d0, .d d1, .d d2, .d d3, .d d4, .d d5, .d d6] L) = backK [.r i, .d d0, .d d1, .d d2, .d d3, .d d4, .d d5, .d d6] L (m [(L[i]?).join, some (.d d0), some (.d d1), some (.d d2), some (.d d3), some (.d d4), some (.d d5), some (.d d6)]) := callK_gen m _ L (List.nodup_cons.mpr ⟨List.not_mem_nil, List.nodup_nil⟩)
theorem callK_err (m : LS → R S) (e : Nat) (L : LS) : callK m (.err e L) = .err e L := rfl
theorem backK_ok (xs : List Av) (L : LS) (s : S) (ss : LS) : backK xs L (.ok s ss) = .ok s (putBack xs ss L) := rfl
theorem backK_err (xs : List Av) (L : LS) (e : Nat) (ss : LS) : backK xs L (.err e ss) = .err e (putBack xs ss L) := rfl
theorem slotOf_d (L : LS) (d : D) : slotOf L (.d d) = some (.d d) := rfl
theorem slotOf_r (L : LS) (i : Nat) : slotOf L (.r i) = (L[i]?).join := rfl
theorem putBack_d (xs : List Av) (d : D) (o : Option S) (ss L : LS) : putBack (.d d :: xs) (o :: ss) L = putBack xs ss L := rfl
theorem putBack_r (xs : List Av) (i : Nat) (o : Option S) (ss L : LS) : putBack (.r i :: xs) (o :: ss) L = putBack xs ss (L.set i o) := rfl
theorem putBack_nil (ss L : LS) : putBack [] ss L = L := rfl
theorem refs_nil : refs [] = [] := rfl
theorem refs_d (d : D) (xs : List Av) : refs (.d d :: xs) = refs xs := rfl
theorem refs_r (i : Nat) (xs : List Av) : refs (.r i :: xs) = i :: refs xs := rfl
/-- a def's run -/
theorem ev_run (md : List Bool) (N : Nat) (g : LS → R O) (ss : LS) : runDef md N g ss = endOf md (g (ss ++ List.replicate (N - ss.length) none)) := rfl
theorem endOf_nx (md : List Bool) (L : LS) : endOf md (.ok .nx L) = .ok (.d .none) (maskL md L) := rfl
theorem endOf_rt (md : List Bool) (s : S) (L : LS) : endOf md (.ok (.rt s) L) = .ok s (maskL md L) := rfl
theorem endOf_err (md : List Bool) (e : Nat) (L : LS) : endOf md (.err e L) = .err e (maskL md L) := rfl
theorem maskL_t (bs : List Bool) (o : Option S) (L : LS) : maskL (true :: bs) (o :: L) = o :: maskL bs L := rfl
theorem maskL_f (bs : List Bool) (o : Option S) (L : LS) : maskL (false :: bs) (o :: L) = none :: maskL bs L := rfl
theorem maskL_nil (L : LS) : maskL [] L = [] := by cases L <;> rfl
/-- loops -/
def forK (f : D → LS → Option LS) (g : LS → R O) (r : R (List D)) : R O := r.bind fun ds L1 => forGo f g ds L1
theorem ev_for (gi : LS → R (List D)) (f : D → LS → Option LS) (g : LS → R O) (L : LS) : gFor gi f g L = forK f g (gi L) := rfl
theorem forK_ok (f : D → LS → Option LS) (g : LS → R O) (ds : List D) (L : LS) : forK f g (.ok ds L) = forGo f g ds L := rfl
def turnK (f : D → LS → Option LS) (g : LS → R O) (ds : List D) (r : R O) : R O := match r with
  | .ok .nx L2 => forGo f g ds L2
  | .ok .ct L2 => forGo f g ds L2
  | .ok .bk L2 => .ok .nx L2
  | r => r
theorem forGo_nil (f : D → LS → Option LS) (g : LS → R O) (L : LS) : forGo f g [] L = .ok .nx L := rfl
theorem forGo_cons (f : D → LS → Option LS) (g : LS → R O) (d : D) (ds : List D) {L L1 : LS} (h : f d L = some L1) : forGo f g (d :: ds) L = turnK f g ds (g L1) := by
  show (match f d L with
    | none => R.stuck
    | some L1 => turnK f g ds (g L1)) = _
  rw [h]
theorem turnK_nx (f : D → LS → Option LS) (g : LS → R O) (ds : List D) (L : LS) : turnK f g ds (.ok .nx L) = forGo f g ds L := rfl
theorem turnK_ct (f : D → LS → Option LS) (g : LS → R O) (ds : List D) (L : LS) : turnK f g ds (.ok .ct L) = forGo f g ds L := rfl
theorem turnK_bk (f : D → LS → Option LS) (g : LS → R O) (ds : List D) (L : LS) : turnK f g ds (.ok .bk L) = .ok .nx L := rfl
theorem turnK_rt (f : D → LS → Option LS) (g : LS → R O) (ds : List D) (s : S) (L : LS) : turnK f g ds (.ok (.rt s) L) = .ok (.rt s) L := rfl
theorem turnK_err (f : D → LS → Option LS) (g : LS → R O) (ds : List D) (e : Nat) (L : LS) : turnK f g ds (.err e L) = .err e L := rfl
def itK (k : D → LS → R (List D)) (r : R D) : R (List D) := r.bind k
def rgK (k : List D → LS → R (List D)) (r : R (List D)) : R (List D) := r.bind k
theorem bind_ok {β : Type} (a : α) (L : LS) (k : α → LS → R β) : (R.ok a L).bind k = k a L := rfl
theorem asItems_l (ds : List D) (L : LS) : asItems (.list ds) L = .ok ds L := rfl
theorem asItems_t (ds : List D) (L : LS) : asItems (.tuple ds) L = .ok ds L := rfl
theorem asItems_s (x : Str) (L : LS) : asItems (.str x) L = .ok (signs x) L := rfl
theorem rng1_ok (j : Int) (L : LS) : rng1 [.int j] L = if -(2 ^ 62) ≤ j ∧ j < 2 ^ 62 then .ok (intsD 0 j.toNat) L else .stuck := rfl
theorem rng2_ok (i j : Int) (L : LS) : rng2 [.int i, .int j] L = if -(2 ^ 62) ≤ i ∧ i < 2 ^ 62 ∧ -(2 ^ 62) ≤ j ∧ j < 2 ^ 62 then .ok (intsD i (j - i).toNat) L else .stuck := rfl
theorem ev_name (i : Nat) (d : D) (L : LS) : fName i d L = some (L.set i (some (.d d))) := rfl
theorem ev_fnil (L : LS) : fNil [] L = some L := rfl
theorem ev_fcons (f : D → LS → Option LS) (r : List D → LS → Option LS) (d : D) (ds : List D) (L : LS) : fCons f r (d :: ds) L = (f d L).bind (r ds) := rfl
theorem ev_ftup (m : Nat) (f : List D → LS → Option LS) (ds : List D) (L : LS) : fTup m f (.tuple ds) L = if ds.length = m then f ds L else none := rfl
theorem some_bind {β : Type} (a : α) (k : α → Option β) : (some a).bind k = k a := rfl
def asgTK (f : D → LS → Option LS) (r : R D) : R O := r.bind fun d L1 => match f d L1 with
  | some L2 => .ok .nx L2
  | none => .stuck
def asgTK2 (o : Option LS) : R O := match o with
  | some L2 => .ok .nx L2
  | none => .stuck
theorem ev_asgT (f : D → LS → Option LS) (g : LS → R D) (L : LS) : gAsgT f g L = asgTK f (g L) := rfl
theorem asgTK_ok (f : D → LS → Option LS) (d : D) (L : LS) : asgTK f (.ok d L) = asgTK2 (f d L) := rfl
theorem asgTK2_ok (L : LS) : asgTK2 (some L) = .ok .nx L := rfl
/-- comprehensions -/
def lcK (vs : List Nat) (f : D → LS → Option LS) (gt : LS → R Bool) (ge : LS → R D) (r : R (List D)) : R S := r.bind fun ds L1 => lcGo vs f gt ge ds [] (wipeL L1 vs)
theorem ev_lc (vs : List Nat) (gi : LS → R (List D)) (f : D → LS → Option LS) (gt : LS → R Bool) (ge : LS → R D) (L : LS) : gLc vs gi f gt ge L = lcK vs f gt ge (gi L) := rfl
theorem lcK_ok (vs : List Nat) (f : D → LS → Option LS) (gt : LS → R Bool) (ge : LS → R D) (ds : List D) (L : LS) : lcK vs f gt ge (.ok ds L) = lcGo vs f gt ge ds [] (wipeL L vs) := rfl
theorem wipeL_nil (L : LS) : wipeL L [] = L := rfl
theorem wipeL_cons (L : LS) (v : Nat) (vs : List Nat) : wipeL L (v :: vs) = (wipeL L vs).set v none := rfl
theorem ev_yes (L : LS) : gYes L = .ok true L := rfl
theorem lcGo_nil (vs : List Nat) (f : D → LS → Option LS) (gt : LS → R Bool) (ge : LS → R D) (acc : List D) (L : LS) : lcGo vs f gt ge [] acc L = .ok (.ol acc) L := rfl
theorem lcGo_yes (vs : List Nat) (f : D → LS → Option LS) (gt : LS → R Bool) (ge : LS → R D) (d : D) (ds acc : List D) {L L1 L2 L3 : LS} {y : D} (h1 : f d L = some L1) (h2 : gt L1 = .ok true L2) (h3 : ge L2 = .ok y L3) (h4 : acc.length < sizeLine) :
    lcGo vs f gt ge (d :: ds) acc L = lcGo vs f gt ge ds (acc ++ [y]) (wipeL L3 vs) := by
  rw [lcGo]
  simp only [h1, h2, h3, if_pos, h4]
theorem lcGo_no (vs : List Nat) (f : D → LS → Option LS) (gt : LS → R Bool) (ge : LS → R D) (d : D) (ds acc : List D) {L L1 L2 : LS} (h1 : f d L = some L1) (h2 : gt L1 = .ok false L2) :
    lcGo vs f gt ge (d :: ds) acc L = lcGo vs f gt ge ds acc (wipeL L2 vs) := by
  rw [lcGo]
  simp [h1, h2]
/-- values -/
theorem dLt_i (i j : Int) : dLt (.int i) (.int j) = some (.bool (decide (i < j))) := rfl
theorem dLe_i (i j : Int) : dLe (.int i) (.int j) = some (.bool (decide (i ≤ j))) := rfl
theorem dGt_i (i j : Int) : dGt (.int i) (.int j) = some (.bool (decide (j < i))) := rfl
theorem dGe_i (i j : Int) : dGe (.int i) (.int j) = some (.bool (decide (j ≤ i))) := rfl
theorem dLt_s (x y : Str) : dLt (.str x) (.str y) = some (.bool (decide (x.cps.toList < y.cps.toList))) := rfl
theorem dLe_s (x y : Str) : dLe (.str x) (.str y) = some (.bool (!decide (y.cps.toList < x.cps.toList))) := rfl
theorem eqv_int (i j : Int) : PyData.eqv (.int i) (.int j) = decide (i = j) := by
  simp only [PyData.eqv]
  exact Bool.beq_eq_decide_eq i j
theorem eqv_str (i j : Str) : PyData.eqv (.str i) (.str j) = decide (i = j) := by
  simp only [PyData.eqv]
  exact Bool.beq_eq_decide_eq i j
theorem eqv_bool (i j : Bool) : PyData.eqv (.bool i) (.bool j) = decide (i = j) := by
  simp only [PyData.eqv]
  exact Bool.beq_eq_decide_eq i j
theorem dEq_i (i j : Int) : dEq (.int i) (.int j) = some (.bool (decide (i = j))) := by
  unfold dEq
  rw [if_pos (.inl rfl), eqv_int]
theorem dEq_s (i j : Str) : dEq (.str i) (.str j) = some (.bool (decide (i = j))) := by
  unfold dEq
  rw [if_pos (.inl rfl), eqv_str]
theorem dEq_b (i j : Bool) : dEq (.bool i) (.bool j) = some (.bool (decide (i = j))) := by
  unfold dEq
  rw [if_pos (.inl rfl), eqv_bool]
theorem dNe_i (i j : Int) : dNe (.int i) (.int j) = some (.bool (!decide (i = j))) := by
  unfold dNe
  rw [if_pos (.inl rfl), eqv_int]
theorem dNe_s (i j : Str) : dNe (.str i) (.str j) = some (.bool (!decide (i = j))) := by
  unfold dNe
  rw [if_pos (.inl rfl), eqv_str]
theorem dIs_b (i j : Bool) : dIs (.bool i) (.bool j) = some (.bool (decide (i = j))) := rfl
theorem dSub_i (i j : Int) : dSub (.int i) (.int j) = some (.int (i - j)) := rfl
theorem dMod_ok {i j : Int} (h : 0 < j) : dMod (.int i) (.int j) = some (.int (i % j)) := if_pos (decide_eq_true h)
theorem dDiv_ok {i j : Int} (h : 0 < j) (h2 : j < 1073741824) : dDiv (.int i) (.int j) = some (.int (i / j)) := if_pos (decide_eq_true ⟨h, h2⟩)
theorem dMul_ok {i j : Int} (h : -(2 ^ 64) < i) (h2 : i < 2 ^ 64) : dMul (.int i) (.int j) = some (.d (.int (i * j))) := by
  have e : dMulI (.int i) (.int j) = some (.int (i * j)) := if_pos (decide_eq_true (.inl ⟨h, h2⟩))
  show (((dMulI (.int i) (.int j)).map S.d).orElse _) = _
  rw [e]
  rfl
theorem dMul_ok2 {i j : Int} (h : -(2 ^ 64) < j) (h2 : j < 2 ^ 64) : dMul (.int i) (.int j) = some (.d (.int (i * j))) := by
  have e : dMulI (.int i) (.int j) = some (.int (i * j)) := if_pos (decide_eq_true (.inr ⟨h, h2⟩))
  show (((dMulI (.int i) (.int j)).map S.d).orElse _) = _
  rw [e]
  rfl
theorem dPow_ok {i j : Int} (h : 0 ≤ j ∧ j ≤ 1000000 ∧ i.natAbs < 2 ^ 64) : dPow (.int i) (.int j) = some (.int (i ^ j.toNat)) := if_pos (decide_eq_true h)
theorem dLen_l (xs : List D) : dLen (.list xs) = some (.int xs.length) := rfl
theorem dLen_t (xs : List D) : dLen (.tuple xs) = some (.int xs.length) := rfl
theorem dLen_s {x : Str} (h : x.length ≤ sizeLine) : dLen (.str x) = some (.int x.length) := if_pos h
theorem dList_l (xs : List D) : dList (.list xs) = some (.ol xs) := rfl
theorem dList_t (xs : List D) : dList (.tuple xs) = some (.ol xs) := rfl
theorem dSl_l (xs : List D) (lo hi : Option Int) : dSl (.list xs) lo hi = some (.ol (cutD xs lo hi)) := rfl
theorem dSl_s {x : Str} (lo hi : Option Int) (h : x.length ≤ sizeLine) : dSl (.str x) lo hi = some (.d (.str (cutS x lo hi))) := if_pos h
theorem dNot_b (b : Bool) : dNot (.bool b) = some (.bool (!b)) := rfl
end
end VS

namespace VS
open PySem PySem.Spec PyProof.Rows L2
/-! ### sum, sorted, min, max, pop, zip; a def that calls itself -/
theorem dx_stuck {P : Program} {w : World} {K : PySem.W.Frag} {mg : Str → Option Value} {base : Heap} {ca : Nat → Addr} {x : Str} {k : Nat} {ps : List Str} {md : List Bool} {f : Addr} {fd : FuncData}
    (hg : mg x = some (.ref f)) (hk : PySem.W.keepIn K (.ref f) = true) (hb : Binds K fd ps []) : Dx P w K mg base ca x k ps md (fun _ => .stuck) :=
  ⟨f, fd, ⟨fun vs H Q E h => by obtain ⟨_, _, _, _, _, _, z⟩ := h; exact z.elim, fun A outer s H args us vs Q E _ _ _ _ h => by obtain ⟨_, _, _, _, _, _, z⟩ := h; exact z.elim⟩, hg, hk, hb⟩
def intsOf : List D → Option (List Int)
  | [] => some []
  | .int i :: ds => (intsOf ds).map (i :: ·)
  | _ :: _ => none
theorem ints_of {K : PySem.W.Frag} {F : Hp} : ∀ {ds : List D} {vs : List V} {ns : List Int}, DqA K F vs ds → intsOf ds = some ns → vs = ns.map V.int
  | [], _, _, .nil, h => by cases h; rfl
  | .int i :: ds, _, ns, .cons (.int _) r, h => by
    have h : (intsOf ds).map (i :: ·) = some ns := h
    cases e : intsOf ds with
    | none => rw [e] at h; cases h
    | some ms =>
      rw [e] at h
      cases h
      rw [ints_of r e]
      rfl
theorem intsOf_map : ∀ ns : List Int, intsOf (ns.map PyData.int) = some ns
  | [] => rfl
  | i :: ns => by
    show (intsOf (ns.map PyData.int)).map (i :: ·) = _
    rw [intsOf_map ns]
    rfl
section
variable {c : Ct} {n n1 n2 : Bool} {a b e : Expr} {es : List Expr} {ga gb : LS → R D} {gs : LS → R (List D)} {pos p : Pos}
theorem bv_list {G F H : Hp} {ow : Addr → Option Path} {σ : L2.St} {L : LS} {ds : List D} {v : V} (Rr : c.Rl G F ow σ H L) (hb : BV c.X.K F H ow (.list ds) v) : ∃ l vs, v = .ref l ∧ SqL c.X.K H l vs ∧ DqA c.X.K F vs ds := by
  rcases hb with hb | ⟨l, vs, ds', rfl, e, h1, h2⟩
  · cases hb with
    | lst h1 h2 => exact ⟨_, _, rfl, .of (Rr.exF _ _ h1), h2⟩
  · cases e
    exact ⟨l, vs, rfl, h1, h2⟩
theorem je_call1 {id : String} {x : Str} {r : List V → Hp → VK → Prop} {f : D → Option S} (hc : CallR c.X (.builtin id) r) (hg : Gl c.X x) (hm : c.X.mg x = none) (hv : bootBuiltins x = some (.builtin id)) (ha : JV c n a ga)
    (lf : ∀ {G F H : Hp} {ow : Addr → Option Path} {σ : L2.St} {L : LS} {d : D} {v : V}, c.Rl G F ow σ H L → BV c.X.K F H ow d v → Post c G true F H σ (ofO (f d) L) (BE c.ca c.X.K) (r [v] H))
    (hn : x ≠ "__name__" := by decide) (hdb : (x == ("__debug__" : Str)) = false := by decide) (hs : starEach [a] c.X.env = (false, eval a c.X.env) :: starEach [] c.X.env := by rfl) (hpl : (backTo pos (starEach [] c.X.env)).any (·.1) = false := by rfl) :
    JE c n (.Call (.Name x p) [a] [] pos) (gUn f ga) := by
  obtain ⟨ta, pa, qa⟩ := ha
  exact ⟨_, pe_callB hc hg hm hv (pa_cons pa pa_nil hs) hn hdb hs hpl, jdg_call1 qa lf⟩
def dSum : D → Option D
  | .list ds => (intsOf ds).map fun ns => .int ns.sum
  | _ => none
theorem jd_sum (hc : c.X.calm = true) (hg : Gl c.X "sum") (hm : c.X.mg "sum" = none) (ha : JV c n a ga) (hs : starEach [a] c.X.env = (false, eval a c.X.env) :: starEach [] c.X.env := by rfl) : JD c n (.Call (.Name "sum" p) [a] [] pos) (gUn dSum ga) :=
  jd_call1 (cr_sum hc) hg hm (by decide +kernel) ha (fun {G F H ow σ L d v} Rr hb => by
    cases d with
    | list ds =>
      obtain ⟨l, vs, rfl, h1, h2⟩ := bv_list Rr hb
      show Post c G true F H σ (ofO ((intsOf ds).map fun ns => PyData.int ns.sum) L) _ _
      cases e : intsOf ds with
      | none => trivial
      | some ns =>
        rw [ints_of h2 e] at h1
        exact (Post.val (a := PyData.int ns.sum) (b := V.int ns.sum) (B := BD c.X.K) Rr (.int _)).imp fun Q q => ⟨l, ns, rfl, h1, q⟩
    | _ => trivial) (by decide) (by decide) hs rfl
/-- the ints in rising order -/
def srt (ns : List Int) : List Int := ns.mergeSort
theorem srt_uniq {ns ms : List Int} (h1 : ms.Perm ns) (h2 : ms.Pairwise (· ≤ ·)) : ms = srt ns := by
  refine List.Perm.eq_of_pairwise (fun x y _ _ h1 h2 => Int.le_antisymm h1 h2) h2 ?_ (h1.trans (List.mergeSort_perm ns _).symm)
  have := List.pairwise_mergeSort (le := fun a b : Int => decide (a ≤ b)) (fun a b c h1 h2 => by simp only [decide_eq_true_eq] at *; omega) (fun a b => by simp only [Bool.or_eq_true, decide_eq_true_eq]; omega) ns
  exact this.imp fun h => of_decide_eq_true h
def dSorted : D → Option S
  | .list ds => (intsOf ds).bind fun ns => if ns.length < 64 then some (.ol ((srt ns).map PyData.int)) else none
  | _ => none
theorem je_sorted (hg : Gl c.X "sorted") (hm : c.X.mg "sorted" = none) (ha : JV c n a ga) (hs : starEach [a] c.X.env = (false, eval a c.X.env) :: starEach [] c.X.env := by rfl) : JE c n (.Call (.Name "sorted" p) [a] [] pos) (gUn dSorted ga) :=
  je_call1 cr_sorted hg hm (by decide +kernel) ha (fun {G F H ow σ L d v} Rr hb => by
    cases d with
    | list ds =>
      obtain ⟨l, vs, rfl, h1, h2⟩ := bv_list Rr hb
      show Post c G true F H σ (ofO ((intsOf ds).bind fun ns => if ns.length < 64 then some (S.ol ((srt ns).map PyData.int)) else none) L) _ _
      cases e : intsOf ds with
      | none => trivial
      | some ns =>
        rw [ints_of h2 e] at h1
        show Post c G true F H σ (ofO (if ns.length < 64 then some (S.ol ((srt ns).map PyData.int)) else none) L) _ _
        by_cases h64 : ns.length < 64
        · rw [if_pos h64]
          exact (post_new Rr (DqA.ints (srt ns))).imp fun Q q => ⟨l, ns, rfl, h1, h64, fun ms p k1 k2 k3 => by rw [srt_uniq k1 k2]; exact q p k3⟩
        · rw [if_neg h64]
          trivial
    | _ => trivial) (by decide) (by decide) hs rfl
/-- a built-in of plain values -/
def gA {α : Type} (f : List D → Option α) (gs : LS → R (List D)) : LS → R α := fun L => (gs L).bind fun ds L1 => ofO (f ds) L1
theorem jd_callA {id : String} {x : Str} {r : List V → Hp → VK → Prop} {f : List D → Option D} (hc : CallR c.X (.builtin id) r) (hg : Gl c.X x) (hm : c.X.mg x = none) (hv : bootBuiltins x = some (.builtin id)) (ha : JA c n (e :: es) gs)
    (lf : ∀ (F H : Hp) (vs : List V) (ds : List D) (z : D), Same F H → DqA c.X.K F vs ds → f ds = some z → ∃ v, Dq c.X.K F v z ∧ ∀ Q : VK, Q v H → r vs H Q)
    (hn : x ≠ "__name__" := by decide) (hdb : (x == ("__debug__" : Str)) = false := by decide) (hs : starEach (e :: es) c.X.env = (false, eval e c.X.env) :: starEach es c.X.env := by rfl) (hpl : (backTo pos (starEach es c.X.env)).any (·.1) = false := by rfl) :
    JD c n (.Call (.Name x p) (e :: es) [] pos) (gA f gs) := by
  obtain ⟨ta, pa, qa⟩ := ha
  refine ⟨_, pe_callB hc hg hm hv pa hn hdb hs hpl, fun G F ow σ H L Rr => (qa G F ow σ H L Rr).bind1 (t2 := fun vs H1 Q => r vs H1 Q) fun ds L1 vs H1 F1 ow1 _ _ _ R1 b1 => ?_⟩
  cases hf : f ds with
  | none => trivial
  | some z =>
    obtain ⟨v, hv, q⟩ := lf F1 H1 vs ds z R1.exF b1 hf
    exact (Post.val R1 hv).imp q
def dMin : List D → Option D
  | [.int i, .int j] => some (.int (if j < i then j else i))
  | _ => none
def dMax : List D → Option D
  | [.int i, .int j] => some (.int (if j > i then j else i))
  | _ => none
theorem jd_min (hc : c.X.calm = true) (hg : Gl c.X "min") (hm : c.X.mg "min" = none) (ha : JA c n [a, b] gs) (hs : starEach [a, b] c.X.env = (false, eval a c.X.env) :: starEach [b] c.X.env := by rfl) (hpl : (backTo pos (starEach [b] c.X.env)).any (·.1) = false := by rfl) :
    JD c n (.Call (.Name "min" p) [a, b] [] pos) (gA dMin gs) :=
  jd_callA (call_min2 hc) hg hm (by decide +kernel) ha (fun F H vs ds z s h hf => by
    match ds, vs, h, hf with
    | [.int i, .int j], _, .cons (.int _) (.cons (.int _) .nil), hf =>
      cases hf
      exact ⟨_, .int _, fun Q q => ⟨i, j, rfl, q⟩⟩) (by decide) (by decide) hs hpl
theorem jd_max (hc : c.X.calm = true) (hg : Gl c.X "max") (hm : c.X.mg "max" = none) (ha : JA c n [a, b] gs) (hs : starEach [a, b] c.X.env = (false, eval a c.X.env) :: starEach [b] c.X.env := by rfl) (hpl : (backTo pos (starEach [b] c.X.env)).any (·.1) = false := by rfl) :
    JD c n (.Call (.Name "max" p) [a, b] [] pos) (gA dMax gs) :=
  jd_callA (call_max2 hc) hg hm (by decide +kernel) ha (fun F H vs ds z s h hf => by
    match ds, vs, h, hf with
    | [.int i, .int j], _, .cons (.int _) (.cons (.int _) .nil), hf =>
      cases hf
      exact ⟨_, .int _, fun Q q => ⟨i, j, rfl, q⟩⟩) (by decide) (by decide) hs hpl
/-- x.pop(k) of a slot's own list -/
def gOwnD (i : Nat) (k : List D → LS → R D) : LS → R D := fun L => match L[i]? with
  | some (some (.ol ds)) => k ds L
  | _ => .stuck
def popK (i : Nat) (k : Int) (L : LS) : R D := match L[i]? with
  | some (some (.ol ds)) => if -(2 ^ 63) ≤ k ∧ k < 2 ^ 63 then (match seqIndex? k ds.length with
    | some j => (match ds[j]? with
      | some d => .ok d (L.set i (some (.ol (ds.eraseIdx j))))
      | none => .stuck)
    | none => .stuck) else .stuck
  | _ => .stuck
def popAt (i : Nat) : D → LS → R D
  | .int k, L => popK i k L
  | _, _ => .stuck
def gPopAt (i : Nat) (g : LS → R D) : LS → R D := gOwnD i fun _ L => (g L).bind (popAt i)
theorem jd_popAt (i : Nat) {x : Str} {apos : Pos} (h : PE c.X (.Name x p) (tVar i)) (ha : JD c n a ga)
    (hbase : attributeBase (.Name x p) "pop" c.X.env (eval (.Name x p) c.X.env) = eval (.Name x p) c.X.env := by rfl)
    (hfew : ((backTo pos (starEach [a] c.X.env)).all (fun x => !x.1) && (backToKw pos (keywordEach [] c.X.env)).all (fun x => x.1.isSome) && decide ([a].length + ([] : List Keyword).length + (if ([] : List Keyword).isEmpty then 0 else 1) < 30)) = true := by rfl)
    (hline : (apos.endLine == pos.line) = true := by rfl) (hs : starEach [a] c.X.env = (false, eval a c.X.env) :: starEach [] c.X.env := by rfl) (hplain : (backTo pos (starEach [] c.X.env)).any (·.1) = false := by rfl) :
    JD c false (.Call (.Attribute (.Name x p) "pop" apos) [a] [] pos) (gPopAt i ga) := by
  obtain ⟨ta, pa, qa⟩ := ha
  refine ⟨_, pe_bm PySem.F.plainAttrs_list PySem.F.slot_list_pop PySem.F.type_list_pop mt_popAt h (pa_cons pa pa_nil hs) hbase hfew hline hs hplain, fun G F ow σ H L Rr => ?_⟩
  unfold gPopAt gOwnD
  cases hL : L[i]? with
  | none => trivial
  | some o =>
    cases o with
    | none => trivial
    | some s =>
      cases s with
      | ol ds0 =>
        obtain ⟨l, vs0, hv, h0, _, _⟩ := ownL_at Rr hL
        have key := (qa G F ow σ H L Rr).bind (n2 := false) (k := popAt i) (B2 := BD c.X.K) (t2 := fun y H1 Q => rPopAt (.ref l) [y] H1 Q)
          fun d L1 v H1 F1 ow1 _ _ _ R1 b1 => by
            cases b1 with
            | int k =>
              show Post c G false F1 H1 σ (popK i k L1) (BD c.X.K) _
              unfold popK
              cases hL1 : L1[i]? with
              | none => trivial
              | some o =>
                cases o with
                | none => trivial
                | some s =>
                  cases s with
                  | ol ds =>
                    obtain ⟨l', vs, hv', h1, h2, h3⟩ := ownL_at R1 hL1
                    rw [hv] at hv'
                    cases hv'
                    refine Post.guard fun hk => ?_
                    cases hj : seqIndex? k ds.length with
                    | none => trivial
                    | some j =>
                      dsimp only
                      cases hd : ds[j]? with
                      | none => trivial
                      | some d =>
                        obtain ⟨y, hy, hq⟩ := h3.get hd
                        intro Q q
                        exact ⟨l, vs, k, j, y, rfl, rfl, h1, hk.1, hk.2, by rw [h3.len]; exact hj, hy, q _ _ F1 ow1 (Same.refl F1) (fun z => nomatch z) (Rl.putL R1 hv h2 (h3.erase j)) hq⟩
                  | _ => trivial
            | _ => trivial
        rw [Bool.and_false] at key
        exact key.imp fun Q q => ⟨_, hv, .inl ⟨rfl, _, .of h0⟩, q⟩
      | _ => trivial
/-- zip of two lists, of two tuples -/
def zipD : List D → List D → List D := fun xs ys => (xs.zip ys).map fun z => .tuple [z.1, z.2]
def asZip : List D → LS → R (List D)
  | [.list xs, .list ys], L => .ok (zipD xs ys) L
  | [.tuple xs, .tuple ys], L => .ok (zipD xs ys) L
  | _, _ => .stuck
theorem zipD_len (xs ys : List D) : (zipD xs ys).length = min xs.length ys.length := by unfold zipD; rw [List.length_map, List.length_zip]
theorem zipD_get {xs ys : List D} {i : Nat} {d : D} (h : (zipD xs ys)[i]? = some d) : ∃ x y, xs[i]? = some x ∧ ys[i]? = some y ∧ d = .tuple [x, y] := by
  unfold zipD at h
  rw [List.getElem?_map] at h
  cases e : (xs.zip ys)[i]? with
  | none => rw [e] at h; cases h
  | some z =>
    rw [e] at h
    obtain ⟨h1, h2⟩ := List.getElem?_zip_eq_some.mp e
    exact ⟨z.1, z.2, h1, h2, (Option.some.inj h).symm⟩
theorem zipL_post {G H1 F1 : Hp} {ow1 : Addr → Option Path} {σ : L2.St} {L1 : LS} {xs ys : List D} {vs : List V} (R1 : c.Rl G F1 ow1 σ H1 L1) (b1 : DqA c.X.K F1 vs [.list xs, .list ys]) :
    Post c G true F1 H1 σ (.ok (zipD xs ys) L1) (BI c.X.K) (fun Q => ∃ a b xs ys, vs = [.ref a, .ref b] ∧ ((SqL c.X.K H1 a xs ∧ SqL c.X.K H1 b ys ∧ Q (Itz c.X.K a b) H1) ∨ (SqT c.X.K H1 a xs ∧ SqT c.X.K H1 b ys ∧ Q (RZ.ItzT c.X.K a b) H1))) := by
  match vs, b1 with
  | _, .cons (@Dq.lst _ _ l us _ h1 h2) (.cons (@Dq.lst _ _ m ws _ h3 h4) .nil) =>
    refine (Post.val (a := zipD xs ys) (b := Itz c.X.K l m) (B := BI c.X.K) R1 fun i H s => ⟨fun hi => ⟨us, ws, .of (s _ _ h1), .of (s _ _ h3), ?_⟩, fun d hd => ?_⟩).imp fun Q q => ⟨l, m, us, ws, rfl, .inl ⟨.of (R1.exF _ _ h1), .of (R1.exF _ _ h3), q⟩⟩
    · rw [zipD_len] at hi
      rw [h2.len, h4.len]
      omega
    · obtain ⟨x, y, hx, hy, rfl⟩ := zipD_get hd
      obtain ⟨u, hu, ru⟩ := h2.get hx
      obtain ⟨z, hz, rz⟩ := h4.get hy
      refine ⟨⟨us, ws, u, z, .of (s _ _ h1), .of (s _ _ h3), hu, hz⟩, fun x' H' ⟨T, x1, y1, e1, e2, e3, e4, e5⟩ => .inr ⟨T, [x1, y1], [x, y], rfl, e1, e2, e3, ?_⟩⟩
      have f1 := e4 us (.of (s _ _ h1))
      have f2 := e5 ws (.of (s _ _ h3))
      rw [hu] at f1
      rw [hz] at f2
      cases f1
      cases f2
      exact .cons ru (.cons rz .nil)
theorem zipT_post {G H1 F1 : Hp} {ow1 : Addr → Option Path} {σ : L2.St} {L1 : LS} {xs ys : List D} {vs : List V} (R1 : c.Rl G F1 ow1 σ H1 L1) (b1 : DqA c.X.K F1 vs [.tuple xs, .tuple ys]) :
    Post c G true F1 H1 σ (.ok (zipD xs ys) L1) (BI c.X.K) (fun Q => ∃ a b xs ys, vs = [.ref a, .ref b] ∧ ((SqL c.X.K H1 a xs ∧ SqL c.X.K H1 b ys ∧ Q (Itz c.X.K a b) H1) ∨ (SqT c.X.K H1 a xs ∧ SqT c.X.K H1 b ys ∧ Q (RZ.ItzT c.X.K a b) H1))) := by
  match vs, b1 with
  | _, .cons (@Dq.tup _ _ l us _ h1 h2) (.cons (@Dq.tup _ _ m ws _ h3 h4) .nil) =>
    refine (Post.val (a := zipD xs ys) (b := RZ.ItzT c.X.K l m) (B := BI c.X.K) R1 fun i H s => ⟨fun hi => ⟨us, ws, sqt_same s h1, sqt_same s h3, ?_⟩, fun d hd => ?_⟩).imp fun Q q => ⟨l, m, us, ws, rfl, .inr ⟨sqt_same R1.exF h1, sqt_same R1.exF h3, q⟩⟩
    · rw [zipD_len] at hi
      rw [h2.len, h4.len]
      omega
    · obtain ⟨x, y, hx, hy, rfl⟩ := zipD_get hd
      obtain ⟨u, hu, ru⟩ := h2.get hx
      obtain ⟨z, hz, rz⟩ := h4.get hy
      refine ⟨⟨us, ws, u, z, sqt_same s h1, sqt_same s h3, hu, hz⟩, fun x' H' ⟨T, x1, y1, e1, e2, e3, e4, e5⟩ => .inr ⟨T, [x1, y1], [x, y], rfl, e1, e2, e3, ?_⟩⟩
      have f1 := e4 us (sqt_same s h1)
      have f2 := e5 ws (sqt_same s h3)
      rw [hu] at f1
      rw [hz] at f2
      cases f1
      cases f2
      exact .cons ru (.cons rz .nil)
theorem ji_zip {tpos : Pos} {elts : List Expr} {kk : Nat} (hg : Gl c.X "zip") (hm : c.X.mg "zip" = none) (h : JA c n [a, b] gs)
    (hs : starEach [a, b] c.X.env = (false, eval a c.X.env) :: starEach [b] c.X.env := by rfl) (hpl : (backTo pos (starEach [b] c.X.env)).any (·.1) = false := by rfl) :
    JI c n (.Tuple elts kk tpos) (.Call (.Name "zip" p) [a, b] [] pos) (fun L => (gs L).bind asZip) := by
  obtain ⟨t, q, k⟩ := h
  refine ⟨_, RZ.pi_zipA hg hm q hs hpl, fun G F ow σ H L Rr => (k G F ow σ H L Rr).bind1 (t2 := fun vs H1 Q => ∃ a b xs ys, vs = [.ref a, .ref b] ∧ ((SqL c.X.K H1 a xs ∧ SqL c.X.K H1 b ys ∧ Q (Itz c.X.K a b) H1) ∨ (SqT c.X.K H1 a xs ∧ SqT c.X.K H1 b ys ∧ Q (RZ.ItzT c.X.K a b) H1))) fun ds L1 vs H1 F1 ow1 _ _ _ R1 b1 => ?_⟩
  show Post c G true F1 H1 σ (asZip ds L1) _ _
  unfold asZip
  split
  · exact zipL_post R1 b1
  · exact zipT_post R1 b1
  · trivial
end
end VS

namespace VS
open PySem PySem.Spec PyProof.Rows L2
/-! ### sorted by a def that gives an item's second one -/
structure KeyAt1 (P : Program) (w : World) (K : PySem.W.Frag) (mg : Str → Option Value) (x : Str) : Prop where
  ex : ∃ f, mg x = some (.ref f) ∧ ∀ (A : Around) (s : Shared) (t : Addr) (items : Array Value) (y : Value), A.depth < recursionLimit → K.In s.heap → s.heap.NoLimit → IsTup s.heap t items → items[1]? = some y →
    wpAny (model P w) A (call (.ref f) [.ref t]) (fun v s2 => v = y ∧ ∃ h' tk, s2 = { s with heap := h', toks := tk } ∧ ∀ b o, s.heap.get? b = some o → h'.get? b = some o) (fun _ _ => False) s
theorem key_at1 {P : Program} {w : World} {K : PySem.W.Frag} {mg : Str → Option Value} {x qual y : Str} {st : Stmt} {f : Addr} {fd : FuncData} (F : Fun K x qual st f fd) (S : FnScope [y] [y] (defScope st)) (hl : (defScope st).names.lookup y = some .local) (hb : Binds K fd [y] []) (hg : mg x = some (.ref f))
    {j2 : Nat} {p3 p4 p5 p6 : Pos} (hbody : defBody st = [.Return (some (.Subscript (.Name y p3) (.Constant (.int 1) j2 p4) p5)) p6])
    (hd : (y == ("__debug__" : Str)) = false) : KeyAt1 P w K mg x := by
  refine ⟨f, hg, fun A s t items z hdp KX lim ht hx => ?_⟩
  obtain ⟨oc, od, kV, doc, pm, an, cdv, ct, osl, rfl, lk, hcd⟩ := F.ex
  have hbt := hb s [.ref t] KX rfl
  rw [List.append_nil] at hbt
  refine wpAny_call (codeAny_call_function hdp (KX _ _ lk) rfl S.co S.gen rfl (PySem.W.codeRec_of KX hcd) (hbt _ _ _ _ ?_))
  refine wpAny_newFunctionEnv_cells S.kind (fun p hp => .inl ?_) fun env he s1 xx => ?_
  · cases hp with
    | head => exact hl
    | tail _ h => cases h
  subst he
  refine ⟨lim.keeps xx.toInCall.keep, codeAny_func ?_⟩
  rw [hbody]
  have hm : bindL (newEnv (defScope st) s.heap.objs.size mainGlobals (cellsFrom (s.heap.objs.size + 1) (defScope st).names []) (qual ++ ".<locals>.") (some f) cdv none builtinsNs).kindOf [(y, Value.ref t)] (fun _ => none) y = some (.ref t) := by
    have hk : (newEnv (defScope st) s.heap.objs.size mainGlobals (cellsFrom (s.heap.objs.size + 1) (defScope st).names []) (qual ++ ".<locals>.") (some f) cdv none builtinsNs).kindOf y = some .local := hl
    simp [bindL, hk]
  have I1 := xx.toInCall
  refine wpAny_execs_cons (wpAny_Return_some (Subscript_ (wpAny_Name (wpAny_loadName_local S.kind hl I1.ns hm (wpAny_Constant_int ?_)) hd)))
  have I2 := I1.tok (s1.toks + 1)
  have ht2 : IsTup _ t items := ht.keeps I2.keep
  have hz := (Array.getElem?_eq_some_iff.mp hx).1
  have hs1 : seqIndex? 1 items.size = some 1 := by
    unfold seqIndex?
    simp
    omega
  exact subscriptTail_builtinR (x := z) ht2.typeIs slot_tuple_getitem.lookup (getItem_tuple (j := 1) ht2 (by omega) (by omega) hs1 hx ⟨rfl, rfl, I2.done⟩) rfl
/-- the second item -/
def it1 : D → Int
  | .tuple [_, .int i] => i
  | _ => 0
def isIt1 : D → Bool
  | .tuple [_, .int _] => true
  | _ => false
def ordB (b : Bool) (x y : D) : Bool := if b then decide (it1 y ≤ it1 x) else decide (it1 x ≤ it1 y)
def srtK (b : Bool) (ds : List D) : List D := ds.mergeSort (ordB b)
def dSortK (b : Bool) : D → Option S
  | .list ds => if ds.all isIt1 = true ∧ ds.length ≤ sizeLine then some (.ol (srtK b ds)) else none
  | _ => none
theorem ordB_eq (b : Bool) {β : Type} (f : β → D) : PySem.W.dataLe b (fun z : β => PyData.int (it1 (f z))) = fun x y => ordB b (f x) (f y) := by
  cases b
  · exact PySem.W.dataLe_int fun z => it1 (f z)
  · exact PySem.W.dataGe_int fun z => it1 (f z)
def rSortK (K : PySem.W.Frag) (F : V → D → Prop) (fa : V) (b : Bool) : List V → List V → Hp → VK → Prop := fun vs zs H Q => ∃ (a : Addr) (xs : List V) (ds : List D), vs = [V.ref a] ∧ zs = [fa, .bl b] ∧ SqL K H a xs ∧
  xs.length = ds.length ∧ (∀ p ∈ xs.zip ds, F p.1 p.2 ∧ ∃ t ys i, p.1 = .ref t ∧ SqT K H t ys ∧ ys[1]? = some (.int i) ∧ it1 p.2 = i) ∧
  ∀ (ys : List V) (p : Addr), ys.length = ds.length → (∀ q ∈ ys.zip (srtK b ds), F q.1 q.2) → H p = none → Q (.ref p) (upd H p (.lst ys))
theorem dqa_of {K : PySem.W.Frag} {F : Hp} : ∀ {vs : List V} {ds : List D}, vs.length = ds.length → (∀ q ∈ vs.zip ds, Dq K F q.1 q.2) → DqA K F vs ds
  | [], [], _, _ => .nil
  | v :: vs, d :: ds, hl, h => .cons (h (v, d) List.mem_cons_self) (dqa_of (Nat.succ.inj hl) fun q hq => h q (List.mem_cons_of_mem _ hq))
theorem dqa_zip {K : PySem.W.Frag} {F : Hp} : ∀ {vs : List V} {ds : List D}, DqA K F vs ds → ∀ q ∈ vs.zip ds, Dq K F q.1 q.2
  | _, _, .nil, q, h => by cases h
  | _, _, .cons h r, q, hq => by
    cases hq with
    | head => exact h
    | tail _ hq => exact dqa_zip r q hq
theorem zip_fst {α β : Type} : ∀ {xs : List α} {ys : List β}, xs.length = ys.length → (xs.zip ys).map (·.1) = xs
  | [], [], _ => rfl
  | x :: xs, y :: ys, h => by rw [List.zip_cons_cons, List.map_cons, zip_fst (Nat.succ.inj h)]
theorem zip_snd {α β : Type} : ∀ {xs : List α} {ys : List β}, xs.length = ys.length → (xs.zip ys).map (·.2) = ys
  | [], [], _ => rfl
  | x :: xs, y :: ys, h => by rw [List.zip_cons_cons, List.map_cons, zip_snd (Nat.succ.inj h)]
theorem cr_sortK {X : Cx} {x : Str} {f : Addr} {b : Bool} (hr : Room 0 X.A) (h : ∀ (A : Around) (s : Shared) (t : Addr) (items : Array Value) (y : Value), A.depth < recursionLimit → X.K.In s.heap → s.heap.NoLimit → IsTup s.heap t items → items[1]? = some y →
    wpAny (model X.prog X.w) A (call (.ref f) [.ref t]) (fun v s2 => v = y ∧ ∃ h' tk, s2 = { s with heap := h', toks := tk } ∧ ∀ b o, s.heap.get? b = some o → h'.get? b = some o) (fun _ _ => False) s) (F : V → D → Prop) :
    CallRK X (.builtin "sorted") [Str.ofString "key", Str.ofString "reverse"] (rSortK X.K F (.ref f) b) := by
  intro pins s σ H vs zs us ws Q I r rz hh
  obtain ⟨a, xs, ds, rfl, rfl, hs, hlen, hz, q⟩ := hh
  obtain rfl := Vals.ref1 r
  obtain ⟨w1, w2, rfl, e1, e2⟩ := vals2 rz
  obtain rfl : w1 = Value.ref f := e1
  obtain rfl : w2 = Value.bool b := e2
  obtain ⟨its, rv, pl, hsz⟩ := I.list hs
  have hl2 : its.length = xs.length := rv.length.symm
  refine PySem.W.sorted_key_data (b := b) (R := fun (u : Value) (z : V × D) => RelV z.1 u) (bs := xs.zip ds) (fun z : V × D => PyData.int (it1 z.2)) pl.isList ?_ (PySem.W.AllAlike.of fun _ _ => rfl) (PySem.W.Sortable.others fun _ => ⟨nofun, nofun⟩)
    (by rw [List.length_zip]; omega) (fun _ _ => ?_) (PyProof.Rows.ksk_s2 _ _ _) (fun _ => PyProof.Rows.ksk_l2 _ _ _) (fun _ => PyProof.Rows.ksk_t2 _ _ _) ?_ ?_
  · refine PySem.W.EachIs.of_zip (by rw [List.length_zip]; omega) fun p hp => ?_
    obtain ⟨i, hi⟩ := List.mem_iff_getElem?.mp hp
    obtain ⟨h1, h2⟩ := List.getElem?_zip_eq_some.mp hi
    obtain ⟨h3, h4⟩ := List.getElem?_zip_eq_some.mp h2
    obtain ⟨u, hu, ru⟩ := rv.get h3
    rw [h1] at hu
    cases hu
    exact ru
  · have := hr.un
    show X.A.units + 2 + 0 < cLine
    omega
  · intro v z hR hzm h2 tk kp
    obtain ⟨_, t, ys, i, ht, hq, hy, hi⟩ := hz z hzm
    rw [ht] at hR
    obtain rfl : v = Value.ref t := hR
    obtain ⟨ts, rt, pt, _⟩ := I.tuple hq
    obtain ⟨u, hu, ru⟩ := rt.get hy
    obtain ⟨tk2, rfl⟩ := ru
    have := hr.dp
    refine wpAny_mono (h X.A.in1.in1 { s with heap := h2, toks := tk } t ts.toArray (.int i tk2) (by show X.A.depth < _; omega) (I.kIn.keeps kp) (I.nolimit.keeps kp) (pt.keeps kp) (by simpa using hu)) (fun v s2 ⟨e, h', tk', e2, kp2⟩ => ?_) fun _ _ z => z
    subst e
    rw [hi]
    exact ⟨h', tk', e2, kp2, .int _ _⟩
  · intro out c h' tk kp hn hD hlo eo
    rw [ordB_eq b (fun z : V × D => z.2)] at eo
    have hM : ((xs.zip ds).mergeSort fun x y => ordB b x.2 y.2).map (·.2) = srtK b ds := by
      unfold srtK
      rw [List.map_mergeSort (s := ordB b) (f := fun z : V × D => z.2) fun _ _ _ _ => rfl, zip_snd hlen]
    have hp := List.mergeSort_perm (xs.zip ds) fun x y => ordB b x.2 y.2
    have hlM : ((xs.zip ds).mergeSort fun x y => ordB b x.2 y.2).length = ds.length := by rw [hp.length_eq, List.length_zip]; omega
    have rO : Vals (((xs.zip ds).mergeSort fun x y => ordB b x.2 y.2).map (·.1)) out := by
      have go : ∀ (out : List Value) (M : List (V × D)), PySem.W.EachIs (fun (u : Value) (z : V × D) => RelV z.1 u) out M → Vals (M.map (·.1)) out := fun out M e => by
        induction e with
        | nil => exact .nil
        | cons h _ ih => exact .cons h ih
      exact go _ _ eo
    refine ⟨.ref (s.heap.objs.size + 1), upd H (s.heap.objs.size + 1) (.lst (((xs.zip ds).mergeSort fun x y => ordB b x.2 y.2).map (·.1))), I.laid (t' := tk) kp (Nat.le_succ _) ⟨by rw [List.length_map, hlM]; omega, out, c, rO, hD⟩, rfl,
      q _ _ (by rw [List.length_map, hlM]) (fun z hzz => ?_) (I.hok.fresh (Nat.le_succ _))⟩
    rw [← hM, List.zip_map'] at hzz
    obtain ⟨m, hm, rfl⟩ := List.mem_map.mp hzz
    exact (hz m (hp.mem_iff.mp hm)).1
section
variable {c : Ct} {n n1 n2 : Bool} {a b e : Expr} {es : List Expr} {ga gb : LS → R D} {gs : LS → R (List D)} {pos p p2 : Pos}
theorem je_sortK {x : Str} {k1 k2 : Pos} {bb : Bool} {j : Nat} {p3 : Pos} {jj : Nat} (hr : Room j c.X.A) (hK : KeyAt1 c.X.prog c.X.w c.X.K c.X.mg x) (hgx : Gl c.X x) (hg : Gl c.X "sorted") (hm : c.X.mg "sorted" = none) (ha : JD c n a ga) (hdx : (x == ("__debug__" : Str)) = false := by decide)
    (hs : starEach [a] c.X.env = (false, eval a c.X.env) :: starEach [] c.X.env := by rfl)
    (he : backTo pos (starEach [a] c.X.env) = (false, eval a c.X.env) :: backTo pos (starEach [] c.X.env) := by rfl) (hpl : (backTo pos (starEach [a] c.X.env)).any (·.1) = false := by rfl)
    (hall : (backToKw pos (keywordEach [⟨some "key", .Name x p2, k1⟩, ⟨some "reverse", .Constant (.bool bb) jj p3, k2⟩] c.X.env)).all (·.1.isSome) = true := by rfl) (hnone : (backToKw pos (keywordEach [⟨some "key", .Name x p2, k1⟩, ⟨some "reverse", .Constant (.bool bb) jj p3, k2⟩] c.X.env)).any (·.1.isNone) = false := by rfl)
    (hks : (backToKw pos (keywordEach [⟨some "key", .Name x p2, k1⟩, ⟨some "reverse", .Constant (.bool bb) jj p3, k2⟩] c.X.env)).filterMap (·.1) = [Str.ofString "key", Str.ofString "reverse"] := by rfl) :
    JE c n (.Call (.Name "sorted" p) [a] [⟨some "key", .Name x p2, k1⟩, ⟨some "reverse", .Constant (.bool bb) jj p3, k2⟩] pos) (gUn (dSortK bb) ga) := by
  obtain ⟨f, hf, hrun⟩ := hK.ex
  obtain ⟨ta, pa, qa⟩ := ha
  refine ⟨fun σ H Q => ta σ H fun v H1 => ∃ (F : V → D → Prop), rSortK c.X.K F (.ref f) bb [v] [.ref f, .bl bb] H1 Q, ⟨fun pins s σ H Q I h => ?_⟩, fun G F ow σ H L Rr => (qa G F ow σ H L Rr).bind1 (t2 := fun v H1 Q => ∃ (F : V → D → Prop), rSortK c.X.K F (.ref f) bb [v] [.ref f, .bl bb] H1 Q) fun d L1 v H1 F1 ow1 _ _ _ R1 b1 => ?_⟩
  · refine wpAny_Call_Name_kw (ld_blt I hg hm (show bootBuiltins "sorted" = some (.builtin "sorted") from by decide +kernel) ?_ (by decide) (by decide))
    refine PyProof.Rows.callWith_kw (thn ((pa_cons pa pa_nil hs).run pos pins s σ H (fun vs H1 => ∃ F, rSortK c.X.K F (.ref f) bb vs [.ref f, .bl bb] H1 Q) I ?_) fun us s1 ⟨vs, H1, I1, r1, q1⟩ =>
      thn ((pk_cons (pe_glob (v := V.ref f) hgx hf rfl hdx) (pk_cons pe_bl pk_nil)).run pos pins s1 σ H1 (fun zs H2 => zs = [.ref f, .bl bb] ∧ H2 = H1) I1 ⟨rfl, rfl⟩) fun ws s2 ⟨zs, H2, I2, r2, e1, e2⟩ => ?_) he hpl hall hnone
    · exact h
    · subst e1 e2
      rw [hks]
      obtain ⟨F, q⟩ := q1
      exact cr_sortK (x := x) (b := bb) (hr.mono (Nat.zero_le _)) hrun F pins s2 σ H2 _ _ us ws Q I2 r1 r2 q
  · cases b1 with
    | @lst l vs ds h1 h2 =>
      show Post c G true F1 H1 σ (ofO (if ds.all isIt1 = true ∧ ds.length ≤ sizeLine then some (S.ol (srtK bb ds)) else none) L1) _ _
      by_cases hc : ds.all isIt1 = true ∧ ds.length ≤ sizeLine
      · rw [if_pos hc]
        intro Q q
        refine ⟨Dq c.X.K F1, l, vs, ds, rfl, rfl, .of (R1.exF _ _ h1), h2.len, fun z hz => ⟨dqa_zip h2 z hz, ?_⟩, fun ys p hl hy hp => ?_⟩
        · have hq := dqa_zip h2 z hz
          have hm := List.all_eq_true.mp hc.1 z.2 (List.of_mem_zip hz).2
          obtain ⟨v, d⟩ := z
          dsimp only at hq hm ⊢
          unfold isIt1 at hm
          split at hm
          · rename_i d0 i
            cases hq with
            | tup k1 k2 =>
              cases k2 with
              | cons _ k3 =>
                cases k3 with
                | cons k4 k5 =>
                  cases k4
                  exact ⟨_, _, i, rfl, sqt_same R1.exF k1, rfl, rfl⟩
          · cases hm
        · refine post_new R1 (dqa_of (vs := ys) (ds := srtK bb ds) ?_ hy) Q q p hp
          rw [hl]
          exact (List.mergeSort_perm _ _).length_eq.symm
      · rw [if_neg hc]
        trivial
    | _ => trivial
end
end VS

namespace VS
open PySem PySem.Spec PyProof.Rows L2
/-! ### reckoning, more of it -/
section
variable {b : Bool} {i : Int} {s : Str} {xs : List D}
theorem ty_n_bool : isTy "bool" .none = some (.bool false) := by
  show (kitB "NoneType" "bool").map PyData.bool = _
  rw [show kitB "NoneType" "bool" = some false from by decide +kernel]
  rfl
theorem ty_n_int : isTy "int" .none = some (.bool false) := by
  show (kitB "NoneType" "int").map PyData.bool = _
  rw [show kitB "NoneType" "int" = some false from by decide +kernel]
  rfl
theorem ty_n_str : isTy "str" .none = some (.bool false) := by
  show (kitB "NoneType" "str").map PyData.bool = _
  rw [show kitB "NoneType" "str" = some false from by decide +kernel]
  rfl
theorem ty_n_list : isTy "list" .none = some (.bool false) := by
  show (kitB "NoneType" "list").map PyData.bool = _
  rw [show kitB "NoneType" "list" = some false from by decide +kernel]
  rfl
theorem ty_n_tuple : isTy "tuple" .none = some (.bool false) := by
  show (kitB "NoneType" "tuple").map PyData.bool = _
  rw [show kitB "NoneType" "tuple" = some false from by decide +kernel]
  rfl
theorem ty_b_bool : isTy "bool" (.bool b) = some (.bool true) := by
  show (kitB "bool" "bool").map PyData.bool = _
  rw [show kitB "bool" "bool" = some true from by decide +kernel]
  rfl
theorem ty_b_int : isTy "int" (.bool b) = some (.bool true) := by
  show (kitB "bool" "int").map PyData.bool = _
  rw [show kitB "bool" "int" = some true from by decide +kernel]
  rfl
theorem ty_b_str : isTy "str" (.bool b) = some (.bool false) := by
  show (kitB "bool" "str").map PyData.bool = _
  rw [show kitB "bool" "str" = some false from by decide +kernel]
  rfl
theorem ty_b_list : isTy "list" (.bool b) = some (.bool false) := by
  show (kitB "bool" "list").map PyData.bool = _
  rw [show kitB "bool" "list" = some false from by decide +kernel]
  rfl
theorem ty_b_tuple : isTy "tuple" (.bool b) = some (.bool false) := by
  show (kitB "bool" "tuple").map PyData.bool = _
  rw [show kitB "bool" "tuple" = some false from by decide +kernel]
  rfl
theorem ty_i_bool : isTy "bool" (.int i) = some (.bool false) := by
  show (kitB "int" "bool").map PyData.bool = _
  rw [show kitB "int" "bool" = some false from by decide +kernel]
  rfl
theorem ty_i_int : isTy "int" (.int i) = some (.bool true) := by
  show (kitB "int" "int").map PyData.bool = _
  rw [show kitB "int" "int" = some true from by decide +kernel]
  rfl
theorem ty_i_str : isTy "str" (.int i) = some (.bool false) := by
  show (kitB "int" "str").map PyData.bool = _
  rw [show kitB "int" "str" = some false from by decide +kernel]
  rfl
theorem ty_i_list : isTy "list" (.int i) = some (.bool false) := by
  show (kitB "int" "list").map PyData.bool = _
  rw [show kitB "int" "list" = some false from by decide +kernel]
  rfl
theorem ty_i_tuple : isTy "tuple" (.int i) = some (.bool false) := by
  show (kitB "int" "tuple").map PyData.bool = _
  rw [show kitB "int" "tuple" = some false from by decide +kernel]
  rfl
theorem ty_s_bool : isTy "bool" (.str s) = some (.bool false) := by
  show (kitB "str" "bool").map PyData.bool = _
  rw [show kitB "str" "bool" = some false from by decide +kernel]
  rfl
theorem ty_s_int : isTy "int" (.str s) = some (.bool false) := by
  show (kitB "str" "int").map PyData.bool = _
  rw [show kitB "str" "int" = some false from by decide +kernel]
  rfl
theorem ty_s_str : isTy "str" (.str s) = some (.bool true) := by
  show (kitB "str" "str").map PyData.bool = _
  rw [show kitB "str" "str" = some true from by decide +kernel]
  rfl
theorem ty_s_list : isTy "list" (.str s) = some (.bool false) := by
  show (kitB "str" "list").map PyData.bool = _
  rw [show kitB "str" "list" = some false from by decide +kernel]
  rfl
theorem ty_s_tuple : isTy "tuple" (.str s) = some (.bool false) := by
  show (kitB "str" "tuple").map PyData.bool = _
  rw [show kitB "str" "tuple" = some false from by decide +kernel]
  rfl
theorem ty_l_bool : isTy "bool" (.list xs) = some (.bool false) := by
  show (kitB "list" "bool").map PyData.bool = _
  rw [show kitB "list" "bool" = some false from by decide +kernel]
  rfl
theorem ty_l_int : isTy "int" (.list xs) = some (.bool false) := by
  show (kitB "list" "int").map PyData.bool = _
  rw [show kitB "list" "int" = some false from by decide +kernel]
  rfl
theorem ty_l_str : isTy "str" (.list xs) = some (.bool false) := by
  show (kitB "list" "str").map PyData.bool = _
  rw [show kitB "list" "str" = some false from by decide +kernel]
  rfl
theorem ty_l_list : isTy "list" (.list xs) = some (.bool true) := by
  show (kitB "list" "list").map PyData.bool = _
  rw [show kitB "list" "list" = some true from by decide +kernel]
  rfl
theorem ty_l_tuple : isTy "tuple" (.list xs) = some (.bool false) := by
  show (kitB "list" "tuple").map PyData.bool = _
  rw [show kitB "list" "tuple" = some false from by decide +kernel]
  rfl
theorem ty_t_bool : isTy "bool" (.tuple xs) = some (.bool false) := by
  show (kitB "tuple" "bool").map PyData.bool = _
  rw [show kitB "tuple" "bool" = some false from by decide +kernel]
  rfl
theorem ty_t_int : isTy "int" (.tuple xs) = some (.bool false) := by
  show (kitB "tuple" "int").map PyData.bool = _
  rw [show kitB "tuple" "int" = some false from by decide +kernel]
  rfl
theorem ty_t_str : isTy "str" (.tuple xs) = some (.bool false) := by
  show (kitB "tuple" "str").map PyData.bool = _
  rw [show kitB "tuple" "str" = some false from by decide +kernel]
  rfl
theorem ty_t_list : isTy "list" (.tuple xs) = some (.bool false) := by
  show (kitB "tuple" "list").map PyData.bool = _
  rw [show kitB "tuple" "list" = some false from by decide +kernel]
  rfl
theorem ty_t_tuple : isTy "tuple" (.tuple xs) = some (.bool true) := by
  show (kitB "tuple" "tuple").map PyData.bool = _
  rw [show kitB "tuple" "tuple" = some true from by decide +kernel]
  rfl
end
theorem dIs_nn : dIs .none .none = some (.bool true) := rfl
theorem dIs_in (i : Int) : dIs (.int i) .none = some (.bool false) := rfl
theorem dIs_bn (i : Bool) : dIs (.bool i) .none = some (.bool false) := rfl
theorem dIs_sn (i : Str) : dIs (.str i) .none = some (.bool false) := rfl
theorem dIs_ln (i : List D) : dIs (.list i) .none = some (.bool false) := rfl
theorem dIs_tn (i : List D) : dIs (.tuple i) .none = some (.bool false) := rfl
theorem dNe_b (i j : Bool) : dNe (.bool i) (.bool j) = some (.bool (!decide (i = j))) := by
  unfold dNe
  rw [if_pos (.inl rfl), eqv_bool]
def aK {α : Type} (f : List D → Option α) (r : R (List D)) : R α := r.bind fun ds L1 => ofO (f ds) L1
theorem ev_A {α : Type} (f : List D → Option α) (gs : LS → R (List D)) (L : LS) : gA f gs L = aK f (gs L) := rfl
theorem aK_ok {α : Type} (f : List D → Option α) (ds : List D) (L : LS) : aK f (.ok ds L) = ofO (f ds) L := rfl
theorem aK_err {α : Type} (f : List D → Option α) (e : Nat) (L : LS) : aK f (.err e L) = .err e L := rfl
theorem dMin_ok (i j : Int) : dMin [.int i, .int j] = some (.int (min i j)) := by
  show some (PyData.int (if j < i then j else i)) = _
  congr 2
  by_cases h : j < i
  · rw [if_pos h]; omega
  · rw [if_neg h]; omega
theorem dMax_ok (i j : Int) : dMax [.int i, .int j] = some (.int (max i j)) := by
  show some (PyData.int (if j > i then j else i)) = _
  congr 2
  by_cases h : j > i
  · rw [if_pos h]; omega
  · rw [if_neg h]; omega
theorem asZip_l (xs ys : List D) (L : LS) : asZip [.list xs, .list ys] L = .ok (zipD xs ys) L := rfl
theorem asZip_t (xs ys : List D) (L : LS) : asZip [.tuple xs, .tuple ys] L = .ok (zipD xs ys) L := rfl
def popK1 (i : Nat) (o : Option (Option S)) (g : LS → R D) (L : LS) : R D := match o with
  | some (some (.ol _)) => (g L).bind (popAt i)
  | _ => .stuck
theorem ev_pop (i : Nat) (g : LS → R D) (L : LS) : gPopAt i g L = popK1 i L[i]? g L := by
  unfold gPopAt gOwnD popK1
  cases L[i]? with
  | none => rfl
  | some o => cases o with
    | none => rfl
    | some s => cases s <;> rfl
def popK2 (i : Nat) (r : R D) : R D := r.bind (popAt i)
theorem popK1_ok (i : Nat) (ds : List D) (g : LS → R D) (L : LS) : popK1 i (some (some (.ol ds))) g L = popK2 i (g L) := rfl
theorem popAt_ok {i : Nat} {k : Nat} {ds : List D} {d : D} {L : LS} (h : L[i]? = some (some (.ol ds))) (hd : ds[k]? = some d) (hk : k < 2 ^ 62) : popK2 i (.ok (.int (k : Int)) L) = .ok d (L.set i (some (.ol (ds.eraseIdx k)))) := by
  show popK i (k : Int) L = _
  unfold popK
  have hlt : k < ds.length := (List.getElem?_eq_some_iff.mp hd).1
  have hs : seqIndex? (k : Int) ds.length = some k := by
    unfold seqIndex?
    simp
    omega
  rw [h]
  simp only [hs, hd]
  rw [if_pos ⟨by omega, by omega⟩]
theorem dSum_ok (ns : List Int) : dSum (.list (ns.map PyData.int)) = some (.int ns.sum) := by
  show (intsOf (ns.map PyData.int)).map _ = _
  rw [intsOf_map]
  rfl
theorem dSorted_ok {ns : List Int} (h : ns.length < 64) : dSorted (.list (ns.map PyData.int)) = some (.ol ((srt ns).map PyData.int)) := by
  show (intsOf (ns.map PyData.int)).bind _ = _
  rw [intsOf_map]
  exact if_pos h
end VS

namespace VS
open PySem PySem.Spec PyProof.Rows L2
/-! ### xs.count(text) -/
def eqs (k : Str) (v : Value) : Bool := match v with
  | .str n _ => n.cps.toList == k.cps.toList
  | _ => false
theorem eqs_gives {k : Str} {t : Tok} : ∀ {us : List Value} {ys : List Str}, Vals (ys.map V.str) us → ∀ y ∈ us, MeetsSeq.EqGives y (.str k t) (eqs k y)
  | _, [], .nil => fun y hy => by cases hy
  | _, x :: ys, .cons ⟨t', e⟩ h => fun y hy => by
    rcases List.mem_cons.mp hy with e2 | e2
    · rw [e2, e]
      exact SeqRoads2.EqGives.str x k t' t
    · exact eqs_gives h y e2
def dCountS (k : Str) (ys : List Str) : Nat := ys.countP fun y => y.cps.toList == k.cps.toList
theorem eqs_count {k : Str} : ∀ {us : List Value} {ys : List Str}, Vals (ys.map V.str) us → us.countP (eqs k) = dCountS k ys
  | _, [], .nil => rfl
  | _, x :: ys, .cons ⟨t', e⟩ h => by
    have ih := eqs_count (k := k) h
    unfold dCountS at *
    rw [List.countP_cons, List.countP_cons, ih, e]
    rfl
def rCntS (K : PySem.W.Frag) : V → List V → Hp → VK → Prop := fun x xs H Q => ∃ (p : Addr) (ys : List Str) (k : Str), x = .ref p ∧ xs = [.str k] ∧ SqL K H p (ys.map V.str) ∧ Q (.int (dCountS k ys : Nat)) H
theorem mt_countS {X : Cx} : MtR X "list.count" (rCntS X.K) := by
  intro pins s σ H x xs v us Q I rx rxs h
  obtain ⟨p, ys, k, rfl, rfl, hs, q⟩ := h
  cases rx
  obtain ⟨u, rfl, ru⟩ := rxs.one
  obtain ⟨t, rfl⟩ := ru
  obtain ⟨its, rv, ⟨⟨cls, dd, data, sl⟩, n, ho, hc, hdn, hd⟩, hlen⟩ := I.list hs
  simp only at hc hd
  subst hc hd
  refine call_meets PySem.F.slot_list_count ⟨_, ho, rfl⟩ PySem.F.entry_list_count (PySem.F.args_list_count_2 _ _)
    (SeqAt.list_countAt p its.toArray n dd sl (.str k t) (eqs k)) ⟨ho, fun y hy => (eqs_gives rv y (by simpa using hy)).at _ _, ?_⟩
  have ec : its.toArray.toList.countP (eqs k) = dCountS k ys := eqs_count rv
  refine ⟨.int (dCountS k ys : Nat), H, I.tok _, ⟨s.toks, ?_⟩, q⟩
  show Value.int ((its.toArray.toList.countP (eqs k) : Nat) : Int) s.toks = Value.int ((dCountS k ys : Nat) : Int) s.toks
  rw [ec]
def dCount : D → D → Option D
  | .list ds, .str k => (strsOf ds).map fun ys => .int (dCountS k ys : Nat)
  | _, _ => none
def cntL (gb : LS → R D) : D → LS → R D
  | .list ds, L1 => (gb L1).bind fun e L2 => ofO (dCount (.list ds) e) L2
  | _, _ => .stuck
def gCount (ga gb : LS → R D) : LS → R D := fun L => (ga L).bind (cntL gb)
def cntK1 (gb : LS → R D) (r : R D) : R D := r.bind (cntL gb)
def cntK2 (ds : List D) (r : R D) : R D := r.bind fun e L2 => ofO (dCount (.list ds) e) L2
theorem ev_cnt (ga gb : LS → R D) (L : LS) : gCount ga gb L = cntK1 gb (ga L) := rfl
theorem cntK1_ok (gb : LS → R D) (ds : List D) (L : LS) : cntK1 gb (.ok (.list ds) L) = cntK2 ds (gb L) := rfl
theorem cntK2_ok (ds : List D) (e : D) (L : LS) : cntK2 ds (.ok e L) = ofO (dCount (.list ds) e) L := rfl
section
variable {c : Ct} {n n1 n2 : Bool} {a b e : Expr} {es : List Expr} {ga gb : LS → R D} {gs : LS → R (List D)} {pos p p2 apos : Pos}
theorem jd_countS (ha : JV c n1 a ga) (hb : JD c true b gb)
    (hbase : attributeBase a "count" c.X.env (eval a c.X.env) = eval a c.X.env := by rfl)
    (hfew : ((backTo pos (starEach [b] c.X.env)).all (fun x => !x.1) && (backToKw pos (keywordEach [] c.X.env)).all (fun x => x.1.isSome) && decide ([b].length + ([] : List Keyword).length + (if ([] : List Keyword).isEmpty then 0 else 1) < 30)) = true := by rfl)
    (hline : (apos.endLine == pos.line) = true := by rfl) (hs : starEach [b] c.X.env = (false, eval b c.X.env) :: starEach [] c.X.env := by rfl) (hplain : (backTo pos (starEach [] c.X.env)).any (·.1) = false := by rfl) :
    JD c n1 (.Call (.Attribute a "count" apos) [b] [] pos) (gCount ga gb) := by
  obtain ⟨ta, p1, q1⟩ := ha
  obtain ⟨tb, p2, q2⟩ := hb
  refine ⟨_, pe_bm PySem.F.plainAttrs_list PySem.F.slot_list_count PySem.F.type_list_count mt_countS p1 (pa_cons p2 pa_nil hs) hbase hfew hline hs hplain, fun G F ow σ H L Rr => ?_⟩
  refine (q1 G F ow σ H L Rr).bind1 (t2 := fun v H1 Q => tyV c.X.K "list" v H1 ∧ tb σ H1 fun y H2 => rCntS c.X.K v [y] H2 Q) fun d L1 v H1 F1 ow1 _ _ _ R1 b1 => ?_
  cases d with
  | list ds =>
    obtain ⟨l, vs, rfl, h1, h2⟩ := bv_list R1 b1
    have key := (q2 G F1 ow1 σ H1 L1 R1).bind1 (k := fun e L2 => ofO (dCount (.list ds) e) L2) (B2 := BD c.X.K) (t2 := fun y H2 Q => rCntS c.X.K (.ref l) [y] H2 Q) fun e L2 u H2 F2 ow2 _ e2 s2 R2 b2 => by
      cases b2 with
      | str k =>
        show Post c G true F2 H2 σ (ofO ((strsOf ds).map fun ys => PyData.int (dCountS k ys : Nat)) L2) _ _
        cases hk : strsOf ds with
        | none => trivial
        | some ys =>
          have e3 := strs_of h2 hk
          exact (Post.val (a := PyData.int (dCountS k ys : Nat)) (b := V.int (dCountS k ys : Nat)) (B := BD c.X.K) R2 (.int _)).imp fun Q q => ⟨l, ys, k, rfl, rfl, by rw [← e3]; exact sql_same (s2 rfl) h1, q⟩
      | _ => trivial
    exact key.imp fun Q q => ⟨.inl ⟨rfl, _, h1⟩, q⟩
  | _ => trivial
end
end VS

namespace Lw
open PySem PySem.Spec PyProof.Rows L2 VS
def g_is_name : LS → R O := (gSeq (gIf (gOr (gB (gOp dLt (gUn dLen (gPeek 0)) (gC (.int 1)))) (gB (gOp dGt (gUn dLen (gPeek 0)) (gC (.int 12))))) (gRet (gD (gC (.bool false)))) gNext)
    (gSeq (gFor (fun L => ((gVar 0) L).bind asItems) (fName 1) (gIf (gB (gOp dNotIn (gPeek 1) (gC (.str "abcdefghijklmnopqrstuvwxyz")))) (gRet (gD (gC (.bool false)))) gNext))
    (gRet (gD (gC (.bool true))))))
def m_is_name : LS → R S := runDef [false] 2 g_is_name
def g_law_src : LS → R O := (gRet (gLst (gCons (gFz (gUn dList (gFz (gSl (gPeek 0) gNo (gSo (gC (.int 63))))))) (gCons (gC (.int 0)) (gCons (gC (.int 0)) (gCons (gC (.int 1)) (gCons (gC (.int 0)) gNil)))))))
def m_law_src : LS → R S := runDef [true] 1 g_law_src
def g_law_next : LS → R O := (gSeq (gSetIx 0 (gC (.int 4)) (gFz (gOp dAdd (gIxP 0 (gC (.int 4))) (gC (.int 1)))))
    (gSeq (gIf (gB (gOp dLe (gIxP 0 (gC (.int 2))) (gC (.int 1)))) (gSeq (gAsg 2 (gD (gC (.int 7))))
    (gSeq (gIf (gB (gOp dLt (gIxP 0 (gC (.int 1))) (gUn dLen (gIxP 0 (gC (.int 0)))))) (gSeq (gAsg 2 (gD (gOp dIx (gIxP 0 (gC (.int 0))) (gIxP 0 (gC (.int 1))))))
    (gSetIx 0 (gC (.int 1)) (gFz (gOp dAdd (gIxP 0 (gC (.int 1))) (gC (.int 1)))))) gNext)
    (gSeq (gSetIx 0 (gC (.int 3)) (gOp dMod (gFz (gOp dAdd (gFz (gOp dAdd (gFz (gOp dMul (gIxP 0 (gC (.int 3))) (gC (.int 48271)))) (gOp dMod (gVar 2) (gC (.int 998244353))))) (gIxP 0 (gC (.int 4))))) (gC (.int 2147483647))))
    (gIf (gB (gOp dGe (gPeek 2) (gOp dPow (gC (.int 10)) (gC (.int 18))))) (gSetIx 0 (gC (.int 2)) (gVar 2)) gNext)))) gNext)
    (gSeq (gIf (gB (gOp dGt (gIxP 0 (gC (.int 2))) (gC (.int 1)))) (gSeq (gAsg 3 (gD (gOp dMod (gIxP 0 (gC (.int 2))) (gVar 1))))
    (gSeq (gSetIx 0 (gC (.int 2)) (gOp dDiv (gIxP 0 (gC (.int 2))) (gVar 1)))
    (gRet (gMove 3)))) gNext)
    (gRet (gD (gOp dMod (gOp dDiv (gOp dMod (gFz (gOp dMul (gIxP 0 (gC (.int 3))) (gC (.int 40692)))) (gC (.int 2147483399))) (gC (.int 3))) (gVar 1)))))))
def m_law_next : LS → R S := runDef [true, false] 4 g_law_next
def g_law_unlike : LS → R O := (gSeq (gAsg 2 (gD (gC (.str "abcdefghijklmnopqrstuvwxyz"))))
    (gSeq (gAsg 3 (gSl (gPeek 1) gNo (gSo (gC (.int 10)))))
    (gSeq (gFor (fun L => ((gCons (gFz (gOp dAdd (gUn dLen (gPeek 0)) (gC (.int 1)))) gNil) L).bind rng1) (fName 4) (gSeq (gIf (gB (gOp dNotIn (gPeek 1) (gPeek 0))) (gRet (gMove 1)) gNext)
    (gAsg 1 (gOp dAdd (gFz (gOp dAdd (gVar 3) (gIxP 2 (gOp dMod (gVar 4) (gC (.int 26)))))) (gIxP 2 (gOp dDiv (gVar 4) (gC (.int 26))))))))
    (gRet (gMove 1)))))
def m_law_unlike : LS → R S := runDef [true, false] 5 g_law_unlike
def g_law_word : LS → R O := (gSeq (gAsg 2 (gD (gC (.str "abcdefghijklmnopqrstuvwxyz"))))
    (gRet (gD (gJoin (gC (.str "")) (gFz (gLc [3] (fun L => ((gCons (gVar 1) gNil) L).bind rng1) (fName 3) gYes (gIxP 2 (gFz (gCall Lw.m_law_next [.r 0, .d (gC (.int 26))])))))))))
def m_law_word : LS → R S := runDef [true, false] 4 g_law_word
def g_law_names : LS → R O := (gSeq (gAsg 2 (gCall Lw.m_law_next [.r 0, .d (gC (.int 3))]))
    (gSeq (gAsg 3 (gCall Lw.m_law_word [.r 0, .d (gFz (gOp dAdd (gC (.int 1)) (gFz (gCall Lw.m_law_next [.r 0, .d (gC (.int 11))]))))]))
    (gSeq (gAsg 4 (gCall Lw.m_law_next [.r 0, .d (gUn dLen (gPeek 3))]))
    (gSeq (gAsg 5 (gLst gNil))
    (gSeq (gFor (fun L => ((gCons (gVar 1) gNil) L).bind rng1) (fName 6) (gSeq (gAsg 7 (gOp dAdd (gFz (gOp dAdd (gFz (gSl (gPeek 3) gNo (gSo (gVar 4)))) (gFz (gCall Lw.m_law_word [.r 0, .d (gC (.int 1))])))) (gFz (gSl (gPeek 3) (gSo (gFz (gOp dAdd (gVar 4) (gC (.int 1))))) gNo))))
    (gSeq (gIf (gB (gOp dEq (gPeek 2) (gC (.int 1)))) (gAsg 7 (gSl (gVar 3) gNo (gSo (gFz (gOp dAdd (gC (.int 1)) (gFz (gCall Lw.m_law_next [.r 0, .d (gUn dLen (gPeek 3))]))))))) gNext)
    (gSeq (gIf (gB (gOp dEq (gPeek 2) (gC (.int 2)))) (gAsg 7 (gCall Lw.m_law_word [.r 0, .d (gFz (gOp dAdd (gC (.int 1)) (gFz (gCall Lw.m_law_next [.r 0, .d (gC (.int 12))]))))])) gNext)
    (gDrop (gApp 5 (gFz (gCall Lw.m_law_unlike [.r 5, .d (gVar 7)]))))))))
    (gRet (gMove 5)))))))
def m_law_names : LS → R S := runDef [true, false] 8 g_law_names
def g_main_k01 : LS → R O := (gSeq (gAsg 1 (gCall Lw.m_law_src [.r 0]))
    (gSeq (gAsg 2 (gD (gC (.str " !\"#$&'()*+,-./0123456789:;<=>?@ABCDEFGHIJKLMNOPQRSTUVWXYZ[\\]^_`abcdefghijklmnopqrstuvwxyz{|}~"))))
    (gSeq (gAsg 3 (gCall Lw.m_law_next [.r 1, .d (gC (.int 15))]))
    (gSeq (gIf (gB (gOp dEq (gFz (gCall Lw.m_law_next [.r 1, .d (gC (.int 4))])) (gC (.int 0)))) (gAsg 3 (gD (gOp dIx (gFz (gLst (gCons (gC (.int 0)) (gCons (gC (.int 1)) (gCons (gC (.int 12)) (gCons (gC (.int 13)) gNil)))))) (gFz (gCall Lw.m_law_next [.r 1, .d (gC (.int 4))]))))) gNext)
    (gSeq (gAsg 4 (gCall Lw.m_law_word [.r 1, .d (gVar 3)]))
    (gSeq (gIf (gAnd (gB (gOp dGt (gPeek 3) (gC (.int 0)))) (gB (gOp dGt (gFz (gCall Lw.m_law_next [.r 1, .d (gC (.int 4))])) (gC (.int 0))))) (gSeq (gAsg 5 (gCall Lw.m_law_next [.r 1, .d (gVar 3)]))
    (gAsg 4 (gOp dAdd (gFz (gOp dAdd (gFz (gSl (gPeek 4) gNo (gSo (gVar 5)))) (gIxP 2 (gFz (gCall Lw.m_law_next [.r 1, .d (gUn dLen (gPeek 2))]))))) (gFz (gSl (gPeek 4) (gSo (gFz (gOp dAdd (gVar 5) (gC (.int 1))))) gNo))))) gNext)
    (gSeq (gAsg 6 (gD (gAndV (gOp dLe (gC (.int 1)) (gUn dLen (gPeek 4))) (gOp dLe (gUn dLen (gPeek 4)) (gC (.int 12))))))
    (gSeq (gFor (fun L => ((gVar 4) L).bind asItems) (fName 7) (gIf (gNot (gAnd (gB (gOp dLe (gC (.str "a")) (gPeek 7))) (gB (gOp dLe (gPeek 7) (gC (.str "z")))))) (gAsg 6 (gD (gC (.bool false)))) gNext))
    (gSeq (gAsg 8 (gCall Lw.m_is_name [.d (gVar 4)]))
    (gSeq (gAsg 9 (gCall Lw.m_is_name [.d (gJoin (gC (.str "")) (gFz (gCall Lw.m_law_names [.r 1, .d (gC (.int 1))])))]))
    (gRet (gD (gAndV (gIsi "bool" (gPeek 8)) (gAndV (gOp dEq (gPeek 8) (gPeek 6)) (gOp dIs (gPeek 9) (gC (.bool true)))))))))))))))))
def m_main_k01 : LS → R S := runDef [true] 10 g_main_k01
end Lw

namespace Lw
open PySem VS
/-- the drawer of numbers -/
def srcS (cells : List Int) (p b st k : Int) : S := .ol [.list (cells.map PyData.int), .int p, .int b, .int st, .int k]
def Src (s : S) : Prop := ∃ (cells : List Int) (p b st k : Int), s = srcS cells p b st k ∧ cells.length ≤ 63 ∧ 0 ≤ p ∧ p ≤ cells.length ∧ 0 ≤ b ∧ 0 ≤ st ∧ st < 2147483647
theorem dIx_cells (cells : List Int) (j : Nat) (h : j < cells.length) : dIx (.list (cells.map PyData.int)) (.int (j : Int)) = some (.int cells[j]) := by
  rw [dIx_nat, List.getElem?_map, List.getElem?_eq_getElem h]
  rfl
theorem pow18 : dPow (.int 10) (.int 18) = some (.int 1000000000000000000) := by
  rw [dPow_ok ⟨by decide, by decide, by decide⟩]
  rfl
theorem next_tail (cells : List Int) (p b st k n : Int) (o : Option S) (h0 : 0 < n) (h1 : n < 1073741824) (hl : cells.length ≤ 63) (hp0 : 0 ≤ p) (hp1 : p ≤ cells.length) (hb : 0 ≤ b) (hs0 : 0 ≤ st) (hs1 : st < 2147483647) :
    ∃ r s' o2 L, gSeq (gIf (gB (gOp dGt (gIxP 0 (gC (.int 2))) (gC (.int 1)))) (gSeq (gAsg 3 (gD (gOp dMod (gIxP 0 (gC (.int 2))) (gVar 1))))
    (gSeq (gSetIx 0 (gC (.int 2)) (gOp dDiv (gIxP 0 (gC (.int 2))) (gVar 1))) (gRet (gMove 3)))) gNext)
    (gRet (gD (gOp dMod (gOp dDiv (gOp dMod (gFz (gOp dMul (gIxP 0 (gC (.int 3))) (gC (.int 40692)))) (gC (.int 2147483399))) (gC (.int 3))) (gVar 1)))) [some (srcS cells p b st k), some (.d (.int n)), o, none] = .ok (.rt (.d (.int r))) (some s' :: o2 :: L) ∧ 0 ≤ r ∧ r < n ∧ Src s' := by
  by_cases c : 1 < b
  · refine ⟨b % n, srcS cells p (b / n) st k, some (.d (.int n)), [o, some (.d (.int (b % n)))], ?_, Int.emod_nonneg _ (by omega), Int.emod_lt_of_pos _ h0, cells, p, b / n, st, k, rfl, hl, hp0, hp1, Int.ediv_nonneg hb (by omega), hs0, hs1⟩
    simp only [ev_seq, seqK_nx, seqK_rt, seqK_bk, seqK_ct, seqK_err, ev_next, ev_if, ifK_ok, ifK_err, ev_asg, asgK_ok, asgK_err, ev_ret, retK_ok, retK_err, ev_retN, ev_drop, dropK_ok, dropK_err, ev_c, ev_d, dK_ok, dK_err, ev_fz, fzK_d, fzK_l, fzK_err, ev_op, opK1_ok, opK1_err, opK2_ok, opK2_err, ev_un, unK_ok, unK_err, ev_isi, ev_b, bK_ok, bK_err, ev_and, andK_ok, andK_err, ev_or, orK_ok, orK_err, ev_not, notK_ok, ev_andV, andVK_ok, ev_orV, orVK_ok, ev_ifE, ifEK_ok, ev_nil, ev_cons, consK1_ok, consK1_err, consK2_ok, consK2_err, ev_lst, lstK_ok, ev_tup, tupK_ok, ev_var, varK_d, varK_l, ev_peek, peekK_d, peekK_l, peekK_s, ev_move, moveK_d, moveK_l, ev_ixP, ixK_ok, ixK1_ok, ixK1_err, ixK2_ok, dIx_nat, dIx_natT, dIx_l0, dIx_l1, dIx_l2, dIx_l3, dIx_l4, dIx_t0, dIx_t1, dIx_t2, dIx_t3, ev_setIx, setK0_ok, setK0_err, setK1_ok, setK2_ok, setK3_0, setK3_1, setK3_2, setK3_3, setK3_4, ev_sl, slK1_ok, slK2_ok, slK3_ok, ev_no, ev_so, soK_ok, soK_err, ev_join, joinK1_ok, joinK2_ok, ev_app, appK1_ok, appK2_ok, appK2_err, appK3_ok, ev_a0, ev_aD, ev_aR, eaK1_ok, eaK1_err, eaK3_ok, eaK2_ok, eaK2_err, ev_call, callK_d1, callK_d2, callK_d3, callK_d4, callK_d5, callK_d6, callK_d7, callK_d8, callK_r0, callK_r1, callK_r2, callK_r3, callK_r4, callK_r5, callK_r6, callK_r7, callK_err, backK_ok, backK_err, slotOf_d, slotOf_r, putBack_d, putBack_r, putBack_nil, refs_nil, refs_d, refs_r, ev_run, endOf_nx, endOf_rt, endOf_err, maskL_t, maskL_f, maskL_nil, ev_for, forK_ok, forGo_nil, turnK_nx, turnK_ct, turnK_bk, turnK_rt, turnK_err, bind_ok, asItems_l, asItems_t, asItems_s, ev_name, ev_fnil, ev_fcons, ev_ftup, some_bind, ev_asgT, asgTK_ok, asgTK2_ok, ev_lc, lcK_ok, wipeL_nil, wipeL_cons, ev_yes, lcGo_nil, dLt_i, dLe_i, dGt_i, dGe_i, dEq_i, dEq_s, dEq_b, dNe_i, dNe_s, dIs_b, dSub_i, dLen_l, dLen_t, dList_l, dList_t, dSl_l, dNot_b, ty_n_bool, ty_n_int, ty_n_str, ty_n_list, ty_n_tuple, ty_b_bool, ty_b_int, ty_b_str, ty_b_list, ty_b_tuple, ty_i_bool, ty_i_int, ty_i_str, ty_i_list, ty_i_tuple, ty_s_bool, ty_s_int, ty_s_str, ty_s_list, ty_s_tuple, ty_l_bool, ty_l_int, ty_l_str, ty_l_list, ty_l_tuple, ty_t_bool, ty_t_int, ty_t_str, ty_t_list, ty_t_tuple, dIs_nn, dIs_in, dIs_bn, dIs_sn, dIs_ln, dIs_tn, dNe_b, ev_A, aK_ok, aK_err, dMin_ok, dMax_ok, asZip_l, asZip_t, ev_pop, popK1_ok, dAdd_int, ofO_some, ofO_none, List.getElem?_cons_zero, List.getElem?_cons_succ, List.set_cons_zero, List.set_cons_succ, List.length_cons, List.length_nil, List.cons_append, List.nil_append, List.replicate_succ, List.replicate_zero, List.map_cons, List.map_nil, Option.join_some, List.append_nil, Nat.reduceAdd, Nat.reduceLT, Nat.reduceLeDiff, Nat.reduceSub, Nat.reduceEqDiff, if_true, if_false, decide_true, decide_false, Bool.false_eq_true, Bool.not_true, Bool.not_false, srcS, c, dMod_ok h0, dDiv_ok h0 h1, decide_true, if_true]
  · refine ⟨st * 40692 % 2147483399 / 3 % n, srcS cells p b st k, some (.d (.int n)), [o, none], ?_, Int.emod_nonneg _ (by omega), Int.emod_lt_of_pos _ h0, cells, p, b, st, k, rfl, hl, hp0, hp1, hb, hs0, hs1⟩
    simp only [ev_seq, seqK_nx, seqK_rt, seqK_bk, seqK_ct, seqK_err, ev_next, ev_if, ifK_ok, ifK_err, ev_asg, asgK_ok, asgK_err, ev_ret, retK_ok, retK_err, ev_retN, ev_drop, dropK_ok, dropK_err, ev_c, ev_d, dK_ok, dK_err, ev_fz, fzK_d, fzK_l, fzK_err, ev_op, opK1_ok, opK1_err, opK2_ok, opK2_err, ev_un, unK_ok, unK_err, ev_isi, ev_b, bK_ok, bK_err, ev_and, andK_ok, andK_err, ev_or, orK_ok, orK_err, ev_not, notK_ok, ev_andV, andVK_ok, ev_orV, orVK_ok, ev_ifE, ifEK_ok, ev_nil, ev_cons, consK1_ok, consK1_err, consK2_ok, consK2_err, ev_lst, lstK_ok, ev_tup, tupK_ok, ev_var, varK_d, varK_l, ev_peek, peekK_d, peekK_l, peekK_s, ev_move, moveK_d, moveK_l, ev_ixP, ixK_ok, ixK1_ok, ixK1_err, ixK2_ok, dIx_nat, dIx_natT, dIx_l0, dIx_l1, dIx_l2, dIx_l3, dIx_l4, dIx_t0, dIx_t1, dIx_t2, dIx_t3, ev_setIx, setK0_ok, setK0_err, setK1_ok, setK2_ok, setK3_0, setK3_1, setK3_2, setK3_3, setK3_4, ev_sl, slK1_ok, slK2_ok, slK3_ok, ev_no, ev_so, soK_ok, soK_err, ev_join, joinK1_ok, joinK2_ok, ev_app, appK1_ok, appK2_ok, appK2_err, appK3_ok, ev_a0, ev_aD, ev_aR, eaK1_ok, eaK1_err, eaK3_ok, eaK2_ok, eaK2_err, ev_call, callK_d1, callK_d2, callK_d3, callK_d4, callK_d5, callK_d6, callK_d7, callK_d8, callK_r0, callK_r1, callK_r2, callK_r3, callK_r4, callK_r5, callK_r6, callK_r7, callK_err, backK_ok, backK_err, slotOf_d, slotOf_r, putBack_d, putBack_r, putBack_nil, refs_nil, refs_d, refs_r, ev_run, endOf_nx, endOf_rt, endOf_err, maskL_t, maskL_f, maskL_nil, ev_for, forK_ok, forGo_nil, turnK_nx, turnK_ct, turnK_bk, turnK_rt, turnK_err, bind_ok, asItems_l, asItems_t, asItems_s, ev_name, ev_fnil, ev_fcons, ev_ftup, some_bind, ev_asgT, asgTK_ok, asgTK2_ok, ev_lc, lcK_ok, wipeL_nil, wipeL_cons, ev_yes, lcGo_nil, dLt_i, dLe_i, dGt_i, dGe_i, dEq_i, dEq_s, dEq_b, dNe_i, dNe_s, dIs_b, dSub_i, dLen_l, dLen_t, dList_l, dList_t, dSl_l, dNot_b, ty_n_bool, ty_n_int, ty_n_str, ty_n_list, ty_n_tuple, ty_b_bool, ty_b_int, ty_b_str, ty_b_list, ty_b_tuple, ty_i_bool, ty_i_int, ty_i_str, ty_i_list, ty_i_tuple, ty_s_bool, ty_s_int, ty_s_str, ty_s_list, ty_s_tuple, ty_l_bool, ty_l_int, ty_l_str, ty_l_list, ty_l_tuple, ty_t_bool, ty_t_int, ty_t_str, ty_t_list, ty_t_tuple, dIs_nn, dIs_in, dIs_bn, dIs_sn, dIs_ln, dIs_tn, dNe_b, ev_A, aK_ok, aK_err, dMin_ok, dMax_ok, asZip_l, asZip_t, ev_pop, popK1_ok, dAdd_int, ofO_some, ofO_none, List.getElem?_cons_zero, List.getElem?_cons_succ, List.set_cons_zero, List.set_cons_succ, List.length_cons, List.length_nil, List.cons_append, List.nil_append, List.replicate_succ, List.replicate_zero, List.map_cons, List.map_nil, Option.join_some, List.append_nil, Nat.reduceAdd, Nat.reduceLT, Nat.reduceLeDiff, Nat.reduceSub, Nat.reduceEqDiff, if_true, if_false, decide_true, decide_false, Bool.false_eq_true, Bool.not_true, Bool.not_false, srcS, c, decide_false, if_false, Bool.false_eq_true, dMul_ok (show -(2 ^ 64) < st by omega) (show st < 2 ^ 64 by omega), dMod_ok (show (0 : Int) < 2147483399 by decide), dMod_ok h0, dDiv_ok (show (0 : Int) < 3 by decide) (show (3 : Int) < 1073741824 by decide)]
theorem next_mid (cells : List Int) (p b st k n : Int) (cell : Int) (hb : 0 ≤ b) (hs0 : 0 ≤ st) (hs1 : st < 2147483647) : ∃ b' st', gSeq (gSetIx 0 (gC (.int 3)) (gOp dMod (gFz (gOp dAdd (gFz (gOp dAdd (gFz (gOp dMul (gIxP 0 (gC (.int 3))) (gC (.int 48271)))) (gOp dMod (gVar 2) (gC (.int 998244353))))) (gIxP 0 (gC (.int 4))))) (gC (.int 2147483647))))
    (gIf (gB (gOp dGe (gPeek 2) (gOp dPow (gC (.int 10)) (gC (.int 18))))) (gSetIx 0 (gC (.int 2)) (gVar 2)) gNext) [some (srcS cells p b st k), some (.d (.int n)), some (.d (.int cell)), none] = .ok .nx [some (srcS cells p b' st' k), some (.d (.int n)), some (.d (.int cell)), none] ∧ 0 ≤ b' ∧ 0 ≤ st' ∧ st' < 2147483647 := by
  have st0 : 0 ≤ (st * 48271 + cell % 998244353 + k) % 2147483647 := Int.emod_nonneg _ (by omega)
  have st1 : (st * 48271 + cell % 998244353 + k) % 2147483647 < 2147483647 := Int.emod_lt_of_pos _ (by omega)
  by_cases c : 1000000000000000000 ≤ cell
  · refine ⟨cell, (st * 48271 + cell % 998244353 + k) % 2147483647, ?_, by omega, st0, st1⟩
    simp only [ev_seq, seqK_nx, seqK_rt, seqK_bk, seqK_ct, seqK_err, ev_next, ev_if, ifK_ok, ifK_err, ev_asg, asgK_ok, asgK_err, ev_ret, retK_ok, retK_err, ev_retN, ev_drop, dropK_ok, dropK_err, ev_c, ev_d, dK_ok, dK_err, ev_fz, fzK_d, fzK_l, fzK_err, ev_op, opK1_ok, opK1_err, opK2_ok, opK2_err, ev_un, unK_ok, unK_err, ev_isi, ev_b, bK_ok, bK_err, ev_and, andK_ok, andK_err, ev_or, orK_ok, orK_err, ev_not, notK_ok, ev_andV, andVK_ok, ev_orV, orVK_ok, ev_ifE, ifEK_ok, ev_nil, ev_cons, consK1_ok, consK1_err, consK2_ok, consK2_err, ev_lst, lstK_ok, ev_tup, tupK_ok, ev_var, varK_d, varK_l, ev_peek, peekK_d, peekK_l, peekK_s, ev_move, moveK_d, moveK_l, ev_ixP, ixK_ok, ixK1_ok, ixK1_err, ixK2_ok, dIx_nat, dIx_natT, dIx_l0, dIx_l1, dIx_l2, dIx_l3, dIx_l4, dIx_t0, dIx_t1, dIx_t2, dIx_t3, ev_setIx, setK0_ok, setK0_err, setK1_ok, setK2_ok, setK3_0, setK3_1, setK3_2, setK3_3, setK3_4, ev_sl, slK1_ok, slK2_ok, slK3_ok, ev_no, ev_so, soK_ok, soK_err, ev_join, joinK1_ok, joinK2_ok, ev_app, appK1_ok, appK2_ok, appK2_err, appK3_ok, ev_a0, ev_aD, ev_aR, eaK1_ok, eaK1_err, eaK3_ok, eaK2_ok, eaK2_err, ev_call, callK_d1, callK_d2, callK_d3, callK_d4, callK_d5, callK_d6, callK_d7, callK_d8, callK_r0, callK_r1, callK_r2, callK_r3, callK_r4, callK_r5, callK_r6, callK_r7, callK_err, backK_ok, backK_err, slotOf_d, slotOf_r, putBack_d, putBack_r, putBack_nil, refs_nil, refs_d, refs_r, ev_run, endOf_nx, endOf_rt, endOf_err, maskL_t, maskL_f, maskL_nil, ev_for, forK_ok, forGo_nil, turnK_nx, turnK_ct, turnK_bk, turnK_rt, turnK_err, bind_ok, asItems_l, asItems_t, asItems_s, ev_name, ev_fnil, ev_fcons, ev_ftup, some_bind, ev_asgT, asgTK_ok, asgTK2_ok, ev_lc, lcK_ok, wipeL_nil, wipeL_cons, ev_yes, lcGo_nil, dLt_i, dLe_i, dGt_i, dGe_i, dEq_i, dEq_s, dEq_b, dNe_i, dNe_s, dIs_b, dSub_i, dLen_l, dLen_t, dList_l, dList_t, dSl_l, dNot_b, ty_n_bool, ty_n_int, ty_n_str, ty_n_list, ty_n_tuple, ty_b_bool, ty_b_int, ty_b_str, ty_b_list, ty_b_tuple, ty_i_bool, ty_i_int, ty_i_str, ty_i_list, ty_i_tuple, ty_s_bool, ty_s_int, ty_s_str, ty_s_list, ty_s_tuple, ty_l_bool, ty_l_int, ty_l_str, ty_l_list, ty_l_tuple, ty_t_bool, ty_t_int, ty_t_str, ty_t_list, ty_t_tuple, dIs_nn, dIs_in, dIs_bn, dIs_sn, dIs_ln, dIs_tn, dNe_b, ev_A, aK_ok, aK_err, dMin_ok, dMax_ok, asZip_l, asZip_t, ev_pop, popK1_ok, dAdd_int, ofO_some, ofO_none, List.getElem?_cons_zero, List.getElem?_cons_succ, List.set_cons_zero, List.set_cons_succ, List.length_cons, List.length_nil, List.cons_append, List.nil_append, List.replicate_succ, List.replicate_zero, List.map_cons, List.map_nil, Option.join_some, List.append_nil, Nat.reduceAdd, Nat.reduceLT, Nat.reduceLeDiff, Nat.reduceSub, Nat.reduceEqDiff, if_true, if_false, decide_true, decide_false, Bool.false_eq_true, Bool.not_true, Bool.not_false, srcS, pow18, c, decide_true, if_true, dMul_ok (show -(2 ^ 64) < st by omega) (show st < 2 ^ 64 by omega), dMod_ok (show (0 : Int) < 998244353 by decide), dMod_ok (show (0 : Int) < 2147483647 by decide)]
  · refine ⟨b, (st * 48271 + cell % 998244353 + k) % 2147483647, ?_, hb, st0, st1⟩
    simp only [ev_seq, seqK_nx, seqK_rt, seqK_bk, seqK_ct, seqK_err, ev_next, ev_if, ifK_ok, ifK_err, ev_asg, asgK_ok, asgK_err, ev_ret, retK_ok, retK_err, ev_retN, ev_drop, dropK_ok, dropK_err, ev_c, ev_d, dK_ok, dK_err, ev_fz, fzK_d, fzK_l, fzK_err, ev_op, opK1_ok, opK1_err, opK2_ok, opK2_err, ev_un, unK_ok, unK_err, ev_isi, ev_b, bK_ok, bK_err, ev_and, andK_ok, andK_err, ev_or, orK_ok, orK_err, ev_not, notK_ok, ev_andV, andVK_ok, ev_orV, orVK_ok, ev_ifE, ifEK_ok, ev_nil, ev_cons, consK1_ok, consK1_err, consK2_ok, consK2_err, ev_lst, lstK_ok, ev_tup, tupK_ok, ev_var, varK_d, varK_l, ev_peek, peekK_d, peekK_l, peekK_s, ev_move, moveK_d, moveK_l, ev_ixP, ixK_ok, ixK1_ok, ixK1_err, ixK2_ok, dIx_nat, dIx_natT, dIx_l0, dIx_l1, dIx_l2, dIx_l3, dIx_l4, dIx_t0, dIx_t1, dIx_t2, dIx_t3, ev_setIx, setK0_ok, setK0_err, setK1_ok, setK2_ok, setK3_0, setK3_1, setK3_2, setK3_3, setK3_4, ev_sl, slK1_ok, slK2_ok, slK3_ok, ev_no, ev_so, soK_ok, soK_err, ev_join, joinK1_ok, joinK2_ok, ev_app, appK1_ok, appK2_ok, appK2_err, appK3_ok, ev_a0, ev_aD, ev_aR, eaK1_ok, eaK1_err, eaK3_ok, eaK2_ok, eaK2_err, ev_call, callK_d1, callK_d2, callK_d3, callK_d4, callK_d5, callK_d6, callK_d7, callK_d8, callK_r0, callK_r1, callK_r2, callK_r3, callK_r4, callK_r5, callK_r6, callK_r7, callK_err, backK_ok, backK_err, slotOf_d, slotOf_r, putBack_d, putBack_r, putBack_nil, refs_nil, refs_d, refs_r, ev_run, endOf_nx, endOf_rt, endOf_err, maskL_t, maskL_f, maskL_nil, ev_for, forK_ok, forGo_nil, turnK_nx, turnK_ct, turnK_bk, turnK_rt, turnK_err, bind_ok, asItems_l, asItems_t, asItems_s, ev_name, ev_fnil, ev_fcons, ev_ftup, some_bind, ev_asgT, asgTK_ok, asgTK2_ok, ev_lc, lcK_ok, wipeL_nil, wipeL_cons, ev_yes, lcGo_nil, dLt_i, dLe_i, dGt_i, dGe_i, dEq_i, dEq_s, dEq_b, dNe_i, dNe_s, dIs_b, dSub_i, dLen_l, dLen_t, dList_l, dList_t, dSl_l, dNot_b, ty_n_bool, ty_n_int, ty_n_str, ty_n_list, ty_n_tuple, ty_b_bool, ty_b_int, ty_b_str, ty_b_list, ty_b_tuple, ty_i_bool, ty_i_int, ty_i_str, ty_i_list, ty_i_tuple, ty_s_bool, ty_s_int, ty_s_str, ty_s_list, ty_s_tuple, ty_l_bool, ty_l_int, ty_l_str, ty_l_list, ty_l_tuple, ty_t_bool, ty_t_int, ty_t_str, ty_t_list, ty_t_tuple, dIs_nn, dIs_in, dIs_bn, dIs_sn, dIs_ln, dIs_tn, dNe_b, ev_A, aK_ok, aK_err, dMin_ok, dMax_ok, asZip_l, asZip_t, ev_pop, popK1_ok, dAdd_int, ofO_some, ofO_none, List.getElem?_cons_zero, List.getElem?_cons_succ, List.set_cons_zero, List.set_cons_succ, List.length_cons, List.length_nil, List.cons_append, List.nil_append, List.replicate_succ, List.replicate_zero, List.map_cons, List.map_nil, Option.join_some, List.append_nil, Nat.reduceAdd, Nat.reduceLT, Nat.reduceLeDiff, Nat.reduceSub, Nat.reduceEqDiff, if_true, if_false, decide_true, decide_false, Bool.false_eq_true, Bool.not_true, Bool.not_false, srcS, pow18, c, decide_false, if_false, Bool.false_eq_true, dMul_ok (show -(2 ^ 64) < st by omega) (show st < 2 ^ 64 by omega), dMod_ok (show (0 : Int) < 998244353 by decide), dMod_ok (show (0 : Int) < 2147483647 by decide)]
theorem next_ok {s : S} (h : Src s) {n : Int} (h0 : 0 < n) (h1 : n < 1073741824) : ∃ r s', m_law_next [some s, some (.d (.int n))] = .ok (.d (.int r)) [some s', none] ∧ 0 ≤ r ∧ r < n ∧ Src s' := by
  obtain ⟨cells, p, b, st, k, rfl, hl, hp0, hp1, hb, hs0, hs1⟩ := h
  obtain ⟨j, rfl⟩ := Int.eq_ofNat_of_zero_le hp0
  have s0 : gSetIx 0 (gC (.int 4)) (gFz (gOp dAdd (gIxP 0 (gC (.int 4))) (gC (.int 1)))) [some (srcS cells j b st k), some (.d (.int n)), none, none] = .ok .nx [some (srcS cells j b st (k + 1)), some (.d (.int n)), none, none] := by
    simp only [ev_seq, seqK_nx, seqK_rt, seqK_bk, seqK_ct, seqK_err, ev_next, ev_if, ifK_ok, ifK_err, ev_asg, asgK_ok, asgK_err, ev_ret, retK_ok, retK_err, ev_retN, ev_drop, dropK_ok, dropK_err, ev_c, ev_d, dK_ok, dK_err, ev_fz, fzK_d, fzK_l, fzK_err, ev_op, opK1_ok, opK1_err, opK2_ok, opK2_err, ev_un, unK_ok, unK_err, ev_isi, ev_b, bK_ok, bK_err, ev_and, andK_ok, andK_err, ev_or, orK_ok, orK_err, ev_not, notK_ok, ev_andV, andVK_ok, ev_orV, orVK_ok, ev_ifE, ifEK_ok, ev_nil, ev_cons, consK1_ok, consK1_err, consK2_ok, consK2_err, ev_lst, lstK_ok, ev_tup, tupK_ok, ev_var, varK_d, varK_l, ev_peek, peekK_d, peekK_l, peekK_s, ev_move, moveK_d, moveK_l, ev_ixP, ixK_ok, ixK1_ok, ixK1_err, ixK2_ok, dIx_nat, dIx_natT, dIx_l0, dIx_l1, dIx_l2, dIx_l3, dIx_l4, dIx_t0, dIx_t1, dIx_t2, dIx_t3, ev_setIx, setK0_ok, setK0_err, setK1_ok, setK2_ok, setK3_0, setK3_1, setK3_2, setK3_3, setK3_4, ev_sl, slK1_ok, slK2_ok, slK3_ok, ev_no, ev_so, soK_ok, soK_err, ev_join, joinK1_ok, joinK2_ok, ev_app, appK1_ok, appK2_ok, appK2_err, appK3_ok, ev_a0, ev_aD, ev_aR, eaK1_ok, eaK1_err, eaK3_ok, eaK2_ok, eaK2_err, ev_call, callK_d1, callK_d2, callK_d3, callK_d4, callK_d5, callK_d6, callK_d7, callK_d8, callK_r0, callK_r1, callK_r2, callK_r3, callK_r4, callK_r5, callK_r6, callK_r7, callK_err, backK_ok, backK_err, slotOf_d, slotOf_r, putBack_d, putBack_r, putBack_nil, refs_nil, refs_d, refs_r, ev_run, endOf_nx, endOf_rt, endOf_err, maskL_t, maskL_f, maskL_nil, ev_for, forK_ok, forGo_nil, turnK_nx, turnK_ct, turnK_bk, turnK_rt, turnK_err, bind_ok, asItems_l, asItems_t, asItems_s, ev_name, ev_fnil, ev_fcons, ev_ftup, some_bind, ev_asgT, asgTK_ok, asgTK2_ok, ev_lc, lcK_ok, wipeL_nil, wipeL_cons, ev_yes, lcGo_nil, dLt_i, dLe_i, dGt_i, dGe_i, dEq_i, dEq_s, dEq_b, dNe_i, dNe_s, dIs_b, dSub_i, dLen_l, dLen_t, dList_l, dList_t, dSl_l, dNot_b, ty_n_bool, ty_n_int, ty_n_str, ty_n_list, ty_n_tuple, ty_b_bool, ty_b_int, ty_b_str, ty_b_list, ty_b_tuple, ty_i_bool, ty_i_int, ty_i_str, ty_i_list, ty_i_tuple, ty_s_bool, ty_s_int, ty_s_str, ty_s_list, ty_s_tuple, ty_l_bool, ty_l_int, ty_l_str, ty_l_list, ty_l_tuple, ty_t_bool, ty_t_int, ty_t_str, ty_t_list, ty_t_tuple, dIs_nn, dIs_in, dIs_bn, dIs_sn, dIs_ln, dIs_tn, dNe_b, ev_A, aK_ok, aK_err, dMin_ok, dMax_ok, asZip_l, asZip_t, ev_pop, popK1_ok, dAdd_int, ofO_some, ofO_none, List.getElem?_cons_zero, List.getElem?_cons_succ, List.set_cons_zero, List.set_cons_succ, List.length_cons, List.length_nil, List.cons_append, List.nil_append, List.replicate_succ, List.replicate_zero, List.map_cons, List.map_nil, Option.join_some, List.append_nil, Nat.reduceAdd, Nat.reduceLT, Nat.reduceLeDiff, Nat.reduceSub, Nat.reduceEqDiff, if_true, if_false, decide_true, decide_false, Bool.false_eq_true, Bool.not_true, Bool.not_false, srcS, if_true]
  by_cases c1 : b ≤ 1
  · by_cases c2 : (j : Int) < cells.length
    · have hj : j < cells.length := by omega
      obtain ⟨b', st', m1, m2, m3, m4⟩ := next_mid cells ((j : Int) + 1) b st (k + 1) n cells[j] hb hs0 hs1
      obtain ⟨r, s', o2, L, t1, t2, t3, t4⟩ := next_tail cells ((j : Int) + 1) b' st' (k + 1) n (some (.d (.int cells[j]))) h0 h1 hl (by omega) (by omega) m2 m3 m4
      refine ⟨r, s', ?_, t2, t3, t4⟩
      unfold m_law_next g_law_next
      rw [ev_run]
      simp only [List.length_cons, List.length_nil, Nat.reduceAdd, Nat.reduceSub, List.replicate_succ, List.replicate_zero, List.cons_append, List.nil_append]
      rw [ev_seq, s0, seqK_nx, ev_seq, ev_if]
      have e1 : gB (gOp dLe (gIxP 0 (gC (.int 2))) (gC (.int 1))) [some (srcS cells j b st (k + 1)), some (.d (.int n)), none, none] = .ok true [some (srcS cells j b st (k + 1)), some (.d (.int n)), none, none] := by
        simp only [ev_seq, seqK_nx, seqK_rt, seqK_bk, seqK_ct, seqK_err, ev_next, ev_if, ifK_ok, ifK_err, ev_asg, asgK_ok, asgK_err, ev_ret, retK_ok, retK_err, ev_retN, ev_drop, dropK_ok, dropK_err, ev_c, ev_d, dK_ok, dK_err, ev_fz, fzK_d, fzK_l, fzK_err, ev_op, opK1_ok, opK1_err, opK2_ok, opK2_err, ev_un, unK_ok, unK_err, ev_isi, ev_b, bK_ok, bK_err, ev_and, andK_ok, andK_err, ev_or, orK_ok, orK_err, ev_not, notK_ok, ev_andV, andVK_ok, ev_orV, orVK_ok, ev_ifE, ifEK_ok, ev_nil, ev_cons, consK1_ok, consK1_err, consK2_ok, consK2_err, ev_lst, lstK_ok, ev_tup, tupK_ok, ev_var, varK_d, varK_l, ev_peek, peekK_d, peekK_l, peekK_s, ev_move, moveK_d, moveK_l, ev_ixP, ixK_ok, ixK1_ok, ixK1_err, ixK2_ok, dIx_nat, dIx_natT, dIx_l0, dIx_l1, dIx_l2, dIx_l3, dIx_l4, dIx_t0, dIx_t1, dIx_t2, dIx_t3, ev_setIx, setK0_ok, setK0_err, setK1_ok, setK2_ok, setK3_0, setK3_1, setK3_2, setK3_3, setK3_4, ev_sl, slK1_ok, slK2_ok, slK3_ok, ev_no, ev_so, soK_ok, soK_err, ev_join, joinK1_ok, joinK2_ok, ev_app, appK1_ok, appK2_ok, appK2_err, appK3_ok, ev_a0, ev_aD, ev_aR, eaK1_ok, eaK1_err, eaK3_ok, eaK2_ok, eaK2_err, ev_call, callK_d1, callK_d2, callK_d3, callK_d4, callK_d5, callK_d6, callK_d7, callK_d8, callK_r0, callK_r1, callK_r2, callK_r3, callK_r4, callK_r5, callK_r6, callK_r7, callK_err, backK_ok, backK_err, slotOf_d, slotOf_r, putBack_d, putBack_r, putBack_nil, refs_nil, refs_d, refs_r, ev_run, endOf_nx, endOf_rt, endOf_err, maskL_t, maskL_f, maskL_nil, ev_for, forK_ok, forGo_nil, turnK_nx, turnK_ct, turnK_bk, turnK_rt, turnK_err, bind_ok, asItems_l, asItems_t, asItems_s, ev_name, ev_fnil, ev_fcons, ev_ftup, some_bind, ev_asgT, asgTK_ok, asgTK2_ok, ev_lc, lcK_ok, wipeL_nil, wipeL_cons, ev_yes, lcGo_nil, dLt_i, dLe_i, dGt_i, dGe_i, dEq_i, dEq_s, dEq_b, dNe_i, dNe_s, dIs_b, dSub_i, dLen_l, dLen_t, dList_l, dList_t, dSl_l, dNot_b, ty_n_bool, ty_n_int, ty_n_str, ty_n_list, ty_n_tuple, ty_b_bool, ty_b_int, ty_b_str, ty_b_list, ty_b_tuple, ty_i_bool, ty_i_int, ty_i_str, ty_i_list, ty_i_tuple, ty_s_bool, ty_s_int, ty_s_str, ty_s_list, ty_s_tuple, ty_l_bool, ty_l_int, ty_l_str, ty_l_list, ty_l_tuple, ty_t_bool, ty_t_int, ty_t_str, ty_t_list, ty_t_tuple, dIs_nn, dIs_in, dIs_bn, dIs_sn, dIs_ln, dIs_tn, dNe_b, ev_A, aK_ok, aK_err, dMin_ok, dMax_ok, asZip_l, asZip_t, ev_pop, popK1_ok, dAdd_int, ofO_some, ofO_none, List.getElem?_cons_zero, List.getElem?_cons_succ, List.set_cons_zero, List.set_cons_succ, List.length_cons, List.length_nil, List.cons_append, List.nil_append, List.replicate_succ, List.replicate_zero, List.map_cons, List.map_nil, Option.join_some, List.append_nil, Nat.reduceAdd, Nat.reduceLT, Nat.reduceLeDiff, Nat.reduceSub, Nat.reduceEqDiff, if_true, if_false, decide_true, decide_false, Bool.false_eq_true, Bool.not_true, Bool.not_false, srcS, c1, decide_true]
      rw [e1, ifK_ok, if_pos rfl, ev_seq]
      have e2 : gAsg 2 (gD (gC (.int 7))) [some (srcS cells j b st (k + 1)), some (.d (.int n)), none, none] = .ok .nx [some (srcS cells j b st (k + 1)), some (.d (.int n)), some (.d (.int 7)), none] := rfl
      rw [e2, seqK_nx, ev_seq]
      have e3 : gIf (gB (gOp dLt (gIxP 0 (gC (.int 1))) (gUn dLen (gIxP 0 (gC (.int 0)))))) (gSeq (gAsg 2 (gD (gOp dIx (gIxP 0 (gC (.int 0))) (gIxP 0 (gC (.int 1))))))
          (gSetIx 0 (gC (.int 1)) (gFz (gOp dAdd (gIxP 0 (gC (.int 1))) (gC (.int 1)))))) gNext [some (srcS cells j b st (k + 1)), some (.d (.int n)), some (.d (.int 7)), none] = .ok .nx [some (srcS cells ((j : Int) + 1) b st (k + 1)), some (.d (.int n)), some (.d (.int cells[j])), none] := by
        simp only [ev_seq, seqK_nx, seqK_rt, seqK_bk, seqK_ct, seqK_err, ev_next, ev_if, ifK_ok, ifK_err, ev_asg, asgK_ok, asgK_err, ev_ret, retK_ok, retK_err, ev_retN, ev_drop, dropK_ok, dropK_err, ev_c, ev_d, dK_ok, dK_err, ev_fz, fzK_d, fzK_l, fzK_err, ev_op, opK1_ok, opK1_err, opK2_ok, opK2_err, ev_un, unK_ok, unK_err, ev_isi, ev_b, bK_ok, bK_err, ev_and, andK_ok, andK_err, ev_or, orK_ok, orK_err, ev_not, notK_ok, ev_andV, andVK_ok, ev_orV, orVK_ok, ev_ifE, ifEK_ok, ev_nil, ev_cons, consK1_ok, consK1_err, consK2_ok, consK2_err, ev_lst, lstK_ok, ev_tup, tupK_ok, ev_var, varK_d, varK_l, ev_peek, peekK_d, peekK_l, peekK_s, ev_move, moveK_d, moveK_l, ev_ixP, ixK_ok, ixK1_ok, ixK1_err, ixK2_ok, dIx_nat, dIx_natT, dIx_l0, dIx_l1, dIx_l2, dIx_l3, dIx_l4, dIx_t0, dIx_t1, dIx_t2, dIx_t3, ev_setIx, setK0_ok, setK0_err, setK1_ok, setK2_ok, setK3_0, setK3_1, setK3_2, setK3_3, setK3_4, ev_sl, slK1_ok, slK2_ok, slK3_ok, ev_no, ev_so, soK_ok, soK_err, ev_join, joinK1_ok, joinK2_ok, ev_app, appK1_ok, appK2_ok, appK2_err, appK3_ok, ev_a0, ev_aD, ev_aR, eaK1_ok, eaK1_err, eaK3_ok, eaK2_ok, eaK2_err, ev_call, callK_d1, callK_d2, callK_d3, callK_d4, callK_d5, callK_d6, callK_d7, callK_d8, callK_r0, callK_r1, callK_r2, callK_r3, callK_r4, callK_r5, callK_r6, callK_r7, callK_err, backK_ok, backK_err, slotOf_d, slotOf_r, putBack_d, putBack_r, putBack_nil, refs_nil, refs_d, refs_r, ev_run, endOf_nx, endOf_rt, endOf_err, maskL_t, maskL_f, maskL_nil, ev_for, forK_ok, forGo_nil, turnK_nx, turnK_ct, turnK_bk, turnK_rt, turnK_err, bind_ok, asItems_l, asItems_t, asItems_s, ev_name, ev_fnil, ev_fcons, ev_ftup, some_bind, ev_asgT, asgTK_ok, asgTK2_ok, ev_lc, lcK_ok, wipeL_nil, wipeL_cons, ev_yes, lcGo_nil, dLt_i, dLe_i, dGt_i, dGe_i, dEq_i, dEq_s, dEq_b, dNe_i, dNe_s, dIs_b, dSub_i, dLen_l, dLen_t, dList_l, dList_t, dSl_l, dNot_b, ty_n_bool, ty_n_int, ty_n_str, ty_n_list, ty_n_tuple, ty_b_bool, ty_b_int, ty_b_str, ty_b_list, ty_b_tuple, ty_i_bool, ty_i_int, ty_i_str, ty_i_list, ty_i_tuple, ty_s_bool, ty_s_int, ty_s_str, ty_s_list, ty_s_tuple, ty_l_bool, ty_l_int, ty_l_str, ty_l_list, ty_l_tuple, ty_t_bool, ty_t_int, ty_t_str, ty_t_list, ty_t_tuple, dIs_nn, dIs_in, dIs_bn, dIs_sn, dIs_ln, dIs_tn, dNe_b, ev_A, aK_ok, aK_err, dMin_ok, dMax_ok, asZip_l, asZip_t, ev_pop, popK1_ok, dAdd_int, ofO_some, ofO_none, List.getElem?_cons_zero, List.getElem?_cons_succ, List.set_cons_zero, List.set_cons_succ, List.length_cons, List.length_nil, List.cons_append, List.nil_append, List.replicate_succ, List.replicate_zero, List.map_cons, List.map_nil, Option.join_some, List.append_nil, Nat.reduceAdd, Nat.reduceLT, Nat.reduceLeDiff, Nat.reduceSub, Nat.reduceEqDiff, if_true, if_false, decide_true, decide_false, Bool.false_eq_true, Bool.not_true, Bool.not_false, srcS, List.length_map, c2, decide_true, if_true, dIx_cells cells j hj]
      rw [e3, seqK_nx, m1, seqK_nx, t1]
      rfl
    · obtain ⟨b', st', m1, m2, m3, m4⟩ := next_mid cells j b st (k + 1) n 7 hb hs0 hs1
      obtain ⟨r, s', o2, L, t1, t2, t3, t4⟩ := next_tail cells j b' st' (k + 1) n (some (.d (.int 7))) h0 h1 hl (by omega) (by omega) m2 m3 m4
      refine ⟨r, s', ?_, t2, t3, t4⟩
      unfold m_law_next g_law_next
      rw [ev_run]
      simp only [List.length_cons, List.length_nil, Nat.reduceAdd, Nat.reduceSub, List.replicate_succ, List.replicate_zero, List.cons_append, List.nil_append]
      rw [ev_seq, s0, seqK_nx, ev_seq, ev_if]
      have e1 : gB (gOp dLe (gIxP 0 (gC (.int 2))) (gC (.int 1))) [some (srcS cells j b st (k + 1)), some (.d (.int n)), none, none] = .ok true [some (srcS cells j b st (k + 1)), some (.d (.int n)), none, none] := by
        simp only [ev_seq, seqK_nx, seqK_rt, seqK_bk, seqK_ct, seqK_err, ev_next, ev_if, ifK_ok, ifK_err, ev_asg, asgK_ok, asgK_err, ev_ret, retK_ok, retK_err, ev_retN, ev_drop, dropK_ok, dropK_err, ev_c, ev_d, dK_ok, dK_err, ev_fz, fzK_d, fzK_l, fzK_err, ev_op, opK1_ok, opK1_err, opK2_ok, opK2_err, ev_un, unK_ok, unK_err, ev_isi, ev_b, bK_ok, bK_err, ev_and, andK_ok, andK_err, ev_or, orK_ok, orK_err, ev_not, notK_ok, ev_andV, andVK_ok, ev_orV, orVK_ok, ev_ifE, ifEK_ok, ev_nil, ev_cons, consK1_ok, consK1_err, consK2_ok, consK2_err, ev_lst, lstK_ok, ev_tup, tupK_ok, ev_var, varK_d, varK_l, ev_peek, peekK_d, peekK_l, peekK_s, ev_move, moveK_d, moveK_l, ev_ixP, ixK_ok, ixK1_ok, ixK1_err, ixK2_ok, dIx_nat, dIx_natT, dIx_l0, dIx_l1, dIx_l2, dIx_l3, dIx_l4, dIx_t0, dIx_t1, dIx_t2, dIx_t3, ev_setIx, setK0_ok, setK0_err, setK1_ok, setK2_ok, setK3_0, setK3_1, setK3_2, setK3_3, setK3_4, ev_sl, slK1_ok, slK2_ok, slK3_ok, ev_no, ev_so, soK_ok, soK_err, ev_join, joinK1_ok, joinK2_ok, ev_app, appK1_ok, appK2_ok, appK2_err, appK3_ok, ev_a0, ev_aD, ev_aR, eaK1_ok, eaK1_err, eaK3_ok, eaK2_ok, eaK2_err, ev_call, callK_d1, callK_d2, callK_d3, callK_d4, callK_d5, callK_d6, callK_d7, callK_d8, callK_r0, callK_r1, callK_r2, callK_r3, callK_r4, callK_r5, callK_r6, callK_r7, callK_err, backK_ok, backK_err, slotOf_d, slotOf_r, putBack_d, putBack_r, putBack_nil, refs_nil, refs_d, refs_r, ev_run, endOf_nx, endOf_rt, endOf_err, maskL_t, maskL_f, maskL_nil, ev_for, forK_ok, forGo_nil, turnK_nx, turnK_ct, turnK_bk, turnK_rt, turnK_err, bind_ok, asItems_l, asItems_t, asItems_s, ev_name, ev_fnil, ev_fcons, ev_ftup, some_bind, ev_asgT, asgTK_ok, asgTK2_ok, ev_lc, lcK_ok, wipeL_nil, wipeL_cons, ev_yes, lcGo_nil, dLt_i, dLe_i, dGt_i, dGe_i, dEq_i, dEq_s, dEq_b, dNe_i, dNe_s, dIs_b, dSub_i, dLen_l, dLen_t, dList_l, dList_t, dSl_l, dNot_b, ty_n_bool, ty_n_int, ty_n_str, ty_n_list, ty_n_tuple, ty_b_bool, ty_b_int, ty_b_str, ty_b_list, ty_b_tuple, ty_i_bool, ty_i_int, ty_i_str, ty_i_list, ty_i_tuple, ty_s_bool, ty_s_int, ty_s_str, ty_s_list, ty_s_tuple, ty_l_bool, ty_l_int, ty_l_str, ty_l_list, ty_l_tuple, ty_t_bool, ty_t_int, ty_t_str, ty_t_list, ty_t_tuple, dIs_nn, dIs_in, dIs_bn, dIs_sn, dIs_ln, dIs_tn, dNe_b, ev_A, aK_ok, aK_err, dMin_ok, dMax_ok, asZip_l, asZip_t, ev_pop, popK1_ok, dAdd_int, ofO_some, ofO_none, List.getElem?_cons_zero, List.getElem?_cons_succ, List.set_cons_zero, List.set_cons_succ, List.length_cons, List.length_nil, List.cons_append, List.nil_append, List.replicate_succ, List.replicate_zero, List.map_cons, List.map_nil, Option.join_some, List.append_nil, Nat.reduceAdd, Nat.reduceLT, Nat.reduceLeDiff, Nat.reduceSub, Nat.reduceEqDiff, if_true, if_false, decide_true, decide_false, Bool.false_eq_true, Bool.not_true, Bool.not_false, srcS, c1, decide_true]
      rw [e1, ifK_ok, if_pos rfl, ev_seq]
      have e2 : gAsg 2 (gD (gC (.int 7))) [some (srcS cells j b st (k + 1)), some (.d (.int n)), none, none] = .ok .nx [some (srcS cells j b st (k + 1)), some (.d (.int n)), some (.d (.int 7)), none] := rfl
      rw [e2, seqK_nx, ev_seq]
      have e3 : gIf (gB (gOp dLt (gIxP 0 (gC (.int 1))) (gUn dLen (gIxP 0 (gC (.int 0)))))) (gSeq (gAsg 2 (gD (gOp dIx (gIxP 0 (gC (.int 0))) (gIxP 0 (gC (.int 1))))))
          (gSetIx 0 (gC (.int 1)) (gFz (gOp dAdd (gIxP 0 (gC (.int 1))) (gC (.int 1)))))) gNext [some (srcS cells j b st (k + 1)), some (.d (.int n)), some (.d (.int 7)), none] = .ok .nx [some (srcS cells j b st (k + 1)), some (.d (.int n)), some (.d (.int 7)), none] := by
        simp only [ev_seq, seqK_nx, seqK_rt, seqK_bk, seqK_ct, seqK_err, ev_next, ev_if, ifK_ok, ifK_err, ev_asg, asgK_ok, asgK_err, ev_ret, retK_ok, retK_err, ev_retN, ev_drop, dropK_ok, dropK_err, ev_c, ev_d, dK_ok, dK_err, ev_fz, fzK_d, fzK_l, fzK_err, ev_op, opK1_ok, opK1_err, opK2_ok, opK2_err, ev_un, unK_ok, unK_err, ev_isi, ev_b, bK_ok, bK_err, ev_and, andK_ok, andK_err, ev_or, orK_ok, orK_err, ev_not, notK_ok, ev_andV, andVK_ok, ev_orV, orVK_ok, ev_ifE, ifEK_ok, ev_nil, ev_cons, consK1_ok, consK1_err, consK2_ok, consK2_err, ev_lst, lstK_ok, ev_tup, tupK_ok, ev_var, varK_d, varK_l, ev_peek, peekK_d, peekK_l, peekK_s, ev_move, moveK_d, moveK_l, ev_ixP, ixK_ok, ixK1_ok, ixK1_err, ixK2_ok, dIx_nat, dIx_natT, dIx_l0, dIx_l1, dIx_l2, dIx_l3, dIx_l4, dIx_t0, dIx_t1, dIx_t2, dIx_t3, ev_setIx, setK0_ok, setK0_err, setK1_ok, setK2_ok, setK3_0, setK3_1, setK3_2, setK3_3, setK3_4, ev_sl, slK1_ok, slK2_ok, slK3_ok, ev_no, ev_so, soK_ok, soK_err, ev_join, joinK1_ok, joinK2_ok, ev_app, appK1_ok, appK2_ok, appK2_err, appK3_ok, ev_a0, ev_aD, ev_aR, eaK1_ok, eaK1_err, eaK3_ok, eaK2_ok, eaK2_err, ev_call, callK_d1, callK_d2, callK_d3, callK_d4, callK_d5, callK_d6, callK_d7, callK_d8, callK_r0, callK_r1, callK_r2, callK_r3, callK_r4, callK_r5, callK_r6, callK_r7, callK_err, backK_ok, backK_err, slotOf_d, slotOf_r, putBack_d, putBack_r, putBack_nil, refs_nil, refs_d, refs_r, ev_run, endOf_nx, endOf_rt, endOf_err, maskL_t, maskL_f, maskL_nil, ev_for, forK_ok, forGo_nil, turnK_nx, turnK_ct, turnK_bk, turnK_rt, turnK_err, bind_ok, asItems_l, asItems_t, asItems_s, ev_name, ev_fnil, ev_fcons, ev_ftup, some_bind, ev_asgT, asgTK_ok, asgTK2_ok, ev_lc, lcK_ok, wipeL_nil, wipeL_cons, ev_yes, lcGo_nil, dLt_i, dLe_i, dGt_i, dGe_i, dEq_i, dEq_s, dEq_b, dNe_i, dNe_s, dIs_b, dSub_i, dLen_l, dLen_t, dList_l, dList_t, dSl_l, dNot_b, ty_n_bool, ty_n_int, ty_n_str, ty_n_list, ty_n_tuple, ty_b_bool, ty_b_int, ty_b_str, ty_b_list, ty_b_tuple, ty_i_bool, ty_i_int, ty_i_str, ty_i_list, ty_i_tuple, ty_s_bool, ty_s_int, ty_s_str, ty_s_list, ty_s_tuple, ty_l_bool, ty_l_int, ty_l_str, ty_l_list, ty_l_tuple, ty_t_bool, ty_t_int, ty_t_str, ty_t_list, ty_t_tuple, dIs_nn, dIs_in, dIs_bn, dIs_sn, dIs_ln, dIs_tn, dNe_b, ev_A, aK_ok, aK_err, dMin_ok, dMax_ok, asZip_l, asZip_t, ev_pop, popK1_ok, dAdd_int, ofO_some, ofO_none, List.getElem?_cons_zero, List.getElem?_cons_succ, List.set_cons_zero, List.set_cons_succ, List.length_cons, List.length_nil, List.cons_append, List.nil_append, List.replicate_succ, List.replicate_zero, List.map_cons, List.map_nil, Option.join_some, List.append_nil, Nat.reduceAdd, Nat.reduceLT, Nat.reduceLeDiff, Nat.reduceSub, Nat.reduceEqDiff, if_true, if_false, decide_true, decide_false, Bool.false_eq_true, Bool.not_true, Bool.not_false, srcS, List.length_map, c2, decide_false, if_false, Bool.false_eq_true]
      rw [e3, seqK_nx, m1, seqK_nx, t1]
      rfl
  · obtain ⟨r, s', o2, L, t1, t2, t3, t4⟩ := next_tail cells j b st (k + 1) n none h0 h1 hl (by omega) (by omega) hb hs0 hs1
    refine ⟨r, s', ?_, t2, t3, t4⟩
    unfold m_law_next g_law_next
    rw [ev_run]
    simp only [List.length_cons, List.length_nil, Nat.reduceAdd, Nat.reduceSub, List.replicate_succ, List.replicate_zero, List.cons_append, List.nil_append]
    rw [ev_seq, s0, seqK_nx, ev_seq, ev_if]
    have e1 : gB (gOp dLe (gIxP 0 (gC (.int 2))) (gC (.int 1))) [some (srcS cells j b st (k + 1)), some (.d (.int n)), none, none] = .ok false [some (srcS cells j b st (k + 1)), some (.d (.int n)), none, none] := by
      simp only [ev_seq, seqK_nx, seqK_rt, seqK_bk, seqK_ct, seqK_err, ev_next, ev_if, ifK_ok, ifK_err, ev_asg, asgK_ok, asgK_err, ev_ret, retK_ok, retK_err, ev_retN, ev_drop, dropK_ok, dropK_err, ev_c, ev_d, dK_ok, dK_err, ev_fz, fzK_d, fzK_l, fzK_err, ev_op, opK1_ok, opK1_err, opK2_ok, opK2_err, ev_un, unK_ok, unK_err, ev_isi, ev_b, bK_ok, bK_err, ev_and, andK_ok, andK_err, ev_or, orK_ok, orK_err, ev_not, notK_ok, ev_andV, andVK_ok, ev_orV, orVK_ok, ev_ifE, ifEK_ok, ev_nil, ev_cons, consK1_ok, consK1_err, consK2_ok, consK2_err, ev_lst, lstK_ok, ev_tup, tupK_ok, ev_var, varK_d, varK_l, ev_peek, peekK_d, peekK_l, peekK_s, ev_move, moveK_d, moveK_l, ev_ixP, ixK_ok, ixK1_ok, ixK1_err, ixK2_ok, dIx_nat, dIx_natT, dIx_l0, dIx_l1, dIx_l2, dIx_l3, dIx_l4, dIx_t0, dIx_t1, dIx_t2, dIx_t3, ev_setIx, setK0_ok, setK0_err, setK1_ok, setK2_ok, setK3_0, setK3_1, setK3_2, setK3_3, setK3_4, ev_sl, slK1_ok, slK2_ok, slK3_ok, ev_no, ev_so, soK_ok, soK_err, ev_join, joinK1_ok, joinK2_ok, ev_app, appK1_ok, appK2_ok, appK2_err, appK3_ok, ev_a0, ev_aD, ev_aR, eaK1_ok, eaK1_err, eaK3_ok, eaK2_ok, eaK2_err, ev_call, callK_d1, callK_d2, callK_d3, callK_d4, callK_d5, callK_d6, callK_d7, callK_d8, callK_r0, callK_r1, callK_r2, callK_r3, callK_r4, callK_r5, callK_r6, callK_r7, callK_err, backK_ok, backK_err, slotOf_d, slotOf_r, putBack_d, putBack_r, putBack_nil, refs_nil, refs_d, refs_r, ev_run, endOf_nx, endOf_rt, endOf_err, maskL_t, maskL_f, maskL_nil, ev_for, forK_ok, forGo_nil, turnK_nx, turnK_ct, turnK_bk, turnK_rt, turnK_err, bind_ok, asItems_l, asItems_t, asItems_s, ev_name, ev_fnil, ev_fcons, ev_ftup, some_bind, ev_asgT, asgTK_ok, asgTK2_ok, ev_lc, lcK_ok, wipeL_nil, wipeL_cons, ev_yes, lcGo_nil, dLt_i, dLe_i, dGt_i, dGe_i, dEq_i, dEq_s, dEq_b, dNe_i, dNe_s, dIs_b, dSub_i, dLen_l, dLen_t, dList_l, dList_t, dSl_l, dNot_b, ty_n_bool, ty_n_int, ty_n_str, ty_n_list, ty_n_tuple, ty_b_bool, ty_b_int, ty_b_str, ty_b_list, ty_b_tuple, ty_i_bool, ty_i_int, ty_i_str, ty_i_list, ty_i_tuple, ty_s_bool, ty_s_int, ty_s_str, ty_s_list, ty_s_tuple, ty_l_bool, ty_l_int, ty_l_str, ty_l_list, ty_l_tuple, ty_t_bool, ty_t_int, ty_t_str, ty_t_list, ty_t_tuple, dIs_nn, dIs_in, dIs_bn, dIs_sn, dIs_ln, dIs_tn, dNe_b, ev_A, aK_ok, aK_err, dMin_ok, dMax_ok, asZip_l, asZip_t, ev_pop, popK1_ok, dAdd_int, ofO_some, ofO_none, List.getElem?_cons_zero, List.getElem?_cons_succ, List.set_cons_zero, List.set_cons_succ, List.length_cons, List.length_nil, List.cons_append, List.nil_append, List.replicate_succ, List.replicate_zero, List.map_cons, List.map_nil, Option.join_some, List.append_nil, Nat.reduceAdd, Nat.reduceLT, Nat.reduceLeDiff, Nat.reduceSub, Nat.reduceEqDiff, if_true, if_false, decide_true, decide_false, Bool.false_eq_true, Bool.not_true, Bool.not_false, srcS, c1, decide_false]
    rw [e1, ifK_ok, if_neg Bool.false_ne_true, ev_next, seqK_nx, t1]
    rfl
end Lw

namespace Lw
open PySem VS
/-! ### texts by their codes -/
def sOf (ws : List Nat) : Str := ⟨ws.toArray⟩
theorem sOf_list (ws : List Nat) : (sOf ws).cps.toList = ws := by simp [sOf]
theorem sOf_len (ws : List Nat) : (sOf ws).length = ws.length := by simp [sOf, Str.length]
theorem sOf_app (a b : List Nat) : sOf a ++ sOf b = sOf (a ++ b) := by
  show (⟨a.toArray ++ b.toArray⟩ : Str) = ⟨(a ++ b).toArray⟩
  simp
theorem sOf_inj {a b : List Nat} (h : sOf a = sOf b) : a = b := by
  have := congrArg (fun s : Str => s.cps.toList) h
  simpa [sOf] using this
theorem sOf_of (s : Str) : s = sOf s.cps.toList := by
  cases s
  simp [sOf]
def Small (ws : List Nat) : Prop := ∀ c ∈ ws, 97 ≤ c ∧ c ≤ 122
theorem Small.app {a b : List Nat} (h : Small a) (h' : Small b) : Small (a ++ b) := fun c hc => (List.mem_append.mp hc).elim (h c) (h' c)
theorem Small.take {a : List Nat} (n : Nat) (h : Small a) : Small (a.take n) := fun c hc => h c (List.mem_of_mem_take hc)
theorem Small.drop {a : List Nat} (n : Nat) (h : Small a) : Small (a.drop n) := fun c hc => h c (List.mem_of_mem_drop hc)
abbrev abc : Str := "abcdefghijklmnopqrstuvwxyz"
theorem abc_at : ∀ k ∈ List.range 26, abc.cps.toList[k]? = some (97 + k) := by decide +kernel
theorem abc_len : abc.cps.toList.length = 26 := by decide +kernel
theorem ix_abc {r : Int} (h0 : 0 ≤ r) (h1 : r < 26) : dIx (.str abc) (.int r) = some (.str (sOf [97 + r.toNat])) := by
  obtain ⟨k, rfl⟩ := Int.eq_ofNat_of_zero_le h0
  have hk : k < 26 := by omega
  have e := abc_at k (List.mem_range.mpr hk)
  have hl : abc.length ≤ sizeLine := by
    have : abc.length = 26 := abc_len
    rw [this, PySem.sizeLine_eq]
    omega
  have e2 : L2.atI abc.cps.toList (k : Int) = some (97 + k) := L2.atI_nat e
  show (if abc.length ≤ sizeLine then (L2.atI abc.cps.toList (k : Int)).map fun k => PyData.str ⟨#[k]⟩ else none) = _
  rw [if_pos hl, e2]
  rfl
theorem rg_ok {j : Int} (h0 : 0 ≤ j) (h1 : j ≤ 100000) : -(2 ^ 62) ≤ j ∧ j < 2 ^ 62 := by omega
theorem rng1_at {j : Int} {L : LS} (h0 : 0 ≤ j) (h1 : j ≤ 100000) : rng1 [.int j] L = .ok (intsD 0 j.toNat) L := if_pos (rg_ok h0 h1)
/-! ### words -/
theorem word_go (m : Int) : ∀ (ds acc : List D) (s : S), Src s → acc.length + ds.length < sizeLine → ∃ ws s', lcGo [3] (fName 3) gYes (gIxP 2 (gFz (gCall m_law_next [.r 0, .d (gC (.int 26))]))) ds acc [some s, some (.d (.int m)), some (.d (.str abc)), none]
    = .ok (.ol (acc ++ ws.map fun c => .str (sOf [c]))) [some s', some (.d (.int m)), some (.d (.str abc)), none] ∧ ws.length = ds.length ∧ Small ws ∧ Src s'
  | [], acc, s, hs, _ => ⟨[], s, by rw [lcGo_nil, List.map_nil, List.append_nil], rfl, (fun c hc => by cases hc), hs⟩
  | d :: ds, acc, s, hs, hl => by
    obtain ⟨r, s1, e, r0, r1, h1⟩ := next_ok hs (n := 26) (by omega) (by omega)
    rw [List.length_cons] at hl
    obtain ⟨ws, s', e2, l2, k2, h2⟩ := word_go m ds (acc ++ [.str (sOf [97 + r.toNat])]) s1 h1 (by rw [List.length_append, List.length_singleton]; omega)
    refine ⟨(97 + r.toNat) :: ws, s', ?_, by rw [List.length_cons, List.length_cons, l2], fun c hc => ?_, h2⟩
    · have step : gIxP 2 (gFz (gCall m_law_next [.r 0, .d (gC (.int 26))])) [some s, some (.d (.int m)), some (.d (.str abc)), some (.d d)] = .ok (.str (sOf [97 + r.toNat])) [some s1, some (.d (.int m)), some (.d (.str abc)), some (.d d)] := by
        simp only [ev_seq, seqK_nx, seqK_rt, seqK_bk, seqK_ct, seqK_err, ev_next, ev_if, ifK_ok, ifK_err, ev_asg, asgK_ok, asgK_err, ev_ret, retK_ok, retK_err, ev_retN, ev_drop, dropK_ok, dropK_err, ev_c, ev_d, dK_ok, dK_err, ev_fz, fzK_d, fzK_l, fzK_err, ev_op, opK1_ok, opK1_err, opK2_ok, opK2_err, ev_un, unK_ok, unK_err, ev_isi, ev_b, bK_ok, bK_err, ev_and, andK_ok, andK_err, ev_or, orK_ok, orK_err, ev_not, notK_ok, ev_andV, andVK_ok, ev_orV, orVK_ok, ev_ifE, ifEK_ok, ev_nil, ev_cons, consK1_ok, consK1_err, consK2_ok, consK2_err, ev_lst, lstK_ok, ev_tup, tupK_ok, ev_var, varK_d, varK_l, ev_peek, peekK_d, peekK_l, peekK_s, ev_move, moveK_d, moveK_l, ev_ixP, ixK_ok, ixK1_ok, ixK1_err, ixK2_ok, dIx_nat, dIx_natT, dIx_l0, dIx_l1, dIx_l2, dIx_l3, dIx_l4, dIx_t0, dIx_t1, dIx_t2, dIx_t3, ev_setIx, setK0_ok, setK0_err, setK1_ok, setK2_ok, setK3_0, setK3_1, setK3_2, setK3_3, setK3_4, ev_sl, slK1_ok, slK2_ok, slK3_ok, ev_no, ev_so, soK_ok, soK_err, ev_join, joinK1_ok, joinK2_ok, ev_app, appK1_ok, appK2_ok, appK2_err, appK3_ok, ev_a0, ev_aD, ev_aR, eaK1_ok, eaK1_err, eaK3_ok, eaK2_ok, eaK2_err, ev_call, callK_d1, callK_d2, callK_d3, callK_d4, callK_d5, callK_d6, callK_d7, callK_d8, callK_r0, callK_r1, callK_r2, callK_r3, callK_r4, callK_r5, callK_r6, callK_r7, callK_err, backK_ok, backK_err, slotOf_d, slotOf_r, putBack_d, putBack_r, putBack_nil, refs_nil, refs_d, refs_r, ev_run, endOf_nx, endOf_rt, endOf_err, maskL_t, maskL_f, maskL_nil, ev_for, forK_ok, forGo_nil, turnK_nx, turnK_ct, turnK_bk, turnK_rt, turnK_err, bind_ok, asItems_l, asItems_t, asItems_s, ev_name, ev_fnil, ev_fcons, ev_ftup, some_bind, ev_asgT, asgTK_ok, asgTK2_ok, ev_lc, lcK_ok, wipeL_nil, wipeL_cons, ev_yes, lcGo_nil, dLt_i, dLe_i, dGt_i, dGe_i, dEq_i, dEq_s, dEq_b, dNe_i, dNe_s, dIs_b, dSub_i, dLen_l, dLen_t, dList_l, dList_t, dSl_l, dNot_b, ty_n_bool, ty_n_int, ty_n_str, ty_n_list, ty_n_tuple, ty_b_bool, ty_b_int, ty_b_str, ty_b_list, ty_b_tuple, ty_i_bool, ty_i_int, ty_i_str, ty_i_list, ty_i_tuple, ty_s_bool, ty_s_int, ty_s_str, ty_s_list, ty_s_tuple, ty_l_bool, ty_l_int, ty_l_str, ty_l_list, ty_l_tuple, ty_t_bool, ty_t_int, ty_t_str, ty_t_list, ty_t_tuple, dIs_nn, dIs_in, dIs_bn, dIs_sn, dIs_ln, dIs_tn, dNe_b, ev_A, aK_ok, aK_err, dMin_ok, dMax_ok, asZip_l, asZip_t, ev_pop, popK1_ok, dAdd_int, ofO_some, ofO_none, List.getElem?_cons_zero, List.getElem?_cons_succ, List.set_cons_zero, List.set_cons_succ, List.length_cons, List.length_nil, List.cons_append, List.nil_append, List.replicate_succ, List.replicate_zero, List.map_cons, List.map_nil, Option.join_some, List.append_nil, Nat.reduceAdd, Nat.reduceLT, Nat.reduceLeDiff, Nat.reduceSub, Nat.reduceEqDiff, if_true, if_false, decide_true, decide_false, Bool.false_eq_true, Bool.not_true, Bool.not_false, e, ix_abc r0 r1]
      rw [lcGo_yes (L1 := [some s, some (.d (.int m)), some (.d (.str abc)), some (.d d)]) (L2 := [some s, some (.d (.int m)), some (.d (.str abc)), some (.d d)]) [3] (fName 3) gYes _ d ds acc rfl rfl step (by omega)]
      rw [show wipeL [some s1, some (.d (.int m)), some (.d (.str abc)), some (.d d)] [3] = [some s1, some (.d (.int m)), some (.d (.str abc)), none] from rfl, e2, List.map_cons, List.append_assoc]
      rfl
    · rcases List.mem_cons.mp hc with rfl | hc
      · omega
      · exact k2 c hc
theorem strs_map (ws : List Nat) : strsOf (ws.map fun c => PyData.str (sOf [c])) = some (ws.map fun c => sOf [c]) := by
  induction ws with
  | nil => rfl
  | cons c ws ih =>
    show (strsOf (ws.map fun c => PyData.str (sOf [c]))).map (sOf [c] :: ·) = _
    rw [ih]
    rfl
theorem joinL_nil : ∀ l : List (List Nat), TL.joinL [] l = l.flatten
  | [] => rfl
  | [p] => by simp [TL.joinL]
  | p :: q :: r => by
    show p ++ ([] ++ TL.joinL [] (q :: r)) = _
    rw [List.nil_append, joinL_nil (q :: r)]
    rfl
theorem empty_list : ("" : Str).cps.toList = [] := by decide +kernel
theorem join_empty (ys : List (List Nat)) : Txt.join ("" : Str) (ys.map sOf) = sOf ys.flatten := by
  rw [sOf_of (Txt.join _ _), TL.join_eq]
  congr 1
  show TL.tl (Str.join _ _) = _
  rw [TL.tl_join, show TL.tl ("" : Str) = [] from empty_list, joinL_nil, List.map_map]
  congr 1
  rw [show (TL.tl ∘ sOf) = id from funext sOf_list, List.map_id]
theorem flat_one (ws : List Nat) : (ws.map fun c => [c]).flatten = ws := by
  induction ws with
  | nil => rfl
  | cons c ws ih => rw [List.map_cons, List.flatten_cons, ih]; rfl
theorem sum_one (ws : List Nat) : ((ws.map fun c => sOf [c]).map (·.length)).sum = ws.length := by
  induction ws with
  | nil => rfl
  | cons c ws ih =>
    rw [List.map_cons, List.map_cons, List.sum_cons, ih, sOf_len]
    simp only [List.length_cons, List.length_nil]
    omega
theorem join_chars {ws : List Nat} (h : ws.length ≤ 100000) : dJoin (.str "") (.list (ws.map fun c => PyData.str (sOf [c]))) = some (.str (sOf ws)) := by
  show (strsOf _).bind _ = _
  rw [strs_map]
  show (if joinOk "" (ws.map fun c => sOf [c]) then some (PyData.str (Txt.join "" (ws.map fun c => sOf [c]))) else none) = _
  have hj : joinOk "" (ws.map fun c => sOf [c]) = true := by
    unfold joinOk
    rw [sum_one, List.length_map, show (("" : Str).length) = 0 from by decide +kernel]
    exact decide_eq_true (by omega)
  rw [if_pos hj]
  have e : (ws.map fun c => sOf [c]) = (ws.map fun c => [c]).map sOf := by rw [List.map_map]; rfl
  rw [e, join_empty, flat_one]
theorem word_ok {s : S} (hs : Src s) {m : Int} (h0 : 0 ≤ m) (h1 : m ≤ 1000) : ∃ ws s', m_law_word [some s, some (.d (.int m))] = .ok (.d (.str (sOf ws))) [some s', none] ∧ ws.length = m.toNat ∧ Small ws ∧ Src s' := by
  obtain ⟨ws, s', e, l, k, h⟩ := word_go m (intsD 0 m.toNat) [] s hs (by rw [intsD_len, PySem.sizeLine_eq, List.length_nil]; omega)
  rw [intsD_len] at l
  refine ⟨ws, s', ?_, l, k, h⟩
  unfold m_law_word g_law_word
  simp only [ev_seq, seqK_nx, seqK_rt, seqK_bk, seqK_ct, seqK_err, ev_next, ev_if, ifK_ok, ifK_err, ev_asg, asgK_ok, asgK_err, ev_ret, retK_ok, retK_err, ev_retN, ev_drop, dropK_ok, dropK_err, ev_c, ev_d, dK_ok, dK_err, ev_fz, fzK_d, fzK_l, fzK_err, ev_op, opK1_ok, opK1_err, opK2_ok, opK2_err, ev_un, unK_ok, unK_err, ev_isi, ev_b, bK_ok, bK_err, ev_and, andK_ok, andK_err, ev_or, orK_ok, orK_err, ev_not, notK_ok, ev_andV, andVK_ok, ev_orV, orVK_ok, ev_ifE, ifEK_ok, ev_nil, ev_cons, consK1_ok, consK1_err, consK2_ok, consK2_err, ev_lst, lstK_ok, ev_tup, tupK_ok, ev_var, varK_d, varK_l, ev_peek, peekK_d, peekK_l, peekK_s, ev_move, moveK_d, moveK_l, ev_ixP, ixK_ok, ixK1_ok, ixK1_err, ixK2_ok, dIx_nat, dIx_natT, dIx_l0, dIx_l1, dIx_l2, dIx_l3, dIx_l4, dIx_t0, dIx_t1, dIx_t2, dIx_t3, ev_setIx, setK0_ok, setK0_err, setK1_ok, setK2_ok, setK3_0, setK3_1, setK3_2, setK3_3, setK3_4, ev_sl, slK1_ok, slK2_ok, slK3_ok, ev_no, ev_so, soK_ok, soK_err, ev_join, joinK1_ok, joinK2_ok, ev_app, appK1_ok, appK2_ok, appK2_err, appK3_ok, ev_a0, ev_aD, ev_aR, eaK1_ok, eaK1_err, eaK3_ok, eaK2_ok, eaK2_err, ev_call, callK_d1, callK_d2, callK_d3, callK_d4, callK_d5, callK_d6, callK_d7, callK_d8, callK_r0, callK_r1, callK_r2, callK_r3, callK_r4, callK_r5, callK_r6, callK_r7, callK_err, backK_ok, backK_err, slotOf_d, slotOf_r, putBack_d, putBack_r, putBack_nil, refs_nil, refs_d, refs_r, ev_run, endOf_nx, endOf_rt, endOf_err, maskL_t, maskL_f, maskL_nil, ev_for, forK_ok, forGo_nil, turnK_nx, turnK_ct, turnK_bk, turnK_rt, turnK_err, bind_ok, asItems_l, asItems_t, asItems_s, ev_name, ev_fnil, ev_fcons, ev_ftup, some_bind, ev_asgT, asgTK_ok, asgTK2_ok, ev_lc, lcK_ok, wipeL_nil, wipeL_cons, ev_yes, lcGo_nil, dLt_i, dLe_i, dGt_i, dGe_i, dEq_i, dEq_s, dEq_b, dNe_i, dNe_s, dIs_b, dSub_i, dLen_l, dLen_t, dList_l, dList_t, dSl_l, dNot_b, ty_n_bool, ty_n_int, ty_n_str, ty_n_list, ty_n_tuple, ty_b_bool, ty_b_int, ty_b_str, ty_b_list, ty_b_tuple, ty_i_bool, ty_i_int, ty_i_str, ty_i_list, ty_i_tuple, ty_s_bool, ty_s_int, ty_s_str, ty_s_list, ty_s_tuple, ty_l_bool, ty_l_int, ty_l_str, ty_l_list, ty_l_tuple, ty_t_bool, ty_t_int, ty_t_str, ty_t_list, ty_t_tuple, dIs_nn, dIs_in, dIs_bn, dIs_sn, dIs_ln, dIs_tn, dNe_b, ev_A, aK_ok, aK_err, dMin_ok, dMax_ok, asZip_l, asZip_t, ev_pop, popK1_ok, dAdd_int, ofO_some, ofO_none, List.getElem?_cons_zero, List.getElem?_cons_succ, List.set_cons_zero, List.set_cons_succ, List.length_cons, List.length_nil, List.cons_append, List.nil_append, List.replicate_succ, List.replicate_zero, List.map_cons, List.map_nil, Option.join_some, List.append_nil, Nat.reduceAdd, Nat.reduceLT, Nat.reduceLeDiff, Nat.reduceSub, Nat.reduceEqDiff, if_true, if_false, decide_true, decide_false, Bool.false_eq_true, Bool.not_true, Bool.not_false]
  rw [rng1_at h0 (by omega)]
  simp only [ev_seq, seqK_nx, seqK_rt, seqK_bk, seqK_ct, seqK_err, ev_next, ev_if, ifK_ok, ifK_err, ev_asg, asgK_ok, asgK_err, ev_ret, retK_ok, retK_err, ev_retN, ev_drop, dropK_ok, dropK_err, ev_c, ev_d, dK_ok, dK_err, ev_fz, fzK_d, fzK_l, fzK_err, ev_op, opK1_ok, opK1_err, opK2_ok, opK2_err, ev_un, unK_ok, unK_err, ev_isi, ev_b, bK_ok, bK_err, ev_and, andK_ok, andK_err, ev_or, orK_ok, orK_err, ev_not, notK_ok, ev_andV, andVK_ok, ev_orV, orVK_ok, ev_ifE, ifEK_ok, ev_nil, ev_cons, consK1_ok, consK1_err, consK2_ok, consK2_err, ev_lst, lstK_ok, ev_tup, tupK_ok, ev_var, varK_d, varK_l, ev_peek, peekK_d, peekK_l, peekK_s, ev_move, moveK_d, moveK_l, ev_ixP, ixK_ok, ixK1_ok, ixK1_err, ixK2_ok, dIx_nat, dIx_natT, dIx_l0, dIx_l1, dIx_l2, dIx_l3, dIx_l4, dIx_t0, dIx_t1, dIx_t2, dIx_t3, ev_setIx, setK0_ok, setK0_err, setK1_ok, setK2_ok, setK3_0, setK3_1, setK3_2, setK3_3, setK3_4, ev_sl, slK1_ok, slK2_ok, slK3_ok, ev_no, ev_so, soK_ok, soK_err, ev_join, joinK1_ok, joinK2_ok, ev_app, appK1_ok, appK2_ok, appK2_err, appK3_ok, ev_a0, ev_aD, ev_aR, eaK1_ok, eaK1_err, eaK3_ok, eaK2_ok, eaK2_err, ev_call, callK_d1, callK_d2, callK_d3, callK_d4, callK_d5, callK_d6, callK_d7, callK_d8, callK_r0, callK_r1, callK_r2, callK_r3, callK_r4, callK_r5, callK_r6, callK_r7, callK_err, backK_ok, backK_err, slotOf_d, slotOf_r, putBack_d, putBack_r, putBack_nil, refs_nil, refs_d, refs_r, ev_run, endOf_nx, endOf_rt, endOf_err, maskL_t, maskL_f, maskL_nil, ev_for, forK_ok, forGo_nil, turnK_nx, turnK_ct, turnK_bk, turnK_rt, turnK_err, bind_ok, asItems_l, asItems_t, asItems_s, ev_name, ev_fnil, ev_fcons, ev_ftup, some_bind, ev_asgT, asgTK_ok, asgTK2_ok, ev_lc, lcK_ok, wipeL_nil, wipeL_cons, ev_yes, lcGo_nil, dLt_i, dLe_i, dGt_i, dGe_i, dEq_i, dEq_s, dEq_b, dNe_i, dNe_s, dIs_b, dSub_i, dLen_l, dLen_t, dList_l, dList_t, dSl_l, dNot_b, ty_n_bool, ty_n_int, ty_n_str, ty_n_list, ty_n_tuple, ty_b_bool, ty_b_int, ty_b_str, ty_b_list, ty_b_tuple, ty_i_bool, ty_i_int, ty_i_str, ty_i_list, ty_i_tuple, ty_s_bool, ty_s_int, ty_s_str, ty_s_list, ty_s_tuple, ty_l_bool, ty_l_int, ty_l_str, ty_l_list, ty_l_tuple, ty_t_bool, ty_t_int, ty_t_str, ty_t_list, ty_t_tuple, dIs_nn, dIs_in, dIs_bn, dIs_sn, dIs_ln, dIs_tn, dNe_b, ev_A, aK_ok, aK_err, dMin_ok, dMax_ok, asZip_l, asZip_t, ev_pop, popK1_ok, dAdd_int, ofO_some, ofO_none, List.getElem?_cons_zero, List.getElem?_cons_succ, List.set_cons_zero, List.set_cons_succ, List.length_cons, List.length_nil, List.cons_append, List.nil_append, List.replicate_succ, List.replicate_zero, List.map_cons, List.map_nil, Option.join_some, List.append_nil, Nat.reduceAdd, Nat.reduceLT, Nat.reduceLeDiff, Nat.reduceSub, Nat.reduceEqDiff, if_true, if_false, decide_true, decide_false, Bool.false_eq_true, Bool.not_true, Bool.not_false, e, join_chars (ws := ws) (by omega)]
end Lw

namespace Lw
open PySem VS
/-! ### names -/
/-- a name by its codes -/
def Good (w : List Nat) : Prop := Small w ∧ 1 ≤ w.length ∧ w.length ≤ 12
abbrev nD (w : List Nat) : D := .str (sOf w)
theorem in_names (w : List Nat) (ns : List (List Nat)) : dInB (nD w) (.list (ns.map nD)) = some (decide (w ∈ ns)) := by
  have hf : ∀ l : List (List Nat), (l.map nD).all flatD = true := fun l => by
    induction l with
    | nil => rfl
    | cons x l ih => rw [List.map_cons, List.all_cons, ih]; rfl
  show (if inOk (nD w) (ns.map nD) then some ((ns.map nD).any fun z => z.eqv (nD w)) else none) = _
  rw [if_pos (.inl ⟨rfl, hf ns⟩)]
  congr 1
  induction ns with
  | nil => rfl
  | cons x l ih =>
    rw [List.map_cons, List.any_cons, ih, eqv_str]
    by_cases h : x = w
    · subst h
      simp
    · have h1 : ¬ sOf x = sOf w := fun z => h (sOf_inj z)
      have h2 : ¬ w = x := fun z => h z.symm
      simp [h1, h2]
theorem notIn_names (w : List Nat) (ns : List (List Nat)) : dNotIn (nD w) (.list (ns.map nD)) = some (.bool (!decide (w ∈ ns))) := by
  unfold dNotIn
  rw [in_names]
  rfl
theorem isIn_names (w : List Nat) (ns : List (List Nat)) : dIn (nD w) (.list (ns.map nD)) = some (.bool (decide (w ∈ ns))) := by
  unfold dIn
  rw [in_names]
  rfl
theorem dLen_n {w : List Nat} (h : w.length ≤ 100000) : dLen (nD w) = some (.int w.length) := by
  rw [dLen_s (by rw [sOf_len, PySem.sizeLine_eq]; omega), sOf_len]
theorem dAdd_n {a b : List Nat} (h : a.length + b.length ≤ 100000) : dAdd (nD a) (nD b) = some (.d (nD (a ++ b))) := by
  show dAdd (.str (sOf a)) (.str (sOf b)) = _
  rw [dAdd_str, if_pos (by rw [sOf_len, sOf_len, PySem.sizeLine_eq]; omega), sOf_app]
theorem cut_to {w : List Nat} {k : Int} (h : 0 ≤ k) : L2.cutS (sOf w) none (some k) = sOf (w.take k.toNat) := by
  unfold L2.cutS
  rw [sOf_len, sOf_list]
  have e : HT.sIx w.length 0 none = 0 := rfl
  have e2 : HT.sIx w.length w.length (some k) = min k.toNat w.length := by
    show (if k < 0 then (k + w.length).toNat else min k.toNat w.length) = _
    rw [if_neg (by omega)]
  rw [e, e2, List.drop_zero, Nat.sub_zero]
  unfold sOf
  congr 1
  congr 1
  by_cases hk : k.toNat ≤ w.length
  · rw [Nat.min_eq_left hk]
  · rw [Nat.min_eq_right (by omega), List.take_length, List.take_of_length_le (by omega)]
theorem cut_from {w : List Nat} {k : Int} (h : 0 ≤ k) : L2.cutS (sOf w) (some k) none = sOf (w.drop k.toNat) := by
  unfold L2.cutS
  rw [sOf_len, sOf_list]
  have e : HT.sIx w.length w.length none = w.length := rfl
  have e2 : HT.sIx w.length 0 (some k) = min k.toNat w.length := by
    show (if k < 0 then (k + w.length).toNat else min k.toNat w.length) = _
    rw [if_neg (by omega)]
  rw [e, e2]
  unfold sOf
  congr 1
  congr 1
  by_cases hk : k.toNat ≤ w.length
  · rw [Nat.min_eq_left hk, List.take_of_length_le (by rw [List.length_drop]; omega)]
  · rw [Nat.min_eq_right (by omega), Nat.sub_self, List.take_zero, List.drop_of_length_le (by omega)]
theorem dSl_to {w : List Nat} {k : Int} (h : 0 ≤ k) (hl : w.length ≤ 100000) : dSl (nD w) none (some k) = some (.d (nD (w.take k.toNat))) := by
  rw [dSl_s none (some k) (by rw [sOf_len, PySem.sizeLine_eq]; omega), cut_to h]
theorem dSl_from {w : List Nat} {k : Int} (h : 0 ≤ k) (hl : w.length ≤ 100000) : dSl (nD w) (some k) none = some (.d (nD (w.drop k.toNat))) := by
  rw [dSl_s (some k) none (by rw [sOf_len, PySem.sizeLine_eq]; omega), cut_from h]
theorem intsD_zero (lo : Int) : intsD lo 0 = [] := rfl
theorem intsD_succ (lo : Int) (m : Nat) : intsD lo (m + 1) = .int lo :: intsD (lo + 1) m := by
  unfold intsD
  rw [List.range_succ_eq_map, List.map_cons, List.map_map]
  congr 1
  · simp
  · apply List.map_congr_left
    intro a _
    show PyData.int (lo + ((a + 1 : Nat) : Int)) = PyData.int (lo + 1 + (a : Int))
    congr 1
    omega
theorem nodup_len {α : Type} [DecidableEq α] : ∀ (l ns : List α), l.Nodup → (∀ x ∈ l, x ∈ ns) → l.length ≤ ns.length
  | [], ns, _, _ => Nat.zero_le _
  | x :: l, ns, nd, h => by
    obtain ⟨h1, h2⟩ := List.nodup_cons.mp nd
    have hx : x ∈ ns := h x List.mem_cons_self
    have ih := nodup_len l (ns.erase x) h2 fun y hy => (List.mem_erase_of_ne (fun z => h1 (by rw [← z]; exact hy))).mpr (h y (List.mem_cons_of_mem _ hy))
    rw [List.length_erase_of_mem hx] at ih
    have : 0 < ns.length := List.length_pos_of_mem hx
    rw [List.length_cons]
    omega
/-- the names that are tried -/
def cand (stem : List Nat) (t : Nat) : List Nat := stem ++ [97 + t % 26, 97 + t / 26]
def tried (w stem : List Nat) : Nat → List Nat
  | 0 => w
  | t + 1 => cand stem t
theorem cand_inj {stem : List Nat} {a b : Nat} (h : cand stem a = cand stem b) : a = b := by
  have h' := List.append_cancel_left h
  injection h' with h1 h2
  injection h2 with h2 _
  omega
theorem unlike_go (ns : List (List Nat)) (w stem : List Nat) (hs : stem.length ≤ 10) (hw : w.length ≤ 12) : ∀ (k t : Nat) (o : Option S), t + k ≤ 600 → (∃ t' L, t ≤ t' ∧ t' < t + k ∧
      forGo (fName 4) (gSeq (gIf (gB (gOp dNotIn (gPeek 1) (gPeek 0))) (gRet (gMove 1)) gNext) (gAsg 1 (gOp dAdd (gFz (gOp dAdd (gVar 3) (gIxP 2 (gOp dMod (gVar 4) (gC (.int 26)))))) (gIxP 2 (gOp dDiv (gVar 4) (gC (.int 26)))))))
        (intsD t k) [some (.ol (ns.map nD)), some (.d (nD (tried w stem t))), some (.d (.str abc)), some (.d (nD stem)), o] = .ok (.rt (.d (nD (tried w stem t')))) (some (.ol (ns.map nD)) :: some (.d (nD (tried w stem t'))) :: L) ∧ tried w stem t' ∉ ns) ∨
    ((∀ j, t ≤ j → j < t + k → tried w stem j ∈ ns) ∧ ∃ o', forGo (fName 4) (gSeq (gIf (gB (gOp dNotIn (gPeek 1) (gPeek 0))) (gRet (gMove 1)) gNext) (gAsg 1 (gOp dAdd (gFz (gOp dAdd (gVar 3) (gIxP 2 (gOp dMod (gVar 4) (gC (.int 26)))))) (gIxP 2 (gOp dDiv (gVar 4) (gC (.int 26)))))))
        (intsD t k) [some (.ol (ns.map nD)), some (.d (nD (tried w stem t))), some (.d (.str abc)), some (.d (nD stem)), o] = .ok .nx [some (.ol (ns.map nD)), some (.d (nD (tried w stem (t + k)))), some (.d (.str abc)), some (.d (nD stem)), o'])
  | 0, t, o, _ => .inr ⟨fun j h1 h2 => by omega, o, rfl⟩
  | k + 1, t, o, hk => by
    rw [intsD_succ, forGo_cons (L1 := [some (.ol (ns.map nD)), some (.d (nD (tried w stem t))), some (.d (.str abc)), some (.d (nD stem)), some (.d (.int t))]) _ _ _ _ rfl]
    by_cases hin : tried w stem t ∈ ns
    · have e1 : (t : Int) % 26 = ((t % 26 : Nat) : Int) := by omega
      have e2 : (t : Int) / 26 = ((t / 26 : Nat) : Int) := by omega
      have step : gSeq (gIf (gB (gOp dNotIn (gPeek 1) (gPeek 0))) (gRet (gMove 1)) gNext) (gAsg 1 (gOp dAdd (gFz (gOp dAdd (gVar 3) (gIxP 2 (gOp dMod (gVar 4) (gC (.int 26)))))) (gIxP 2 (gOp dDiv (gVar 4) (gC (.int 26))))))
          [some (.ol (ns.map nD)), some (.d (nD (tried w stem t))), some (.d (.str abc)), some (.d (nD stem)), some (.d (.int t))] = .ok .nx [some (.ol (ns.map nD)), some (.d (nD (tried w stem (t + 1)))), some (.d (.str abc)), some (.d (nD stem)), some (.d (.int t))] := by
        simp only [ev_seq, seqK_nx, seqK_rt, seqK_bk, seqK_ct, seqK_err, ev_next, ev_if, ifK_ok, ifK_err, ev_asg, asgK_ok, asgK_err, ev_ret, retK_ok, retK_err, ev_retN, ev_drop, dropK_ok, dropK_err, ev_c, ev_d, dK_ok, dK_err, ev_fz, fzK_d, fzK_l, fzK_err, ev_op, opK1_ok, opK1_err, opK2_ok, opK2_err, ev_un, unK_ok, unK_err, ev_isi, ev_b, bK_ok, bK_err, ev_and, andK_ok, andK_err, ev_or, orK_ok, orK_err, ev_not, notK_ok, ev_andV, andVK_ok, ev_orV, orVK_ok, ev_ifE, ifEK_ok, ev_nil, ev_cons, consK1_ok, consK1_err, consK2_ok, consK2_err, ev_lst, lstK_ok, ev_tup, tupK_ok, ev_var, varK_d, varK_l, ev_peek, peekK_d, peekK_l, peekK_s, ev_move, moveK_d, moveK_l, ev_ixP, ixK_ok, ixK1_ok, ixK1_err, ixK2_ok, dIx_nat, dIx_natT, dIx_l0, dIx_l1, dIx_l2, dIx_l3, dIx_l4, dIx_t0, dIx_t1, dIx_t2, dIx_t3, ev_setIx, setK0_ok, setK0_err, setK1_ok, setK2_ok, setK3_0, setK3_1, setK3_2, setK3_3, setK3_4, ev_sl, slK1_ok, slK2_ok, slK3_ok, ev_no, ev_so, soK_ok, soK_err, ev_join, joinK1_ok, joinK2_ok, ev_app, appK1_ok, appK2_ok, appK2_err, appK3_ok, ev_a0, ev_aD, ev_aR, eaK1_ok, eaK1_err, eaK3_ok, eaK2_ok, eaK2_err, ev_call, callK_d1, callK_d2, callK_d3, callK_d4, callK_d5, callK_d6, callK_d7, callK_d8, callK_r0, callK_r1, callK_r2, callK_r3, callK_r4, callK_r5, callK_r6, callK_r7, callK_err, backK_ok, backK_err, slotOf_d, slotOf_r, putBack_d, putBack_r, putBack_nil, refs_nil, refs_d, refs_r, ev_run, endOf_nx, endOf_rt, endOf_err, maskL_t, maskL_f, maskL_nil, ev_for, forK_ok, forGo_nil, turnK_nx, turnK_ct, turnK_bk, turnK_rt, turnK_err, bind_ok, asItems_l, asItems_t, asItems_s, ev_name, ev_fnil, ev_fcons, ev_ftup, some_bind, ev_asgT, asgTK_ok, asgTK2_ok, ev_lc, lcK_ok, wipeL_nil, wipeL_cons, ev_yes, lcGo_nil, dLt_i, dLe_i, dGt_i, dGe_i, dEq_i, dEq_s, dEq_b, dNe_i, dNe_s, dIs_b, dSub_i, dLen_l, dLen_t, dList_l, dList_t, dSl_l, dNot_b, ty_n_bool, ty_n_int, ty_n_str, ty_n_list, ty_n_tuple, ty_b_bool, ty_b_int, ty_b_str, ty_b_list, ty_b_tuple, ty_i_bool, ty_i_int, ty_i_str, ty_i_list, ty_i_tuple, ty_s_bool, ty_s_int, ty_s_str, ty_s_list, ty_s_tuple, ty_l_bool, ty_l_int, ty_l_str, ty_l_list, ty_l_tuple, ty_t_bool, ty_t_int, ty_t_str, ty_t_list, ty_t_tuple, dIs_nn, dIs_in, dIs_bn, dIs_sn, dIs_ln, dIs_tn, dNe_b, ev_A, aK_ok, aK_err, dMin_ok, dMax_ok, asZip_l, asZip_t, ev_pop, popK1_ok, dAdd_int, ofO_some, ofO_none, List.getElem?_cons_zero, List.getElem?_cons_succ, List.set_cons_zero, List.set_cons_succ, List.length_cons, List.length_nil, List.cons_append, List.nil_append, List.replicate_succ, List.replicate_zero, List.map_cons, List.map_nil, Option.join_some, List.append_nil, Nat.reduceAdd, Nat.reduceLT, Nat.reduceLeDiff, Nat.reduceSub, Nat.reduceEqDiff, if_true, if_false, decide_true, decide_false, Bool.false_eq_true, Bool.not_true, Bool.not_false, notIn_names, hin, dMod_ok (show (0 : Int) < 26 by decide), dDiv_ok (show (0 : Int) < 26 by decide) (show (26 : Int) < 1073741824 by decide)]
        rw [ix_abc (r := (t : Int) % 26) (by omega) (by omega)]
        simp only [ev_seq, seqK_nx, seqK_rt, seqK_bk, seqK_ct, seqK_err, ev_next, ev_if, ifK_ok, ifK_err, ev_asg, asgK_ok, asgK_err, ev_ret, retK_ok, retK_err, ev_retN, ev_drop, dropK_ok, dropK_err, ev_c, ev_d, dK_ok, dK_err, ev_fz, fzK_d, fzK_l, fzK_err, ev_op, opK1_ok, opK1_err, opK2_ok, opK2_err, ev_un, unK_ok, unK_err, ev_isi, ev_b, bK_ok, bK_err, ev_and, andK_ok, andK_err, ev_or, orK_ok, orK_err, ev_not, notK_ok, ev_andV, andVK_ok, ev_orV, orVK_ok, ev_ifE, ifEK_ok, ev_nil, ev_cons, consK1_ok, consK1_err, consK2_ok, consK2_err, ev_lst, lstK_ok, ev_tup, tupK_ok, ev_var, varK_d, varK_l, ev_peek, peekK_d, peekK_l, peekK_s, ev_move, moveK_d, moveK_l, ev_ixP, ixK_ok, ixK1_ok, ixK1_err, ixK2_ok, dIx_nat, dIx_natT, dIx_l0, dIx_l1, dIx_l2, dIx_l3, dIx_l4, dIx_t0, dIx_t1, dIx_t2, dIx_t3, ev_setIx, setK0_ok, setK0_err, setK1_ok, setK2_ok, setK3_0, setK3_1, setK3_2, setK3_3, setK3_4, ev_sl, slK1_ok, slK2_ok, slK3_ok, ev_no, ev_so, soK_ok, soK_err, ev_join, joinK1_ok, joinK2_ok, ev_app, appK1_ok, appK2_ok, appK2_err, appK3_ok, ev_a0, ev_aD, ev_aR, eaK1_ok, eaK1_err, eaK3_ok, eaK2_ok, eaK2_err, ev_call, callK_d1, callK_d2, callK_d3, callK_d4, callK_d5, callK_d6, callK_d7, callK_d8, callK_r0, callK_r1, callK_r2, callK_r3, callK_r4, callK_r5, callK_r6, callK_r7, callK_err, backK_ok, backK_err, slotOf_d, slotOf_r, putBack_d, putBack_r, putBack_nil, refs_nil, refs_d, refs_r, ev_run, endOf_nx, endOf_rt, endOf_err, maskL_t, maskL_f, maskL_nil, ev_for, forK_ok, forGo_nil, turnK_nx, turnK_ct, turnK_bk, turnK_rt, turnK_err, bind_ok, asItems_l, asItems_t, asItems_s, ev_name, ev_fnil, ev_fcons, ev_ftup, some_bind, ev_asgT, asgTK_ok, asgTK2_ok, ev_lc, lcK_ok, wipeL_nil, wipeL_cons, ev_yes, lcGo_nil, dLt_i, dLe_i, dGt_i, dGe_i, dEq_i, dEq_s, dEq_b, dNe_i, dNe_s, dIs_b, dSub_i, dLen_l, dLen_t, dList_l, dList_t, dSl_l, dNot_b, ty_n_bool, ty_n_int, ty_n_str, ty_n_list, ty_n_tuple, ty_b_bool, ty_b_int, ty_b_str, ty_b_list, ty_b_tuple, ty_i_bool, ty_i_int, ty_i_str, ty_i_list, ty_i_tuple, ty_s_bool, ty_s_int, ty_s_str, ty_s_list, ty_s_tuple, ty_l_bool, ty_l_int, ty_l_str, ty_l_list, ty_l_tuple, ty_t_bool, ty_t_int, ty_t_str, ty_t_list, ty_t_tuple, dIs_nn, dIs_in, dIs_bn, dIs_sn, dIs_ln, dIs_tn, dNe_b, ev_A, aK_ok, aK_err, dMin_ok, dMax_ok, asZip_l, asZip_t, ev_pop, popK1_ok, dAdd_int, ofO_some, ofO_none, List.getElem?_cons_zero, List.getElem?_cons_succ, List.set_cons_zero, List.set_cons_succ, List.length_cons, List.length_nil, List.cons_append, List.nil_append, List.replicate_succ, List.replicate_zero, List.map_cons, List.map_nil, Option.join_some, List.append_nil, Nat.reduceAdd, Nat.reduceLT, Nat.reduceLeDiff, Nat.reduceSub, Nat.reduceEqDiff, if_true, if_false, decide_true, decide_false, Bool.false_eq_true, Bool.not_true, Bool.not_false]
        rw [dAdd_n (a := stem) (b := [97 + ((t : Int) % 26).toNat]) (by simp; omega)]
        simp only [ev_seq, seqK_nx, seqK_rt, seqK_bk, seqK_ct, seqK_err, ev_next, ev_if, ifK_ok, ifK_err, ev_asg, asgK_ok, asgK_err, ev_ret, retK_ok, retK_err, ev_retN, ev_drop, dropK_ok, dropK_err, ev_c, ev_d, dK_ok, dK_err, ev_fz, fzK_d, fzK_l, fzK_err, ev_op, opK1_ok, opK1_err, opK2_ok, opK2_err, ev_un, unK_ok, unK_err, ev_isi, ev_b, bK_ok, bK_err, ev_and, andK_ok, andK_err, ev_or, orK_ok, orK_err, ev_not, notK_ok, ev_andV, andVK_ok, ev_orV, orVK_ok, ev_ifE, ifEK_ok, ev_nil, ev_cons, consK1_ok, consK1_err, consK2_ok, consK2_err, ev_lst, lstK_ok, ev_tup, tupK_ok, ev_var, varK_d, varK_l, ev_peek, peekK_d, peekK_l, peekK_s, ev_move, moveK_d, moveK_l, ev_ixP, ixK_ok, ixK1_ok, ixK1_err, ixK2_ok, dIx_nat, dIx_natT, dIx_l0, dIx_l1, dIx_l2, dIx_l3, dIx_l4, dIx_t0, dIx_t1, dIx_t2, dIx_t3, ev_setIx, setK0_ok, setK0_err, setK1_ok, setK2_ok, setK3_0, setK3_1, setK3_2, setK3_3, setK3_4, ev_sl, slK1_ok, slK2_ok, slK3_ok, ev_no, ev_so, soK_ok, soK_err, ev_join, joinK1_ok, joinK2_ok, ev_app, appK1_ok, appK2_ok, appK2_err, appK3_ok, ev_a0, ev_aD, ev_aR, eaK1_ok, eaK1_err, eaK3_ok, eaK2_ok, eaK2_err, ev_call, callK_d1, callK_d2, callK_d3, callK_d4, callK_d5, callK_d6, callK_d7, callK_d8, callK_r0, callK_r1, callK_r2, callK_r3, callK_r4, callK_r5, callK_r6, callK_r7, callK_err, backK_ok, backK_err, slotOf_d, slotOf_r, putBack_d, putBack_r, putBack_nil, refs_nil, refs_d, refs_r, ev_run, endOf_nx, endOf_rt, endOf_err, maskL_t, maskL_f, maskL_nil, ev_for, forK_ok, forGo_nil, turnK_nx, turnK_ct, turnK_bk, turnK_rt, turnK_err, bind_ok, asItems_l, asItems_t, asItems_s, ev_name, ev_fnil, ev_fcons, ev_ftup, some_bind, ev_asgT, asgTK_ok, asgTK2_ok, ev_lc, lcK_ok, wipeL_nil, wipeL_cons, ev_yes, lcGo_nil, dLt_i, dLe_i, dGt_i, dGe_i, dEq_i, dEq_s, dEq_b, dNe_i, dNe_s, dIs_b, dSub_i, dLen_l, dLen_t, dList_l, dList_t, dSl_l, dNot_b, ty_n_bool, ty_n_int, ty_n_str, ty_n_list, ty_n_tuple, ty_b_bool, ty_b_int, ty_b_str, ty_b_list, ty_b_tuple, ty_i_bool, ty_i_int, ty_i_str, ty_i_list, ty_i_tuple, ty_s_bool, ty_s_int, ty_s_str, ty_s_list, ty_s_tuple, ty_l_bool, ty_l_int, ty_l_str, ty_l_list, ty_l_tuple, ty_t_bool, ty_t_int, ty_t_str, ty_t_list, ty_t_tuple, dIs_nn, dIs_in, dIs_bn, dIs_sn, dIs_ln, dIs_tn, dNe_b, ev_A, aK_ok, aK_err, dMin_ok, dMax_ok, asZip_l, asZip_t, ev_pop, popK1_ok, dAdd_int, ofO_some, ofO_none, List.getElem?_cons_zero, List.getElem?_cons_succ, List.set_cons_zero, List.set_cons_succ, List.length_cons, List.length_nil, List.cons_append, List.nil_append, List.replicate_succ, List.replicate_zero, List.map_cons, List.map_nil, Option.join_some, List.append_nil, Nat.reduceAdd, Nat.reduceLT, Nat.reduceLeDiff, Nat.reduceSub, Nat.reduceEqDiff, if_true, if_false, decide_true, decide_false, Bool.false_eq_true, Bool.not_true, Bool.not_false, dMod_ok (show (0 : Int) < 26 by decide), dDiv_ok (show (0 : Int) < 26 by decide) (show (26 : Int) < 1073741824 by decide)]
        rw [ix_abc (r := (t : Int) / 26) (by omega) (by omega)]
        simp only [ev_seq, seqK_nx, seqK_rt, seqK_bk, seqK_ct, seqK_err, ev_next, ev_if, ifK_ok, ifK_err, ev_asg, asgK_ok, asgK_err, ev_ret, retK_ok, retK_err, ev_retN, ev_drop, dropK_ok, dropK_err, ev_c, ev_d, dK_ok, dK_err, ev_fz, fzK_d, fzK_l, fzK_err, ev_op, opK1_ok, opK1_err, opK2_ok, opK2_err, ev_un, unK_ok, unK_err, ev_isi, ev_b, bK_ok, bK_err, ev_and, andK_ok, andK_err, ev_or, orK_ok, orK_err, ev_not, notK_ok, ev_andV, andVK_ok, ev_orV, orVK_ok, ev_ifE, ifEK_ok, ev_nil, ev_cons, consK1_ok, consK1_err, consK2_ok, consK2_err, ev_lst, lstK_ok, ev_tup, tupK_ok, ev_var, varK_d, varK_l, ev_peek, peekK_d, peekK_l, peekK_s, ev_move, moveK_d, moveK_l, ev_ixP, ixK_ok, ixK1_ok, ixK1_err, ixK2_ok, dIx_nat, dIx_natT, dIx_l0, dIx_l1, dIx_l2, dIx_l3, dIx_l4, dIx_t0, dIx_t1, dIx_t2, dIx_t3, ev_setIx, setK0_ok, setK0_err, setK1_ok, setK2_ok, setK3_0, setK3_1, setK3_2, setK3_3, setK3_4, ev_sl, slK1_ok, slK2_ok, slK3_ok, ev_no, ev_so, soK_ok, soK_err, ev_join, joinK1_ok, joinK2_ok, ev_app, appK1_ok, appK2_ok, appK2_err, appK3_ok, ev_a0, ev_aD, ev_aR, eaK1_ok, eaK1_err, eaK3_ok, eaK2_ok, eaK2_err, ev_call, callK_d1, callK_d2, callK_d3, callK_d4, callK_d5, callK_d6, callK_d7, callK_d8, callK_r0, callK_r1, callK_r2, callK_r3, callK_r4, callK_r5, callK_r6, callK_r7, callK_err, backK_ok, backK_err, slotOf_d, slotOf_r, putBack_d, putBack_r, putBack_nil, refs_nil, refs_d, refs_r, ev_run, endOf_nx, endOf_rt, endOf_err, maskL_t, maskL_f, maskL_nil, ev_for, forK_ok, forGo_nil, turnK_nx, turnK_ct, turnK_bk, turnK_rt, turnK_err, bind_ok, asItems_l, asItems_t, asItems_s, ev_name, ev_fnil, ev_fcons, ev_ftup, some_bind, ev_asgT, asgTK_ok, asgTK2_ok, ev_lc, lcK_ok, wipeL_nil, wipeL_cons, ev_yes, lcGo_nil, dLt_i, dLe_i, dGt_i, dGe_i, dEq_i, dEq_s, dEq_b, dNe_i, dNe_s, dIs_b, dSub_i, dLen_l, dLen_t, dList_l, dList_t, dSl_l, dNot_b, ty_n_bool, ty_n_int, ty_n_str, ty_n_list, ty_n_tuple, ty_b_bool, ty_b_int, ty_b_str, ty_b_list, ty_b_tuple, ty_i_bool, ty_i_int, ty_i_str, ty_i_list, ty_i_tuple, ty_s_bool, ty_s_int, ty_s_str, ty_s_list, ty_s_tuple, ty_l_bool, ty_l_int, ty_l_str, ty_l_list, ty_l_tuple, ty_t_bool, ty_t_int, ty_t_str, ty_t_list, ty_t_tuple, dIs_nn, dIs_in, dIs_bn, dIs_sn, dIs_ln, dIs_tn, dNe_b, ev_A, aK_ok, aK_err, dMin_ok, dMax_ok, asZip_l, asZip_t, ev_pop, popK1_ok, dAdd_int, ofO_some, ofO_none, List.getElem?_cons_zero, List.getElem?_cons_succ, List.set_cons_zero, List.set_cons_succ, List.length_cons, List.length_nil, List.cons_append, List.nil_append, List.replicate_succ, List.replicate_zero, List.map_cons, List.map_nil, Option.join_some, List.append_nil, Nat.reduceAdd, Nat.reduceLT, Nat.reduceLeDiff, Nat.reduceSub, Nat.reduceEqDiff, if_true, if_false, decide_true, decide_false, Bool.false_eq_true, Bool.not_true, Bool.not_false]
        rw [dAdd_n (a := stem ++ [97 + ((t : Int) % 26).toNat]) (b := [97 + ((t : Int) / 26).toNat]) (by simp; omega)]
        simp only [ev_seq, seqK_nx, seqK_rt, seqK_bk, seqK_ct, seqK_err, ev_next, ev_if, ifK_ok, ifK_err, ev_asg, asgK_ok, asgK_err, ev_ret, retK_ok, retK_err, ev_retN, ev_drop, dropK_ok, dropK_err, ev_c, ev_d, dK_ok, dK_err, ev_fz, fzK_d, fzK_l, fzK_err, ev_op, opK1_ok, opK1_err, opK2_ok, opK2_err, ev_un, unK_ok, unK_err, ev_isi, ev_b, bK_ok, bK_err, ev_and, andK_ok, andK_err, ev_or, orK_ok, orK_err, ev_not, notK_ok, ev_andV, andVK_ok, ev_orV, orVK_ok, ev_ifE, ifEK_ok, ev_nil, ev_cons, consK1_ok, consK1_err, consK2_ok, consK2_err, ev_lst, lstK_ok, ev_tup, tupK_ok, ev_var, varK_d, varK_l, ev_peek, peekK_d, peekK_l, peekK_s, ev_move, moveK_d, moveK_l, ev_ixP, ixK_ok, ixK1_ok, ixK1_err, ixK2_ok, dIx_nat, dIx_natT, dIx_l0, dIx_l1, dIx_l2, dIx_l3, dIx_l4, dIx_t0, dIx_t1, dIx_t2, dIx_t3, ev_setIx, setK0_ok, setK0_err, setK1_ok, setK2_ok, setK3_0, setK3_1, setK3_2, setK3_3, setK3_4, ev_sl, slK1_ok, slK2_ok, slK3_ok, ev_no, ev_so, soK_ok, soK_err, ev_join, joinK1_ok, joinK2_ok, ev_app, appK1_ok, appK2_ok, appK2_err, appK3_ok, ev_a0, ev_aD, ev_aR, eaK1_ok, eaK1_err, eaK3_ok, eaK2_ok, eaK2_err, ev_call, callK_d1, callK_d2, callK_d3, callK_d4, callK_d5, callK_d6, callK_d7, callK_d8, callK_r0, callK_r1, callK_r2, callK_r3, callK_r4, callK_r5, callK_r6, callK_r7, callK_err, backK_ok, backK_err, slotOf_d, slotOf_r, putBack_d, putBack_r, putBack_nil, refs_nil, refs_d, refs_r, ev_run, endOf_nx, endOf_rt, endOf_err, maskL_t, maskL_f, maskL_nil, ev_for, forK_ok, forGo_nil, turnK_nx, turnK_ct, turnK_bk, turnK_rt, turnK_err, bind_ok, asItems_l, asItems_t, asItems_s, ev_name, ev_fnil, ev_fcons, ev_ftup, some_bind, ev_asgT, asgTK_ok, asgTK2_ok, ev_lc, lcK_ok, wipeL_nil, wipeL_cons, ev_yes, lcGo_nil, dLt_i, dLe_i, dGt_i, dGe_i, dEq_i, dEq_s, dEq_b, dNe_i, dNe_s, dIs_b, dSub_i, dLen_l, dLen_t, dList_l, dList_t, dSl_l, dNot_b, ty_n_bool, ty_n_int, ty_n_str, ty_n_list, ty_n_tuple, ty_b_bool, ty_b_int, ty_b_str, ty_b_list, ty_b_tuple, ty_i_bool, ty_i_int, ty_i_str, ty_i_list, ty_i_tuple, ty_s_bool, ty_s_int, ty_s_str, ty_s_list, ty_s_tuple, ty_l_bool, ty_l_int, ty_l_str, ty_l_list, ty_l_tuple, ty_t_bool, ty_t_int, ty_t_str, ty_t_list, ty_t_tuple, dIs_nn, dIs_in, dIs_bn, dIs_sn, dIs_ln, dIs_tn, dNe_b, ev_A, aK_ok, aK_err, dMin_ok, dMax_ok, asZip_l, asZip_t, ev_pop, popK1_ok, dAdd_int, ofO_some, ofO_none, List.getElem?_cons_zero, List.getElem?_cons_succ, List.set_cons_zero, List.set_cons_succ, List.length_cons, List.length_nil, List.cons_append, List.nil_append, List.replicate_succ, List.replicate_zero, List.map_cons, List.map_nil, Option.join_some, List.append_nil, Nat.reduceAdd, Nat.reduceLT, Nat.reduceLeDiff, Nat.reduceSub, Nat.reduceEqDiff, if_true, if_false, decide_true, decide_false, Bool.false_eq_true, Bool.not_true, Bool.not_false]
        rw [e1, e2, Int.toNat_natCast, Int.toNat_natCast, List.append_assoc]
        rfl
      rw [step, turnK_nx]
      rcases unlike_go ns w stem hs hw k (t + 1) (some (.d (.int t))) (by omega) with ⟨t', L, h1, h2, h3, h4⟩ | ⟨h1, o', h2⟩
      · exact .inl ⟨t', L, by omega, by omega, h3, h4⟩
      · refine .inr ⟨fun j h3 h4 => ?_, o', ?_⟩
        · by_cases hj : j = t
          · rw [hj]
            exact hin
          · exact h1 j (by omega) (by omega)
        · have e : t + 1 + k = t + (k + 1) := by omega
          rw [e] at h2
          exact h2
    · refine .inl ⟨t, [some (.d (.str abc)), some (.d (nD stem)), some (.d (.int t))], Nat.le_refl t, by omega, ?_, hin⟩
      have step : gSeq (gIf (gB (gOp dNotIn (gPeek 1) (gPeek 0))) (gRet (gMove 1)) gNext) (gAsg 1 (gOp dAdd (gFz (gOp dAdd (gVar 3) (gIxP 2 (gOp dMod (gVar 4) (gC (.int 26)))))) (gIxP 2 (gOp dDiv (gVar 4) (gC (.int 26))))))
          [some (.ol (ns.map nD)), some (.d (nD (tried w stem t))), some (.d (.str abc)), some (.d (nD stem)), some (.d (.int t))] = .ok (.rt (.d (nD (tried w stem t)))) [some (.ol (ns.map nD)), some (.d (nD (tried w stem t))), some (.d (.str abc)), some (.d (nD stem)), some (.d (.int t))] := by
        simp only [ev_seq, seqK_nx, seqK_rt, seqK_bk, seqK_ct, seqK_err, ev_next, ev_if, ifK_ok, ifK_err, ev_asg, asgK_ok, asgK_err, ev_ret, retK_ok, retK_err, ev_retN, ev_drop, dropK_ok, dropK_err, ev_c, ev_d, dK_ok, dK_err, ev_fz, fzK_d, fzK_l, fzK_err, ev_op, opK1_ok, opK1_err, opK2_ok, opK2_err, ev_un, unK_ok, unK_err, ev_isi, ev_b, bK_ok, bK_err, ev_and, andK_ok, andK_err, ev_or, orK_ok, orK_err, ev_not, notK_ok, ev_andV, andVK_ok, ev_orV, orVK_ok, ev_ifE, ifEK_ok, ev_nil, ev_cons, consK1_ok, consK1_err, consK2_ok, consK2_err, ev_lst, lstK_ok, ev_tup, tupK_ok, ev_var, varK_d, varK_l, ev_peek, peekK_d, peekK_l, peekK_s, ev_move, moveK_d, moveK_l, ev_ixP, ixK_ok, ixK1_ok, ixK1_err, ixK2_ok, dIx_nat, dIx_natT, dIx_l0, dIx_l1, dIx_l2, dIx_l3, dIx_l4, dIx_t0, dIx_t1, dIx_t2, dIx_t3, ev_setIx, setK0_ok, setK0_err, setK1_ok, setK2_ok, setK3_0, setK3_1, setK3_2, setK3_3, setK3_4, ev_sl, slK1_ok, slK2_ok, slK3_ok, ev_no, ev_so, soK_ok, soK_err, ev_join, joinK1_ok, joinK2_ok, ev_app, appK1_ok, appK2_ok, appK2_err, appK3_ok, ev_a0, ev_aD, ev_aR, eaK1_ok, eaK1_err, eaK3_ok, eaK2_ok, eaK2_err, ev_call, callK_d1, callK_d2, callK_d3, callK_d4, callK_d5, callK_d6, callK_d7, callK_d8, callK_r0, callK_r1, callK_r2, callK_r3, callK_r4, callK_r5, callK_r6, callK_r7, callK_err, backK_ok, backK_err, slotOf_d, slotOf_r, putBack_d, putBack_r, putBack_nil, refs_nil, refs_d, refs_r, ev_run, endOf_nx, endOf_rt, endOf_err, maskL_t, maskL_f, maskL_nil, ev_for, forK_ok, forGo_nil, turnK_nx, turnK_ct, turnK_bk, turnK_rt, turnK_err, bind_ok, asItems_l, asItems_t, asItems_s, ev_name, ev_fnil, ev_fcons, ev_ftup, some_bind, ev_asgT, asgTK_ok, asgTK2_ok, ev_lc, lcK_ok, wipeL_nil, wipeL_cons, ev_yes, lcGo_nil, dLt_i, dLe_i, dGt_i, dGe_i, dEq_i, dEq_s, dEq_b, dNe_i, dNe_s, dIs_b, dSub_i, dLen_l, dLen_t, dList_l, dList_t, dSl_l, dNot_b, ty_n_bool, ty_n_int, ty_n_str, ty_n_list, ty_n_tuple, ty_b_bool, ty_b_int, ty_b_str, ty_b_list, ty_b_tuple, ty_i_bool, ty_i_int, ty_i_str, ty_i_list, ty_i_tuple, ty_s_bool, ty_s_int, ty_s_str, ty_s_list, ty_s_tuple, ty_l_bool, ty_l_int, ty_l_str, ty_l_list, ty_l_tuple, ty_t_bool, ty_t_int, ty_t_str, ty_t_list, ty_t_tuple, dIs_nn, dIs_in, dIs_bn, dIs_sn, dIs_ln, dIs_tn, dNe_b, ev_A, aK_ok, aK_err, dMin_ok, dMax_ok, asZip_l, asZip_t, ev_pop, popK1_ok, dAdd_int, ofO_some, ofO_none, List.getElem?_cons_zero, List.getElem?_cons_succ, List.set_cons_zero, List.set_cons_succ, List.length_cons, List.length_nil, List.cons_append, List.nil_append, List.replicate_succ, List.replicate_zero, List.map_cons, List.map_nil, Option.join_some, List.append_nil, Nat.reduceAdd, Nat.reduceLT, Nat.reduceLeDiff, Nat.reduceSub, Nat.reduceEqDiff, if_true, if_false, decide_true, decide_false, Bool.false_eq_true, Bool.not_true, Bool.not_false, notIn_names, hin]
      rw [step, turnK_rt]
theorem tried_good {w : List Nat} (hw : Good w) {t : Nat} (ht : t ≤ 600) : Good (tried w (w.take 10) t) := by
  cases t with
  | zero => exact hw
  | succ t =>
    refine ⟨(hw.1.take 10).app fun c hc => ?_, ?_, ?_⟩
    · rcases List.mem_cons.mp hc with rfl | hc
      · omega
      · rw [List.mem_singleton] at hc
        omega
    · show 1 ≤ (w.take 10 ++ _).length
      rw [List.length_append]
      simp
    · show (w.take 10 ++ _).length ≤ 12
      rw [List.length_append, List.length_take]
      simp
      omega
theorem unlike_pre (ns : List (List Nat)) (w : List Nat) (hw : w.length ≤ 12) (X : LS → R O) : runDef [true, false] 5 (gSeq (gAsg 2 (gD (gC (.str abc)))) (gSeq (gAsg 3 (gSl (gPeek 1) gNo (gSo (gC (.int 10))))) X)) [some (.ol (ns.map nD)), some (.d (nD w))] = endOf [true, false] (X [some (.ol (ns.map nD)), some (.d (nD w)), some (.d (.str abc)), some (.d (nD (w.take 10))), none]) := by
  have h10 : dSl (nD w) none (some 10) = some (.d (nD (w.take 10))) := dSl_to (by decide) (by omega)
  simp only [ev_seq, seqK_nx, seqK_rt, seqK_bk, seqK_ct, seqK_err, ev_next, ev_if, ifK_ok, ifK_err, ev_asg, asgK_ok, asgK_err, ev_ret, retK_ok, retK_err, ev_retN, ev_drop, dropK_ok, dropK_err, ev_c, ev_d, dK_ok, dK_err, ev_fz, fzK_d, fzK_l, fzK_err, ev_op, opK1_ok, opK1_err, opK2_ok, opK2_err, ev_un, unK_ok, unK_err, ev_isi, ev_b, bK_ok, bK_err, ev_and, andK_ok, andK_err, ev_or, orK_ok, orK_err, ev_not, notK_ok, ev_andV, andVK_ok, ev_orV, orVK_ok, ev_ifE, ifEK_ok, ev_nil, ev_cons, consK1_ok, consK1_err, consK2_ok, consK2_err, ev_lst, lstK_ok, ev_tup, tupK_ok, ev_var, varK_d, varK_l, ev_peek, peekK_d, peekK_l, peekK_s, ev_move, moveK_d, moveK_l, ev_ixP, ixK_ok, ixK1_ok, ixK1_err, ixK2_ok, dIx_nat, dIx_natT, dIx_l0, dIx_l1, dIx_l2, dIx_l3, dIx_l4, dIx_t0, dIx_t1, dIx_t2, dIx_t3, ev_setIx, setK0_ok, setK0_err, setK1_ok, setK2_ok, setK3_0, setK3_1, setK3_2, setK3_3, setK3_4, ev_sl, slK1_ok, slK2_ok, slK3_ok, ev_no, ev_so, soK_ok, soK_err, ev_join, joinK1_ok, joinK2_ok, ev_app, appK1_ok, appK2_ok, appK2_err, appK3_ok, ev_a0, ev_aD, ev_aR, eaK1_ok, eaK1_err, eaK3_ok, eaK2_ok, eaK2_err, ev_call, callK_d1, callK_d2, callK_d3, callK_d4, callK_d5, callK_d6, callK_d7, callK_d8, callK_r0, callK_r1, callK_r2, callK_r3, callK_r4, callK_r5, callK_r6, callK_r7, callK_err, backK_ok, backK_err, slotOf_d, slotOf_r, putBack_d, putBack_r, putBack_nil, refs_nil, refs_d, refs_r, ev_run, endOf_nx, endOf_rt, endOf_err, maskL_t, maskL_f, maskL_nil, ev_for, forK_ok, forGo_nil, turnK_nx, turnK_ct, turnK_bk, turnK_rt, turnK_err, bind_ok, asItems_l, asItems_t, asItems_s, ev_name, ev_fnil, ev_fcons, ev_ftup, some_bind, ev_asgT, asgTK_ok, asgTK2_ok, ev_lc, lcK_ok, wipeL_nil, wipeL_cons, ev_yes, lcGo_nil, dLt_i, dLe_i, dGt_i, dGe_i, dEq_i, dEq_s, dEq_b, dNe_i, dNe_s, dIs_b, dSub_i, dLen_l, dLen_t, dList_l, dList_t, dSl_l, dNot_b, ty_n_bool, ty_n_int, ty_n_str, ty_n_list, ty_n_tuple, ty_b_bool, ty_b_int, ty_b_str, ty_b_list, ty_b_tuple, ty_i_bool, ty_i_int, ty_i_str, ty_i_list, ty_i_tuple, ty_s_bool, ty_s_int, ty_s_str, ty_s_list, ty_s_tuple, ty_l_bool, ty_l_int, ty_l_str, ty_l_list, ty_l_tuple, ty_t_bool, ty_t_int, ty_t_str, ty_t_list, ty_t_tuple, dIs_nn, dIs_in, dIs_bn, dIs_sn, dIs_ln, dIs_tn, dNe_b, ev_A, aK_ok, aK_err, dMin_ok, dMax_ok, asZip_l, asZip_t, ev_pop, popK1_ok, dAdd_int, ofO_some, ofO_none, List.getElem?_cons_zero, List.getElem?_cons_succ, List.set_cons_zero, List.set_cons_succ, List.length_cons, List.length_nil, List.cons_append, List.nil_append, List.replicate_succ, List.replicate_zero, List.map_cons, List.map_nil, Option.join_some, List.append_nil, Nat.reduceAdd, Nat.reduceLT, Nat.reduceLeDiff, Nat.reduceSub, Nat.reduceEqDiff, if_true, if_false, decide_true, decide_false, Bool.false_eq_true, Bool.not_true, Bool.not_false, h10]
theorem len_rng1 (ns : List D) (o p q r : Option S) : gFz (gOp dAdd (gUn dLen (gPeek 0)) (gC (.int 1))) [some (.ol ns), o, p, q, r] = .ok (.int ((ns.length : Int) + 1)) [some (.ol ns), o, p, q, r] := by
  simp only [ev_seq, seqK_nx, seqK_rt, seqK_bk, seqK_ct, seqK_err, ev_next, ev_if, ifK_ok, ifK_err, ev_asg, asgK_ok, asgK_err, ev_ret, retK_ok, retK_err, ev_retN, ev_drop, dropK_ok, dropK_err, ev_c, ev_d, dK_ok, dK_err, ev_fz, fzK_d, fzK_l, fzK_err, ev_op, opK1_ok, opK1_err, opK2_ok, opK2_err, ev_un, unK_ok, unK_err, ev_isi, ev_b, bK_ok, bK_err, ev_and, andK_ok, andK_err, ev_or, orK_ok, orK_err, ev_not, notK_ok, ev_andV, andVK_ok, ev_orV, orVK_ok, ev_ifE, ifEK_ok, ev_nil, ev_cons, consK1_ok, consK1_err, consK2_ok, consK2_err, ev_lst, lstK_ok, ev_tup, tupK_ok, ev_var, varK_d, varK_l, ev_peek, peekK_d, peekK_l, peekK_s, ev_move, moveK_d, moveK_l, ev_ixP, ixK_ok, ixK1_ok, ixK1_err, ixK2_ok, dIx_nat, dIx_natT, dIx_l0, dIx_l1, dIx_l2, dIx_l3, dIx_l4, dIx_t0, dIx_t1, dIx_t2, dIx_t3, ev_setIx, setK0_ok, setK0_err, setK1_ok, setK2_ok, setK3_0, setK3_1, setK3_2, setK3_3, setK3_4, ev_sl, slK1_ok, slK2_ok, slK3_ok, ev_no, ev_so, soK_ok, soK_err, ev_join, joinK1_ok, joinK2_ok, ev_app, appK1_ok, appK2_ok, appK2_err, appK3_ok, ev_a0, ev_aD, ev_aR, eaK1_ok, eaK1_err, eaK3_ok, eaK2_ok, eaK2_err, ev_call, callK_d1, callK_d2, callK_d3, callK_d4, callK_d5, callK_d6, callK_d7, callK_d8, callK_r0, callK_r1, callK_r2, callK_r3, callK_r4, callK_r5, callK_r6, callK_r7, callK_err, backK_ok, backK_err, slotOf_d, slotOf_r, putBack_d, putBack_r, putBack_nil, refs_nil, refs_d, refs_r, ev_run, endOf_nx, endOf_rt, endOf_err, maskL_t, maskL_f, maskL_nil, ev_for, forK_ok, forGo_nil, turnK_nx, turnK_ct, turnK_bk, turnK_rt, turnK_err, bind_ok, asItems_l, asItems_t, asItems_s, ev_name, ev_fnil, ev_fcons, ev_ftup, some_bind, ev_asgT, asgTK_ok, asgTK2_ok, ev_lc, lcK_ok, wipeL_nil, wipeL_cons, ev_yes, lcGo_nil, dLt_i, dLe_i, dGt_i, dGe_i, dEq_i, dEq_s, dEq_b, dNe_i, dNe_s, dIs_b, dSub_i, dLen_l, dLen_t, dList_l, dList_t, dSl_l, dNot_b, ty_n_bool, ty_n_int, ty_n_str, ty_n_list, ty_n_tuple, ty_b_bool, ty_b_int, ty_b_str, ty_b_list, ty_b_tuple, ty_i_bool, ty_i_int, ty_i_str, ty_i_list, ty_i_tuple, ty_s_bool, ty_s_int, ty_s_str, ty_s_list, ty_s_tuple, ty_l_bool, ty_l_int, ty_l_str, ty_l_list, ty_l_tuple, ty_t_bool, ty_t_int, ty_t_str, ty_t_list, ty_t_tuple, dIs_nn, dIs_in, dIs_bn, dIs_sn, dIs_ln, dIs_tn, dNe_b, ev_A, aK_ok, aK_err, dMin_ok, dMax_ok, asZip_l, asZip_t, ev_pop, popK1_ok, dAdd_int, ofO_some, ofO_none, List.getElem?_cons_zero, List.getElem?_cons_succ, List.set_cons_zero, List.set_cons_succ, List.length_cons, List.length_nil, List.cons_append, List.nil_append, List.replicate_succ, List.replicate_zero, List.map_cons, List.map_nil, Option.join_some, List.append_nil, Nat.reduceAdd, Nat.reduceLT, Nat.reduceLeDiff, Nat.reduceSub, Nat.reduceEqDiff, if_true, if_false, decide_true, decide_false, Bool.false_eq_true, Bool.not_true, Bool.not_false]
theorem len_rng2 (ns : List D) (o p q r : Option S) : (gCons (gFz (gOp dAdd (gUn dLen (gPeek 0)) (gC (.int 1)))) gNil [some (.ol ns), o, p, q, r]) = .ok [.int ((ns.length : Int) + 1)] [some (.ol ns), o, p, q, r] := by
  rw [ev_cons, len_rng1]
  rfl
theorem len_rng (ns : List D) (hn : ns.length ≤ 500) (o p q r : Option S) : (gCons (gFz (gOp dAdd (gUn dLen (gPeek 0)) (gC (.int 1)))) gNil [some (.ol ns), o, p, q, r]).bind rng1 = .ok (intsD 0 ((ns.length : Int) + 1).toNat) [some (.ol ns), o, p, q, r] := by
  rw [len_rng2, bind_ok, rng1_at (by omega) (by omega)]
theorem unlike_rng (ns : List (List Nat)) (w st : List Nat) (hn : ns.length ≤ 500) : (gCons (gFz (gOp dAdd (gUn dLen (gPeek 0)) (gC (.int 1)))) gNil [some (.ol (ns.map nD)), some (.d (nD w)), some (.d (.str abc)), some (.d (nD st)), none]).bind rng1 = .ok (intsD 0 (ns.length + 1)) [some (.ol (ns.map nD)), some (.d (nD w)), some (.d (.str abc)), some (.d (nD st)), none] := by
  rw [len_rng _ (by rw [List.length_map]; exact hn), List.length_map, show ((ns.length : Int) + 1).toNat = ns.length + 1 by omega]
theorem unlike_ok {ns : List (List Nat)} {w : List Nat} (hn : ns.length ≤ 500) (hw : Good w) : ∃ w', m_law_unlike [some (.ol (ns.map nD)), some (.d (nD w))] = .ok (.d (nD w')) [some (.ol (ns.map nD)), none] ∧ Good w' ∧ w' ∉ ns := by
  have hs : (w.take 10).length ≤ 10 := by rw [List.length_take]; omega
  unfold m_law_unlike g_law_unlike
  rw [unlike_pre ns w hw.2.2, ev_seq, ev_for, unlike_rng ns w (w.take 10) hn, forK_ok]
  rcases unlike_go ns w (w.take 10) hs hw.2.2 (ns.length + 1) 0 none (by omega) with ⟨t', L, h1, h2, h3, h4⟩ | ⟨h1, o', h2⟩
  · have h3' := h3
    rw [show tried w (w.take 10) 0 = w from rfl] at h3'
    rw [show ((0 : Nat) : Int) = 0 from rfl] at h3'
    rw [h3', seqK_rt]
    exact ⟨tried w (w.take 10) t', rfl, tried_good hw (by omega), h4⟩
  · have h2' := h2
    rw [show tried w (w.take 10) 0 = w from rfl] at h2'
    rw [show ((0 : Nat) : Int) = 0 from rfl] at h2'
    rw [h2', seqK_nx]
    refine ⟨tried w (w.take 10) (0 + (ns.length + 1)), rfl, tried_good hw (by omega), fun hin => ?_⟩
    have nd : ((List.range (ns.length + 1)).map (cand (w.take 10))).Nodup := by
      rw [List.nodup_iff_pairwise_ne, List.pairwise_map]
      exact (List.nodup_iff_pairwise_ne.mp List.nodup_range).imp fun h z => h (cand_inj z)
    have := nodup_len _ ns nd fun x hx => by
      obtain ⟨t, ht, rfl⟩ := List.mem_map.mp hx
      have ht' := List.mem_range.mp ht
      by_cases e : t = ns.length
      · subst e
        rw [Nat.zero_add] at hin
        exact hin
      · exact h1 (t + 1) (by omega) (by omega)
    rw [List.length_map, List.length_range] at this
    omega
end Lw

namespace Lw
open PySem VS
/-! ### rows of names -/
theorem small_mix {st x : List Nat} {a : Nat} (hs : Small st) (hx : Small x) (h : a < st.length) (hl : x.length = 1) (hle : st.length ≤ 12) : Good (st.take a ++ x ++ st.drop (a + 1)) := by
  refine ⟨((hs.take a).app hx).app (hs.drop (a + 1)), ?_, ?_⟩
  · rw [List.length_append, List.length_append, List.length_take, List.length_drop, hl]; omega
  · rw [List.length_append, List.length_append, List.length_take, List.length_drop, hl]; omega
abbrev namesBody : LS → R O := (gSeq (gAsg 7 (gOp dAdd (gFz (gOp dAdd (gFz (gSl (gPeek 3) gNo (gSo (gVar 4)))) (gFz (gCall m_law_word [.r 0, .d (gC (.int 1))])))) (gFz (gSl (gPeek 3) (gSo (gFz (gOp dAdd (gVar 4) (gC (.int 1))))) gNo))))
    (gSeq (gIf (gB (gOp dEq (gPeek 2) (gC (.int 1)))) (gAsg 7 (gSl (gVar 3) gNo (gSo (gFz (gOp dAdd (gC (.int 1)) (gFz (gCall m_law_next [.r 0, .d (gUn dLen (gPeek 3))]))))))) gNext)
    (gSeq (gIf (gB (gOp dEq (gPeek 2) (gC (.int 2)))) (gAsg 7 (gCall m_law_word [.r 0, .d (gFz (gOp dAdd (gC (.int 1)) (gFz (gCall m_law_next [.r 0, .d (gC (.int 12))]))))])) gNext)
    (gDrop (gApp 5 (gFz (gCall m_law_unlike [.r 5, .d (gVar 7)])))))))
theorem names_turn {many style : Int} {st : List Nat} {a : Nat} (hst : Small st) (ha : a < st.length) (hle : st.length ≤ 11) {s : S} (hs : Src s) {ns : List (List Nat)} (hn : ns.length ≤ 500) (o6 o7 : Option S) :
    ∃ w' s' o7', namesBody [some s, some (.d (.int many)), some (.d (.int style)), some (.d (nD st)), some (.d (.int a)), some (.ol (ns.map nD)), o6, o7]
      = .ok .nx [some s', some (.d (.int many)), some (.d (.int style)), some (.d (nD st)), some (.d (.int a)), some (.ol ((ns ++ [w']).map nD)), o6, o7'] ∧ Good w' ∧ w' ∉ ns ∧ Src s' := by
  obtain ⟨x, s1, e1, l1, k1, hs1⟩ := word_ok hs (m := 1) (by decide) (by decide)
  have l1' : x.length = 1 := l1
  have hmix := small_mix hst k1 ha l1' (by omega)
  have c1 : dSl (nD st) none (some (a : Int)) = some (.d (nD (st.take a))) := dSl_to (by omega) (by omega)
  have c2 : dSl (nD st) (some ((a : Int) + 1)) none = some (.d (nD (st.drop (a + 1)))) := dSl_from (k := (a : Int) + 1) (by omega) (by omega)
  have a1 : dAdd (nD (st.take a)) (nD x) = some (.d (nD (st.take a ++ x))) := dAdd_n (by rw [List.length_take]; omega)
  have a2 : dAdd (nD (st.take a ++ x)) (nD (st.drop (a + 1))) = some (.d (nD (st.take a ++ x ++ st.drop (a + 1)))) := dAdd_n (by rw [List.length_append, List.length_take, List.length_drop]; omega)
  have fin : ∀ (w : List Nat) (s : S), Good w → Src s → ∃ w', (gDrop (gApp 5 (gFz (gCall m_law_unlike [.r 5, .d (gVar 7)])))) [some s, some (.d (.int many)), some (.d (.int style)), some (.d (nD st)), some (.d (.int a)), some (.ol (ns.map nD)), o6, some (.d (nD w))]
      = .ok .nx [some s, some (.d (.int many)), some (.d (.int style)), some (.d (nD st)), some (.d (.int a)), some (.ol ((ns ++ [w']).map nD)), o6, some (.d (nD w))] ∧ Good w' ∧ w' ∉ ns := fun w s hw hs => by
    obtain ⟨w', e, g, ni⟩ := unlike_ok hn hw
    refine ⟨w', ?_, g, ni⟩
    have hz : (ns.map nD).length < sizeLine := by rw [List.length_map, PySem.sizeLine_eq]; omega
    simp only [ev_seq, seqK_nx, seqK_rt, seqK_bk, seqK_ct, seqK_err, ev_next, ev_if, ifK_ok, ifK_err, ev_asg, asgK_ok, asgK_err, ev_ret, retK_ok, retK_err, ev_retN, ev_drop, dropK_ok, dropK_err, ev_c, ev_d, dK_ok, dK_err, ev_fz, fzK_d, fzK_l, fzK_err, ev_op, opK1_ok, opK1_err, opK2_ok, opK2_err, ev_un, unK_ok, unK_err, ev_isi, ev_b, bK_ok, bK_err, ev_and, andK_ok, andK_err, ev_or, orK_ok, orK_err, ev_not, notK_ok, ev_andV, andVK_ok, ev_orV, orVK_ok, ev_ifE, ifEK_ok, ev_nil, ev_cons, consK1_ok, consK1_err, consK2_ok, consK2_err, ev_lst, lstK_ok, ev_tup, tupK_ok, ev_var, varK_d, varK_l, ev_peek, peekK_d, peekK_l, peekK_s, ev_move, moveK_d, moveK_l, ev_ixP, ixK_ok, ixK1_ok, ixK1_err, ixK2_ok, dIx_nat, dIx_natT, dIx_l0, dIx_l1, dIx_l2, dIx_l3, dIx_l4, dIx_t0, dIx_t1, dIx_t2, dIx_t3, ev_setIx, setK0_ok, setK0_err, setK1_ok, setK2_ok, setK3_0, setK3_1, setK3_2, setK3_3, setK3_4, ev_sl, slK1_ok, slK2_ok, slK3_ok, ev_no, ev_so, soK_ok, soK_err, ev_join, joinK1_ok, joinK2_ok, ev_app, appK1_ok, appK2_ok, appK2_err, appK3_ok, ev_a0, ev_aD, ev_aR, eaK1_ok, eaK1_err, eaK3_ok, eaK2_ok, eaK2_err, ev_call, callK_d1, callK_d2, callK_d3, callK_d4, callK_d5, callK_d6, callK_d7, callK_d8, callK_r0, callK_r1, callK_r2, callK_r3, callK_r4, callK_r5, callK_r6, callK_r7, callK_err, backK_ok, backK_err, slotOf_d, slotOf_r, putBack_d, putBack_r, putBack_nil, refs_nil, refs_d, refs_r, ev_run, endOf_nx, endOf_rt, endOf_err, maskL_t, maskL_f, maskL_nil, ev_for, forK_ok, forGo_nil, turnK_nx, turnK_ct, turnK_bk, turnK_rt, turnK_err, bind_ok, asItems_l, asItems_t, asItems_s, ev_name, ev_fnil, ev_fcons, ev_ftup, some_bind, ev_asgT, asgTK_ok, asgTK2_ok, ev_lc, lcK_ok, wipeL_nil, wipeL_cons, ev_yes, lcGo_nil, dLt_i, dLe_i, dGt_i, dGe_i, dEq_i, dEq_s, dEq_b, dNe_i, dNe_s, dIs_b, dSub_i, dLen_l, dLen_t, dList_l, dList_t, dSl_l, dNot_b, ty_n_bool, ty_n_int, ty_n_str, ty_n_list, ty_n_tuple, ty_b_bool, ty_b_int, ty_b_str, ty_b_list, ty_b_tuple, ty_i_bool, ty_i_int, ty_i_str, ty_i_list, ty_i_tuple, ty_s_bool, ty_s_int, ty_s_str, ty_s_list, ty_s_tuple, ty_l_bool, ty_l_int, ty_l_str, ty_l_list, ty_l_tuple, ty_t_bool, ty_t_int, ty_t_str, ty_t_list, ty_t_tuple, dIs_nn, dIs_in, dIs_bn, dIs_sn, dIs_ln, dIs_tn, dNe_b, ev_A, aK_ok, aK_err, dMin_ok, dMax_ok, asZip_l, asZip_t, ev_pop, popK1_ok, dAdd_int, ofO_some, ofO_none, List.getElem?_cons_zero, List.getElem?_cons_succ, List.set_cons_zero, List.set_cons_succ, List.length_cons, List.length_nil, List.cons_append, List.nil_append, List.replicate_succ, List.replicate_zero, List.map_cons, List.map_nil, Option.join_some, List.append_nil, Nat.reduceAdd, Nat.reduceLT, Nat.reduceLeDiff, Nat.reduceSub, Nat.reduceEqDiff, if_true, if_false, decide_true, decide_false, Bool.false_eq_true, Bool.not_true, Bool.not_false, e, hz]
    rw [List.map_append]
    rfl
  have s0 : gAsg 7 (gOp dAdd (gFz (gOp dAdd (gFz (gSl (gPeek 3) gNo (gSo (gVar 4)))) (gFz (gCall m_law_word [.r 0, .d (gC (.int 1))])))) (gFz (gSl (gPeek 3) (gSo (gFz (gOp dAdd (gVar 4) (gC (.int 1))))) gNo))) [some s, some (.d (.int many)), some (.d (.int style)), some (.d (nD st)), some (.d (.int a)), some (.ol (ns.map nD)), o6, o7]
      = .ok .nx [some s1, some (.d (.int many)), some (.d (.int style)), some (.d (nD st)), some (.d (.int a)), some (.ol (ns.map nD)), o6, some (.d (nD (st.take a ++ x ++ st.drop (a + 1))))] := by
    simp only [ev_seq, seqK_nx, seqK_rt, seqK_bk, seqK_ct, seqK_err, ev_next, ev_if, ifK_ok, ifK_err, ev_asg, asgK_ok, asgK_err, ev_ret, retK_ok, retK_err, ev_retN, ev_drop, dropK_ok, dropK_err, ev_c, ev_d, dK_ok, dK_err, ev_fz, fzK_d, fzK_l, fzK_err, ev_op, opK1_ok, opK1_err, opK2_ok, opK2_err, ev_un, unK_ok, unK_err, ev_isi, ev_b, bK_ok, bK_err, ev_and, andK_ok, andK_err, ev_or, orK_ok, orK_err, ev_not, notK_ok, ev_andV, andVK_ok, ev_orV, orVK_ok, ev_ifE, ifEK_ok, ev_nil, ev_cons, consK1_ok, consK1_err, consK2_ok, consK2_err, ev_lst, lstK_ok, ev_tup, tupK_ok, ev_var, varK_d, varK_l, ev_peek, peekK_d, peekK_l, peekK_s, ev_move, moveK_d, moveK_l, ev_ixP, ixK_ok, ixK1_ok, ixK1_err, ixK2_ok, dIx_nat, dIx_natT, dIx_l0, dIx_l1, dIx_l2, dIx_l3, dIx_l4, dIx_t0, dIx_t1, dIx_t2, dIx_t3, ev_setIx, setK0_ok, setK0_err, setK1_ok, setK2_ok, setK3_0, setK3_1, setK3_2, setK3_3, setK3_4, ev_sl, slK1_ok, slK2_ok, slK3_ok, ev_no, ev_so, soK_ok, soK_err, ev_join, joinK1_ok, joinK2_ok, ev_app, appK1_ok, appK2_ok, appK2_err, appK3_ok, ev_a0, ev_aD, ev_aR, eaK1_ok, eaK1_err, eaK3_ok, eaK2_ok, eaK2_err, ev_call, callK_d1, callK_d2, callK_d3, callK_d4, callK_d5, callK_d6, callK_d7, callK_d8, callK_r0, callK_r1, callK_r2, callK_r3, callK_r4, callK_r5, callK_r6, callK_r7, callK_err, backK_ok, backK_err, slotOf_d, slotOf_r, putBack_d, putBack_r, putBack_nil, refs_nil, refs_d, refs_r, ev_run, endOf_nx, endOf_rt, endOf_err, maskL_t, maskL_f, maskL_nil, ev_for, forK_ok, forGo_nil, turnK_nx, turnK_ct, turnK_bk, turnK_rt, turnK_err, bind_ok, asItems_l, asItems_t, asItems_s, ev_name, ev_fnil, ev_fcons, ev_ftup, some_bind, ev_asgT, asgTK_ok, asgTK2_ok, ev_lc, lcK_ok, wipeL_nil, wipeL_cons, ev_yes, lcGo_nil, dLt_i, dLe_i, dGt_i, dGe_i, dEq_i, dEq_s, dEq_b, dNe_i, dNe_s, dIs_b, dSub_i, dLen_l, dLen_t, dList_l, dList_t, dSl_l, dNot_b, ty_n_bool, ty_n_int, ty_n_str, ty_n_list, ty_n_tuple, ty_b_bool, ty_b_int, ty_b_str, ty_b_list, ty_b_tuple, ty_i_bool, ty_i_int, ty_i_str, ty_i_list, ty_i_tuple, ty_s_bool, ty_s_int, ty_s_str, ty_s_list, ty_s_tuple, ty_l_bool, ty_l_int, ty_l_str, ty_l_list, ty_l_tuple, ty_t_bool, ty_t_int, ty_t_str, ty_t_list, ty_t_tuple, dIs_nn, dIs_in, dIs_bn, dIs_sn, dIs_ln, dIs_tn, dNe_b, ev_A, aK_ok, aK_err, dMin_ok, dMax_ok, asZip_l, asZip_t, ev_pop, popK1_ok, dAdd_int, ofO_some, ofO_none, List.getElem?_cons_zero, List.getElem?_cons_succ, List.set_cons_zero, List.set_cons_succ, List.length_cons, List.length_nil, List.cons_append, List.nil_append, List.replicate_succ, List.replicate_zero, List.map_cons, List.map_nil, Option.join_some, List.append_nil, Nat.reduceAdd, Nat.reduceLT, Nat.reduceLeDiff, Nat.reduceSub, Nat.reduceEqDiff, if_true, if_false, decide_true, decide_false, Bool.false_eq_true, Bool.not_true, Bool.not_false, c1, e1, c2, a1, a2]
  unfold namesBody
  rw [ev_seq, s0, seqK_nx]
  by_cases h1 : style = 1
  · subst h1
    obtain ⟨r, s2, e2, r0, r1, hs2⟩ := next_ok hs1 (n := st.length) (by omega) (by omega)
    have c3 : dSl (nD st) none (some (1 + r)) = some (.d (nD (st.take (1 + r).toNat))) := dSl_to (by omega) (by omega)
    have hg : Good (st.take (1 + r).toNat) := ⟨hst.take _, by rw [List.length_take]; omega, by rw [List.length_take]; omega⟩
    obtain ⟨w', f1, f2, f3⟩ := fin _ s2 hg hs2
    refine ⟨w', s2, some (.d (nD (st.take (1 + r).toNat))), ?_, f2, f3, hs2⟩
    have hl : dLen (nD st) = some (.int st.length) := dLen_n (by omega)
    have s1' : gIf (gB (gOp dEq (gPeek 2) (gC (.int 1)))) (gAsg 7 (gSl (gVar 3) gNo (gSo (gFz (gOp dAdd (gC (.int 1)) (gFz (gCall m_law_next [.r 0, .d (gUn dLen (gPeek 3))]))))))) gNext [some s1, some (.d (.int many)), some (.d (.int 1)), some (.d (nD st)), some (.d (.int a)), some (.ol (ns.map nD)), o6, some (.d (nD (st.take a ++ x ++ st.drop (a + 1))))]
        = .ok .nx [some s2, some (.d (.int many)), some (.d (.int 1)), some (.d (nD st)), some (.d (.int a)), some (.ol (ns.map nD)), o6, some (.d (nD (st.take (1 + r).toNat)))] := by
      simp only [ev_seq, seqK_nx, seqK_rt, seqK_bk, seqK_ct, seqK_err, ev_next, ev_if, ifK_ok, ifK_err, ev_asg, asgK_ok, asgK_err, ev_ret, retK_ok, retK_err, ev_retN, ev_drop, dropK_ok, dropK_err, ev_c, ev_d, dK_ok, dK_err, ev_fz, fzK_d, fzK_l, fzK_err, ev_op, opK1_ok, opK1_err, opK2_ok, opK2_err, ev_un, unK_ok, unK_err, ev_isi, ev_b, bK_ok, bK_err, ev_and, andK_ok, andK_err, ev_or, orK_ok, orK_err, ev_not, notK_ok, ev_andV, andVK_ok, ev_orV, orVK_ok, ev_ifE, ifEK_ok, ev_nil, ev_cons, consK1_ok, consK1_err, consK2_ok, consK2_err, ev_lst, lstK_ok, ev_tup, tupK_ok, ev_var, varK_d, varK_l, ev_peek, peekK_d, peekK_l, peekK_s, ev_move, moveK_d, moveK_l, ev_ixP, ixK_ok, ixK1_ok, ixK1_err, ixK2_ok, dIx_nat, dIx_natT, dIx_l0, dIx_l1, dIx_l2, dIx_l3, dIx_l4, dIx_t0, dIx_t1, dIx_t2, dIx_t3, ev_setIx, setK0_ok, setK0_err, setK1_ok, setK2_ok, setK3_0, setK3_1, setK3_2, setK3_3, setK3_4, ev_sl, slK1_ok, slK2_ok, slK3_ok, ev_no, ev_so, soK_ok, soK_err, ev_join, joinK1_ok, joinK2_ok, ev_app, appK1_ok, appK2_ok, appK2_err, appK3_ok, ev_a0, ev_aD, ev_aR, eaK1_ok, eaK1_err, eaK3_ok, eaK2_ok, eaK2_err, ev_call, callK_d1, callK_d2, callK_d3, callK_d4, callK_d5, callK_d6, callK_d7, callK_d8, callK_r0, callK_r1, callK_r2, callK_r3, callK_r4, callK_r5, callK_r6, callK_r7, callK_err, backK_ok, backK_err, slotOf_d, slotOf_r, putBack_d, putBack_r, putBack_nil, refs_nil, refs_d, refs_r, ev_run, endOf_nx, endOf_rt, endOf_err, maskL_t, maskL_f, maskL_nil, ev_for, forK_ok, forGo_nil, turnK_nx, turnK_ct, turnK_bk, turnK_rt, turnK_err, bind_ok, asItems_l, asItems_t, asItems_s, ev_name, ev_fnil, ev_fcons, ev_ftup, some_bind, ev_asgT, asgTK_ok, asgTK2_ok, ev_lc, lcK_ok, wipeL_nil, wipeL_cons, ev_yes, lcGo_nil, dLt_i, dLe_i, dGt_i, dGe_i, dEq_i, dEq_s, dEq_b, dNe_i, dNe_s, dIs_b, dSub_i, dLen_l, dLen_t, dList_l, dList_t, dSl_l, dNot_b, ty_n_bool, ty_n_int, ty_n_str, ty_n_list, ty_n_tuple, ty_b_bool, ty_b_int, ty_b_str, ty_b_list, ty_b_tuple, ty_i_bool, ty_i_int, ty_i_str, ty_i_list, ty_i_tuple, ty_s_bool, ty_s_int, ty_s_str, ty_s_list, ty_s_tuple, ty_l_bool, ty_l_int, ty_l_str, ty_l_list, ty_l_tuple, ty_t_bool, ty_t_int, ty_t_str, ty_t_list, ty_t_tuple, dIs_nn, dIs_in, dIs_bn, dIs_sn, dIs_ln, dIs_tn, dNe_b, ev_A, aK_ok, aK_err, dMin_ok, dMax_ok, asZip_l, asZip_t, ev_pop, popK1_ok, dAdd_int, ofO_some, ofO_none, List.getElem?_cons_zero, List.getElem?_cons_succ, List.set_cons_zero, List.set_cons_succ, List.length_cons, List.length_nil, List.cons_append, List.nil_append, List.replicate_succ, List.replicate_zero, List.map_cons, List.map_nil, Option.join_some, List.append_nil, Nat.reduceAdd, Nat.reduceLT, Nat.reduceLeDiff, Nat.reduceSub, Nat.reduceEqDiff, if_true, if_false, decide_true, decide_false, Bool.false_eq_true, Bool.not_true, Bool.not_false, hl, e2, c3]
    have s2' : gIf (gB (gOp dEq (gPeek 2) (gC (.int 2)))) (gAsg 7 (gCall m_law_word [.r 0, .d (gFz (gOp dAdd (gC (.int 1)) (gFz (gCall m_law_next [.r 0, .d (gC (.int 12))]))))])) gNext [some s2, some (.d (.int many)), some (.d (.int 1)), some (.d (nD st)), some (.d (.int a)), some (.ol (ns.map nD)), o6, some (.d (nD (st.take (1 + r).toNat)))]
        = .ok .nx [some s2, some (.d (.int many)), some (.d (.int 1)), some (.d (nD st)), some (.d (.int a)), some (.ol (ns.map nD)), o6, some (.d (nD (st.take (1 + r).toNat)))] := rfl
    rw [ev_seq, s1', seqK_nx, ev_seq, s2', seqK_nx, f1]
  · have s1' : gIf (gB (gOp dEq (gPeek 2) (gC (.int 1)))) (gAsg 7 (gSl (gVar 3) gNo (gSo (gFz (gOp dAdd (gC (.int 1)) (gFz (gCall m_law_next [.r 0, .d (gUn dLen (gPeek 3))]))))))) gNext [some s1, some (.d (.int many)), some (.d (.int style)), some (.d (nD st)), some (.d (.int a)), some (.ol (ns.map nD)), o6, some (.d (nD (st.take a ++ x ++ st.drop (a + 1))))]
        = .ok .nx [some s1, some (.d (.int many)), some (.d (.int style)), some (.d (nD st)), some (.d (.int a)), some (.ol (ns.map nD)), o6, some (.d (nD (st.take a ++ x ++ st.drop (a + 1))))] := by
      simp only [ev_seq, seqK_nx, seqK_rt, seqK_bk, seqK_ct, seqK_err, ev_next, ev_if, ifK_ok, ifK_err, ev_asg, asgK_ok, asgK_err, ev_ret, retK_ok, retK_err, ev_retN, ev_drop, dropK_ok, dropK_err, ev_c, ev_d, dK_ok, dK_err, ev_fz, fzK_d, fzK_l, fzK_err, ev_op, opK1_ok, opK1_err, opK2_ok, opK2_err, ev_un, unK_ok, unK_err, ev_isi, ev_b, bK_ok, bK_err, ev_and, andK_ok, andK_err, ev_or, orK_ok, orK_err, ev_not, notK_ok, ev_andV, andVK_ok, ev_orV, orVK_ok, ev_ifE, ifEK_ok, ev_nil, ev_cons, consK1_ok, consK1_err, consK2_ok, consK2_err, ev_lst, lstK_ok, ev_tup, tupK_ok, ev_var, varK_d, varK_l, ev_peek, peekK_d, peekK_l, peekK_s, ev_move, moveK_d, moveK_l, ev_ixP, ixK_ok, ixK1_ok, ixK1_err, ixK2_ok, dIx_nat, dIx_natT, dIx_l0, dIx_l1, dIx_l2, dIx_l3, dIx_l4, dIx_t0, dIx_t1, dIx_t2, dIx_t3, ev_setIx, setK0_ok, setK0_err, setK1_ok, setK2_ok, setK3_0, setK3_1, setK3_2, setK3_3, setK3_4, ev_sl, slK1_ok, slK2_ok, slK3_ok, ev_no, ev_so, soK_ok, soK_err, ev_join, joinK1_ok, joinK2_ok, ev_app, appK1_ok, appK2_ok, appK2_err, appK3_ok, ev_a0, ev_aD, ev_aR, eaK1_ok, eaK1_err, eaK3_ok, eaK2_ok, eaK2_err, ev_call, callK_d1, callK_d2, callK_d3, callK_d4, callK_d5, callK_d6, callK_d7, callK_d8, callK_r0, callK_r1, callK_r2, callK_r3, callK_r4, callK_r5, callK_r6, callK_r7, callK_err, backK_ok, backK_err, slotOf_d, slotOf_r, putBack_d, putBack_r, putBack_nil, refs_nil, refs_d, refs_r, ev_run, endOf_nx, endOf_rt, endOf_err, maskL_t, maskL_f, maskL_nil, ev_for, forK_ok, forGo_nil, turnK_nx, turnK_ct, turnK_bk, turnK_rt, turnK_err, bind_ok, asItems_l, asItems_t, asItems_s, ev_name, ev_fnil, ev_fcons, ev_ftup, some_bind, ev_asgT, asgTK_ok, asgTK2_ok, ev_lc, lcK_ok, wipeL_nil, wipeL_cons, ev_yes, lcGo_nil, dLt_i, dLe_i, dGt_i, dGe_i, dEq_i, dEq_s, dEq_b, dNe_i, dNe_s, dIs_b, dSub_i, dLen_l, dLen_t, dList_l, dList_t, dSl_l, dNot_b, ty_n_bool, ty_n_int, ty_n_str, ty_n_list, ty_n_tuple, ty_b_bool, ty_b_int, ty_b_str, ty_b_list, ty_b_tuple, ty_i_bool, ty_i_int, ty_i_str, ty_i_list, ty_i_tuple, ty_s_bool, ty_s_int, ty_s_str, ty_s_list, ty_s_tuple, ty_l_bool, ty_l_int, ty_l_str, ty_l_list, ty_l_tuple, ty_t_bool, ty_t_int, ty_t_str, ty_t_list, ty_t_tuple, dIs_nn, dIs_in, dIs_bn, dIs_sn, dIs_ln, dIs_tn, dNe_b, ev_A, aK_ok, aK_err, dMin_ok, dMax_ok, asZip_l, asZip_t, ev_pop, popK1_ok, dAdd_int, ofO_some, ofO_none, List.getElem?_cons_zero, List.getElem?_cons_succ, List.set_cons_zero, List.set_cons_succ, List.length_cons, List.length_nil, List.cons_append, List.nil_append, List.replicate_succ, List.replicate_zero, List.map_cons, List.map_nil, Option.join_some, List.append_nil, Nat.reduceAdd, Nat.reduceLT, Nat.reduceLeDiff, Nat.reduceSub, Nat.reduceEqDiff, if_true, if_false, decide_true, decide_false, Bool.false_eq_true, Bool.not_true, Bool.not_false, h1]
    rw [ev_seq, s1', seqK_nx]
    by_cases h2 : style = 2
    · subst h2
      obtain ⟨r, s2, e2, r0, r1, hs2⟩ := next_ok hs1 (n := 12) (by omega) (by omega)
      obtain ⟨y, s3, e3, l3, k3, hs3⟩ := word_ok hs2 (m := 1 + r) (by omega) (by omega)
      obtain ⟨w', f1, f2, f3⟩ := fin y s3 ⟨k3, by omega, by omega⟩ hs3
      refine ⟨w', s3, some (.d (nD y)), ?_, f2, f3, hs3⟩
      have s2' : gIf (gB (gOp dEq (gPeek 2) (gC (.int 2)))) (gAsg 7 (gCall m_law_word [.r 0, .d (gFz (gOp dAdd (gC (.int 1)) (gFz (gCall m_law_next [.r 0, .d (gC (.int 12))]))))])) gNext [some s1, some (.d (.int many)), some (.d (.int 2)), some (.d (nD st)), some (.d (.int a)), some (.ol (ns.map nD)), o6, some (.d (nD (st.take a ++ x ++ st.drop (a + 1))))]
          = .ok .nx [some s3, some (.d (.int many)), some (.d (.int 2)), some (.d (nD st)), some (.d (.int a)), some (.ol (ns.map nD)), o6, some (.d (nD y))] := by
        simp only [ev_seq, seqK_nx, seqK_rt, seqK_bk, seqK_ct, seqK_err, ev_next, ev_if, ifK_ok, ifK_err, ev_asg, asgK_ok, asgK_err, ev_ret, retK_ok, retK_err, ev_retN, ev_drop, dropK_ok, dropK_err, ev_c, ev_d, dK_ok, dK_err, ev_fz, fzK_d, fzK_l, fzK_err, ev_op, opK1_ok, opK1_err, opK2_ok, opK2_err, ev_un, unK_ok, unK_err, ev_isi, ev_b, bK_ok, bK_err, ev_and, andK_ok, andK_err, ev_or, orK_ok, orK_err, ev_not, notK_ok, ev_andV, andVK_ok, ev_orV, orVK_ok, ev_ifE, ifEK_ok, ev_nil, ev_cons, consK1_ok, consK1_err, consK2_ok, consK2_err, ev_lst, lstK_ok, ev_tup, tupK_ok, ev_var, varK_d, varK_l, ev_peek, peekK_d, peekK_l, peekK_s, ev_move, moveK_d, moveK_l, ev_ixP, ixK_ok, ixK1_ok, ixK1_err, ixK2_ok, dIx_nat, dIx_natT, dIx_l0, dIx_l1, dIx_l2, dIx_l3, dIx_l4, dIx_t0, dIx_t1, dIx_t2, dIx_t3, ev_setIx, setK0_ok, setK0_err, setK1_ok, setK2_ok, setK3_0, setK3_1, setK3_2, setK3_3, setK3_4, ev_sl, slK1_ok, slK2_ok, slK3_ok, ev_no, ev_so, soK_ok, soK_err, ev_join, joinK1_ok, joinK2_ok, ev_app, appK1_ok, appK2_ok, appK2_err, appK3_ok, ev_a0, ev_aD, ev_aR, eaK1_ok, eaK1_err, eaK3_ok, eaK2_ok, eaK2_err, ev_call, callK_d1, callK_d2, callK_d3, callK_d4, callK_d5, callK_d6, callK_d7, callK_d8, callK_r0, callK_r1, callK_r2, callK_r3, callK_r4, callK_r5, callK_r6, callK_r7, callK_err, backK_ok, backK_err, slotOf_d, slotOf_r, putBack_d, putBack_r, putBack_nil, refs_nil, refs_d, refs_r, ev_run, endOf_nx, endOf_rt, endOf_err, maskL_t, maskL_f, maskL_nil, ev_for, forK_ok, forGo_nil, turnK_nx, turnK_ct, turnK_bk, turnK_rt, turnK_err, bind_ok, asItems_l, asItems_t, asItems_s, ev_name, ev_fnil, ev_fcons, ev_ftup, some_bind, ev_asgT, asgTK_ok, asgTK2_ok, ev_lc, lcK_ok, wipeL_nil, wipeL_cons, ev_yes, lcGo_nil, dLt_i, dLe_i, dGt_i, dGe_i, dEq_i, dEq_s, dEq_b, dNe_i, dNe_s, dIs_b, dSub_i, dLen_l, dLen_t, dList_l, dList_t, dSl_l, dNot_b, ty_n_bool, ty_n_int, ty_n_str, ty_n_list, ty_n_tuple, ty_b_bool, ty_b_int, ty_b_str, ty_b_list, ty_b_tuple, ty_i_bool, ty_i_int, ty_i_str, ty_i_list, ty_i_tuple, ty_s_bool, ty_s_int, ty_s_str, ty_s_list, ty_s_tuple, ty_l_bool, ty_l_int, ty_l_str, ty_l_list, ty_l_tuple, ty_t_bool, ty_t_int, ty_t_str, ty_t_list, ty_t_tuple, dIs_nn, dIs_in, dIs_bn, dIs_sn, dIs_ln, dIs_tn, dNe_b, ev_A, aK_ok, aK_err, dMin_ok, dMax_ok, asZip_l, asZip_t, ev_pop, popK1_ok, dAdd_int, ofO_some, ofO_none, List.getElem?_cons_zero, List.getElem?_cons_succ, List.set_cons_zero, List.set_cons_succ, List.length_cons, List.length_nil, List.cons_append, List.nil_append, List.replicate_succ, List.replicate_zero, List.map_cons, List.map_nil, Option.join_some, List.append_nil, Nat.reduceAdd, Nat.reduceLT, Nat.reduceLeDiff, Nat.reduceSub, Nat.reduceEqDiff, if_true, if_false, decide_true, decide_false, Bool.false_eq_true, Bool.not_true, Bool.not_false, e2, e3]
      rw [ev_seq, s2', seqK_nx, f1]
    · obtain ⟨w', f1, f2, f3⟩ := fin _ s1 hmix hs1
      refine ⟨w', s1, some (.d (nD (st.take a ++ x ++ st.drop (a + 1)))), ?_, f2, f3, hs1⟩
      have s2' : gIf (gB (gOp dEq (gPeek 2) (gC (.int 2)))) (gAsg 7 (gCall m_law_word [.r 0, .d (gFz (gOp dAdd (gC (.int 1)) (gFz (gCall m_law_next [.r 0, .d (gC (.int 12))]))))])) gNext [some s1, some (.d (.int many)), some (.d (.int style)), some (.d (nD st)), some (.d (.int a)), some (.ol (ns.map nD)), o6, some (.d (nD (st.take a ++ x ++ st.drop (a + 1))))]
          = .ok .nx [some s1, some (.d (.int many)), some (.d (.int style)), some (.d (nD st)), some (.d (.int a)), some (.ol (ns.map nD)), o6, some (.d (nD (st.take a ++ x ++ st.drop (a + 1))))] := by
        simp only [ev_seq, seqK_nx, seqK_rt, seqK_bk, seqK_ct, seqK_err, ev_next, ev_if, ifK_ok, ifK_err, ev_asg, asgK_ok, asgK_err, ev_ret, retK_ok, retK_err, ev_retN, ev_drop, dropK_ok, dropK_err, ev_c, ev_d, dK_ok, dK_err, ev_fz, fzK_d, fzK_l, fzK_err, ev_op, opK1_ok, opK1_err, opK2_ok, opK2_err, ev_un, unK_ok, unK_err, ev_isi, ev_b, bK_ok, bK_err, ev_and, andK_ok, andK_err, ev_or, orK_ok, orK_err, ev_not, notK_ok, ev_andV, andVK_ok, ev_orV, orVK_ok, ev_ifE, ifEK_ok, ev_nil, ev_cons, consK1_ok, consK1_err, consK2_ok, consK2_err, ev_lst, lstK_ok, ev_tup, tupK_ok, ev_var, varK_d, varK_l, ev_peek, peekK_d, peekK_l, peekK_s, ev_move, moveK_d, moveK_l, ev_ixP, ixK_ok, ixK1_ok, ixK1_err, ixK2_ok, dIx_nat, dIx_natT, dIx_l0, dIx_l1, dIx_l2, dIx_l3, dIx_l4, dIx_t0, dIx_t1, dIx_t2, dIx_t3, ev_setIx, setK0_ok, setK0_err, setK1_ok, setK2_ok, setK3_0, setK3_1, setK3_2, setK3_3, setK3_4, ev_sl, slK1_ok, slK2_ok, slK3_ok, ev_no, ev_so, soK_ok, soK_err, ev_join, joinK1_ok, joinK2_ok, ev_app, appK1_ok, appK2_ok, appK2_err, appK3_ok, ev_a0, ev_aD, ev_aR, eaK1_ok, eaK1_err, eaK3_ok, eaK2_ok, eaK2_err, ev_call, callK_d1, callK_d2, callK_d3, callK_d4, callK_d5, callK_d6, callK_d7, callK_d8, callK_r0, callK_r1, callK_r2, callK_r3, callK_r4, callK_r5, callK_r6, callK_r7, callK_err, backK_ok, backK_err, slotOf_d, slotOf_r, putBack_d, putBack_r, putBack_nil, refs_nil, refs_d, refs_r, ev_run, endOf_nx, endOf_rt, endOf_err, maskL_t, maskL_f, maskL_nil, ev_for, forK_ok, forGo_nil, turnK_nx, turnK_ct, turnK_bk, turnK_rt, turnK_err, bind_ok, asItems_l, asItems_t, asItems_s, ev_name, ev_fnil, ev_fcons, ev_ftup, some_bind, ev_asgT, asgTK_ok, asgTK2_ok, ev_lc, lcK_ok, wipeL_nil, wipeL_cons, ev_yes, lcGo_nil, dLt_i, dLe_i, dGt_i, dGe_i, dEq_i, dEq_s, dEq_b, dNe_i, dNe_s, dIs_b, dSub_i, dLen_l, dLen_t, dList_l, dList_t, dSl_l, dNot_b, ty_n_bool, ty_n_int, ty_n_str, ty_n_list, ty_n_tuple, ty_b_bool, ty_b_int, ty_b_str, ty_b_list, ty_b_tuple, ty_i_bool, ty_i_int, ty_i_str, ty_i_list, ty_i_tuple, ty_s_bool, ty_s_int, ty_s_str, ty_s_list, ty_s_tuple, ty_l_bool, ty_l_int, ty_l_str, ty_l_list, ty_l_tuple, ty_t_bool, ty_t_int, ty_t_str, ty_t_list, ty_t_tuple, dIs_nn, dIs_in, dIs_bn, dIs_sn, dIs_ln, dIs_tn, dNe_b, ev_A, aK_ok, aK_err, dMin_ok, dMax_ok, asZip_l, asZip_t, ev_pop, popK1_ok, dAdd_int, ofO_some, ofO_none, List.getElem?_cons_zero, List.getElem?_cons_succ, List.set_cons_zero, List.set_cons_succ, List.length_cons, List.length_nil, List.cons_append, List.nil_append, List.replicate_succ, List.replicate_zero, List.map_cons, List.map_nil, Option.join_some, List.append_nil, Nat.reduceAdd, Nat.reduceLT, Nat.reduceLeDiff, Nat.reduceSub, Nat.reduceEqDiff, if_true, if_false, decide_true, decide_false, Bool.false_eq_true, Bool.not_true, Bool.not_false, h2]
      rw [ev_seq, s2', seqK_nx, f1]
theorem names_go {many style : Int} {st : List Nat} {a : Nat} (hst : Small st) (ha : a < st.length) (hle : st.length ≤ 11) : ∀ (k : Nat) (lo : Int) {s : S} (hs : Src s) {ns : List (List Nat)} (hn : ns.length + k ≤ 500) (hd : ns.Nodup) (hg : ∀ n ∈ ns, Good n) (o6 o7 : Option S),
    ∃ (ns' : List (List Nat)) (s' : S) (o6' o7' : Option S), forGo (fName 6) namesBody (intsD lo k) [some s, some (.d (.int many)), some (.d (.int style)), some (.d (nD st)), some (.d (.int a)), some (.ol (ns.map nD)), o6, o7]
      = .ok .nx [some s', some (.d (.int many)), some (.d (.int style)), some (.d (nD st)), some (.d (.int a)), some (.ol (ns'.map nD)), o6', o7'] ∧ ns'.length = ns.length + k ∧ ns'.Nodup ∧ (∀ n ∈ ns', Good n) ∧ Src s'
  | 0, lo, s, hs, ns, hn, hd, hg, o6, o7 => ⟨ns, s, o6, o7, rfl, rfl, hd, hg, hs⟩
  | k + 1, lo, s, hs, ns, hn, hd, hg, o6, o7 => by
    obtain ⟨w', s1, o7', e, g, ni, hs1⟩ := names_turn (many := many) (style := style) hst ha hle hs (ns := ns) (by omega) (some (.d (.int lo))) o7
    obtain ⟨ns', s', o6', o7'', e2, l2, d2, g2, hs2⟩ := names_go (many := many) (style := style) hst ha hle k (lo + 1) hs1 (ns := ns ++ [w']) (by rw [List.length_append, List.length_singleton]; omega)
      (by
        rw [List.nodup_append]
        refine ⟨hd, List.nodup_cons.mpr ⟨List.not_mem_nil, List.nodup_nil⟩, fun x hx y hy z => ?_⟩
        rw [List.mem_singleton] at hy
        subst hy
        subst z
        exact ni hx)
      (fun n hn => by
        rcases List.mem_append.mp hn with h | h
        · exact hg n h
        · rw [List.mem_singleton] at h
          rw [h]
          exact g) (some (.d (.int lo))) o7'
    refine ⟨ns', s', o6', o7'', ?_, by rw [l2, List.length_append, List.length_singleton]; omega, d2, g2, hs2⟩
    rw [intsD_succ, forGo_cons (L1 := [some s, some (.d (.int many)), some (.d (.int style)), some (.d (nD st)), some (.d (.int a)), some (.ol (ns.map nD)), some (.d (.int lo)), o7]) _ _ _ _ rfl, e, turnK_nx, e2]
theorem names_ok {s : S} (hs : Src s) {many : Int} (h0 : 0 ≤ many) (h1 : many ≤ 500) : ∃ (ns : List (List Nat)) (s' : S), m_law_names [some s, some (.d (.int many))] = .ok (.ol (ns.map nD)) [some s', none] ∧ ns.length = many.toNat ∧ ns.Nodup ∧ (∀ n ∈ ns, Good n) ∧ Src s' := by
  obtain ⟨style, s1, e1, _, _, hs1⟩ := next_ok hs (n := 3) (by omega) (by omega)
  obtain ⟨r, s2, e2, r0, r1, hs2⟩ := next_ok hs1 (n := 11) (by omega) (by omega)
  obtain ⟨st, s3, e3, l3, k3, hs3⟩ := word_ok hs2 (m := 1 + r) (by omega) (by omega)
  obtain ⟨a, s4, e4, a0, a1, hs4⟩ := next_ok hs3 (n := st.length) (by omega) (by omega)
  obtain ⟨j, rfl⟩ := Int.eq_ofNat_of_zero_le a0
  obtain ⟨ns, s', o6, o7, e5, l5, d5, g5, hs5⟩ := names_go (many := many) (style := style) (a := j) k3 (by omega) (by omega) many.toNat 0 hs4 (ns := []) (by simp; omega) List.nodup_nil (fun n hn => by cases hn) none none
  refine ⟨ns, s', ?_, by rw [l5]; simp, d5, g5, hs5⟩
  have hl : dLen (nD st) = some (.int st.length) := dLen_n (by omega)
  unfold m_law_names g_law_names
  have pre : ∀ X : LS → R O, runDef [true, false] 8 (gSeq (gAsg 2 (gCall m_law_next [.r 0, .d (gC (.int 3))]))
    (gSeq (gAsg 3 (gCall m_law_word [.r 0, .d (gFz (gOp dAdd (gC (.int 1)) (gFz (gCall m_law_next [.r 0, .d (gC (.int 11))]))))]))
    (gSeq (gAsg 4 (gCall m_law_next [.r 0, .d (gUn dLen (gPeek 3))]))
    (gSeq (gAsg 5 (gLst gNil)) X)))) [some s, some (.d (.int many))] = endOf [true, false] (X [some s4, some (.d (.int many)), some (.d (.int style)), some (.d (nD st)), some (.d (.int j)), some (.ol []), none, none]) := fun X => by
    simp only [ev_seq, seqK_nx, seqK_rt, seqK_bk, seqK_ct, seqK_err, ev_next, ev_if, ifK_ok, ifK_err, ev_asg, asgK_ok, asgK_err, ev_ret, retK_ok, retK_err, ev_retN, ev_drop, dropK_ok, dropK_err, ev_c, ev_d, dK_ok, dK_err, ev_fz, fzK_d, fzK_l, fzK_err, ev_op, opK1_ok, opK1_err, opK2_ok, opK2_err, ev_un, unK_ok, unK_err, ev_isi, ev_b, bK_ok, bK_err, ev_and, andK_ok, andK_err, ev_or, orK_ok, orK_err, ev_not, notK_ok, ev_andV, andVK_ok, ev_orV, orVK_ok, ev_ifE, ifEK_ok, ev_nil, ev_cons, consK1_ok, consK1_err, consK2_ok, consK2_err, ev_lst, lstK_ok, ev_tup, tupK_ok, ev_var, varK_d, varK_l, ev_peek, peekK_d, peekK_l, peekK_s, ev_move, moveK_d, moveK_l, ev_ixP, ixK_ok, ixK1_ok, ixK1_err, ixK2_ok, dIx_nat, dIx_natT, dIx_l0, dIx_l1, dIx_l2, dIx_l3, dIx_l4, dIx_t0, dIx_t1, dIx_t2, dIx_t3, ev_setIx, setK0_ok, setK0_err, setK1_ok, setK2_ok, setK3_0, setK3_1, setK3_2, setK3_3, setK3_4, ev_sl, slK1_ok, slK2_ok, slK3_ok, ev_no, ev_so, soK_ok, soK_err, ev_join, joinK1_ok, joinK2_ok, ev_app, appK1_ok, appK2_ok, appK2_err, appK3_ok, ev_a0, ev_aD, ev_aR, eaK1_ok, eaK1_err, eaK3_ok, eaK2_ok, eaK2_err, ev_call, callK_d1, callK_d2, callK_d3, callK_d4, callK_d5, callK_d6, callK_d7, callK_d8, callK_r0, callK_r1, callK_r2, callK_r3, callK_r4, callK_r5, callK_r6, callK_r7, callK_err, backK_ok, backK_err, slotOf_d, slotOf_r, putBack_d, putBack_r, putBack_nil, refs_nil, refs_d, refs_r, ev_run, endOf_nx, endOf_rt, endOf_err, maskL_t, maskL_f, maskL_nil, ev_for, forK_ok, forGo_nil, turnK_nx, turnK_ct, turnK_bk, turnK_rt, turnK_err, bind_ok, asItems_l, asItems_t, asItems_s, ev_name, ev_fnil, ev_fcons, ev_ftup, some_bind, ev_asgT, asgTK_ok, asgTK2_ok, ev_lc, lcK_ok, wipeL_nil, wipeL_cons, ev_yes, lcGo_nil, dLt_i, dLe_i, dGt_i, dGe_i, dEq_i, dEq_s, dEq_b, dNe_i, dNe_s, dIs_b, dSub_i, dLen_l, dLen_t, dList_l, dList_t, dSl_l, dNot_b, ty_n_bool, ty_n_int, ty_n_str, ty_n_list, ty_n_tuple, ty_b_bool, ty_b_int, ty_b_str, ty_b_list, ty_b_tuple, ty_i_bool, ty_i_int, ty_i_str, ty_i_list, ty_i_tuple, ty_s_bool, ty_s_int, ty_s_str, ty_s_list, ty_s_tuple, ty_l_bool, ty_l_int, ty_l_str, ty_l_list, ty_l_tuple, ty_t_bool, ty_t_int, ty_t_str, ty_t_list, ty_t_tuple, dIs_nn, dIs_in, dIs_bn, dIs_sn, dIs_ln, dIs_tn, dNe_b, ev_A, aK_ok, aK_err, dMin_ok, dMax_ok, asZip_l, asZip_t, ev_pop, popK1_ok, dAdd_int, ofO_some, ofO_none, List.getElem?_cons_zero, List.getElem?_cons_succ, List.set_cons_zero, List.set_cons_succ, List.length_cons, List.length_nil, List.cons_append, List.nil_append, List.replicate_succ, List.replicate_zero, List.map_cons, List.map_nil, Option.join_some, List.append_nil, Nat.reduceAdd, Nat.reduceLT, Nat.reduceLeDiff, Nat.reduceSub, Nat.reduceEqDiff, if_true, if_false, decide_true, decide_false, Bool.false_eq_true, Bool.not_true, Bool.not_false, e1, e2, e3, hl, e4, small_len (show 0 ≤ 1000000 by decide)]
  have hr : (gCons (gVar 1) gNil [some s4, some (.d (.int many)), some (.d (.int style)), some (.d (nD st)), some (.d (.int j)), some (.ol []), none, none]).bind rng1 = .ok (intsD 0 many.toNat) [some s4, some (.d (.int many)), some (.d (.int style)), some (.d (nD st)), some (.d (.int j)), some (.ol []), none, none] := by
    have e : gCons (gVar 1) gNil [some s4, some (.d (.int many)), some (.d (.int style)), some (.d (nD st)), some (.d (.int j)), some (.ol []), none, none] = .ok [.int many] [some s4, some (.d (.int many)), some (.d (.int style)), some (.d (nD st)), some (.d (.int j)), some (.ol []), none, none] := rfl
    rw [e, bind_ok, rng1_at h0 (by omega)]
  rw [pre, ev_seq, ev_for, hr, forK_ok]
  have e5' := e5
  unfold namesBody at e5'
  rw [List.map_nil] at e5'
  rw [e5', seqK_nx]
  rfl
end Lw

namespace Lw
open PySem VS
/-! ### is_name -/
theorem mem_abc (k : Nat) : k ∈ abc.cps.toList ↔ 97 ≤ k ∧ k ≤ 122 := by
  constructor
  · intro h
    obtain ⟨i, hi, e⟩ := List.mem_iff_getElem.mp h
    rw [abc_len] at hi
    have := abc_at i (List.mem_range.mpr hi)
    rw [List.getElem?_eq_getElem (by rw [abc_len]; exact hi), e] at this
    have := Option.some.inj this
    omega
  · intro h
    have := abc_at (k - 97) (List.mem_range.mpr (by omega))
    have e : 97 + (k - 97) = k := by omega
    rw [e] at this
    exact List.mem_of_getElem? this
def smallB (c : Nat) : Bool := decide (97 ≤ c ∧ c ≤ 122)
def isN (w : List Nat) : Bool := decide (1 ≤ w.length ∧ w.length ≤ 12) && w.all smallB
theorem isN_good {w : List Nat} (h : Good w) : isN w = true := by
  unfold isN
  rw [Bool.and_eq_true, List.all_eq_true]
  exact ⟨decide_eq_true ⟨h.2.1, h.2.2⟩, fun c hc => decide_eq_true (h.1 c hc)⟩
theorem sign_in (c : Nat) : dNotIn (.str ⟨#[c]⟩) (.str abc) = some (.bool (!smallB c)) := by
  have e : dInB (.str ⟨#[c]⟩) (.str abc) = some (decide (c ∈ abc.cps.toList)) := rfl
  unfold dNotIn
  rw [e]
  unfold smallB
  rw [decide_eq_decide.mpr (mem_abc c)]
  rfl
theorem signs_sOf (w : List Nat) : signs (sOf w) = w.map fun c => PyData.str ⟨#[c]⟩ := by
  unfold signs
  rw [sOf_list]
theorem is_name_go : ∀ (w : List Nat) (t : D) (o : Option S), ∃ o', forGo (fName 1) (gIf (gB (gOp dNotIn (gPeek 1) (gC (.str abc)))) (gRet (gD (gC (.bool false)))) gNext) (w.map fun c => PyData.str ⟨#[c]⟩) [some (.d t), o]
    = if w.all smallB then .ok .nx [some (.d t), o'] else .ok (.rt (.d (.bool false))) [some (.d t), o']
  | [], t, o => ⟨o, rfl⟩
  | c :: w, t, o => by
    obtain ⟨o', e⟩ := is_name_go w t (some (.d (.str ⟨#[c]⟩)))
    rw [List.map_cons, forGo_cons (L1 := [some (.d t), some (.d (.str ⟨#[c]⟩))]) _ _ _ _ rfl]
    by_cases h : smallB c = true
    · refine ⟨o', ?_⟩
      have step : gIf (gB (gOp dNotIn (gPeek 1) (gC (.str abc)))) (gRet (gD (gC (.bool false)))) gNext [some (.d t), some (.d (.str ⟨#[c]⟩))] = .ok .nx [some (.d t), some (.d (.str ⟨#[c]⟩))] := by
        simp only [ev_seq, seqK_nx, seqK_rt, seqK_bk, seqK_ct, seqK_err, ev_next, ev_if, ifK_ok, ifK_err, ev_asg, asgK_ok, asgK_err, ev_ret, retK_ok, retK_err, ev_retN, ev_drop, dropK_ok, dropK_err, ev_c, ev_d, dK_ok, dK_err, ev_fz, fzK_d, fzK_l, fzK_err, ev_op, opK1_ok, opK1_err, opK2_ok, opK2_err, ev_un, unK_ok, unK_err, ev_isi, ev_b, bK_ok, bK_err, ev_and, andK_ok, andK_err, ev_or, orK_ok, orK_err, ev_not, notK_ok, ev_andV, andVK_ok, ev_orV, orVK_ok, ev_ifE, ifEK_ok, ev_nil, ev_cons, consK1_ok, consK1_err, consK2_ok, consK2_err, ev_lst, lstK_ok, ev_tup, tupK_ok, ev_var, varK_d, varK_l, ev_peek, peekK_d, peekK_l, peekK_s, ev_move, moveK_d, moveK_l, ev_ixP, ixK_ok, ixK1_ok, ixK1_err, ixK2_ok, dIx_nat, dIx_natT, dIx_l0, dIx_l1, dIx_l2, dIx_l3, dIx_l4, dIx_t0, dIx_t1, dIx_t2, dIx_t3, ev_setIx, setK0_ok, setK0_err, setK1_ok, setK2_ok, setK3_0, setK3_1, setK3_2, setK3_3, setK3_4, ev_sl, slK1_ok, slK2_ok, slK3_ok, ev_no, ev_so, soK_ok, soK_err, ev_join, joinK1_ok, joinK2_ok, ev_app, appK1_ok, appK2_ok, appK2_err, appK3_ok, ev_a0, ev_aD, ev_aR, eaK1_ok, eaK1_err, eaK3_ok, eaK2_ok, eaK2_err, ev_call, callK_d1, callK_d2, callK_d3, callK_d4, callK_d5, callK_d6, callK_d7, callK_d8, callK_r0, callK_r1, callK_r2, callK_r3, callK_r4, callK_r5, callK_r6, callK_r7, callK_err, backK_ok, backK_err, slotOf_d, slotOf_r, putBack_d, putBack_r, putBack_nil, refs_nil, refs_d, refs_r, ev_run, endOf_nx, endOf_rt, endOf_err, maskL_t, maskL_f, maskL_nil, ev_for, forK_ok, forGo_nil, turnK_nx, turnK_ct, turnK_bk, turnK_rt, turnK_err, bind_ok, asItems_l, asItems_t, asItems_s, ev_name, ev_fnil, ev_fcons, ev_ftup, some_bind, ev_asgT, asgTK_ok, asgTK2_ok, ev_lc, lcK_ok, wipeL_nil, wipeL_cons, ev_yes, lcGo_nil, dLt_i, dLe_i, dGt_i, dGe_i, dEq_i, dEq_s, dEq_b, dNe_i, dNe_s, dIs_b, dSub_i, dLen_l, dLen_t, dList_l, dList_t, dSl_l, dNot_b, ty_n_bool, ty_n_int, ty_n_str, ty_n_list, ty_n_tuple, ty_b_bool, ty_b_int, ty_b_str, ty_b_list, ty_b_tuple, ty_i_bool, ty_i_int, ty_i_str, ty_i_list, ty_i_tuple, ty_s_bool, ty_s_int, ty_s_str, ty_s_list, ty_s_tuple, ty_l_bool, ty_l_int, ty_l_str, ty_l_list, ty_l_tuple, ty_t_bool, ty_t_int, ty_t_str, ty_t_list, ty_t_tuple, dIs_nn, dIs_in, dIs_bn, dIs_sn, dIs_ln, dIs_tn, dNe_b, ev_A, aK_ok, aK_err, dMin_ok, dMax_ok, asZip_l, asZip_t, ev_pop, popK1_ok, dAdd_int, ofO_some, ofO_none, List.getElem?_cons_zero, List.getElem?_cons_succ, List.set_cons_zero, List.set_cons_succ, List.length_cons, List.length_nil, List.cons_append, List.nil_append, List.replicate_succ, List.replicate_zero, List.map_cons, List.map_nil, Option.join_some, List.append_nil, Nat.reduceAdd, Nat.reduceLT, Nat.reduceLeDiff, Nat.reduceSub, Nat.reduceEqDiff, if_true, if_false, decide_true, decide_false, Bool.false_eq_true, Bool.not_true, Bool.not_false, sign_in, h]
      rw [step, turnK_nx, e, List.all_cons, h, Bool.true_and]
    · refine ⟨some (.d (.str ⟨#[c]⟩)), ?_⟩
      have h' : smallB c = false := by simpa using h
      have step : gIf (gB (gOp dNotIn (gPeek 1) (gC (.str abc)))) (gRet (gD (gC (.bool false)))) gNext [some (.d t), some (.d (.str ⟨#[c]⟩))] = .ok (.rt (.d (.bool false))) [some (.d t), some (.d (.str ⟨#[c]⟩))] := by
        simp only [ev_seq, seqK_nx, seqK_rt, seqK_bk, seqK_ct, seqK_err, ev_next, ev_if, ifK_ok, ifK_err, ev_asg, asgK_ok, asgK_err, ev_ret, retK_ok, retK_err, ev_retN, ev_drop, dropK_ok, dropK_err, ev_c, ev_d, dK_ok, dK_err, ev_fz, fzK_d, fzK_l, fzK_err, ev_op, opK1_ok, opK1_err, opK2_ok, opK2_err, ev_un, unK_ok, unK_err, ev_isi, ev_b, bK_ok, bK_err, ev_and, andK_ok, andK_err, ev_or, orK_ok, orK_err, ev_not, notK_ok, ev_andV, andVK_ok, ev_orV, orVK_ok, ev_ifE, ifEK_ok, ev_nil, ev_cons, consK1_ok, consK1_err, consK2_ok, consK2_err, ev_lst, lstK_ok, ev_tup, tupK_ok, ev_var, varK_d, varK_l, ev_peek, peekK_d, peekK_l, peekK_s, ev_move, moveK_d, moveK_l, ev_ixP, ixK_ok, ixK1_ok, ixK1_err, ixK2_ok, dIx_nat, dIx_natT, dIx_l0, dIx_l1, dIx_l2, dIx_l3, dIx_l4, dIx_t0, dIx_t1, dIx_t2, dIx_t3, ev_setIx, setK0_ok, setK0_err, setK1_ok, setK2_ok, setK3_0, setK3_1, setK3_2, setK3_3, setK3_4, ev_sl, slK1_ok, slK2_ok, slK3_ok, ev_no, ev_so, soK_ok, soK_err, ev_join, joinK1_ok, joinK2_ok, ev_app, appK1_ok, appK2_ok, appK2_err, appK3_ok, ev_a0, ev_aD, ev_aR, eaK1_ok, eaK1_err, eaK3_ok, eaK2_ok, eaK2_err, ev_call, callK_d1, callK_d2, callK_d3, callK_d4, callK_d5, callK_d6, callK_d7, callK_d8, callK_r0, callK_r1, callK_r2, callK_r3, callK_r4, callK_r5, callK_r6, callK_r7, callK_err, backK_ok, backK_err, slotOf_d, slotOf_r, putBack_d, putBack_r, putBack_nil, refs_nil, refs_d, refs_r, ev_run, endOf_nx, endOf_rt, endOf_err, maskL_t, maskL_f, maskL_nil, ev_for, forK_ok, forGo_nil, turnK_nx, turnK_ct, turnK_bk, turnK_rt, turnK_err, bind_ok, asItems_l, asItems_t, asItems_s, ev_name, ev_fnil, ev_fcons, ev_ftup, some_bind, ev_asgT, asgTK_ok, asgTK2_ok, ev_lc, lcK_ok, wipeL_nil, wipeL_cons, ev_yes, lcGo_nil, dLt_i, dLe_i, dGt_i, dGe_i, dEq_i, dEq_s, dEq_b, dNe_i, dNe_s, dIs_b, dSub_i, dLen_l, dLen_t, dList_l, dList_t, dSl_l, dNot_b, ty_n_bool, ty_n_int, ty_n_str, ty_n_list, ty_n_tuple, ty_b_bool, ty_b_int, ty_b_str, ty_b_list, ty_b_tuple, ty_i_bool, ty_i_int, ty_i_str, ty_i_list, ty_i_tuple, ty_s_bool, ty_s_int, ty_s_str, ty_s_list, ty_s_tuple, ty_l_bool, ty_l_int, ty_l_str, ty_l_list, ty_l_tuple, ty_t_bool, ty_t_int, ty_t_str, ty_t_list, ty_t_tuple, dIs_nn, dIs_in, dIs_bn, dIs_sn, dIs_ln, dIs_tn, dNe_b, ev_A, aK_ok, aK_err, dMin_ok, dMax_ok, asZip_l, asZip_t, ev_pop, popK1_ok, dAdd_int, ofO_some, ofO_none, List.getElem?_cons_zero, List.getElem?_cons_succ, List.set_cons_zero, List.set_cons_succ, List.length_cons, List.length_nil, List.cons_append, List.nil_append, List.replicate_succ, List.replicate_zero, List.map_cons, List.map_nil, Option.join_some, List.append_nil, Nat.reduceAdd, Nat.reduceLT, Nat.reduceLeDiff, Nat.reduceSub, Nat.reduceEqDiff, if_true, if_false, decide_true, decide_false, Bool.false_eq_true, Bool.not_true, Bool.not_false, sign_in, h']
      rw [step, turnK_rt, List.all_cons, h', Bool.false_and]
      rfl
theorem is_name_ok {w : List Nat} (h : w.length ≤ 100000) : m_is_name [some (.d (.str (sOf w)))] = .ok (.d (.bool (isN w))) [none] := by
  have hl : dLen (.str (sOf w)) = some (.int w.length) := dLen_n h
  unfold m_is_name g_is_name
  by_cases hb : 1 ≤ w.length ∧ w.length ≤ 12
  · have h1 : ¬ ((w.length : Int) < 1) := by omega
    have h2 : ¬ ((12 : Int) < (w.length : Int)) := by omega
    obtain ⟨o', e⟩ := is_name_go w (.str (sOf w)) none
    have hr : (gVar 0 [some (.d (.str (sOf w))), none]).bind asItems = .ok (w.map fun c => PyData.str ⟨#[c]⟩) [some (.d (.str (sOf w))), none] := by
      simp only [ev_seq, seqK_nx, seqK_rt, seqK_bk, seqK_ct, seqK_err, ev_next, ev_if, ifK_ok, ifK_err, ev_asg, asgK_ok, asgK_err, ev_ret, retK_ok, retK_err, ev_retN, ev_drop, dropK_ok, dropK_err, ev_c, ev_d, dK_ok, dK_err, ev_fz, fzK_d, fzK_l, fzK_err, ev_op, opK1_ok, opK1_err, opK2_ok, opK2_err, ev_un, unK_ok, unK_err, ev_isi, ev_b, bK_ok, bK_err, ev_and, andK_ok, andK_err, ev_or, orK_ok, orK_err, ev_not, notK_ok, ev_andV, andVK_ok, ev_orV, orVK_ok, ev_ifE, ifEK_ok, ev_nil, ev_cons, consK1_ok, consK1_err, consK2_ok, consK2_err, ev_lst, lstK_ok, ev_tup, tupK_ok, ev_var, varK_d, varK_l, ev_peek, peekK_d, peekK_l, peekK_s, ev_move, moveK_d, moveK_l, ev_ixP, ixK_ok, ixK1_ok, ixK1_err, ixK2_ok, dIx_nat, dIx_natT, dIx_l0, dIx_l1, dIx_l2, dIx_l3, dIx_l4, dIx_t0, dIx_t1, dIx_t2, dIx_t3, ev_setIx, setK0_ok, setK0_err, setK1_ok, setK2_ok, setK3_0, setK3_1, setK3_2, setK3_3, setK3_4, ev_sl, slK1_ok, slK2_ok, slK3_ok, ev_no, ev_so, soK_ok, soK_err, ev_join, joinK1_ok, joinK2_ok, ev_app, appK1_ok, appK2_ok, appK2_err, appK3_ok, ev_a0, ev_aD, ev_aR, eaK1_ok, eaK1_err, eaK3_ok, eaK2_ok, eaK2_err, ev_call, callK_d1, callK_d2, callK_d3, callK_d4, callK_d5, callK_d6, callK_d7, callK_d8, callK_r0, callK_r1, callK_r2, callK_r3, callK_r4, callK_r5, callK_r6, callK_r7, callK_err, backK_ok, backK_err, slotOf_d, slotOf_r, putBack_d, putBack_r, putBack_nil, refs_nil, refs_d, refs_r, ev_run, endOf_nx, endOf_rt, endOf_err, maskL_t, maskL_f, maskL_nil, ev_for, forK_ok, forGo_nil, turnK_nx, turnK_ct, turnK_bk, turnK_rt, turnK_err, bind_ok, asItems_l, asItems_t, asItems_s, ev_name, ev_fnil, ev_fcons, ev_ftup, some_bind, ev_asgT, asgTK_ok, asgTK2_ok, ev_lc, lcK_ok, wipeL_nil, wipeL_cons, ev_yes, lcGo_nil, dLt_i, dLe_i, dGt_i, dGe_i, dEq_i, dEq_s, dEq_b, dNe_i, dNe_s, dIs_b, dSub_i, dLen_l, dLen_t, dList_l, dList_t, dSl_l, dNot_b, ty_n_bool, ty_n_int, ty_n_str, ty_n_list, ty_n_tuple, ty_b_bool, ty_b_int, ty_b_str, ty_b_list, ty_b_tuple, ty_i_bool, ty_i_int, ty_i_str, ty_i_list, ty_i_tuple, ty_s_bool, ty_s_int, ty_s_str, ty_s_list, ty_s_tuple, ty_l_bool, ty_l_int, ty_l_str, ty_l_list, ty_l_tuple, ty_t_bool, ty_t_int, ty_t_str, ty_t_list, ty_t_tuple, dIs_nn, dIs_in, dIs_bn, dIs_sn, dIs_ln, dIs_tn, dNe_b, ev_A, aK_ok, aK_err, dMin_ok, dMax_ok, asZip_l, asZip_t, ev_pop, popK1_ok, dAdd_int, ofO_some, ofO_none, List.getElem?_cons_zero, List.getElem?_cons_succ, List.set_cons_zero, List.set_cons_succ, List.length_cons, List.length_nil, List.cons_append, List.nil_append, List.replicate_succ, List.replicate_zero, List.map_cons, List.map_nil, Option.join_some, List.append_nil, Nat.reduceAdd, Nat.reduceLT, Nat.reduceLeDiff, Nat.reduceSub, Nat.reduceEqDiff, if_true, if_false, decide_true, decide_false, Bool.false_eq_true, Bool.not_true, Bool.not_false, signs_sOf]
    have s0 : ∀ X : LS → R O, runDef [false] 2 (gSeq (gIf (gOr (gB (gOp dLt (gUn dLen (gPeek 0)) (gC (.int 1)))) (gB (gOp dGt (gUn dLen (gPeek 0)) (gC (.int 12))))) (gRet (gD (gC (.bool false)))) gNext) X) [some (.d (.str (sOf w)))] = endOf [false] (X [some (.d (.str (sOf w))), none]) := fun X => by
      simp only [ev_seq, seqK_nx, seqK_rt, seqK_bk, seqK_ct, seqK_err, ev_next, ev_if, ifK_ok, ifK_err, ev_asg, asgK_ok, asgK_err, ev_ret, retK_ok, retK_err, ev_retN, ev_drop, dropK_ok, dropK_err, ev_c, ev_d, dK_ok, dK_err, ev_fz, fzK_d, fzK_l, fzK_err, ev_op, opK1_ok, opK1_err, opK2_ok, opK2_err, ev_un, unK_ok, unK_err, ev_isi, ev_b, bK_ok, bK_err, ev_and, andK_ok, andK_err, ev_or, orK_ok, orK_err, ev_not, notK_ok, ev_andV, andVK_ok, ev_orV, orVK_ok, ev_ifE, ifEK_ok, ev_nil, ev_cons, consK1_ok, consK1_err, consK2_ok, consK2_err, ev_lst, lstK_ok, ev_tup, tupK_ok, ev_var, varK_d, varK_l, ev_peek, peekK_d, peekK_l, peekK_s, ev_move, moveK_d, moveK_l, ev_ixP, ixK_ok, ixK1_ok, ixK1_err, ixK2_ok, dIx_nat, dIx_natT, dIx_l0, dIx_l1, dIx_l2, dIx_l3, dIx_l4, dIx_t0, dIx_t1, dIx_t2, dIx_t3, ev_setIx, setK0_ok, setK0_err, setK1_ok, setK2_ok, setK3_0, setK3_1, setK3_2, setK3_3, setK3_4, ev_sl, slK1_ok, slK2_ok, slK3_ok, ev_no, ev_so, soK_ok, soK_err, ev_join, joinK1_ok, joinK2_ok, ev_app, appK1_ok, appK2_ok, appK2_err, appK3_ok, ev_a0, ev_aD, ev_aR, eaK1_ok, eaK1_err, eaK3_ok, eaK2_ok, eaK2_err, ev_call, callK_d1, callK_d2, callK_d3, callK_d4, callK_d5, callK_d6, callK_d7, callK_d8, callK_r0, callK_r1, callK_r2, callK_r3, callK_r4, callK_r5, callK_r6, callK_r7, callK_err, backK_ok, backK_err, slotOf_d, slotOf_r, putBack_d, putBack_r, putBack_nil, refs_nil, refs_d, refs_r, ev_run, endOf_nx, endOf_rt, endOf_err, maskL_t, maskL_f, maskL_nil, ev_for, forK_ok, forGo_nil, turnK_nx, turnK_ct, turnK_bk, turnK_rt, turnK_err, bind_ok, asItems_l, asItems_t, asItems_s, ev_name, ev_fnil, ev_fcons, ev_ftup, some_bind, ev_asgT, asgTK_ok, asgTK2_ok, ev_lc, lcK_ok, wipeL_nil, wipeL_cons, ev_yes, lcGo_nil, dLt_i, dLe_i, dGt_i, dGe_i, dEq_i, dEq_s, dEq_b, dNe_i, dNe_s, dIs_b, dSub_i, dLen_l, dLen_t, dList_l, dList_t, dSl_l, dNot_b, ty_n_bool, ty_n_int, ty_n_str, ty_n_list, ty_n_tuple, ty_b_bool, ty_b_int, ty_b_str, ty_b_list, ty_b_tuple, ty_i_bool, ty_i_int, ty_i_str, ty_i_list, ty_i_tuple, ty_s_bool, ty_s_int, ty_s_str, ty_s_list, ty_s_tuple, ty_l_bool, ty_l_int, ty_l_str, ty_l_list, ty_l_tuple, ty_t_bool, ty_t_int, ty_t_str, ty_t_list, ty_t_tuple, dIs_nn, dIs_in, dIs_bn, dIs_sn, dIs_ln, dIs_tn, dNe_b, ev_A, aK_ok, aK_err, dMin_ok, dMax_ok, asZip_l, asZip_t, ev_pop, popK1_ok, dAdd_int, ofO_some, ofO_none, List.getElem?_cons_zero, List.getElem?_cons_succ, List.set_cons_zero, List.set_cons_succ, List.length_cons, List.length_nil, List.cons_append, List.nil_append, List.replicate_succ, List.replicate_zero, List.map_cons, List.map_nil, Option.join_some, List.append_nil, Nat.reduceAdd, Nat.reduceLT, Nat.reduceLeDiff, Nat.reduceSub, Nat.reduceEqDiff, if_true, if_false, decide_true, decide_false, Bool.false_eq_true, Bool.not_true, Bool.not_false, hl, h1, h2]
    rw [s0, ev_seq, ev_for, hr, forK_ok, e]
    unfold isN
    rw [decide_eq_true hb, Bool.true_and]
    by_cases ha : w.all smallB = true
    · rw [if_pos ha, ha]
      rfl
    · have ha' : w.all smallB = false := by simpa using ha
      rw [if_neg ha, ha']
      rfl
  · have hf : isN w = false := by
      unfold isN
      rw [decide_eq_false hb, Bool.false_and]
    rw [hf]
    by_cases h1 : (w.length : Int) < 1
    · simp only [ev_seq, seqK_nx, seqK_rt, seqK_bk, seqK_ct, seqK_err, ev_next, ev_if, ifK_ok, ifK_err, ev_asg, asgK_ok, asgK_err, ev_ret, retK_ok, retK_err, ev_retN, ev_drop, dropK_ok, dropK_err, ev_c, ev_d, dK_ok, dK_err, ev_fz, fzK_d, fzK_l, fzK_err, ev_op, opK1_ok, opK1_err, opK2_ok, opK2_err, ev_un, unK_ok, unK_err, ev_isi, ev_b, bK_ok, bK_err, ev_and, andK_ok, andK_err, ev_or, orK_ok, orK_err, ev_not, notK_ok, ev_andV, andVK_ok, ev_orV, orVK_ok, ev_ifE, ifEK_ok, ev_nil, ev_cons, consK1_ok, consK1_err, consK2_ok, consK2_err, ev_lst, lstK_ok, ev_tup, tupK_ok, ev_var, varK_d, varK_l, ev_peek, peekK_d, peekK_l, peekK_s, ev_move, moveK_d, moveK_l, ev_ixP, ixK_ok, ixK1_ok, ixK1_err, ixK2_ok, dIx_nat, dIx_natT, dIx_l0, dIx_l1, dIx_l2, dIx_l3, dIx_l4, dIx_t0, dIx_t1, dIx_t2, dIx_t3, ev_setIx, setK0_ok, setK0_err, setK1_ok, setK2_ok, setK3_0, setK3_1, setK3_2, setK3_3, setK3_4, ev_sl, slK1_ok, slK2_ok, slK3_ok, ev_no, ev_so, soK_ok, soK_err, ev_join, joinK1_ok, joinK2_ok, ev_app, appK1_ok, appK2_ok, appK2_err, appK3_ok, ev_a0, ev_aD, ev_aR, eaK1_ok, eaK1_err, eaK3_ok, eaK2_ok, eaK2_err, ev_call, callK_d1, callK_d2, callK_d3, callK_d4, callK_d5, callK_d6, callK_d7, callK_d8, callK_r0, callK_r1, callK_r2, callK_r3, callK_r4, callK_r5, callK_r6, callK_r7, callK_err, backK_ok, backK_err, slotOf_d, slotOf_r, putBack_d, putBack_r, putBack_nil, refs_nil, refs_d, refs_r, ev_run, endOf_nx, endOf_rt, endOf_err, maskL_t, maskL_f, maskL_nil, ev_for, forK_ok, forGo_nil, turnK_nx, turnK_ct, turnK_bk, turnK_rt, turnK_err, bind_ok, asItems_l, asItems_t, asItems_s, ev_name, ev_fnil, ev_fcons, ev_ftup, some_bind, ev_asgT, asgTK_ok, asgTK2_ok, ev_lc, lcK_ok, wipeL_nil, wipeL_cons, ev_yes, lcGo_nil, dLt_i, dLe_i, dGt_i, dGe_i, dEq_i, dEq_s, dEq_b, dNe_i, dNe_s, dIs_b, dSub_i, dLen_l, dLen_t, dList_l, dList_t, dSl_l, dNot_b, ty_n_bool, ty_n_int, ty_n_str, ty_n_list, ty_n_tuple, ty_b_bool, ty_b_int, ty_b_str, ty_b_list, ty_b_tuple, ty_i_bool, ty_i_int, ty_i_str, ty_i_list, ty_i_tuple, ty_s_bool, ty_s_int, ty_s_str, ty_s_list, ty_s_tuple, ty_l_bool, ty_l_int, ty_l_str, ty_l_list, ty_l_tuple, ty_t_bool, ty_t_int, ty_t_str, ty_t_list, ty_t_tuple, dIs_nn, dIs_in, dIs_bn, dIs_sn, dIs_ln, dIs_tn, dNe_b, ev_A, aK_ok, aK_err, dMin_ok, dMax_ok, asZip_l, asZip_t, ev_pop, popK1_ok, dAdd_int, ofO_some, ofO_none, List.getElem?_cons_zero, List.getElem?_cons_succ, List.set_cons_zero, List.set_cons_succ, List.length_cons, List.length_nil, List.cons_append, List.nil_append, List.replicate_succ, List.replicate_zero, List.map_cons, List.map_nil, Option.join_some, List.append_nil, Nat.reduceAdd, Nat.reduceLT, Nat.reduceLeDiff, Nat.reduceSub, Nat.reduceEqDiff, if_true, if_false, decide_true, decide_false, Bool.false_eq_true, Bool.not_true, Bool.not_false, hl, h1]
    · have h2 : (12 : Int) < (w.length : Int) := by omega
      simp only [ev_seq, seqK_nx, seqK_rt, seqK_bk, seqK_ct, seqK_err, ev_next, ev_if, ifK_ok, ifK_err, ev_asg, asgK_ok, asgK_err, ev_ret, retK_ok, retK_err, ev_retN, ev_drop, dropK_ok, dropK_err, ev_c, ev_d, dK_ok, dK_err, ev_fz, fzK_d, fzK_l, fzK_err, ev_op, opK1_ok, opK1_err, opK2_ok, opK2_err, ev_un, unK_ok, unK_err, ev_isi, ev_b, bK_ok, bK_err, ev_and, andK_ok, andK_err, ev_or, orK_ok, orK_err, ev_not, notK_ok, ev_andV, andVK_ok, ev_orV, orVK_ok, ev_ifE, ifEK_ok, ev_nil, ev_cons, consK1_ok, consK1_err, consK2_ok, consK2_err, ev_lst, lstK_ok, ev_tup, tupK_ok, ev_var, varK_d, varK_l, ev_peek, peekK_d, peekK_l, peekK_s, ev_move, moveK_d, moveK_l, ev_ixP, ixK_ok, ixK1_ok, ixK1_err, ixK2_ok, dIx_nat, dIx_natT, dIx_l0, dIx_l1, dIx_l2, dIx_l3, dIx_l4, dIx_t0, dIx_t1, dIx_t2, dIx_t3, ev_setIx, setK0_ok, setK0_err, setK1_ok, setK2_ok, setK3_0, setK3_1, setK3_2, setK3_3, setK3_4, ev_sl, slK1_ok, slK2_ok, slK3_ok, ev_no, ev_so, soK_ok, soK_err, ev_join, joinK1_ok, joinK2_ok, ev_app, appK1_ok, appK2_ok, appK2_err, appK3_ok, ev_a0, ev_aD, ev_aR, eaK1_ok, eaK1_err, eaK3_ok, eaK2_ok, eaK2_err, ev_call, callK_d1, callK_d2, callK_d3, callK_d4, callK_d5, callK_d6, callK_d7, callK_d8, callK_r0, callK_r1, callK_r2, callK_r3, callK_r4, callK_r5, callK_r6, callK_r7, callK_err, backK_ok, backK_err, slotOf_d, slotOf_r, putBack_d, putBack_r, putBack_nil, refs_nil, refs_d, refs_r, ev_run, endOf_nx, endOf_rt, endOf_err, maskL_t, maskL_f, maskL_nil, ev_for, forK_ok, forGo_nil, turnK_nx, turnK_ct, turnK_bk, turnK_rt, turnK_err, bind_ok, asItems_l, asItems_t, asItems_s, ev_name, ev_fnil, ev_fcons, ev_ftup, some_bind, ev_asgT, asgTK_ok, asgTK2_ok, ev_lc, lcK_ok, wipeL_nil, wipeL_cons, ev_yes, lcGo_nil, dLt_i, dLe_i, dGt_i, dGe_i, dEq_i, dEq_s, dEq_b, dNe_i, dNe_s, dIs_b, dSub_i, dLen_l, dLen_t, dList_l, dList_t, dSl_l, dNot_b, ty_n_bool, ty_n_int, ty_n_str, ty_n_list, ty_n_tuple, ty_b_bool, ty_b_int, ty_b_str, ty_b_list, ty_b_tuple, ty_i_bool, ty_i_int, ty_i_str, ty_i_list, ty_i_tuple, ty_s_bool, ty_s_int, ty_s_str, ty_s_list, ty_s_tuple, ty_l_bool, ty_l_int, ty_l_str, ty_l_list, ty_l_tuple, ty_t_bool, ty_t_int, ty_t_str, ty_t_list, ty_t_tuple, dIs_nn, dIs_in, dIs_bn, dIs_sn, dIs_ln, dIs_tn, dNe_b, ev_A, aK_ok, aK_err, dMin_ok, dMax_ok, asZip_l, asZip_t, ev_pop, popK1_ok, dAdd_int, ofO_some, ofO_none, List.getElem?_cons_zero, List.getElem?_cons_succ, List.set_cons_zero, List.set_cons_succ, List.length_cons, List.length_nil, List.cons_append, List.nil_append, List.replicate_succ, List.replicate_zero, List.map_cons, List.map_nil, Option.join_some, List.append_nil, Nat.reduceAdd, Nat.reduceLT, Nat.reduceLeDiff, Nat.reduceSub, Nat.reduceEqDiff, if_true, if_false, decide_true, decide_false, Bool.false_eq_true, Bool.not_true, Bool.not_false, hl, h1, h2]
end Lw

namespace Lw
open PySem VS
/-! ### the drawer at the law's beginning -/
theorem cut_all (ns : List Int) (h : ns.length ≤ 63) : cutD (ns.map PyData.int) none (some 63) = ns.map PyData.int := by
  unfold cutD
  have e : HT.sIx (ns.map PyData.int).length 0 none = 0 := rfl
  have e2 : HT.sIx (ns.map PyData.int).length (ns.map PyData.int).length (some 63) = min (63 : Int).toNat (ns.map PyData.int).length := rfl
  rw [e, e2, List.drop_zero, List.length_map, Nat.sub_zero, List.take_of_length_le]
  rw [List.length_map]
  have : (63 : Int).toNat = 63 := rfl
  omega
theorem src_ok {ns : List Int} (h : ns.length ≤ 63) : m_law_src [some (.scr ns)] = .ok (srcS ns 0 0 1 0) [some (.scr ns)] := by
  unfold m_law_src g_law_src
  simp only [ev_seq, seqK_nx, seqK_rt, seqK_bk, seqK_ct, seqK_err, ev_next, ev_if, ifK_ok, ifK_err, ev_asg, asgK_ok, asgK_err, ev_ret, retK_ok, retK_err, ev_retN, ev_drop, dropK_ok, dropK_err, ev_c, ev_d, dK_ok, dK_err, ev_fz, fzK_d, fzK_l, fzK_err, ev_op, opK1_ok, opK1_err, opK2_ok, opK2_err, ev_un, unK_ok, unK_err, ev_isi, ev_b, bK_ok, bK_err, ev_and, andK_ok, andK_err, ev_or, orK_ok, orK_err, ev_not, notK_ok, ev_andV, andVK_ok, ev_orV, orVK_ok, ev_ifE, ifEK_ok, ev_nil, ev_cons, consK1_ok, consK1_err, consK2_ok, consK2_err, ev_lst, lstK_ok, ev_tup, tupK_ok, ev_var, varK_d, varK_l, ev_peek, peekK_d, peekK_l, peekK_s, ev_move, moveK_d, moveK_l, ev_ixP, ixK_ok, ixK1_ok, ixK1_err, ixK2_ok, dIx_nat, dIx_natT, dIx_l0, dIx_l1, dIx_l2, dIx_l3, dIx_l4, dIx_t0, dIx_t1, dIx_t2, dIx_t3, ev_setIx, setK0_ok, setK0_err, setK1_ok, setK2_ok, setK3_0, setK3_1, setK3_2, setK3_3, setK3_4, ev_sl, slK1_ok, slK2_ok, slK3_ok, ev_no, ev_so, soK_ok, soK_err, ev_join, joinK1_ok, joinK2_ok, ev_app, appK1_ok, appK2_ok, appK2_err, appK3_ok, ev_a0, ev_aD, ev_aR, eaK1_ok, eaK1_err, eaK3_ok, eaK2_ok, eaK2_err, ev_call, callK_d1, callK_d2, callK_d3, callK_d4, callK_d5, callK_d6, callK_d7, callK_d8, callK_r0, callK_r1, callK_r2, callK_r3, callK_r4, callK_r5, callK_r6, callK_r7, callK_err, backK_ok, backK_err, slotOf_d, slotOf_r, putBack_d, putBack_r, putBack_nil, refs_nil, refs_d, refs_r, ev_run, endOf_nx, endOf_rt, endOf_err, maskL_t, maskL_f, maskL_nil, ev_for, forK_ok, forGo_nil, turnK_nx, turnK_ct, turnK_bk, turnK_rt, turnK_err, bind_ok, asItems_l, asItems_t, asItems_s, ev_name, ev_fnil, ev_fcons, ev_ftup, some_bind, ev_asgT, asgTK_ok, asgTK2_ok, ev_lc, lcK_ok, wipeL_nil, wipeL_cons, ev_yes, lcGo_nil, dLt_i, dLe_i, dGt_i, dGe_i, dEq_i, dEq_s, dEq_b, dNe_i, dNe_s, dIs_b, dSub_i, dLen_l, dLen_t, dList_l, dList_t, dSl_l, dNot_b, ty_n_bool, ty_n_int, ty_n_str, ty_n_list, ty_n_tuple, ty_b_bool, ty_b_int, ty_b_str, ty_b_list, ty_b_tuple, ty_i_bool, ty_i_int, ty_i_str, ty_i_list, ty_i_tuple, ty_s_bool, ty_s_int, ty_s_str, ty_s_list, ty_s_tuple, ty_l_bool, ty_l_int, ty_l_str, ty_l_list, ty_l_tuple, ty_t_bool, ty_t_int, ty_t_str, ty_t_list, ty_t_tuple, dIs_nn, dIs_in, dIs_bn, dIs_sn, dIs_ln, dIs_tn, dNe_b, ev_A, aK_ok, aK_err, dMin_ok, dMax_ok, asZip_l, asZip_t, ev_pop, popK1_ok, dAdd_int, ofO_some, ofO_none, List.getElem?_cons_zero, List.getElem?_cons_succ, List.set_cons_zero, List.set_cons_succ, List.length_cons, List.length_nil, List.cons_append, List.nil_append, List.replicate_succ, List.replicate_zero, List.map_cons, List.map_nil, Option.join_some, List.append_nil, Nat.reduceAdd, Nat.reduceLT, Nat.reduceLeDiff, Nat.reduceSub, Nat.reduceEqDiff, if_true, if_false, decide_true, decide_false, Bool.false_eq_true, Bool.not_true, Bool.not_false, cut_all ns h, small_len (show 0 + 1 + 1 + 1 + 1 + 1 ≤ 1000000 by decide)]
  rfl
theorem src_start {ns : List Int} (h : ns.length ≤ 63) : Src (srcS ns 0 0 1 0) := ⟨ns, 0, 0, 1, 0, rfl, h, by omega, by omega, by omega, by omega, by omega⟩
end Lw

namespace Lw
open PySem PySem.Spec PyProof.Rows L2 VS
def g_weight_last : LS → R O := (gRet (gD (gIxP 0 (gC (.int 1)))))
def m_weight_last : LS → R S := runDef [false] 1 g_weight_last
def g_total : LS → R O := (gRet (gD (gUn dSum (gFz (gLc [1, 2] (fun L => ((gVar 0) L).bind asItems) (fTup 2 (fCons (fName 1) (fCons (fName 2) fNil))) gYes (gVar 2))))))
def m_total : LS → R S := runDef [false] 3 g_total
def g_heaviest : LS → R O := (gRet (gCall Lw.m_total [.d (gFz (gSl (gFz (gUn (dSortK true) (gVar 0))) gNo (gSo (gVar 1))))]))
def m_heaviest : LS → R S := runDef [false, false] 2 g_heaviest
def g_law_whole : LS → R O := (gRet (gD (gAndV (gIsi "int" (gPeek 0)) (gUn dNot (gIsi "bool" (gPeek 0))))))
def m_law_whole : LS → R S := runDef [false] 1 g_law_whole
def m_law_same : Nat → LS → R S
  | 0 => fun _ => .stuck
  | k_ + 1 => runDef [false, false] 4 ((gSeq (gIf (gB (gOp dIs (gPeek 1) (gC .none))) (gRet (gD (gOp dIs (gPeek 0) (gC .none)))) gNext)
    (gSeq (gIf (gB (gIsi "bool" (gPeek 1))) (gRet (gD (gAndV (gIsi "bool" (gPeek 0)) (gOp dEq (gPeek 0) (gPeek 1))))) gNext)
    (gSeq (gIf (gB (gIsi "int" (gPeek 1))) (gRet (gD (gAndV (gFz (gCall Lw.m_law_whole [.d (gVar 0)])) (gOp dEq (gPeek 0) (gPeek 1))))) gNext)
    (gSeq (gIf (gB (gIsi "str" (gPeek 1))) (gRet (gD (gAndV (gIsi "str" (gPeek 0)) (gOp dEq (gPeek 0) (gPeek 1))))) gNext)
    (gSeq (gIf (gOr (gB (gOp dNe (gIsi "list" (gPeek 1)) (gIsi "list" (gPeek 0)))) (gB (gOp dNe (gIsi "tuple" (gPeek 1)) (gIsi "tuple" (gPeek 0))))) (gRet (gD (gC (.bool false)))) gNext)
    (gSeq (gIf (gB (gOp dNe (gUn dLen (gPeek 0)) (gUn dLen (gPeek 1)))) (gRet (gD (gC (.bool false)))) gNext)
    (gSeq (gFor (fun L => ((gCons (gVar 0) (gCons (gVar 1) gNil)) L).bind asZip) (fTup 2 (fCons (fName 2) (fCons (fName 3) fNil))) (gIf (gNot (gB (gFz (gCall (m_law_same k_) [.d (gVar 2), .d (gVar 3)])))) (gRet (gD (gC (.bool false)))) gNext))
    (gRet (gD (gC (.bool true))))))))))))
def g_law_weight : LS → R O := (gSeq (gAsg 1 (gCall Lw.m_law_next [.r 0, .d (gC (.int 5))]))
    (gSeq (gIf (gB (gOp dEq (gPeek 1) (gC (.int 0)))) (gRet (gOp dAdd (gC (.int 1)) (gFz (gCall Lw.m_law_next [.r 0, .d (gC (.int 1000))])))) gNext)
    (gSeq (gIf (gB (gOp dEq (gPeek 1) (gC (.int 1)))) (gRet (gD (gOp dSub (gC (.int 1000)) (gFz (gCall Lw.m_law_next [.r 0, .d (gC (.int 3))]))))) gNext)
    (gRet (gOp dAdd (gC (.int 1)) (gFz (gCall Lw.m_law_next [.r 0, .d (gC (.int 9))])))))))
def m_law_weight : LS → R S := runDef [true] 2 g_law_weight
def g_law_total : LS → R O := (gSeq (gAsg 1 (gD (gC (.int 0))))
    (gSeq (gFor (fun L => ((gVar 0) L).bind asItems) (fTup 2 (fCons (fName 2) (fCons (fName 3) fNil))) (gAsg 1 (gOp dAdd (gVar 1) (gVar 3))))
    (gRet (gMove 1))))
def m_law_total : LS → R S := runDef [false] 4 g_law_total
def g_law_side : LS → R O := (gSeq (gAsg 3 (gUn dList (gPeek 1)))
    (gSeq (gAsg 4 (gLst gNil))
    (gSeq (gFor (fun L => ((gCons (gA dMin (gCons (gVar 2) (gCons (gUn dLen (gPeek 1)) gNil))) gNil) L).bind rng1) (fName 5) (gDrop (gApp 4 (gTup (gCons (gPopAt 3 (gFz (gCall Lw.m_law_next [.r 0, .d (gUn dLen (gPeek 3))]))) (gCons (gFz (gCall Lw.m_law_weight [.r 0])) gNil))))))
    (gRet (gMove 4)))))
def m_law_side : LS → R S := runDef [true, false, false] 6 g_law_side
def g_law_sum_first : LS → R O := (gSeq (gAsg 2 (gUn dSorted (gFz (gLc [5, 4] (fun L => ((gVar 0) L).bind asItems) (fTup 2 (fCons (fName 5) (fCons (fName 4) fNil))) gYes (gVar 4)))))
    (gSeq (gAsg 3 (gD (gC (.int 0))))
    (gSeq (gFor (fun L => ((gFz (gSl (gPeek 2) (gSo (gA dMax (gCons (gC (.int 0)) (gCons (gOp dSub (gUn dLen (gPeek 2)) (gVar 1)) gNil)))) gNo)) L).bind asItems) (fName 4) (gAsg 3 (gOp dAdd (gVar 3) (gVar 4))))
    (gRet (gMove 3)))))
def m_law_sum_first : LS → R S := runDef [false, false] 6 g_law_sum_first
def g_main_k02 : LS → R O := (gSeq (gAsg 1 (gCall Lw.m_law_src [.r 0]))
    (gSeq (gAsg 2 (gCall Lw.m_law_names [.r 1, .d (gC (.int 12))]))
    (gSeq (gAsg 3 (gCall Lw.m_law_side [.r 1, .d (gVar 2), .d (gFz (gCall Lw.m_law_next [.r 1, .d (gC (.int 13))]))]))
    (gSeq (gAsg 4 (gCall Lw.m_law_next [.r 1, .d (gFz (gOp dAdd (gUn dLen (gPeek 3)) (gC (.int 3))))]))
    (gSeq (gAsg 5 (gUn dList (gPeek 3)))
    (gSeq (gIf (gNot (gB (gFz (gCall (Lw.m_law_same 12) [.d (gFz (gCall Lw.m_total [.d (gVar 3)])), .d (gFz (gCall Lw.m_law_total [.d (gVar 5)]))])))) (gRet (gD (gC (.bool false)))) gNext)
    (gSeq (gIf (gNot (gB (gFz (gCall (Lw.m_law_same 12) [.d (gFz (gCall Lw.m_heaviest [.d (gVar 3), .d (gVar 4)])), .d (gFz (gCall Lw.m_law_sum_first [.d (gVar 5), .d (gVar 4)]))])))) (gRet (gD (gC (.bool false)))) gNext)
    (gSeq (gIf (gNot (gB (gFz (gCall (Lw.m_law_same 12) [.d (gFz (gCall Lw.m_heaviest [.d (gVar 3), .d (gUn dLen (gPeek 5))])), .d (gFz (gCall Lw.m_law_total [.d (gVar 5)]))])))) (gRet (gD (gC (.bool false)))) gNext)
    (gRet (gCall (Lw.m_law_same 12) [.d (gVar 3), .d (gVar 5)]))))))))))
def m_main_k02 : LS → R S := runDef [true] 6 g_main_k02
end Lw

namespace Lw
open PySem VS
/-! ### `_law_same` of one thing twice -/
/-- plain data of so much depth -/
def Pl : Nat → D → Prop
  | 0, _ => False
  | k + 1, d => match d with
    | .none => True
    | .bool _ => True
    | .int _ => True
    | .str _ => True
    | .list xs => ∀ x ∈ xs, Pl k x
    | .tuple xs => ∀ x ∈ xs, Pl k x
    | _ => False
theorem zip_self : ∀ xs : List D, zipD xs xs = xs.map fun x => .tuple [x, x]
  | [] => rfl
  | x :: xs => by
    have := zip_self xs
    unfold zipD at *
    rw [List.zip_cons_cons, List.map_cons, this, List.map_cons]
theorem whole_int (i : Int) : m_law_whole [some (.d (.int i))] = .ok (.d (.bool true)) [none] := by
  unfold m_law_whole g_law_whole
  simp only [ev_seq, seqK_nx, seqK_rt, seqK_bk, seqK_ct, seqK_err, ev_next, ev_if, ifK_ok, ifK_err, ev_asg, asgK_ok, asgK_err, ev_ret, retK_ok, retK_err, ev_retN, ev_drop, dropK_ok, dropK_err, ev_c, ev_d, dK_ok, dK_err, ev_fz, fzK_d, fzK_l, fzK_err, ev_op, opK1_ok, opK1_err, opK2_ok, opK2_err, ev_un, unK_ok, unK_err, ev_isi, ev_b, bK_ok, bK_err, ev_and, andK_ok, andK_err, ev_or, orK_ok, orK_err, ev_not, notK_ok, ev_andV, andVK_ok, ev_orV, orVK_ok, ev_ifE, ifEK_ok, ev_nil, ev_cons, consK1_ok, consK1_err, consK2_ok, consK2_err, ev_lst, lstK_ok, ev_tup, tupK_ok, ev_var, varK_d, varK_l, ev_peek, peekK_d, peekK_l, peekK_s, ev_move, moveK_d, moveK_l, ev_ixP, ixK_ok, ixK1_ok, ixK1_err, ixK2_ok, dIx_nat, dIx_natT, dIx_l0, dIx_l1, dIx_l2, dIx_l3, dIx_l4, dIx_t0, dIx_t1, dIx_t2, dIx_t3, ev_setIx, setK0_ok, setK0_err, setK1_ok, setK2_ok, setK3_0, setK3_1, setK3_2, setK3_3, setK3_4, ev_sl, slK1_ok, slK2_ok, slK3_ok, ev_no, ev_so, soK_ok, soK_err, ev_join, joinK1_ok, joinK2_ok, ev_app, appK1_ok, appK2_ok, appK2_err, appK3_ok, ev_a0, ev_aD, ev_aR, eaK1_ok, eaK1_err, eaK3_ok, eaK2_ok, eaK2_err, ev_call, callK_d1, callK_d2, callK_d3, callK_d4, callK_d5, callK_d6, callK_d7, callK_d8, callK_r0, callK_r1, callK_r2, callK_r3, callK_r4, callK_r5, callK_r6, callK_r7, callK_err, backK_ok, backK_err, slotOf_d, slotOf_r, putBack_d, putBack_r, putBack_nil, refs_nil, refs_d, refs_r, ev_run, endOf_nx, endOf_rt, endOf_err, maskL_t, maskL_f, maskL_nil, ev_for, forK_ok, forGo_nil, turnK_nx, turnK_ct, turnK_bk, turnK_rt, turnK_err, bind_ok, asItems_l, asItems_t, asItems_s, ev_name, ev_fnil, ev_fcons, ev_ftup, some_bind, ev_asgT, asgTK_ok, asgTK2_ok, ev_lc, lcK_ok, wipeL_nil, wipeL_cons, ev_yes, lcGo_nil, dLt_i, dLe_i, dGt_i, dGe_i, dEq_i, dEq_s, dEq_b, dNe_i, dNe_s, dIs_b, dSub_i, dLen_l, dLen_t, dList_l, dList_t, dSl_l, dNot_b, ty_n_bool, ty_n_int, ty_n_str, ty_n_list, ty_n_tuple, ty_b_bool, ty_b_int, ty_b_str, ty_b_list, ty_b_tuple, ty_i_bool, ty_i_int, ty_i_str, ty_i_list, ty_i_tuple, ty_s_bool, ty_s_int, ty_s_str, ty_s_list, ty_s_tuple, ty_l_bool, ty_l_int, ty_l_str, ty_l_list, ty_l_tuple, ty_t_bool, ty_t_int, ty_t_str, ty_t_list, ty_t_tuple, dIs_nn, dIs_in, dIs_bn, dIs_sn, dIs_ln, dIs_tn, dNe_b, ev_A, aK_ok, aK_err, dMin_ok, dMax_ok, asZip_l, asZip_t, ev_pop, popK1_ok, dAdd_int, ofO_some, ofO_none, List.getElem?_cons_zero, List.getElem?_cons_succ, List.set_cons_zero, List.set_cons_succ, List.length_cons, List.length_nil, List.cons_append, List.nil_append, List.replicate_succ, List.replicate_zero, List.map_cons, List.map_nil, Option.join_some, List.append_nil, Nat.reduceAdd, Nat.reduceLT, Nat.reduceLeDiff, Nat.reduceSub, Nat.reduceEqDiff, if_true, if_false, decide_true, decide_false, Bool.false_eq_true, Bool.not_true, Bool.not_false]
theorem same_go {m : LS → R S} {d0 d1 : Option S} : ∀ (xs : List D) (o2 o3 : Option S), (∀ x ∈ xs, m [some (.d x), some (.d x)] = .ok (.d (.bool true)) [none, none]) →
    ∃ o2' o3', forGo (fTup 2 (fCons (fName 2) (fCons (fName 3) fNil))) (gIf (gNot (gB (gFz (gCall m [.d (gVar 2), .d (gVar 3)])))) (gRet (gD (gC (.bool false)))) gNext) (xs.map fun x => .tuple [x, x]) [d0, d1, o2, o3] = .ok .nx [d0, d1, o2', o3']
  | [], o2, o3, _ => ⟨o2, o3, by rw [List.map_nil, forGo_nil]⟩
  | x :: xs, o2, o3, h => by
    rw [List.map_cons, forGo_cons (L1 := [d0, d1, some (.d x), some (.d x)]) _ _ _ _ rfl]
    obtain ⟨o2', o3', e⟩ := same_go (m := m) (d0 := d0) (d1 := d1) xs (some (.d x)) (some (.d x)) fun y hy => h y (List.mem_cons_of_mem _ hy)
    have hx := h x List.mem_cons_self
    refine ⟨o2', o3', ?_⟩
    have step : gIf (gNot (gB (gFz (gCall m [.d (gVar 2), .d (gVar 3)])))) (gRet (gD (gC (.bool false)))) gNext [d0, d1, some (.d x), some (.d x)] = .ok .nx [d0, d1, some (.d x), some (.d x)] := by
      simp only [ev_seq, seqK_nx, seqK_rt, seqK_bk, seqK_ct, seqK_err, ev_next, ev_if, ifK_ok, ifK_err, ev_asg, asgK_ok, asgK_err, ev_ret, retK_ok, retK_err, ev_retN, ev_drop, dropK_ok, dropK_err, ev_c, ev_d, dK_ok, dK_err, ev_fz, fzK_d, fzK_l, fzK_err, ev_op, opK1_ok, opK1_err, opK2_ok, opK2_err, ev_un, unK_ok, unK_err, ev_isi, ev_b, bK_ok, bK_err, ev_and, andK_ok, andK_err, ev_or, orK_ok, orK_err, ev_not, notK_ok, ev_andV, andVK_ok, ev_orV, orVK_ok, ev_ifE, ifEK_ok, ev_nil, ev_cons, consK1_ok, consK1_err, consK2_ok, consK2_err, ev_lst, lstK_ok, ev_tup, tupK_ok, ev_var, varK_d, varK_l, ev_peek, peekK_d, peekK_l, peekK_s, ev_move, moveK_d, moveK_l, ev_ixP, ixK_ok, ixK1_ok, ixK1_err, ixK2_ok, dIx_nat, dIx_natT, dIx_l0, dIx_l1, dIx_l2, dIx_l3, dIx_l4, dIx_t0, dIx_t1, dIx_t2, dIx_t3, ev_setIx, setK0_ok, setK0_err, setK1_ok, setK2_ok, setK3_0, setK3_1, setK3_2, setK3_3, setK3_4, ev_sl, slK1_ok, slK2_ok, slK3_ok, ev_no, ev_so, soK_ok, soK_err, ev_join, joinK1_ok, joinK2_ok, ev_app, appK1_ok, appK2_ok, appK2_err, appK3_ok, ev_a0, ev_aD, ev_aR, eaK1_ok, eaK1_err, eaK3_ok, eaK2_ok, eaK2_err, ev_call, callK_d1, callK_d2, callK_d3, callK_d4, callK_d5, callK_d6, callK_d7, callK_d8, callK_r0, callK_r1, callK_r2, callK_r3, callK_r4, callK_r5, callK_r6, callK_r7, callK_err, backK_ok, backK_err, slotOf_d, slotOf_r, putBack_d, putBack_r, putBack_nil, refs_nil, refs_d, refs_r, ev_run, endOf_nx, endOf_rt, endOf_err, maskL_t, maskL_f, maskL_nil, ev_for, forK_ok, forGo_nil, turnK_nx, turnK_ct, turnK_bk, turnK_rt, turnK_err, bind_ok, asItems_l, asItems_t, asItems_s, ev_name, ev_fnil, ev_fcons, ev_ftup, some_bind, ev_asgT, asgTK_ok, asgTK2_ok, ev_lc, lcK_ok, wipeL_nil, wipeL_cons, ev_yes, lcGo_nil, dLt_i, dLe_i, dGt_i, dGe_i, dEq_i, dEq_s, dEq_b, dNe_i, dNe_s, dIs_b, dSub_i, dLen_l, dLen_t, dList_l, dList_t, dSl_l, dNot_b, ty_n_bool, ty_n_int, ty_n_str, ty_n_list, ty_n_tuple, ty_b_bool, ty_b_int, ty_b_str, ty_b_list, ty_b_tuple, ty_i_bool, ty_i_int, ty_i_str, ty_i_list, ty_i_tuple, ty_s_bool, ty_s_int, ty_s_str, ty_s_list, ty_s_tuple, ty_l_bool, ty_l_int, ty_l_str, ty_l_list, ty_l_tuple, ty_t_bool, ty_t_int, ty_t_str, ty_t_list, ty_t_tuple, dIs_nn, dIs_in, dIs_bn, dIs_sn, dIs_ln, dIs_tn, dNe_b, ev_A, aK_ok, aK_err, dMin_ok, dMax_ok, asZip_l, asZip_t, ev_pop, popK1_ok, dAdd_int, ofO_some, ofO_none, List.getElem?_cons_zero, List.getElem?_cons_succ, List.set_cons_zero, List.set_cons_succ, List.length_cons, List.length_nil, List.cons_append, List.nil_append, List.replicate_succ, List.replicate_zero, List.map_cons, List.map_nil, Option.join_some, List.append_nil, Nat.reduceAdd, Nat.reduceLT, Nat.reduceLeDiff, Nat.reduceSub, Nat.reduceEqDiff, if_true, if_false, decide_true, decide_false, Bool.false_eq_true, Bool.not_true, Bool.not_false, hx]
    rw [step, turnK_nx, e]
theorem same_ok : ∀ (k : Nat) (d : D), Pl k d → m_law_same k [some (.d d), some (.d d)] = .ok (.d (.bool true)) [none, none]
  | 0, _, h => h.elim
  | k + 1, d, h => by
    rw [m_law_same]
    cases d with
    | none => simp only [ev_seq, seqK_nx, seqK_rt, seqK_bk, seqK_ct, seqK_err, ev_next, ev_if, ifK_ok, ifK_err, ev_asg, asgK_ok, asgK_err, ev_ret, retK_ok, retK_err, ev_retN, ev_drop, dropK_ok, dropK_err, ev_c, ev_d, dK_ok, dK_err, ev_fz, fzK_d, fzK_l, fzK_err, ev_op, opK1_ok, opK1_err, opK2_ok, opK2_err, ev_un, unK_ok, unK_err, ev_isi, ev_b, bK_ok, bK_err, ev_and, andK_ok, andK_err, ev_or, orK_ok, orK_err, ev_not, notK_ok, ev_andV, andVK_ok, ev_orV, orVK_ok, ev_ifE, ifEK_ok, ev_nil, ev_cons, consK1_ok, consK1_err, consK2_ok, consK2_err, ev_lst, lstK_ok, ev_tup, tupK_ok, ev_var, varK_d, varK_l, ev_peek, peekK_d, peekK_l, peekK_s, ev_move, moveK_d, moveK_l, ev_ixP, ixK_ok, ixK1_ok, ixK1_err, ixK2_ok, dIx_nat, dIx_natT, dIx_l0, dIx_l1, dIx_l2, dIx_l3, dIx_l4, dIx_t0, dIx_t1, dIx_t2, dIx_t3, ev_setIx, setK0_ok, setK0_err, setK1_ok, setK2_ok, setK3_0, setK3_1, setK3_2, setK3_3, setK3_4, ev_sl, slK1_ok, slK2_ok, slK3_ok, ev_no, ev_so, soK_ok, soK_err, ev_join, joinK1_ok, joinK2_ok, ev_app, appK1_ok, appK2_ok, appK2_err, appK3_ok, ev_a0, ev_aD, ev_aR, eaK1_ok, eaK1_err, eaK3_ok, eaK2_ok, eaK2_err, ev_call, callK_d1, callK_d2, callK_d3, callK_d4, callK_d5, callK_d6, callK_d7, callK_d8, callK_r0, callK_r1, callK_r2, callK_r3, callK_r4, callK_r5, callK_r6, callK_r7, callK_err, backK_ok, backK_err, slotOf_d, slotOf_r, putBack_d, putBack_r, putBack_nil, refs_nil, refs_d, refs_r, ev_run, endOf_nx, endOf_rt, endOf_err, maskL_t, maskL_f, maskL_nil, ev_for, forK_ok, forGo_nil, turnK_nx, turnK_ct, turnK_bk, turnK_rt, turnK_err, bind_ok, asItems_l, asItems_t, asItems_s, ev_name, ev_fnil, ev_fcons, ev_ftup, some_bind, ev_asgT, asgTK_ok, asgTK2_ok, ev_lc, lcK_ok, wipeL_nil, wipeL_cons, ev_yes, lcGo_nil, dLt_i, dLe_i, dGt_i, dGe_i, dEq_i, dEq_s, dEq_b, dNe_i, dNe_s, dIs_b, dSub_i, dLen_l, dLen_t, dList_l, dList_t, dSl_l, dNot_b, ty_n_bool, ty_n_int, ty_n_str, ty_n_list, ty_n_tuple, ty_b_bool, ty_b_int, ty_b_str, ty_b_list, ty_b_tuple, ty_i_bool, ty_i_int, ty_i_str, ty_i_list, ty_i_tuple, ty_s_bool, ty_s_int, ty_s_str, ty_s_list, ty_s_tuple, ty_l_bool, ty_l_int, ty_l_str, ty_l_list, ty_l_tuple, ty_t_bool, ty_t_int, ty_t_str, ty_t_list, ty_t_tuple, dIs_nn, dIs_in, dIs_bn, dIs_sn, dIs_ln, dIs_tn, dNe_b, ev_A, aK_ok, aK_err, dMin_ok, dMax_ok, asZip_l, asZip_t, ev_pop, popK1_ok, dAdd_int, ofO_some, ofO_none, List.getElem?_cons_zero, List.getElem?_cons_succ, List.set_cons_zero, List.set_cons_succ, List.length_cons, List.length_nil, List.cons_append, List.nil_append, List.replicate_succ, List.replicate_zero, List.map_cons, List.map_nil, Option.join_some, List.append_nil, Nat.reduceAdd, Nat.reduceLT, Nat.reduceLeDiff, Nat.reduceSub, Nat.reduceEqDiff, if_true, if_false, decide_true, decide_false, Bool.false_eq_true, Bool.not_true, Bool.not_false]
    | bool b => simp only [ev_seq, seqK_nx, seqK_rt, seqK_bk, seqK_ct, seqK_err, ev_next, ev_if, ifK_ok, ifK_err, ev_asg, asgK_ok, asgK_err, ev_ret, retK_ok, retK_err, ev_retN, ev_drop, dropK_ok, dropK_err, ev_c, ev_d, dK_ok, dK_err, ev_fz, fzK_d, fzK_l, fzK_err, ev_op, opK1_ok, opK1_err, opK2_ok, opK2_err, ev_un, unK_ok, unK_err, ev_isi, ev_b, bK_ok, bK_err, ev_and, andK_ok, andK_err, ev_or, orK_ok, orK_err, ev_not, notK_ok, ev_andV, andVK_ok, ev_orV, orVK_ok, ev_ifE, ifEK_ok, ev_nil, ev_cons, consK1_ok, consK1_err, consK2_ok, consK2_err, ev_lst, lstK_ok, ev_tup, tupK_ok, ev_var, varK_d, varK_l, ev_peek, peekK_d, peekK_l, peekK_s, ev_move, moveK_d, moveK_l, ev_ixP, ixK_ok, ixK1_ok, ixK1_err, ixK2_ok, dIx_nat, dIx_natT, dIx_l0, dIx_l1, dIx_l2, dIx_l3, dIx_l4, dIx_t0, dIx_t1, dIx_t2, dIx_t3, ev_setIx, setK0_ok, setK0_err, setK1_ok, setK2_ok, setK3_0, setK3_1, setK3_2, setK3_3, setK3_4, ev_sl, slK1_ok, slK2_ok, slK3_ok, ev_no, ev_so, soK_ok, soK_err, ev_join, joinK1_ok, joinK2_ok, ev_app, appK1_ok, appK2_ok, appK2_err, appK3_ok, ev_a0, ev_aD, ev_aR, eaK1_ok, eaK1_err, eaK3_ok, eaK2_ok, eaK2_err, ev_call, callK_d1, callK_d2, callK_d3, callK_d4, callK_d5, callK_d6, callK_d7, callK_d8, callK_r0, callK_r1, callK_r2, callK_r3, callK_r4, callK_r5, callK_r6, callK_r7, callK_err, backK_ok, backK_err, slotOf_d, slotOf_r, putBack_d, putBack_r, putBack_nil, refs_nil, refs_d, refs_r, ev_run, endOf_nx, endOf_rt, endOf_err, maskL_t, maskL_f, maskL_nil, ev_for, forK_ok, forGo_nil, turnK_nx, turnK_ct, turnK_bk, turnK_rt, turnK_err, bind_ok, asItems_l, asItems_t, asItems_s, ev_name, ev_fnil, ev_fcons, ev_ftup, some_bind, ev_asgT, asgTK_ok, asgTK2_ok, ev_lc, lcK_ok, wipeL_nil, wipeL_cons, ev_yes, lcGo_nil, dLt_i, dLe_i, dGt_i, dGe_i, dEq_i, dEq_s, dEq_b, dNe_i, dNe_s, dIs_b, dSub_i, dLen_l, dLen_t, dList_l, dList_t, dSl_l, dNot_b, ty_n_bool, ty_n_int, ty_n_str, ty_n_list, ty_n_tuple, ty_b_bool, ty_b_int, ty_b_str, ty_b_list, ty_b_tuple, ty_i_bool, ty_i_int, ty_i_str, ty_i_list, ty_i_tuple, ty_s_bool, ty_s_int, ty_s_str, ty_s_list, ty_s_tuple, ty_l_bool, ty_l_int, ty_l_str, ty_l_list, ty_l_tuple, ty_t_bool, ty_t_int, ty_t_str, ty_t_list, ty_t_tuple, dIs_nn, dIs_in, dIs_bn, dIs_sn, dIs_ln, dIs_tn, dNe_b, ev_A, aK_ok, aK_err, dMin_ok, dMax_ok, asZip_l, asZip_t, ev_pop, popK1_ok, dAdd_int, ofO_some, ofO_none, List.getElem?_cons_zero, List.getElem?_cons_succ, List.set_cons_zero, List.set_cons_succ, List.length_cons, List.length_nil, List.cons_append, List.nil_append, List.replicate_succ, List.replicate_zero, List.map_cons, List.map_nil, Option.join_some, List.append_nil, Nat.reduceAdd, Nat.reduceLT, Nat.reduceLeDiff, Nat.reduceSub, Nat.reduceEqDiff, if_true, if_false, decide_true, decide_false, Bool.false_eq_true, Bool.not_true, Bool.not_false]
    | int i => simp only [ev_seq, seqK_nx, seqK_rt, seqK_bk, seqK_ct, seqK_err, ev_next, ev_if, ifK_ok, ifK_err, ev_asg, asgK_ok, asgK_err, ev_ret, retK_ok, retK_err, ev_retN, ev_drop, dropK_ok, dropK_err, ev_c, ev_d, dK_ok, dK_err, ev_fz, fzK_d, fzK_l, fzK_err, ev_op, opK1_ok, opK1_err, opK2_ok, opK2_err, ev_un, unK_ok, unK_err, ev_isi, ev_b, bK_ok, bK_err, ev_and, andK_ok, andK_err, ev_or, orK_ok, orK_err, ev_not, notK_ok, ev_andV, andVK_ok, ev_orV, orVK_ok, ev_ifE, ifEK_ok, ev_nil, ev_cons, consK1_ok, consK1_err, consK2_ok, consK2_err, ev_lst, lstK_ok, ev_tup, tupK_ok, ev_var, varK_d, varK_l, ev_peek, peekK_d, peekK_l, peekK_s, ev_move, moveK_d, moveK_l, ev_ixP, ixK_ok, ixK1_ok, ixK1_err, ixK2_ok, dIx_nat, dIx_natT, dIx_l0, dIx_l1, dIx_l2, dIx_l3, dIx_l4, dIx_t0, dIx_t1, dIx_t2, dIx_t3, ev_setIx, setK0_ok, setK0_err, setK1_ok, setK2_ok, setK3_0, setK3_1, setK3_2, setK3_3, setK3_4, ev_sl, slK1_ok, slK2_ok, slK3_ok, ev_no, ev_so, soK_ok, soK_err, ev_join, joinK1_ok, joinK2_ok, ev_app, appK1_ok, appK2_ok, appK2_err, appK3_ok, ev_a0, ev_aD, ev_aR, eaK1_ok, eaK1_err, eaK3_ok, eaK2_ok, eaK2_err, ev_call, callK_d1, callK_d2, callK_d3, callK_d4, callK_d5, callK_d6, callK_d7, callK_d8, callK_r0, callK_r1, callK_r2, callK_r3, callK_r4, callK_r5, callK_r6, callK_r7, callK_err, backK_ok, backK_err, slotOf_d, slotOf_r, putBack_d, putBack_r, putBack_nil, refs_nil, refs_d, refs_r, ev_run, endOf_nx, endOf_rt, endOf_err, maskL_t, maskL_f, maskL_nil, ev_for, forK_ok, forGo_nil, turnK_nx, turnK_ct, turnK_bk, turnK_rt, turnK_err, bind_ok, asItems_l, asItems_t, asItems_s, ev_name, ev_fnil, ev_fcons, ev_ftup, some_bind, ev_asgT, asgTK_ok, asgTK2_ok, ev_lc, lcK_ok, wipeL_nil, wipeL_cons, ev_yes, lcGo_nil, dLt_i, dLe_i, dGt_i, dGe_i, dEq_i, dEq_s, dEq_b, dNe_i, dNe_s, dIs_b, dSub_i, dLen_l, dLen_t, dList_l, dList_t, dSl_l, dNot_b, ty_n_bool, ty_n_int, ty_n_str, ty_n_list, ty_n_tuple, ty_b_bool, ty_b_int, ty_b_str, ty_b_list, ty_b_tuple, ty_i_bool, ty_i_int, ty_i_str, ty_i_list, ty_i_tuple, ty_s_bool, ty_s_int, ty_s_str, ty_s_list, ty_s_tuple, ty_l_bool, ty_l_int, ty_l_str, ty_l_list, ty_l_tuple, ty_t_bool, ty_t_int, ty_t_str, ty_t_list, ty_t_tuple, dIs_nn, dIs_in, dIs_bn, dIs_sn, dIs_ln, dIs_tn, dNe_b, ev_A, aK_ok, aK_err, dMin_ok, dMax_ok, asZip_l, asZip_t, ev_pop, popK1_ok, dAdd_int, ofO_some, ofO_none, List.getElem?_cons_zero, List.getElem?_cons_succ, List.set_cons_zero, List.set_cons_succ, List.length_cons, List.length_nil, List.cons_append, List.nil_append, List.replicate_succ, List.replicate_zero, List.map_cons, List.map_nil, Option.join_some, List.append_nil, Nat.reduceAdd, Nat.reduceLT, Nat.reduceLeDiff, Nat.reduceSub, Nat.reduceEqDiff, if_true, if_false, decide_true, decide_false, Bool.false_eq_true, Bool.not_true, Bool.not_false, whole_int]
    | str s => simp only [ev_seq, seqK_nx, seqK_rt, seqK_bk, seqK_ct, seqK_err, ev_next, ev_if, ifK_ok, ifK_err, ev_asg, asgK_ok, asgK_err, ev_ret, retK_ok, retK_err, ev_retN, ev_drop, dropK_ok, dropK_err, ev_c, ev_d, dK_ok, dK_err, ev_fz, fzK_d, fzK_l, fzK_err, ev_op, opK1_ok, opK1_err, opK2_ok, opK2_err, ev_un, unK_ok, unK_err, ev_isi, ev_b, bK_ok, bK_err, ev_and, andK_ok, andK_err, ev_or, orK_ok, orK_err, ev_not, notK_ok, ev_andV, andVK_ok, ev_orV, orVK_ok, ev_ifE, ifEK_ok, ev_nil, ev_cons, consK1_ok, consK1_err, consK2_ok, consK2_err, ev_lst, lstK_ok, ev_tup, tupK_ok, ev_var, varK_d, varK_l, ev_peek, peekK_d, peekK_l, peekK_s, ev_move, moveK_d, moveK_l, ev_ixP, ixK_ok, ixK1_ok, ixK1_err, ixK2_ok, dIx_nat, dIx_natT, dIx_l0, dIx_l1, dIx_l2, dIx_l3, dIx_l4, dIx_t0, dIx_t1, dIx_t2, dIx_t3, ev_setIx, setK0_ok, setK0_err, setK1_ok, setK2_ok, setK3_0, setK3_1, setK3_2, setK3_3, setK3_4, ev_sl, slK1_ok, slK2_ok, slK3_ok, ev_no, ev_so, soK_ok, soK_err, ev_join, joinK1_ok, joinK2_ok, ev_app, appK1_ok, appK2_ok, appK2_err, appK3_ok, ev_a0, ev_aD, ev_aR, eaK1_ok, eaK1_err, eaK3_ok, eaK2_ok, eaK2_err, ev_call, callK_d1, callK_d2, callK_d3, callK_d4, callK_d5, callK_d6, callK_d7, callK_d8, callK_r0, callK_r1, callK_r2, callK_r3, callK_r4, callK_r5, callK_r6, callK_r7, callK_err, backK_ok, backK_err, slotOf_d, slotOf_r, putBack_d, putBack_r, putBack_nil, refs_nil, refs_d, refs_r, ev_run, endOf_nx, endOf_rt, endOf_err, maskL_t, maskL_f, maskL_nil, ev_for, forK_ok, forGo_nil, turnK_nx, turnK_ct, turnK_bk, turnK_rt, turnK_err, bind_ok, asItems_l, asItems_t, asItems_s, ev_name, ev_fnil, ev_fcons, ev_ftup, some_bind, ev_asgT, asgTK_ok, asgTK2_ok, ev_lc, lcK_ok, wipeL_nil, wipeL_cons, ev_yes, lcGo_nil, dLt_i, dLe_i, dGt_i, dGe_i, dEq_i, dEq_s, dEq_b, dNe_i, dNe_s, dIs_b, dSub_i, dLen_l, dLen_t, dList_l, dList_t, dSl_l, dNot_b, ty_n_bool, ty_n_int, ty_n_str, ty_n_list, ty_n_tuple, ty_b_bool, ty_b_int, ty_b_str, ty_b_list, ty_b_tuple, ty_i_bool, ty_i_int, ty_i_str, ty_i_list, ty_i_tuple, ty_s_bool, ty_s_int, ty_s_str, ty_s_list, ty_s_tuple, ty_l_bool, ty_l_int, ty_l_str, ty_l_list, ty_l_tuple, ty_t_bool, ty_t_int, ty_t_str, ty_t_list, ty_t_tuple, dIs_nn, dIs_in, dIs_bn, dIs_sn, dIs_ln, dIs_tn, dNe_b, ev_A, aK_ok, aK_err, dMin_ok, dMax_ok, asZip_l, asZip_t, ev_pop, popK1_ok, dAdd_int, ofO_some, ofO_none, List.getElem?_cons_zero, List.getElem?_cons_succ, List.set_cons_zero, List.set_cons_succ, List.length_cons, List.length_nil, List.cons_append, List.nil_append, List.replicate_succ, List.replicate_zero, List.map_cons, List.map_nil, Option.join_some, List.append_nil, Nat.reduceAdd, Nat.reduceLT, Nat.reduceLeDiff, Nat.reduceSub, Nat.reduceEqDiff, if_true, if_false, decide_true, decide_false, Bool.false_eq_true, Bool.not_true, Bool.not_false]
    | list xs =>
      by_cases hz : xs.length ≤ sizeLine
      · obtain ⟨o2, o3, e⟩ := same_go (m := m_law_same k) (d0 := some (.d (.list xs))) (d1 := some (.d (.list xs))) xs none none fun x hx => same_ok k x (h x hx)
        simp only [ev_seq, seqK_nx, seqK_rt, seqK_bk, seqK_ct, seqK_err, ev_next, ev_if, ifK_ok, ifK_err, ev_asg, asgK_ok, asgK_err, ev_ret, retK_ok, retK_err, ev_retN, ev_drop, dropK_ok, dropK_err, ev_c, ev_d, dK_ok, dK_err, ev_fz, fzK_d, fzK_l, fzK_err, ev_op, opK1_ok, opK1_err, opK2_ok, opK2_err, ev_un, unK_ok, unK_err, ev_isi, ev_b, bK_ok, bK_err, ev_and, andK_ok, andK_err, ev_or, orK_ok, orK_err, ev_not, notK_ok, ev_andV, andVK_ok, ev_orV, orVK_ok, ev_ifE, ifEK_ok, ev_nil, ev_cons, consK1_ok, consK1_err, consK2_ok, consK2_err, ev_lst, lstK_ok, ev_tup, tupK_ok, ev_var, varK_d, varK_l, ev_peek, peekK_d, peekK_l, peekK_s, ev_move, moveK_d, moveK_l, ev_ixP, ixK_ok, ixK1_ok, ixK1_err, ixK2_ok, dIx_nat, dIx_natT, dIx_l0, dIx_l1, dIx_l2, dIx_l3, dIx_l4, dIx_t0, dIx_t1, dIx_t2, dIx_t3, ev_setIx, setK0_ok, setK0_err, setK1_ok, setK2_ok, setK3_0, setK3_1, setK3_2, setK3_3, setK3_4, ev_sl, slK1_ok, slK2_ok, slK3_ok, ev_no, ev_so, soK_ok, soK_err, ev_join, joinK1_ok, joinK2_ok, ev_app, appK1_ok, appK2_ok, appK2_err, appK3_ok, ev_a0, ev_aD, ev_aR, eaK1_ok, eaK1_err, eaK3_ok, eaK2_ok, eaK2_err, ev_call, callK_d1, callK_d2, callK_d3, callK_d4, callK_d5, callK_d6, callK_d7, callK_d8, callK_r0, callK_r1, callK_r2, callK_r3, callK_r4, callK_r5, callK_r6, callK_r7, callK_err, backK_ok, backK_err, slotOf_d, slotOf_r, putBack_d, putBack_r, putBack_nil, refs_nil, refs_d, refs_r, ev_run, endOf_nx, endOf_rt, endOf_err, maskL_t, maskL_f, maskL_nil, ev_for, forK_ok, forGo_nil, turnK_nx, turnK_ct, turnK_bk, turnK_rt, turnK_err, bind_ok, asItems_l, asItems_t, asItems_s, ev_name, ev_fnil, ev_fcons, ev_ftup, some_bind, ev_asgT, asgTK_ok, asgTK2_ok, ev_lc, lcK_ok, wipeL_nil, wipeL_cons, ev_yes, lcGo_nil, dLt_i, dLe_i, dGt_i, dGe_i, dEq_i, dEq_s, dEq_b, dNe_i, dNe_s, dIs_b, dSub_i, dLen_l, dLen_t, dList_l, dList_t, dSl_l, dNot_b, ty_n_bool, ty_n_int, ty_n_str, ty_n_list, ty_n_tuple, ty_b_bool, ty_b_int, ty_b_str, ty_b_list, ty_b_tuple, ty_i_bool, ty_i_int, ty_i_str, ty_i_list, ty_i_tuple, ty_s_bool, ty_s_int, ty_s_str, ty_s_list, ty_s_tuple, ty_l_bool, ty_l_int, ty_l_str, ty_l_list, ty_l_tuple, ty_t_bool, ty_t_int, ty_t_str, ty_t_list, ty_t_tuple, dIs_nn, dIs_in, dIs_bn, dIs_sn, dIs_ln, dIs_tn, dNe_b, ev_A, aK_ok, aK_err, dMin_ok, dMax_ok, asZip_l, asZip_t, ev_pop, popK1_ok, dAdd_int, ofO_some, ofO_none, List.getElem?_cons_zero, List.getElem?_cons_succ, List.set_cons_zero, List.set_cons_succ, List.length_cons, List.length_nil, List.cons_append, List.nil_append, List.replicate_succ, List.replicate_zero, List.map_cons, List.map_nil, Option.join_some, List.append_nil, Nat.reduceAdd, Nat.reduceLT, Nat.reduceLeDiff, Nat.reduceSub, Nat.reduceEqDiff, if_true, if_false, decide_true, decide_false, Bool.false_eq_true, Bool.not_true, Bool.not_false, zip_self, e]
      · obtain ⟨o2, o3, e⟩ := same_go (m := m_law_same k) (d0 := some (.d (.list xs))) (d1 := some (.d (.list xs))) xs none none fun x hx => same_ok k x (h x hx)
        simp only [ev_seq, seqK_nx, seqK_rt, seqK_bk, seqK_ct, seqK_err, ev_next, ev_if, ifK_ok, ifK_err, ev_asg, asgK_ok, asgK_err, ev_ret, retK_ok, retK_err, ev_retN, ev_drop, dropK_ok, dropK_err, ev_c, ev_d, dK_ok, dK_err, ev_fz, fzK_d, fzK_l, fzK_err, ev_op, opK1_ok, opK1_err, opK2_ok, opK2_err, ev_un, unK_ok, unK_err, ev_isi, ev_b, bK_ok, bK_err, ev_and, andK_ok, andK_err, ev_or, orK_ok, orK_err, ev_not, notK_ok, ev_andV, andVK_ok, ev_orV, orVK_ok, ev_ifE, ifEK_ok, ev_nil, ev_cons, consK1_ok, consK1_err, consK2_ok, consK2_err, ev_lst, lstK_ok, ev_tup, tupK_ok, ev_var, varK_d, varK_l, ev_peek, peekK_d, peekK_l, peekK_s, ev_move, moveK_d, moveK_l, ev_ixP, ixK_ok, ixK1_ok, ixK1_err, ixK2_ok, dIx_nat, dIx_natT, dIx_l0, dIx_l1, dIx_l2, dIx_l3, dIx_l4, dIx_t0, dIx_t1, dIx_t2, dIx_t3, ev_setIx, setK0_ok, setK0_err, setK1_ok, setK2_ok, setK3_0, setK3_1, setK3_2, setK3_3, setK3_4, ev_sl, slK1_ok, slK2_ok, slK3_ok, ev_no, ev_so, soK_ok, soK_err, ev_join, joinK1_ok, joinK2_ok, ev_app, appK1_ok, appK2_ok, appK2_err, appK3_ok, ev_a0, ev_aD, ev_aR, eaK1_ok, eaK1_err, eaK3_ok, eaK2_ok, eaK2_err, ev_call, callK_d1, callK_d2, callK_d3, callK_d4, callK_d5, callK_d6, callK_d7, callK_d8, callK_r0, callK_r1, callK_r2, callK_r3, callK_r4, callK_r5, callK_r6, callK_r7, callK_err, backK_ok, backK_err, slotOf_d, slotOf_r, putBack_d, putBack_r, putBack_nil, refs_nil, refs_d, refs_r, ev_run, endOf_nx, endOf_rt, endOf_err, maskL_t, maskL_f, maskL_nil, ev_for, forK_ok, forGo_nil, turnK_nx, turnK_ct, turnK_bk, turnK_rt, turnK_err, bind_ok, asItems_l, asItems_t, asItems_s, ev_name, ev_fnil, ev_fcons, ev_ftup, some_bind, ev_asgT, asgTK_ok, asgTK2_ok, ev_lc, lcK_ok, wipeL_nil, wipeL_cons, ev_yes, lcGo_nil, dLt_i, dLe_i, dGt_i, dGe_i, dEq_i, dEq_s, dEq_b, dNe_i, dNe_s, dIs_b, dSub_i, dLen_l, dLen_t, dList_l, dList_t, dSl_l, dNot_b, ty_n_bool, ty_n_int, ty_n_str, ty_n_list, ty_n_tuple, ty_b_bool, ty_b_int, ty_b_str, ty_b_list, ty_b_tuple, ty_i_bool, ty_i_int, ty_i_str, ty_i_list, ty_i_tuple, ty_s_bool, ty_s_int, ty_s_str, ty_s_list, ty_s_tuple, ty_l_bool, ty_l_int, ty_l_str, ty_l_list, ty_l_tuple, ty_t_bool, ty_t_int, ty_t_str, ty_t_list, ty_t_tuple, dIs_nn, dIs_in, dIs_bn, dIs_sn, dIs_ln, dIs_tn, dNe_b, ev_A, aK_ok, aK_err, dMin_ok, dMax_ok, asZip_l, asZip_t, ev_pop, popK1_ok, dAdd_int, ofO_some, ofO_none, List.getElem?_cons_zero, List.getElem?_cons_succ, List.set_cons_zero, List.set_cons_succ, List.length_cons, List.length_nil, List.cons_append, List.nil_append, List.replicate_succ, List.replicate_zero, List.map_cons, List.map_nil, Option.join_some, List.append_nil, Nat.reduceAdd, Nat.reduceLT, Nat.reduceLeDiff, Nat.reduceSub, Nat.reduceEqDiff, if_true, if_false, decide_true, decide_false, Bool.false_eq_true, Bool.not_true, Bool.not_false, zip_self, e]
    | tuple xs =>
      obtain ⟨o2, o3, e⟩ := same_go (m := m_law_same k) (d0 := some (.d (.tuple xs))) (d1 := some (.d (.tuple xs))) xs none none fun x hx => same_ok k x (h x hx)
      simp only [ev_seq, seqK_nx, seqK_rt, seqK_bk, seqK_ct, seqK_err, ev_next, ev_if, ifK_ok, ifK_err, ev_asg, asgK_ok, asgK_err, ev_ret, retK_ok, retK_err, ev_retN, ev_drop, dropK_ok, dropK_err, ev_c, ev_d, dK_ok, dK_err, ev_fz, fzK_d, fzK_l, fzK_err, ev_op, opK1_ok, opK1_err, opK2_ok, opK2_err, ev_un, unK_ok, unK_err, ev_isi, ev_b, bK_ok, bK_err, ev_and, andK_ok, andK_err, ev_or, orK_ok, orK_err, ev_not, notK_ok, ev_andV, andVK_ok, ev_orV, orVK_ok, ev_ifE, ifEK_ok, ev_nil, ev_cons, consK1_ok, consK1_err, consK2_ok, consK2_err, ev_lst, lstK_ok, ev_tup, tupK_ok, ev_var, varK_d, varK_l, ev_peek, peekK_d, peekK_l, peekK_s, ev_move, moveK_d, moveK_l, ev_ixP, ixK_ok, ixK1_ok, ixK1_err, ixK2_ok, dIx_nat, dIx_natT, dIx_l0, dIx_l1, dIx_l2, dIx_l3, dIx_l4, dIx_t0, dIx_t1, dIx_t2, dIx_t3, ev_setIx, setK0_ok, setK0_err, setK1_ok, setK2_ok, setK3_0, setK3_1, setK3_2, setK3_3, setK3_4, ev_sl, slK1_ok, slK2_ok, slK3_ok, ev_no, ev_so, soK_ok, soK_err, ev_join, joinK1_ok, joinK2_ok, ev_app, appK1_ok, appK2_ok, appK2_err, appK3_ok, ev_a0, ev_aD, ev_aR, eaK1_ok, eaK1_err, eaK3_ok, eaK2_ok, eaK2_err, ev_call, callK_d1, callK_d2, callK_d3, callK_d4, callK_d5, callK_d6, callK_d7, callK_d8, callK_r0, callK_r1, callK_r2, callK_r3, callK_r4, callK_r5, callK_r6, callK_r7, callK_err, backK_ok, backK_err, slotOf_d, slotOf_r, putBack_d, putBack_r, putBack_nil, refs_nil, refs_d, refs_r, ev_run, endOf_nx, endOf_rt, endOf_err, maskL_t, maskL_f, maskL_nil, ev_for, forK_ok, forGo_nil, turnK_nx, turnK_ct, turnK_bk, turnK_rt, turnK_err, bind_ok, asItems_l, asItems_t, asItems_s, ev_name, ev_fnil, ev_fcons, ev_ftup, some_bind, ev_asgT, asgTK_ok, asgTK2_ok, ev_lc, lcK_ok, wipeL_nil, wipeL_cons, ev_yes, lcGo_nil, dLt_i, dLe_i, dGt_i, dGe_i, dEq_i, dEq_s, dEq_b, dNe_i, dNe_s, dIs_b, dSub_i, dLen_l, dLen_t, dList_l, dList_t, dSl_l, dNot_b, ty_n_bool, ty_n_int, ty_n_str, ty_n_list, ty_n_tuple, ty_b_bool, ty_b_int, ty_b_str, ty_b_list, ty_b_tuple, ty_i_bool, ty_i_int, ty_i_str, ty_i_list, ty_i_tuple, ty_s_bool, ty_s_int, ty_s_str, ty_s_list, ty_s_tuple, ty_l_bool, ty_l_int, ty_l_str, ty_l_list, ty_l_tuple, ty_t_bool, ty_t_int, ty_t_str, ty_t_list, ty_t_tuple, dIs_nn, dIs_in, dIs_bn, dIs_sn, dIs_ln, dIs_tn, dNe_b, ev_A, aK_ok, aK_err, dMin_ok, dMax_ok, asZip_l, asZip_t, ev_pop, popK1_ok, dAdd_int, ofO_some, ofO_none, List.getElem?_cons_zero, List.getElem?_cons_succ, List.set_cons_zero, List.set_cons_succ, List.length_cons, List.length_nil, List.cons_append, List.nil_append, List.replicate_succ, List.replicate_zero, List.map_cons, List.map_nil, Option.join_some, List.append_nil, Nat.reduceAdd, Nat.reduceLT, Nat.reduceLeDiff, Nat.reduceSub, Nat.reduceEqDiff, if_true, if_false, decide_true, decide_false, Bool.false_eq_true, Bool.not_true, Bool.not_false, zip_self, e]
    | dict _ => exact h.elim
end Lw

namespace Lw
open PySem VS
/-! ### oaths, sides -/
def oathD (z : List Nat × Int) : D := .tuple [nD z.1, .int z.2]
theorem it1_oath (z : List Nat × Int) : it1 (oathD z) = z.2 := rfl
theorem isIt1_oaths (zs : List (List Nat × Int)) : (zs.map oathD).all isIt1 = true := by
  rw [List.all_map]
  exact List.all_eq_true.mpr fun _ _ => rfl
/-- a side: each name once, weights from 1 to 1000 -/
def Side (zs : List (List Nat × Int)) : Prop := (zs.map (·.1)).Nodup ∧ ∀ z ∈ zs, 1 ≤ z.2 ∧ z.2 ≤ 1000
theorem weight_ok {s : S} (hs : Src s) : ∃ (r : Int) (s' : S), m_law_weight [some s] = .ok (.d (.int r)) [some s'] ∧ 1 ≤ r ∧ r ≤ 1000 ∧ Src s' := by
  obtain ⟨k, s1, e1, k0, k1, hs1⟩ := next_ok hs (n := 5) (by omega) (by omega)
  unfold m_law_weight g_law_weight
  by_cases h0 : k = 0
  · obtain ⟨r, s2, e2, r0, r1, hs2⟩ := next_ok hs1 (n := 1000) (by omega) (by omega)
    refine ⟨1 + r, s2, ?_, by omega, by omega, hs2⟩
    simp only [ev_seq, seqK_nx, seqK_rt, seqK_bk, seqK_ct, seqK_err, ev_next, ev_if, ifK_ok, ifK_err, ev_asg, asgK_ok, asgK_err, ev_ret, retK_ok, retK_err, ev_retN, ev_drop, dropK_ok, dropK_err, ev_c, ev_d, dK_ok, dK_err, ev_fz, fzK_d, fzK_l, fzK_err, ev_op, opK1_ok, opK1_err, opK2_ok, opK2_err, ev_un, unK_ok, unK_err, ev_isi, ev_b, bK_ok, bK_err, ev_and, andK_ok, andK_err, ev_or, orK_ok, orK_err, ev_not, notK_ok, ev_andV, andVK_ok, ev_orV, orVK_ok, ev_ifE, ifEK_ok, ev_nil, ev_cons, consK1_ok, consK1_err, consK2_ok, consK2_err, ev_lst, lstK_ok, ev_tup, tupK_ok, ev_var, varK_d, varK_l, ev_peek, peekK_d, peekK_l, peekK_s, ev_move, moveK_d, moveK_l, ev_ixP, ixK_ok, ixK1_ok, ixK1_err, ixK2_ok, dIx_nat, dIx_natT, dIx_l0, dIx_l1, dIx_l2, dIx_l3, dIx_l4, dIx_t0, dIx_t1, dIx_t2, dIx_t3, ev_setIx, setK0_ok, setK0_err, setK1_ok, setK2_ok, setK3_0, setK3_1, setK3_2, setK3_3, setK3_4, ev_sl, slK1_ok, slK2_ok, slK3_ok, ev_no, ev_so, soK_ok, soK_err, ev_join, joinK1_ok, joinK2_ok, ev_app, appK1_ok, appK2_ok, appK2_err, appK3_ok, ev_a0, ev_aD, ev_aR, eaK1_ok, eaK1_err, eaK3_ok, eaK2_ok, eaK2_err, ev_call, callK_d1, callK_d2, callK_d3, callK_d4, callK_d5, callK_d6, callK_d7, callK_d8, callK_r0, callK_r1, callK_r2, callK_r3, callK_r4, callK_r5, callK_r6, callK_r7, callK_err, backK_ok, backK_err, slotOf_d, slotOf_r, putBack_d, putBack_r, putBack_nil, refs_nil, refs_d, refs_r, ev_run, endOf_nx, endOf_rt, endOf_err, maskL_t, maskL_f, maskL_nil, ev_for, forK_ok, forGo_nil, turnK_nx, turnK_ct, turnK_bk, turnK_rt, turnK_err, bind_ok, asItems_l, asItems_t, asItems_s, ev_name, ev_fnil, ev_fcons, ev_ftup, some_bind, ev_asgT, asgTK_ok, asgTK2_ok, ev_lc, lcK_ok, wipeL_nil, wipeL_cons, ev_yes, lcGo_nil, dLt_i, dLe_i, dGt_i, dGe_i, dEq_i, dEq_s, dEq_b, dNe_i, dNe_s, dIs_b, dSub_i, dLen_l, dLen_t, dList_l, dList_t, dSl_l, dNot_b, ty_n_bool, ty_n_int, ty_n_str, ty_n_list, ty_n_tuple, ty_b_bool, ty_b_int, ty_b_str, ty_b_list, ty_b_tuple, ty_i_bool, ty_i_int, ty_i_str, ty_i_list, ty_i_tuple, ty_s_bool, ty_s_int, ty_s_str, ty_s_list, ty_s_tuple, ty_l_bool, ty_l_int, ty_l_str, ty_l_list, ty_l_tuple, ty_t_bool, ty_t_int, ty_t_str, ty_t_list, ty_t_tuple, dIs_nn, dIs_in, dIs_bn, dIs_sn, dIs_ln, dIs_tn, dNe_b, ev_A, aK_ok, aK_err, dMin_ok, dMax_ok, asZip_l, asZip_t, ev_pop, popK1_ok, dAdd_int, ofO_some, ofO_none, List.getElem?_cons_zero, List.getElem?_cons_succ, List.set_cons_zero, List.set_cons_succ, List.length_cons, List.length_nil, List.cons_append, List.nil_append, List.replicate_succ, List.replicate_zero, List.map_cons, List.map_nil, Option.join_some, List.append_nil, Nat.reduceAdd, Nat.reduceLT, Nat.reduceLeDiff, Nat.reduceSub, Nat.reduceEqDiff, if_true, if_false, decide_true, decide_false, Bool.false_eq_true, Bool.not_true, Bool.not_false, e1, h0, e2]
  · by_cases h1 : k = 1
    · obtain ⟨r, s2, e2, r0, r1, hs2⟩ := next_ok hs1 (n := 3) (by omega) (by omega)
      refine ⟨1000 - r, s2, ?_, by omega, by omega, hs2⟩
      subst h1
      simp only [ev_seq, seqK_nx, seqK_rt, seqK_bk, seqK_ct, seqK_err, ev_next, ev_if, ifK_ok, ifK_err, ev_asg, asgK_ok, asgK_err, ev_ret, retK_ok, retK_err, ev_retN, ev_drop, dropK_ok, dropK_err, ev_c, ev_d, dK_ok, dK_err, ev_fz, fzK_d, fzK_l, fzK_err, ev_op, opK1_ok, opK1_err, opK2_ok, opK2_err, ev_un, unK_ok, unK_err, ev_isi, ev_b, bK_ok, bK_err, ev_and, andK_ok, andK_err, ev_or, orK_ok, orK_err, ev_not, notK_ok, ev_andV, andVK_ok, ev_orV, orVK_ok, ev_ifE, ifEK_ok, ev_nil, ev_cons, consK1_ok, consK1_err, consK2_ok, consK2_err, ev_lst, lstK_ok, ev_tup, tupK_ok, ev_var, varK_d, varK_l, ev_peek, peekK_d, peekK_l, peekK_s, ev_move, moveK_d, moveK_l, ev_ixP, ixK_ok, ixK1_ok, ixK1_err, ixK2_ok, dIx_nat, dIx_natT, dIx_l0, dIx_l1, dIx_l2, dIx_l3, dIx_l4, dIx_t0, dIx_t1, dIx_t2, dIx_t3, ev_setIx, setK0_ok, setK0_err, setK1_ok, setK2_ok, setK3_0, setK3_1, setK3_2, setK3_3, setK3_4, ev_sl, slK1_ok, slK2_ok, slK3_ok, ev_no, ev_so, soK_ok, soK_err, ev_join, joinK1_ok, joinK2_ok, ev_app, appK1_ok, appK2_ok, appK2_err, appK3_ok, ev_a0, ev_aD, ev_aR, eaK1_ok, eaK1_err, eaK3_ok, eaK2_ok, eaK2_err, ev_call, callK_d1, callK_d2, callK_d3, callK_d4, callK_d5, callK_d6, callK_d7, callK_d8, callK_r0, callK_r1, callK_r2, callK_r3, callK_r4, callK_r5, callK_r6, callK_r7, callK_err, backK_ok, backK_err, slotOf_d, slotOf_r, putBack_d, putBack_r, putBack_nil, refs_nil, refs_d, refs_r, ev_run, endOf_nx, endOf_rt, endOf_err, maskL_t, maskL_f, maskL_nil, ev_for, forK_ok, forGo_nil, turnK_nx, turnK_ct, turnK_bk, turnK_rt, turnK_err, bind_ok, asItems_l, asItems_t, asItems_s, ev_name, ev_fnil, ev_fcons, ev_ftup, some_bind, ev_asgT, asgTK_ok, asgTK2_ok, ev_lc, lcK_ok, wipeL_nil, wipeL_cons, ev_yes, lcGo_nil, dLt_i, dLe_i, dGt_i, dGe_i, dEq_i, dEq_s, dEq_b, dNe_i, dNe_s, dIs_b, dSub_i, dLen_l, dLen_t, dList_l, dList_t, dSl_l, dNot_b, ty_n_bool, ty_n_int, ty_n_str, ty_n_list, ty_n_tuple, ty_b_bool, ty_b_int, ty_b_str, ty_b_list, ty_b_tuple, ty_i_bool, ty_i_int, ty_i_str, ty_i_list, ty_i_tuple, ty_s_bool, ty_s_int, ty_s_str, ty_s_list, ty_s_tuple, ty_l_bool, ty_l_int, ty_l_str, ty_l_list, ty_l_tuple, ty_t_bool, ty_t_int, ty_t_str, ty_t_list, ty_t_tuple, dIs_nn, dIs_in, dIs_bn, dIs_sn, dIs_ln, dIs_tn, dNe_b, ev_A, aK_ok, aK_err, dMin_ok, dMax_ok, asZip_l, asZip_t, ev_pop, popK1_ok, dAdd_int, ofO_some, ofO_none, List.getElem?_cons_zero, List.getElem?_cons_succ, List.set_cons_zero, List.set_cons_succ, List.length_cons, List.length_nil, List.cons_append, List.nil_append, List.replicate_succ, List.replicate_zero, List.map_cons, List.map_nil, Option.join_some, List.append_nil, Nat.reduceAdd, Nat.reduceLT, Nat.reduceLeDiff, Nat.reduceSub, Nat.reduceEqDiff, if_true, if_false, decide_true, decide_false, Bool.false_eq_true, Bool.not_true, Bool.not_false, e1, h0, e2]
    · obtain ⟨r, s2, e2, r0, r1, hs2⟩ := next_ok hs1 (n := 9) (by omega) (by omega)
      refine ⟨1 + r, s2, ?_, by omega, by omega, hs2⟩
      simp only [ev_seq, seqK_nx, seqK_rt, seqK_bk, seqK_ct, seqK_err, ev_next, ev_if, ifK_ok, ifK_err, ev_asg, asgK_ok, asgK_err, ev_ret, retK_ok, retK_err, ev_retN, ev_drop, dropK_ok, dropK_err, ev_c, ev_d, dK_ok, dK_err, ev_fz, fzK_d, fzK_l, fzK_err, ev_op, opK1_ok, opK1_err, opK2_ok, opK2_err, ev_un, unK_ok, unK_err, ev_isi, ev_b, bK_ok, bK_err, ev_and, andK_ok, andK_err, ev_or, orK_ok, orK_err, ev_not, notK_ok, ev_andV, andVK_ok, ev_orV, orVK_ok, ev_ifE, ifEK_ok, ev_nil, ev_cons, consK1_ok, consK1_err, consK2_ok, consK2_err, ev_lst, lstK_ok, ev_tup, tupK_ok, ev_var, varK_d, varK_l, ev_peek, peekK_d, peekK_l, peekK_s, ev_move, moveK_d, moveK_l, ev_ixP, ixK_ok, ixK1_ok, ixK1_err, ixK2_ok, dIx_nat, dIx_natT, dIx_l0, dIx_l1, dIx_l2, dIx_l3, dIx_l4, dIx_t0, dIx_t1, dIx_t2, dIx_t3, ev_setIx, setK0_ok, setK0_err, setK1_ok, setK2_ok, setK3_0, setK3_1, setK3_2, setK3_3, setK3_4, ev_sl, slK1_ok, slK2_ok, slK3_ok, ev_no, ev_so, soK_ok, soK_err, ev_join, joinK1_ok, joinK2_ok, ev_app, appK1_ok, appK2_ok, appK2_err, appK3_ok, ev_a0, ev_aD, ev_aR, eaK1_ok, eaK1_err, eaK3_ok, eaK2_ok, eaK2_err, ev_call, callK_d1, callK_d2, callK_d3, callK_d4, callK_d5, callK_d6, callK_d7, callK_d8, callK_r0, callK_r1, callK_r2, callK_r3, callK_r4, callK_r5, callK_r6, callK_r7, callK_err, backK_ok, backK_err, slotOf_d, slotOf_r, putBack_d, putBack_r, putBack_nil, refs_nil, refs_d, refs_r, ev_run, endOf_nx, endOf_rt, endOf_err, maskL_t, maskL_f, maskL_nil, ev_for, forK_ok, forGo_nil, turnK_nx, turnK_ct, turnK_bk, turnK_rt, turnK_err, bind_ok, asItems_l, asItems_t, asItems_s, ev_name, ev_fnil, ev_fcons, ev_ftup, some_bind, ev_asgT, asgTK_ok, asgTK2_ok, ev_lc, lcK_ok, wipeL_nil, wipeL_cons, ev_yes, lcGo_nil, dLt_i, dLe_i, dGt_i, dGe_i, dEq_i, dEq_s, dEq_b, dNe_i, dNe_s, dIs_b, dSub_i, dLen_l, dLen_t, dList_l, dList_t, dSl_l, dNot_b, ty_n_bool, ty_n_int, ty_n_str, ty_n_list, ty_n_tuple, ty_b_bool, ty_b_int, ty_b_str, ty_b_list, ty_b_tuple, ty_i_bool, ty_i_int, ty_i_str, ty_i_list, ty_i_tuple, ty_s_bool, ty_s_int, ty_s_str, ty_s_list, ty_s_tuple, ty_l_bool, ty_l_int, ty_l_str, ty_l_list, ty_l_tuple, ty_t_bool, ty_t_int, ty_t_str, ty_t_list, ty_t_tuple, dIs_nn, dIs_in, dIs_bn, dIs_sn, dIs_ln, dIs_tn, dNe_b, ev_A, aK_ok, aK_err, dMin_ok, dMax_ok, asZip_l, asZip_t, ev_pop, popK1_ok, dAdd_int, ofO_some, ofO_none, List.getElem?_cons_zero, List.getElem?_cons_succ, List.set_cons_zero, List.set_cons_succ, List.length_cons, List.length_nil, List.cons_append, List.nil_append, List.replicate_succ, List.replicate_zero, List.map_cons, List.map_nil, Option.join_some, List.append_nil, Nat.reduceAdd, Nat.reduceLT, Nat.reduceLeDiff, Nat.reduceSub, Nat.reduceEqDiff, if_true, if_false, decide_true, decide_false, Bool.false_eq_true, Bool.not_true, Bool.not_false, e1, h0, h1, e2]
theorem map_erase {α β : Type} (f : α → β) : ∀ (l : List α) (j : Nat), (l.map f).eraseIdx j = (l.eraseIdx j).map f
  | [], _ => rfl
  | _ :: _, 0 => rfl
  | x :: l, j + 1 => by
    rw [List.map_cons, List.eraseIdx_cons_succ, List.eraseIdx_cons_succ, List.map_cons, map_erase f l j]
theorem side_go {o1 o2 : Option S} : ∀ (m : Nat) (lo : Int) (left : List (List Nat)) (zs : List (List Nat × Int)) (s : S) (o5 : Option S), Src s → m ≤ left.length → left.length ≤ 100000 → left.Nodup → (∀ z ∈ zs, z.1 ∉ left) → Side zs → zs.length + m ≤ 100000 →
    ∃ (left' : List (List Nat)) (zs' : List (List Nat × Int)) (s' : S) (o5' : Option S), forGo (fName 5) (gDrop (gApp 4 (gTup (gCons (gPopAt 3 (gFz (gCall m_law_next [.r 0, .d (gUn dLen (gPeek 3))]))) (gCons (gFz (gCall m_law_weight [.r 0])) gNil))))) (intsD lo m) [some s, o1, o2, some (.ol (left.map nD)), some (.ol (zs.map oathD)), o5]
      = .ok .nx [some s', o1, o2, some (.ol (left'.map nD)), some (.ol (zs'.map oathD)), o5'] ∧ zs'.length = zs.length + m ∧ Side zs' ∧ (∀ z ∈ zs', z ∈ zs ∨ z.1 ∈ left) ∧ Src s'
  | 0, lo, left, zs, s, o5, hs, _, _, _, _, hz, _ => ⟨left, zs, s, o5, by rw [intsD_zero, forGo_nil], by omega, hz, fun z h => .inl h, hs⟩
  | m + 1, lo, left, zs, s, o5, hs, hm, hl, hn, ha, hz, hc => by
    obtain ⟨r, s1, e1, r0, r1, hs1⟩ := next_ok hs (n := left.length) (by omega) (by omega)
    obtain ⟨w, s2, e2, w0, w1, hs2⟩ := weight_ok hs1
    obtain ⟨j, rfl⟩ := Int.eq_ofNat_of_zero_le r0
    have hj : j < left.length := by omega
    have hx : left[j] ∈ left := List.getElem_mem hj
    have hd : (left.map nD)[j]? = some (nD left[j]) := by rw [List.getElem?_map, List.getElem?_eq_getElem hj]; rfl
    have hnin : left[j] ∉ left.eraseIdx j := fun h => by
      have := List.mem_eraseIdx_iff_getElem.mp h
      obtain ⟨i, hi, hne, he⟩ := this
      exact hne ((List.getElem_inj hn).mp he)
    obtain ⟨left', zs', s', o5', e3, l3, z3, k3, hs3⟩ := side_go (o1 := o1) (o2 := o2) m (lo + 1) (left.eraseIdx j) (zs ++ [(left[j], w)]) s2 (some (.d (.int lo))) hs2 (by rw [List.length_eraseIdx_of_lt hj]; omega) (by rw [List.length_eraseIdx_of_lt hj]; omega) (hn.eraseIdx _)
      (fun z h => by
        rcases List.mem_append.mp h with h | h
        · exact fun h2 => ha z h (List.mem_of_mem_eraseIdx h2)
        · rw [List.mem_singleton] at h
          rw [h]
          exact hnin)
      ⟨by
        rw [List.map_append, List.nodup_append]
        refine ⟨hz.1, by simp, fun a h1 b h2 => ?_⟩
        obtain ⟨z, hz1, rfl⟩ := List.mem_map.mp h1
        simp only [List.map_cons, List.map_nil, List.mem_singleton] at h2
        intro he
        exact ha z hz1 (by rw [he, h2]; exact hx), fun z h => by
        rcases List.mem_append.mp h with h | h
        · exact hz.2 z h
        · rw [List.mem_singleton] at h
          rw [h]
          exact ⟨w0, w1⟩⟩ (by rw [List.length_append]; simp; omega)
    refine ⟨left', zs', s', o5', ?_, by rw [l3, List.length_append]; simp; omega, z3, fun z h => ?_, hs3⟩
    · rw [intsD_succ, forGo_cons (L1 := [some s, o1, o2, some (.ol (left.map nD)), some (.ol (zs.map oathD)), some (.d (.int lo))]) _ _ _ _ rfl]
      have step : gDrop (gApp 4 (gTup (gCons (gPopAt 3 (gFz (gCall m_law_next [.r 0, .d (gUn dLen (gPeek 3))]))) (gCons (gFz (gCall m_law_weight [.r 0])) gNil)))) [some s, o1, o2, some (.ol (left.map nD)), some (.ol (zs.map oathD)), some (.d (.int lo))]
          = .ok .nx [some s2, o1, o2, some (.ol ((left.eraseIdx j).map nD)), some (.ol ((zs ++ [(left[j], w)]).map oathD)), some (.d (.int lo))] := by
        have hp : popK2 3 (.ok (.int (j : Int)) [some s1, o1, o2, some (.ol (left.map nD)), some (.ol (zs.map oathD)), some (.d (.int lo))]) = .ok (nD left[j]) [some s1, o1, o2, some (.ol ((left.map nD).eraseIdx j)), some (.ol (zs.map oathD)), some (.d (.int lo))] :=
          popAt_ok rfl hd (by omega)
        have h2 : (0 + 1 + 1 : Nat) ≤ sizeLine := small_len (by decide)
        have h4 : zs.length < sizeLine := by rw [PySem.sizeLine_eq]; omega
        rw [List.map_append, ← map_erase]
        simp only [ev_seq, seqK_nx, seqK_rt, seqK_bk, seqK_ct, seqK_err, ev_next, ev_if, ifK_ok, ifK_err, ev_asg, asgK_ok, asgK_err, ev_ret, retK_ok, retK_err, ev_retN, ev_drop, dropK_ok, dropK_err, ev_c, ev_d, dK_ok, dK_err, ev_fz, fzK_d, fzK_l, fzK_err, ev_op, opK1_ok, opK1_err, opK2_ok, opK2_err, ev_un, unK_ok, unK_err, ev_isi, ev_b, bK_ok, bK_err, ev_and, andK_ok, andK_err, ev_or, orK_ok, orK_err, ev_not, notK_ok, ev_andV, andVK_ok, ev_orV, orVK_ok, ev_ifE, ifEK_ok, ev_nil, ev_cons, consK1_ok, consK1_err, consK2_ok, consK2_err, ev_lst, lstK_ok, ev_tup, tupK_ok, ev_var, varK_d, varK_l, ev_peek, peekK_d, peekK_l, peekK_s, ev_move, moveK_d, moveK_l, ev_ixP, ixK_ok, ixK1_ok, ixK1_err, ixK2_ok, dIx_nat, dIx_natT, dIx_l0, dIx_l1, dIx_l2, dIx_l3, dIx_l4, dIx_t0, dIx_t1, dIx_t2, dIx_t3, ev_setIx, setK0_ok, setK0_err, setK1_ok, setK2_ok, setK3_0, setK3_1, setK3_2, setK3_3, setK3_4, ev_sl, slK1_ok, slK2_ok, slK3_ok, ev_no, ev_so, soK_ok, soK_err, ev_join, joinK1_ok, joinK2_ok, ev_app, appK1_ok, appK2_ok, appK2_err, appK3_ok, ev_a0, ev_aD, ev_aR, eaK1_ok, eaK1_err, eaK3_ok, eaK2_ok, eaK2_err, ev_call, callK_d1, callK_d2, callK_d3, callK_d4, callK_d5, callK_d6, callK_d7, callK_d8, callK_r0, callK_r1, callK_r2, callK_r3, callK_r4, callK_r5, callK_r6, callK_r7, callK_err, backK_ok, backK_err, slotOf_d, slotOf_r, putBack_d, putBack_r, putBack_nil, refs_nil, refs_d, refs_r, ev_run, endOf_nx, endOf_rt, endOf_err, maskL_t, maskL_f, maskL_nil, ev_for, forK_ok, forGo_nil, turnK_nx, turnK_ct, turnK_bk, turnK_rt, turnK_err, bind_ok, asItems_l, asItems_t, asItems_s, ev_name, ev_fnil, ev_fcons, ev_ftup, some_bind, ev_asgT, asgTK_ok, asgTK2_ok, ev_lc, lcK_ok, wipeL_nil, wipeL_cons, ev_yes, lcGo_nil, dLt_i, dLe_i, dGt_i, dGe_i, dEq_i, dEq_s, dEq_b, dNe_i, dNe_s, dIs_b, dSub_i, dLen_l, dLen_t, dList_l, dList_t, dSl_l, dNot_b, ty_n_bool, ty_n_int, ty_n_str, ty_n_list, ty_n_tuple, ty_b_bool, ty_b_int, ty_b_str, ty_b_list, ty_b_tuple, ty_i_bool, ty_i_int, ty_i_str, ty_i_list, ty_i_tuple, ty_s_bool, ty_s_int, ty_s_str, ty_s_list, ty_s_tuple, ty_l_bool, ty_l_int, ty_l_str, ty_l_list, ty_l_tuple, ty_t_bool, ty_t_int, ty_t_str, ty_t_list, ty_t_tuple, dIs_nn, dIs_in, dIs_bn, dIs_sn, dIs_ln, dIs_tn, dNe_b, ev_A, aK_ok, aK_err, dMin_ok, dMax_ok, asZip_l, asZip_t, ev_pop, popK1_ok, dAdd_int, ofO_some, ofO_none, List.getElem?_cons_zero, List.getElem?_cons_succ, List.set_cons_zero, List.set_cons_succ, List.length_cons, List.length_nil, List.cons_append, List.nil_append, List.replicate_succ, List.replicate_zero, List.map_cons, List.map_nil, Option.join_some, List.append_nil, Nat.reduceAdd, Nat.reduceLT, Nat.reduceLeDiff, Nat.reduceSub, Nat.reduceEqDiff, if_true, if_false, decide_true, decide_false, Bool.false_eq_true, Bool.not_true, Bool.not_false, List.length_map, e1, hp, e2, h2, h4]
        rfl
      rw [step, turnK_nx, e3]
    · rcases k3 z h with h | h
      · rcases List.mem_append.mp h with h | h
        · exact .inl h
        · rw [List.mem_singleton] at h
          rw [h]
          exact .inr hx
      · exact .inr (List.mem_of_mem_eraseIdx h)
theorem side_ok {s : S} (hs : Src s) {ns : List (List Nat)} (hn : ns.Nodup) (hl : ns.length ≤ 1000) {many : Int} (h0 : 0 ≤ many) (h1 : many ≤ 1000) : ∃ (zs : List (List Nat × Int)) (s' : S),
    m_law_side [some s, some (.d (.list (ns.map nD))), some (.d (.int many))] = .ok (.ol (zs.map oathD)) [some s', none, none] ∧ zs.length = min many.toNat ns.length ∧ Side zs ∧ (∀ z ∈ zs, z.1 ∈ ns) ∧ Src s' := by
  have hk : (min many (ns.length : Int)).toNat = min many.toNat ns.length := by omega
  obtain ⟨left', zs, s', o5, e1, l1, z1, k1, hs1⟩ := side_go (o1 := some (.d (.list (ns.map nD)))) (o2 := some (.d (.int many))) (min many.toNat ns.length) 0 ns [] s none hs (by omega) (by omega) hn (fun z h => by cases h) ⟨List.nodup_nil, fun z h => by cases h⟩ (by simp; omega)
  refine ⟨zs, s', ?_, by rw [l1]; simp, z1, fun z h => (k1 z h).resolve_left (fun h => by cases h), hs1⟩
  rw [← hk] at e1
  have hr : (rng1 [.int (min many (ns.length : Int))] [some s, some (.d (.list (ns.map nD))), some (.d (.int many)), some (.ol (ns.map nD)), some (.ol []), none]) = .ok (intsD 0 (min many (ns.length : Int)).toNat) [some s, some (.d (.list (ns.map nD))), some (.d (.int many)), some (.ol (ns.map nD)), some (.ol []), none] :=
    rng1_at (by omega) (by omega)
  rw [List.map_nil] at e1
  have hz0 : (0 : Nat) ≤ sizeLine := Nat.zero_le _
  unfold m_law_side g_law_side
  simp only [ev_seq, seqK_nx, seqK_rt, seqK_bk, seqK_ct, seqK_err, ev_next, ev_if, ifK_ok, ifK_err, ev_asg, asgK_ok, asgK_err, ev_ret, retK_ok, retK_err, ev_retN, ev_drop, dropK_ok, dropK_err, ev_c, ev_d, dK_ok, dK_err, ev_fz, fzK_d, fzK_l, fzK_err, ev_op, opK1_ok, opK1_err, opK2_ok, opK2_err, ev_un, unK_ok, unK_err, ev_isi, ev_b, bK_ok, bK_err, ev_and, andK_ok, andK_err, ev_or, orK_ok, orK_err, ev_not, notK_ok, ev_andV, andVK_ok, ev_orV, orVK_ok, ev_ifE, ifEK_ok, ev_nil, ev_cons, consK1_ok, consK1_err, consK2_ok, consK2_err, ev_lst, lstK_ok, ev_tup, tupK_ok, ev_var, varK_d, varK_l, ev_peek, peekK_d, peekK_l, peekK_s, ev_move, moveK_d, moveK_l, ev_ixP, ixK_ok, ixK1_ok, ixK1_err, ixK2_ok, dIx_nat, dIx_natT, dIx_l0, dIx_l1, dIx_l2, dIx_l3, dIx_l4, dIx_t0, dIx_t1, dIx_t2, dIx_t3, ev_setIx, setK0_ok, setK0_err, setK1_ok, setK2_ok, setK3_0, setK3_1, setK3_2, setK3_3, setK3_4, ev_sl, slK1_ok, slK2_ok, slK3_ok, ev_no, ev_so, soK_ok, soK_err, ev_join, joinK1_ok, joinK2_ok, ev_app, appK1_ok, appK2_ok, appK2_err, appK3_ok, ev_a0, ev_aD, ev_aR, eaK1_ok, eaK1_err, eaK3_ok, eaK2_ok, eaK2_err, ev_call, callK_d1, callK_d2, callK_d3, callK_d4, callK_d5, callK_d6, callK_d7, callK_d8, callK_r0, callK_r1, callK_r2, callK_r3, callK_r4, callK_r5, callK_r6, callK_r7, callK_err, backK_ok, backK_err, slotOf_d, slotOf_r, putBack_d, putBack_r, putBack_nil, refs_nil, refs_d, refs_r, ev_run, endOf_nx, endOf_rt, endOf_err, maskL_t, maskL_f, maskL_nil, ev_for, forK_ok, forGo_nil, turnK_nx, turnK_ct, turnK_bk, turnK_rt, turnK_err, bind_ok, asItems_l, asItems_t, asItems_s, ev_name, ev_fnil, ev_fcons, ev_ftup, some_bind, ev_asgT, asgTK_ok, asgTK2_ok, ev_lc, lcK_ok, wipeL_nil, wipeL_cons, ev_yes, lcGo_nil, dLt_i, dLe_i, dGt_i, dGe_i, dEq_i, dEq_s, dEq_b, dNe_i, dNe_s, dIs_b, dSub_i, dLen_l, dLen_t, dList_l, dList_t, dSl_l, dNot_b, ty_n_bool, ty_n_int, ty_n_str, ty_n_list, ty_n_tuple, ty_b_bool, ty_b_int, ty_b_str, ty_b_list, ty_b_tuple, ty_i_bool, ty_i_int, ty_i_str, ty_i_list, ty_i_tuple, ty_s_bool, ty_s_int, ty_s_str, ty_s_list, ty_s_tuple, ty_l_bool, ty_l_int, ty_l_str, ty_l_list, ty_l_tuple, ty_t_bool, ty_t_int, ty_t_str, ty_t_list, ty_t_tuple, dIs_nn, dIs_in, dIs_bn, dIs_sn, dIs_ln, dIs_tn, dNe_b, ev_A, aK_ok, aK_err, dMin_ok, dMax_ok, asZip_l, asZip_t, ev_pop, popK1_ok, dAdd_int, ofO_some, ofO_none, List.getElem?_cons_zero, List.getElem?_cons_succ, List.set_cons_zero, List.set_cons_succ, List.length_cons, List.length_nil, List.cons_append, List.nil_append, List.replicate_succ, List.replicate_zero, List.map_cons, List.map_nil, Option.join_some, List.append_nil, Nat.reduceAdd, Nat.reduceLT, Nat.reduceLeDiff, Nat.reduceSub, Nat.reduceEqDiff, if_true, if_false, decide_true, decide_false, Bool.false_eq_true, Bool.not_true, Bool.not_false, List.length_map, hz0, dMin_ok, hr, e1]
end Lw

namespace Lw
open PySem VS
/-! ### sums of sides -/
def sumW (zs : List (List Nat × Int)) : Int := (zs.map (·.2)).sum
theorem total_go : ∀ (zs : List (List Nat × Int)) (acc : List D) (o0 : Option S), acc.length + zs.length < sizeLine →
    lcGo [1, 2] (fTup 2 (fCons (fName 1) (fCons (fName 2) fNil))) gYes (gVar 2) (zs.map oathD) acc [o0, none, none] = .ok (.ol (acc ++ (zs.map (·.2)).map PyData.int)) [o0, none, none]
  | [], acc, o0, _ => by rw [List.map_nil, lcGo_nil, List.map_nil, List.map_nil, List.append_nil]
  | z :: zs, acc, o0, h => by
    rw [List.length_cons] at h
    rw [List.map_cons, lcGo_yes (L1 := [o0, some (.d (nD z.1)), some (.d (.int z.2))]) (L2 := [o0, some (.d (nD z.1)), some (.d (.int z.2))]) (L3 := [o0, some (.d (nD z.1)), some (.d (.int z.2))]) (y := .int z.2) [1, 2] (fTup 2 (fCons (fName 1) (fCons (fName 2) fNil))) gYes (gVar 2) (oathD z) (zs.map oathD) acc rfl rfl rfl (by omega)]
    have := total_go zs (acc ++ [.int z.2]) o0 (by rw [List.length_append]; simp; omega)
    show lcGo _ _ _ _ _ _ [o0, none, none] = _
    rw [this, List.append_assoc]
    rfl
theorem total_ok (zs : List (List Nat × Int)) (h : zs.length ≤ 100000) : m_total [some (.d (.list (zs.map oathD)))] = .ok (.d (.int (sumW zs))) [none] := by
  have e := total_go zs [] (some (.d (.list (zs.map oathD)))) (by rw [PySem.sizeLine_eq]; simp; omega)
  rw [List.nil_append] at e
  unfold m_total g_total
  simp only [ev_seq, seqK_nx, seqK_rt, seqK_bk, seqK_ct, seqK_err, ev_next, ev_if, ifK_ok, ifK_err, ev_asg, asgK_ok, asgK_err, ev_ret, retK_ok, retK_err, ev_retN, ev_drop, dropK_ok, dropK_err, ev_c, ev_d, dK_ok, dK_err, ev_fz, fzK_d, fzK_l, fzK_err, ev_op, opK1_ok, opK1_err, opK2_ok, opK2_err, ev_un, unK_ok, unK_err, ev_isi, ev_b, bK_ok, bK_err, ev_and, andK_ok, andK_err, ev_or, orK_ok, orK_err, ev_not, notK_ok, ev_andV, andVK_ok, ev_orV, orVK_ok, ev_ifE, ifEK_ok, ev_nil, ev_cons, consK1_ok, consK1_err, consK2_ok, consK2_err, ev_lst, lstK_ok, ev_tup, tupK_ok, ev_var, varK_d, varK_l, ev_peek, peekK_d, peekK_l, peekK_s, ev_move, moveK_d, moveK_l, ev_ixP, ixK_ok, ixK1_ok, ixK1_err, ixK2_ok, dIx_nat, dIx_natT, dIx_l0, dIx_l1, dIx_l2, dIx_l3, dIx_l4, dIx_t0, dIx_t1, dIx_t2, dIx_t3, ev_setIx, setK0_ok, setK0_err, setK1_ok, setK2_ok, setK3_0, setK3_1, setK3_2, setK3_3, setK3_4, ev_sl, slK1_ok, slK2_ok, slK3_ok, ev_no, ev_so, soK_ok, soK_err, ev_join, joinK1_ok, joinK2_ok, ev_app, appK1_ok, appK2_ok, appK2_err, appK3_ok, ev_a0, ev_aD, ev_aR, eaK1_ok, eaK1_err, eaK3_ok, eaK2_ok, eaK2_err, ev_call, callK_d1, callK_d2, callK_d3, callK_d4, callK_d5, callK_d6, callK_d7, callK_d8, callK_r0, callK_r1, callK_r2, callK_r3, callK_r4, callK_r5, callK_r6, callK_r7, callK_err, backK_ok, backK_err, slotOf_d, slotOf_r, putBack_d, putBack_r, putBack_nil, refs_nil, refs_d, refs_r, ev_run, endOf_nx, endOf_rt, endOf_err, maskL_t, maskL_f, maskL_nil, ev_for, forK_ok, forGo_nil, turnK_nx, turnK_ct, turnK_bk, turnK_rt, turnK_err, bind_ok, asItems_l, asItems_t, asItems_s, ev_name, ev_fnil, ev_fcons, ev_ftup, some_bind, ev_asgT, asgTK_ok, asgTK2_ok, ev_lc, lcK_ok, wipeL_nil, wipeL_cons, ev_yes, lcGo_nil, dLt_i, dLe_i, dGt_i, dGe_i, dEq_i, dEq_s, dEq_b, dNe_i, dNe_s, dIs_b, dSub_i, dLen_l, dLen_t, dList_l, dList_t, dSl_l, dNot_b, ty_n_bool, ty_n_int, ty_n_str, ty_n_list, ty_n_tuple, ty_b_bool, ty_b_int, ty_b_str, ty_b_list, ty_b_tuple, ty_i_bool, ty_i_int, ty_i_str, ty_i_list, ty_i_tuple, ty_s_bool, ty_s_int, ty_s_str, ty_s_list, ty_s_tuple, ty_l_bool, ty_l_int, ty_l_str, ty_l_list, ty_l_tuple, ty_t_bool, ty_t_int, ty_t_str, ty_t_list, ty_t_tuple, dIs_nn, dIs_in, dIs_bn, dIs_sn, dIs_ln, dIs_tn, dNe_b, ev_A, aK_ok, aK_err, dMin_ok, dMax_ok, asZip_l, asZip_t, ev_pop, popK1_ok, dAdd_int, ofO_some, ofO_none, List.getElem?_cons_zero, List.getElem?_cons_succ, List.set_cons_zero, List.set_cons_succ, List.length_cons, List.length_nil, List.cons_append, List.nil_append, List.replicate_succ, List.replicate_zero, List.map_cons, List.map_nil, Option.join_some, List.append_nil, Nat.reduceAdd, Nat.reduceLT, Nat.reduceLeDiff, Nat.reduceSub, Nat.reduceEqDiff, if_true, if_false, decide_true, decide_false, Bool.false_eq_true, Bool.not_true, Bool.not_false, e, dSum_ok]
  rfl
theorem law_total_go : ∀ (zs : List (List Nat × Int)) (a : Int) (o0 o2 o3 : Option S), ∃ o2' o3', forGo (fTup 2 (fCons (fName 2) (fCons (fName 3) fNil))) (gAsg 1 (gOp dAdd (gVar 1) (gVar 3))) (zs.map oathD) [o0, some (.d (.int a)), o2, o3] = .ok .nx [o0, some (.d (.int (a + sumW zs))), o2', o3']
  | [], a, o0, o2, o3 => ⟨o2, o3, by rw [List.map_nil, forGo_nil]; show _ = R.ok O.nx [o0, some (S.d (.int (a + 0))), o2, o3]; rw [Int.add_zero]⟩
  | z :: zs, a, o0, o2, o3 => by
    obtain ⟨o2', o3', e⟩ := law_total_go zs (a + z.2) o0 (some (.d (nD z.1))) (some (.d (.int z.2)))
    refine ⟨o2', o3', ?_⟩
    rw [List.map_cons, forGo_cons (L1 := [o0, some (.d (.int a)), some (.d (nD z.1)), some (.d (.int z.2))]) _ _ _ _ rfl]
    have step : gAsg 1 (gOp dAdd (gVar 1) (gVar 3)) [o0, some (.d (.int a)), some (.d (nD z.1)), some (.d (.int z.2))] = .ok .nx [o0, some (.d (.int (a + z.2))), some (.d (nD z.1)), some (.d (.int z.2))] := by
      simp only [ev_seq, seqK_nx, seqK_rt, seqK_bk, seqK_ct, seqK_err, ev_next, ev_if, ifK_ok, ifK_err, ev_asg, asgK_ok, asgK_err, ev_ret, retK_ok, retK_err, ev_retN, ev_drop, dropK_ok, dropK_err, ev_c, ev_d, dK_ok, dK_err, ev_fz, fzK_d, fzK_l, fzK_err, ev_op, opK1_ok, opK1_err, opK2_ok, opK2_err, ev_un, unK_ok, unK_err, ev_isi, ev_b, bK_ok, bK_err, ev_and, andK_ok, andK_err, ev_or, orK_ok, orK_err, ev_not, notK_ok, ev_andV, andVK_ok, ev_orV, orVK_ok, ev_ifE, ifEK_ok, ev_nil, ev_cons, consK1_ok, consK1_err, consK2_ok, consK2_err, ev_lst, lstK_ok, ev_tup, tupK_ok, ev_var, varK_d, varK_l, ev_peek, peekK_d, peekK_l, peekK_s, ev_move, moveK_d, moveK_l, ev_ixP, ixK_ok, ixK1_ok, ixK1_err, ixK2_ok, dIx_nat, dIx_natT, dIx_l0, dIx_l1, dIx_l2, dIx_l3, dIx_l4, dIx_t0, dIx_t1, dIx_t2, dIx_t3, ev_setIx, setK0_ok, setK0_err, setK1_ok, setK2_ok, setK3_0, setK3_1, setK3_2, setK3_3, setK3_4, ev_sl, slK1_ok, slK2_ok, slK3_ok, ev_no, ev_so, soK_ok, soK_err, ev_join, joinK1_ok, joinK2_ok, ev_app, appK1_ok, appK2_ok, appK2_err, appK3_ok, ev_a0, ev_aD, ev_aR, eaK1_ok, eaK1_err, eaK3_ok, eaK2_ok, eaK2_err, ev_call, callK_d1, callK_d2, callK_d3, callK_d4, callK_d5, callK_d6, callK_d7, callK_d8, callK_r0, callK_r1, callK_r2, callK_r3, callK_r4, callK_r5, callK_r6, callK_r7, callK_err, backK_ok, backK_err, slotOf_d, slotOf_r, putBack_d, putBack_r, putBack_nil, refs_nil, refs_d, refs_r, ev_run, endOf_nx, endOf_rt, endOf_err, maskL_t, maskL_f, maskL_nil, ev_for, forK_ok, forGo_nil, turnK_nx, turnK_ct, turnK_bk, turnK_rt, turnK_err, bind_ok, asItems_l, asItems_t, asItems_s, ev_name, ev_fnil, ev_fcons, ev_ftup, some_bind, ev_asgT, asgTK_ok, asgTK2_ok, ev_lc, lcK_ok, wipeL_nil, wipeL_cons, ev_yes, lcGo_nil, dLt_i, dLe_i, dGt_i, dGe_i, dEq_i, dEq_s, dEq_b, dNe_i, dNe_s, dIs_b, dSub_i, dLen_l, dLen_t, dList_l, dList_t, dSl_l, dNot_b, ty_n_bool, ty_n_int, ty_n_str, ty_n_list, ty_n_tuple, ty_b_bool, ty_b_int, ty_b_str, ty_b_list, ty_b_tuple, ty_i_bool, ty_i_int, ty_i_str, ty_i_list, ty_i_tuple, ty_s_bool, ty_s_int, ty_s_str, ty_s_list, ty_s_tuple, ty_l_bool, ty_l_int, ty_l_str, ty_l_list, ty_l_tuple, ty_t_bool, ty_t_int, ty_t_str, ty_t_list, ty_t_tuple, dIs_nn, dIs_in, dIs_bn, dIs_sn, dIs_ln, dIs_tn, dNe_b, ev_A, aK_ok, aK_err, dMin_ok, dMax_ok, asZip_l, asZip_t, ev_pop, popK1_ok, dAdd_int, ofO_some, ofO_none, List.getElem?_cons_zero, List.getElem?_cons_succ, List.set_cons_zero, List.set_cons_succ, List.length_cons, List.length_nil, List.cons_append, List.nil_append, List.replicate_succ, List.replicate_zero, List.map_cons, List.map_nil, Option.join_some, List.append_nil, Nat.reduceAdd, Nat.reduceLT, Nat.reduceLeDiff, Nat.reduceSub, Nat.reduceEqDiff, if_true, if_false, decide_true, decide_false, Bool.false_eq_true, Bool.not_true, Bool.not_false]
    rw [step, turnK_nx, e, Int.add_assoc]
    rfl
theorem law_total_ok (zs : List (List Nat × Int)) : m_law_total [some (.d (.list (zs.map oathD)))] = .ok (.d (.int (sumW zs))) [none] := by
  obtain ⟨o2, o3, e⟩ := law_total_go zs 0 (some (.d (.list (zs.map oathD)))) none none
  rw [Int.zero_add] at e
  unfold m_law_total g_law_total
  simp only [ev_seq, seqK_nx, seqK_rt, seqK_bk, seqK_ct, seqK_err, ev_next, ev_if, ifK_ok, ifK_err, ev_asg, asgK_ok, asgK_err, ev_ret, retK_ok, retK_err, ev_retN, ev_drop, dropK_ok, dropK_err, ev_c, ev_d, dK_ok, dK_err, ev_fz, fzK_d, fzK_l, fzK_err, ev_op, opK1_ok, opK1_err, opK2_ok, opK2_err, ev_un, unK_ok, unK_err, ev_isi, ev_b, bK_ok, bK_err, ev_and, andK_ok, andK_err, ev_or, orK_ok, orK_err, ev_not, notK_ok, ev_andV, andVK_ok, ev_orV, orVK_ok, ev_ifE, ifEK_ok, ev_nil, ev_cons, consK1_ok, consK1_err, consK2_ok, consK2_err, ev_lst, lstK_ok, ev_tup, tupK_ok, ev_var, varK_d, varK_l, ev_peek, peekK_d, peekK_l, peekK_s, ev_move, moveK_d, moveK_l, ev_ixP, ixK_ok, ixK1_ok, ixK1_err, ixK2_ok, dIx_nat, dIx_natT, dIx_l0, dIx_l1, dIx_l2, dIx_l3, dIx_l4, dIx_t0, dIx_t1, dIx_t2, dIx_t3, ev_setIx, setK0_ok, setK0_err, setK1_ok, setK2_ok, setK3_0, setK3_1, setK3_2, setK3_3, setK3_4, ev_sl, slK1_ok, slK2_ok, slK3_ok, ev_no, ev_so, soK_ok, soK_err, ev_join, joinK1_ok, joinK2_ok, ev_app, appK1_ok, appK2_ok, appK2_err, appK3_ok, ev_a0, ev_aD, ev_aR, eaK1_ok, eaK1_err, eaK3_ok, eaK2_ok, eaK2_err, ev_call, callK_d1, callK_d2, callK_d3, callK_d4, callK_d5, callK_d6, callK_d7, callK_d8, callK_r0, callK_r1, callK_r2, callK_r3, callK_r4, callK_r5, callK_r6, callK_r7, callK_err, backK_ok, backK_err, slotOf_d, slotOf_r, putBack_d, putBack_r, putBack_nil, refs_nil, refs_d, refs_r, ev_run, endOf_nx, endOf_rt, endOf_err, maskL_t, maskL_f, maskL_nil, ev_for, forK_ok, forGo_nil, turnK_nx, turnK_ct, turnK_bk, turnK_rt, turnK_err, bind_ok, asItems_l, asItems_t, asItems_s, ev_name, ev_fnil, ev_fcons, ev_ftup, some_bind, ev_asgT, asgTK_ok, asgTK2_ok, ev_lc, lcK_ok, wipeL_nil, wipeL_cons, ev_yes, lcGo_nil, dLt_i, dLe_i, dGt_i, dGe_i, dEq_i, dEq_s, dEq_b, dNe_i, dNe_s, dIs_b, dSub_i, dLen_l, dLen_t, dList_l, dList_t, dSl_l, dNot_b, ty_n_bool, ty_n_int, ty_n_str, ty_n_list, ty_n_tuple, ty_b_bool, ty_b_int, ty_b_str, ty_b_list, ty_b_tuple, ty_i_bool, ty_i_int, ty_i_str, ty_i_list, ty_i_tuple, ty_s_bool, ty_s_int, ty_s_str, ty_s_list, ty_s_tuple, ty_l_bool, ty_l_int, ty_l_str, ty_l_list, ty_l_tuple, ty_t_bool, ty_t_int, ty_t_str, ty_t_list, ty_t_tuple, dIs_nn, dIs_in, dIs_bn, dIs_sn, dIs_ln, dIs_tn, dNe_b, ev_A, aK_ok, aK_err, dMin_ok, dMax_ok, asZip_l, asZip_t, ev_pop, popK1_ok, dAdd_int, ofO_some, ofO_none, List.getElem?_cons_zero, List.getElem?_cons_succ, List.set_cons_zero, List.set_cons_succ, List.length_cons, List.length_nil, List.cons_append, List.nil_append, List.replicate_succ, List.replicate_zero, List.map_cons, List.map_nil, Option.join_some, List.append_nil, Nat.reduceAdd, Nat.reduceLT, Nat.reduceLeDiff, Nat.reduceSub, Nat.reduceEqDiff, if_true, if_false, decide_true, decide_false, Bool.false_eq_true, Bool.not_true, Bool.not_false, e]
/-! ### the heaviest ones -/
/-- by weight, the heaviest first, else as they came -/
def heavyZ (zs : List (List Nat × Int)) : List (List Nat × Int) := zs.mergeSort fun x y => decide (y.2 ≤ x.2)
theorem srtK_oaths (zs : List (List Nat × Int)) : srtK true (zs.map oathD) = (heavyZ zs).map oathD := by
  exact (List.map_mergeSort (r := fun x y : List Nat × Int => decide (y.2 ≤ x.2)) (s := ordB true) (f := oathD) (l := zs) fun _ _ _ _ => rfl).symm
theorem heavyZ_perm (zs : List (List Nat × Int)) : (heavyZ zs).Perm zs := List.mergeSort_perm _ _
theorem heavyZ_len (zs : List (List Nat × Int)) : (heavyZ zs).length = zs.length := (heavyZ_perm zs).length_eq
theorem heavyZ_ord (zs : List (List Nat × Int)) : (heavyZ zs).Pairwise fun x y => y.2 ≤ x.2 := by
  have := List.pairwise_mergeSort (le := fun x y : List Nat × Int => decide (y.2 ≤ x.2)) (fun a b c h1 h2 => by simp only [decide_eq_true_eq] at *; omega) (fun a b => by simp only [Bool.or_eq_true, decide_eq_true_eq]; omega) zs
  exact this.imp fun h => of_decide_eq_true h
theorem heavy_srt (zs : List (List Nat × Int)) : (heavyZ zs).map (·.2) = (srt (zs.map (·.2))).reverse := by
  have h1 : ((heavyZ zs).map (·.2)).reverse.Perm (zs.map (·.2)) := (List.reverse_perm _).trans ((heavyZ_perm zs).map _)
  have h2 : ((heavyZ zs).map (·.2)).reverse.Pairwise (· ≤ ·) := by
    rw [List.pairwise_reverse, List.pairwise_map]
    exact heavyZ_ord zs
  rw [← srt_uniq h1 h2, List.reverse_reverse]
theorem cutD_to {xs : List D} {k : Int} (h : 0 ≤ k) : cutD xs none (some k) = xs.take k.toNat := by
  obtain ⟨j, rfl⟩ := Int.eq_ofNat_of_zero_le h
  unfold cutD
  rw [HT.sIx_nat, HT.sIx_none, List.drop_zero, Nat.sub_zero, Int.toNat_natCast]
  by_cases hj : j ≤ xs.length
  · rw [Nat.min_eq_left hj]
  · rw [Nat.min_eq_right (by omega), List.take_of_length_le (Nat.le_refl _), List.take_of_length_le (by omega)]
theorem cutD_from {xs : List D} {k : Int} (h : 0 ≤ k) : cutD xs (some k) none = xs.drop k.toNat := by
  obtain ⟨j, rfl⟩ := Int.eq_ofNat_of_zero_le h
  unfold cutD
  rw [HT.sIx_nat, HT.sIx_none, Int.toNat_natCast]
  by_cases hj : j ≤ xs.length
  · rw [Nat.min_eq_left hj, List.take_of_length_le (by rw [List.length_drop]; omega)]
  · rw [Nat.min_eq_right (by omega), List.drop_eq_nil_of_le (Nat.le_refl _), List.drop_eq_nil_of_le (by omega), List.take_nil]
theorem heaviest_ok (zs : List (List Nat × Int)) (h : zs.length ≤ 100000) {many : Int} (h0 : 0 ≤ many) : m_heaviest [some (.d (.list (zs.map oathD))), some (.d (.int many))] = .ok (.d (.int (sumW ((heavyZ zs).take many.toNat)))) [none, none] := by
  have e : dSortK true (.list (zs.map oathD)) = some (.ol ((heavyZ zs).map oathD)) := by
    show (if (zs.map oathD).all isIt1 = true ∧ (zs.map oathD).length ≤ sizeLine then some (S.ol (srtK true (zs.map oathD))) else none) = _
    rw [if_pos ⟨isIt1_oaths zs, by rw [List.length_map, PySem.sizeLine_eq]; omega⟩, srtK_oaths]
  have ht : m_total [some (.d (.list ((((heavyZ zs).take many.toNat)).map oathD)))] = _ := total_ok ((heavyZ zs).take many.toNat) (by rw [List.length_take, heavyZ_len]; omega)
  rw [List.map_take] at ht
  unfold m_heaviest g_heaviest
  simp only [ev_seq, seqK_nx, seqK_rt, seqK_bk, seqK_ct, seqK_err, ev_next, ev_if, ifK_ok, ifK_err, ev_asg, asgK_ok, asgK_err, ev_ret, retK_ok, retK_err, ev_retN, ev_drop, dropK_ok, dropK_err, ev_c, ev_d, dK_ok, dK_err, ev_fz, fzK_d, fzK_l, fzK_err, ev_op, opK1_ok, opK1_err, opK2_ok, opK2_err, ev_un, unK_ok, unK_err, ev_isi, ev_b, bK_ok, bK_err, ev_and, andK_ok, andK_err, ev_or, orK_ok, orK_err, ev_not, notK_ok, ev_andV, andVK_ok, ev_orV, orVK_ok, ev_ifE, ifEK_ok, ev_nil, ev_cons, consK1_ok, consK1_err, consK2_ok, consK2_err, ev_lst, lstK_ok, ev_tup, tupK_ok, ev_var, varK_d, varK_l, ev_peek, peekK_d, peekK_l, peekK_s, ev_move, moveK_d, moveK_l, ev_ixP, ixK_ok, ixK1_ok, ixK1_err, ixK2_ok, dIx_nat, dIx_natT, dIx_l0, dIx_l1, dIx_l2, dIx_l3, dIx_l4, dIx_t0, dIx_t1, dIx_t2, dIx_t3, ev_setIx, setK0_ok, setK0_err, setK1_ok, setK2_ok, setK3_0, setK3_1, setK3_2, setK3_3, setK3_4, ev_sl, slK1_ok, slK2_ok, slK3_ok, ev_no, ev_so, soK_ok, soK_err, ev_join, joinK1_ok, joinK2_ok, ev_app, appK1_ok, appK2_ok, appK2_err, appK3_ok, ev_a0, ev_aD, ev_aR, eaK1_ok, eaK1_err, eaK3_ok, eaK2_ok, eaK2_err, ev_call, callK_d1, callK_d2, callK_d3, callK_d4, callK_d5, callK_d6, callK_d7, callK_d8, callK_r0, callK_r1, callK_r2, callK_r3, callK_r4, callK_r5, callK_r6, callK_r7, callK_err, backK_ok, backK_err, slotOf_d, slotOf_r, putBack_d, putBack_r, putBack_nil, refs_nil, refs_d, refs_r, ev_run, endOf_nx, endOf_rt, endOf_err, maskL_t, maskL_f, maskL_nil, ev_for, forK_ok, forGo_nil, turnK_nx, turnK_ct, turnK_bk, turnK_rt, turnK_err, bind_ok, asItems_l, asItems_t, asItems_s, ev_name, ev_fnil, ev_fcons, ev_ftup, some_bind, ev_asgT, asgTK_ok, asgTK2_ok, ev_lc, lcK_ok, wipeL_nil, wipeL_cons, ev_yes, lcGo_nil, dLt_i, dLe_i, dGt_i, dGe_i, dEq_i, dEq_s, dEq_b, dNe_i, dNe_s, dIs_b, dSub_i, dLen_l, dLen_t, dList_l, dList_t, dSl_l, dNot_b, ty_n_bool, ty_n_int, ty_n_str, ty_n_list, ty_n_tuple, ty_b_bool, ty_b_int, ty_b_str, ty_b_list, ty_b_tuple, ty_i_bool, ty_i_int, ty_i_str, ty_i_list, ty_i_tuple, ty_s_bool, ty_s_int, ty_s_str, ty_s_list, ty_s_tuple, ty_l_bool, ty_l_int, ty_l_str, ty_l_list, ty_l_tuple, ty_t_bool, ty_t_int, ty_t_str, ty_t_list, ty_t_tuple, dIs_nn, dIs_in, dIs_bn, dIs_sn, dIs_ln, dIs_tn, dNe_b, ev_A, aK_ok, aK_err, dMin_ok, dMax_ok, asZip_l, asZip_t, ev_pop, popK1_ok, dAdd_int, ofO_some, ofO_none, List.getElem?_cons_zero, List.getElem?_cons_succ, List.set_cons_zero, List.set_cons_succ, List.length_cons, List.length_nil, List.cons_append, List.nil_append, List.replicate_succ, List.replicate_zero, List.map_cons, List.map_nil, Option.join_some, List.append_nil, Nat.reduceAdd, Nat.reduceLT, Nat.reduceLeDiff, Nat.reduceSub, Nat.reduceEqDiff, if_true, if_false, decide_true, decide_false, Bool.false_eq_true, Bool.not_true, Bool.not_false, e, cutD_to h0, ht]
theorem first_go : ∀ (zs : List (List Nat × Int)) (acc : List D) (o0 o1 o2 o3 : Option S), acc.length + zs.length < sizeLine →
    lcGo [5, 4] (fTup 2 (fCons (fName 5) (fCons (fName 4) fNil))) gYes (gVar 4) (zs.map oathD) acc [o0, o1, o2, o3, none, none] = .ok (.ol (acc ++ (zs.map (·.2)).map PyData.int)) [o0, o1, o2, o3, none, none]
  | [], acc, o0, o1, o2, o3, _ => by rw [List.map_nil, lcGo_nil, List.map_nil, List.map_nil, List.append_nil]
  | z :: zs, acc, o0, o1, o2, o3, h => by
    rw [List.length_cons] at h
    rw [List.map_cons, lcGo_yes (L1 := [o0, o1, o2, o3, some (.d (.int z.2)), some (.d (nD z.1))]) (L2 := [o0, o1, o2, o3, some (.d (.int z.2)), some (.d (nD z.1))]) (L3 := [o0, o1, o2, o3, some (.d (.int z.2)), some (.d (nD z.1))]) (y := .int z.2) [5, 4] (fTup 2 (fCons (fName 5) (fCons (fName 4) fNil))) gYes (gVar 4) (oathD z) (zs.map oathD) acc rfl rfl rfl (by omega)]
    have := first_go zs (acc ++ [.int z.2]) o0 o1 o2 o3 (by rw [List.length_append]; simp; omega)
    show lcGo _ _ _ _ _ _ [o0, o1, o2, o3, none, none] = _
    rw [this, List.append_assoc]
    rfl
theorem add_go : ∀ (ns : List Int) (a : Int) (o0 o1 o2 o4 o5 : Option S), ∃ o4', forGo (fName 4) (gAsg 3 (gOp dAdd (gVar 3) (gVar 4))) (ns.map PyData.int) [o0, o1, o2, some (.d (.int a)), o4, o5] = .ok .nx [o0, o1, o2, some (.d (.int (a + ns.sum))), o4', o5]
  | [], a, o0, o1, o2, o4, o5 => ⟨o4, by rw [List.map_nil, forGo_nil]; show _ = R.ok O.nx [o0, o1, o2, some (S.d (.int (a + 0))), o4, o5]; rw [Int.add_zero]⟩
  | n :: ns, a, o0, o1, o2, o4, o5 => by
    obtain ⟨o4', e⟩ := add_go ns (a + n) o0 o1 o2 (some (.d (.int n))) o5
    refine ⟨o4', ?_⟩
    rw [List.map_cons, forGo_cons (L1 := [o0, o1, o2, some (.d (.int a)), some (.d (.int n)), o5]) _ _ _ _ rfl]
    have step : gAsg 3 (gOp dAdd (gVar 3) (gVar 4)) [o0, o1, o2, some (.d (.int a)), some (.d (.int n)), o5] = .ok .nx [o0, o1, o2, some (.d (.int (a + n))), some (.d (.int n)), o5] := by
      simp only [ev_seq, seqK_nx, seqK_rt, seqK_bk, seqK_ct, seqK_err, ev_next, ev_if, ifK_ok, ifK_err, ev_asg, asgK_ok, asgK_err, ev_ret, retK_ok, retK_err, ev_retN, ev_drop, dropK_ok, dropK_err, ev_c, ev_d, dK_ok, dK_err, ev_fz, fzK_d, fzK_l, fzK_err, ev_op, opK1_ok, opK1_err, opK2_ok, opK2_err, ev_un, unK_ok, unK_err, ev_isi, ev_b, bK_ok, bK_err, ev_and, andK_ok, andK_err, ev_or, orK_ok, orK_err, ev_not, notK_ok, ev_andV, andVK_ok, ev_orV, orVK_ok, ev_ifE, ifEK_ok, ev_nil, ev_cons, consK1_ok, consK1_err, consK2_ok, consK2_err, ev_lst, lstK_ok, ev_tup, tupK_ok, ev_var, varK_d, varK_l, ev_peek, peekK_d, peekK_l, peekK_s, ev_move, moveK_d, moveK_l, ev_ixP, ixK_ok, ixK1_ok, ixK1_err, ixK2_ok, dIx_nat, dIx_natT, dIx_l0, dIx_l1, dIx_l2, dIx_l3, dIx_l4, dIx_t0, dIx_t1, dIx_t2, dIx_t3, ev_setIx, setK0_ok, setK0_err, setK1_ok, setK2_ok, setK3_0, setK3_1, setK3_2, setK3_3, setK3_4, ev_sl, slK1_ok, slK2_ok, slK3_ok, ev_no, ev_so, soK_ok, soK_err, ev_join, joinK1_ok, joinK2_ok, ev_app, appK1_ok, appK2_ok, appK2_err, appK3_ok, ev_a0, ev_aD, ev_aR, eaK1_ok, eaK1_err, eaK3_ok, eaK2_ok, eaK2_err, ev_call, callK_d1, callK_d2, callK_d3, callK_d4, callK_d5, callK_d6, callK_d7, callK_d8, callK_r0, callK_r1, callK_r2, callK_r3, callK_r4, callK_r5, callK_r6, callK_r7, callK_err, backK_ok, backK_err, slotOf_d, slotOf_r, putBack_d, putBack_r, putBack_nil, refs_nil, refs_d, refs_r, ev_run, endOf_nx, endOf_rt, endOf_err, maskL_t, maskL_f, maskL_nil, ev_for, forK_ok, forGo_nil, turnK_nx, turnK_ct, turnK_bk, turnK_rt, turnK_err, bind_ok, asItems_l, asItems_t, asItems_s, ev_name, ev_fnil, ev_fcons, ev_ftup, some_bind, ev_asgT, asgTK_ok, asgTK2_ok, ev_lc, lcK_ok, wipeL_nil, wipeL_cons, ev_yes, lcGo_nil, dLt_i, dLe_i, dGt_i, dGe_i, dEq_i, dEq_s, dEq_b, dNe_i, dNe_s, dIs_b, dSub_i, dLen_l, dLen_t, dList_l, dList_t, dSl_l, dNot_b, ty_n_bool, ty_n_int, ty_n_str, ty_n_list, ty_n_tuple, ty_b_bool, ty_b_int, ty_b_str, ty_b_list, ty_b_tuple, ty_i_bool, ty_i_int, ty_i_str, ty_i_list, ty_i_tuple, ty_s_bool, ty_s_int, ty_s_str, ty_s_list, ty_s_tuple, ty_l_bool, ty_l_int, ty_l_str, ty_l_list, ty_l_tuple, ty_t_bool, ty_t_int, ty_t_str, ty_t_list, ty_t_tuple, dIs_nn, dIs_in, dIs_bn, dIs_sn, dIs_ln, dIs_tn, dNe_b, ev_A, aK_ok, aK_err, dMin_ok, dMax_ok, asZip_l, asZip_t, ev_pop, popK1_ok, dAdd_int, ofO_some, ofO_none, List.getElem?_cons_zero, List.getElem?_cons_succ, List.set_cons_zero, List.set_cons_succ, List.length_cons, List.length_nil, List.cons_append, List.nil_append, List.replicate_succ, List.replicate_zero, List.map_cons, List.map_nil, Option.join_some, List.append_nil, Nat.reduceAdd, Nat.reduceLT, Nat.reduceLeDiff, Nat.reduceSub, Nat.reduceEqDiff, if_true, if_false, decide_true, decide_false, Bool.false_eq_true, Bool.not_true, Bool.not_false]
    rw [step, turnK_nx, e, Int.add_assoc, List.sum_cons]
theorem heavy_sum (zs : List (List Nat × Int)) (k : Nat) : sumW ((heavyZ zs).take k) = ((srt (zs.map (·.2))).drop (zs.length - k)).sum := by
  have hl : (srt (zs.map (·.2))).length = zs.length := by
    unfold srt
    rw [List.length_mergeSort, List.length_map]
  unfold sumW
  rw [List.map_take, heavy_srt, List.take_reverse, hl, List.sum_reverse]
theorem sum_first_ok (zs : List (List Nat × Int)) (h : zs.length < 64) {many : Int} (h0 : 0 ≤ many) : m_law_sum_first [some (.d (.list (zs.map oathD))), some (.d (.int many))] = .ok (.d (.int (sumW ((heavyZ zs).take many.toNat)))) [none, none] := by
  have e1 := first_go zs [] (some (.d (.list (zs.map oathD)))) (some (.d (.int many))) none none (by rw [PySem.sizeLine_eq]; simp; omega)
  rw [List.nil_append] at e1
  have e2 : dSorted (.list ((zs.map (·.2)).map PyData.int)) = some (.ol ((srt (zs.map (·.2))).map PyData.int)) := dSorted_ok (by rw [List.length_map]; exact h)
  have hl : (srt (zs.map (·.2))).length = zs.length := by
    unfold srt
    rw [List.length_mergeSort, List.length_map]
  obtain ⟨o4, e3⟩ := add_go ((srt (zs.map (·.2))).drop (zs.length - many.toNat)) 0 (some (.d (.list (zs.map oathD)))) (some (.d (.int many))) (some (.ol ((srt (zs.map (·.2))).map PyData.int))) none none
  rw [Int.zero_add, ← heavy_sum, List.map_drop] at e3
  have hk : (max 0 ((zs.length : Int) - many)).toNat = zs.length - many.toNat := by omega
  have hk0 : 0 ≤ max 0 ((zs.length : Int) - many) := by omega
  unfold m_law_sum_first g_law_sum_first
  simp only [ev_seq, seqK_nx, seqK_rt, seqK_bk, seqK_ct, seqK_err, ev_next, ev_if, ifK_ok, ifK_err, ev_asg, asgK_ok, asgK_err, ev_ret, retK_ok, retK_err, ev_retN, ev_drop, dropK_ok, dropK_err, ev_c, ev_d, dK_ok, dK_err, ev_fz, fzK_d, fzK_l, fzK_err, ev_op, opK1_ok, opK1_err, opK2_ok, opK2_err, ev_un, unK_ok, unK_err, ev_isi, ev_b, bK_ok, bK_err, ev_and, andK_ok, andK_err, ev_or, orK_ok, orK_err, ev_not, notK_ok, ev_andV, andVK_ok, ev_orV, orVK_ok, ev_ifE, ifEK_ok, ev_nil, ev_cons, consK1_ok, consK1_err, consK2_ok, consK2_err, ev_lst, lstK_ok, ev_tup, tupK_ok, ev_var, varK_d, varK_l, ev_peek, peekK_d, peekK_l, peekK_s, ev_move, moveK_d, moveK_l, ev_ixP, ixK_ok, ixK1_ok, ixK1_err, ixK2_ok, dIx_nat, dIx_natT, dIx_l0, dIx_l1, dIx_l2, dIx_l3, dIx_l4, dIx_t0, dIx_t1, dIx_t2, dIx_t3, ev_setIx, setK0_ok, setK0_err, setK1_ok, setK2_ok, setK3_0, setK3_1, setK3_2, setK3_3, setK3_4, ev_sl, slK1_ok, slK2_ok, slK3_ok, ev_no, ev_so, soK_ok, soK_err, ev_join, joinK1_ok, joinK2_ok, ev_app, appK1_ok, appK2_ok, appK2_err, appK3_ok, ev_a0, ev_aD, ev_aR, eaK1_ok, eaK1_err, eaK3_ok, eaK2_ok, eaK2_err, ev_call, callK_d1, callK_d2, callK_d3, callK_d4, callK_d5, callK_d6, callK_d7, callK_d8, callK_r0, callK_r1, callK_r2, callK_r3, callK_r4, callK_r5, callK_r6, callK_r7, callK_err, backK_ok, backK_err, slotOf_d, slotOf_r, putBack_d, putBack_r, putBack_nil, refs_nil, refs_d, refs_r, ev_run, endOf_nx, endOf_rt, endOf_err, maskL_t, maskL_f, maskL_nil, ev_for, forK_ok, forGo_nil, turnK_nx, turnK_ct, turnK_bk, turnK_rt, turnK_err, bind_ok, asItems_l, asItems_t, asItems_s, ev_name, ev_fnil, ev_fcons, ev_ftup, some_bind, ev_asgT, asgTK_ok, asgTK2_ok, ev_lc, lcK_ok, wipeL_nil, wipeL_cons, ev_yes, lcGo_nil, dLt_i, dLe_i, dGt_i, dGe_i, dEq_i, dEq_s, dEq_b, dNe_i, dNe_s, dIs_b, dSub_i, dLen_l, dLen_t, dList_l, dList_t, dSl_l, dNot_b, ty_n_bool, ty_n_int, ty_n_str, ty_n_list, ty_n_tuple, ty_b_bool, ty_b_int, ty_b_str, ty_b_list, ty_b_tuple, ty_i_bool, ty_i_int, ty_i_str, ty_i_list, ty_i_tuple, ty_s_bool, ty_s_int, ty_s_str, ty_s_list, ty_s_tuple, ty_l_bool, ty_l_int, ty_l_str, ty_l_list, ty_l_tuple, ty_t_bool, ty_t_int, ty_t_str, ty_t_list, ty_t_tuple, dIs_nn, dIs_in, dIs_bn, dIs_sn, dIs_ln, dIs_tn, dNe_b, ev_A, aK_ok, aK_err, dMin_ok, dMax_ok, asZip_l, asZip_t, ev_pop, popK1_ok, dAdd_int, ofO_some, ofO_none, List.getElem?_cons_zero, List.getElem?_cons_succ, List.set_cons_zero, List.set_cons_succ, List.length_cons, List.length_nil, List.cons_append, List.nil_append, List.replicate_succ, List.replicate_zero, List.map_cons, List.map_nil, Option.join_some, List.append_nil, Nat.reduceAdd, Nat.reduceLT, Nat.reduceLeDiff, Nat.reduceSub, Nat.reduceEqDiff, if_true, if_false, decide_true, decide_false, Bool.false_eq_true, Bool.not_true, Bool.not_false, e1, e2, List.length_map, hl, dMax_ok, cutD_from hk0, hk, e3]
end Lw

namespace Lw
open PySem VS
/-! ### the law of sums -/
theorem same_int (i : Int) : m_law_same 12 [some (.d (.int i)), some (.d (.int i))] = .ok (.d (.bool true)) [none, none] := same_ok 12 _ trivial
theorem pl_oath (k : Nat) (z : List Nat × Int) : Pl (k + 2) (oathD z) := fun x hx => by
  cases hx with
  | head => exact trivial
  | tail _ hx => cases hx with
    | head => exact trivial
    | tail _ hx => cases hx
theorem pl_side (k : Nat) (zs : List (List Nat × Int)) : Pl (k + 3) (.list (zs.map oathD)) := fun x hx => by
  obtain ⟨z, _, rfl⟩ := List.mem_map.mp hx
  exact pl_oath k z
theorem perm_sum {xs ys : List Int} (h : xs.Perm ys) : xs.sum = ys.sum := by
  induction h with
  | nil => rfl
  | cons x _ ih => rw [List.sum_cons, List.sum_cons, ih]
  | swap x y l => simp only [List.sum_cons]; omega
  | trans _ _ h1 h2 => exact h1.trans h2
theorem true_k02 (ns : List Int) (h : ns.length ≤ 63) : ∃ L, m_main_k02 [some (.scr ns)] = .ok (.d (.bool true)) L := by
  have hs0 := src_start h
  obtain ⟨nm, s1, e1, l1, d1, g1, hs1⟩ := names_ok hs0 (many := 12) (by omega) (by omega)
  obtain ⟨m, s2, e2, m0, m1, hs2⟩ := next_ok hs1 (n := 13) (by omega) (by omega)
  obtain ⟨zs, s3, e3, l3, z3, k3, hs3⟩ := side_ok hs2 d1 (by omega) m0 (by omega)
  have hz : zs.length ≤ 12 := by omega
  obtain ⟨many, s4, e4, n0, n1, hs4⟩ := next_ok hs3 (n := (zs.length : Int) + 3) (by omega) (by omega)
  have t1 := total_ok zs (by omega)
  have t2 := law_total_ok zs
  have t3 := heaviest_ok zs (by omega) n0
  have t4 := sum_first_ok zs (by omega) n0
  have t5 := heaviest_ok zs (by omega) (show (0 : Int) ≤ (zs.length : Int) by omega)
  have hall : sumW ((heavyZ zs).take zs.length) = sumW zs := by
    rw [List.take_of_length_le (by rw [heavyZ_len]; omega)]
    exact perm_sum ((heavyZ_perm zs).map _)
  rw [Int.toNat_natCast, hall] at t5
  have t6 : m_law_same 12 [some (.d (.list (zs.map oathD))), some (.d (.list (zs.map oathD)))] = .ok (.d (.bool true)) [none, none] := same_ok 12 _ (pl_side 9 zs)
  refine ⟨[some (.scr ns)], ?_⟩
  unfold m_main_k02 g_main_k02
  simp only [ev_seq, seqK_nx, seqK_rt, seqK_bk, seqK_ct, seqK_err, ev_next, ev_if, ifK_ok, ifK_err, ev_asg, asgK_ok, asgK_err, ev_ret, retK_ok, retK_err, ev_retN, ev_drop, dropK_ok, dropK_err, ev_c, ev_d, dK_ok, dK_err, ev_fz, fzK_d, fzK_l, fzK_err, ev_op, opK1_ok, opK1_err, opK2_ok, opK2_err, ev_un, unK_ok, unK_err, ev_isi, ev_b, bK_ok, bK_err, ev_and, andK_ok, andK_err, ev_or, orK_ok, orK_err, ev_not, notK_ok, ev_andV, andVK_ok, ev_orV, orVK_ok, ev_ifE, ifEK_ok, ev_nil, ev_cons, consK1_ok, consK1_err, consK2_ok, consK2_err, ev_lst, lstK_ok, ev_tup, tupK_ok, ev_var, varK_d, varK_l, ev_peek, peekK_d, peekK_l, peekK_s, ev_move, moveK_d, moveK_l, ev_ixP, ixK_ok, ixK1_ok, ixK1_err, ixK2_ok, dIx_nat, dIx_natT, dIx_l0, dIx_l1, dIx_l2, dIx_l3, dIx_l4, dIx_t0, dIx_t1, dIx_t2, dIx_t3, ev_setIx, setK0_ok, setK0_err, setK1_ok, setK2_ok, setK3_0, setK3_1, setK3_2, setK3_3, setK3_4, ev_sl, slK1_ok, slK2_ok, slK3_ok, ev_no, ev_so, soK_ok, soK_err, ev_join, joinK1_ok, joinK2_ok, ev_app, appK1_ok, appK2_ok, appK2_err, appK3_ok, ev_a0, ev_aD, ev_aR, eaK1_ok, eaK1_err, eaK3_ok, eaK2_ok, eaK2_err, ev_call, callK_d1, callK_d2, callK_d3, callK_d4, callK_d5, callK_d6, callK_d7, callK_d8, callK_r0, callK_r1, callK_r2, callK_r3, callK_r4, callK_r5, callK_r6, callK_r7, callK_err, backK_ok, backK_err, slotOf_d, slotOf_r, putBack_d, putBack_r, putBack_nil, refs_nil, refs_d, refs_r, ev_run, endOf_nx, endOf_rt, endOf_err, maskL_t, maskL_f, maskL_nil, ev_for, forK_ok, forGo_nil, turnK_nx, turnK_ct, turnK_bk, turnK_rt, turnK_err, bind_ok, asItems_l, asItems_t, asItems_s, ev_name, ev_fnil, ev_fcons, ev_ftup, some_bind, ev_asgT, asgTK_ok, asgTK2_ok, ev_lc, lcK_ok, wipeL_nil, wipeL_cons, ev_yes, lcGo_nil, dLt_i, dLe_i, dGt_i, dGe_i, dEq_i, dEq_s, dEq_b, dNe_i, dNe_s, dIs_b, dSub_i, dLen_l, dLen_t, dList_l, dList_t, dSl_l, dNot_b, ty_n_bool, ty_n_int, ty_n_str, ty_n_list, ty_n_tuple, ty_b_bool, ty_b_int, ty_b_str, ty_b_list, ty_b_tuple, ty_i_bool, ty_i_int, ty_i_str, ty_i_list, ty_i_tuple, ty_s_bool, ty_s_int, ty_s_str, ty_s_list, ty_s_tuple, ty_l_bool, ty_l_int, ty_l_str, ty_l_list, ty_l_tuple, ty_t_bool, ty_t_int, ty_t_str, ty_t_list, ty_t_tuple, dIs_nn, dIs_in, dIs_bn, dIs_sn, dIs_ln, dIs_tn, dNe_b, ev_A, aK_ok, aK_err, dMin_ok, dMax_ok, asZip_l, asZip_t, ev_pop, popK1_ok, dAdd_int, ofO_some, ofO_none, List.getElem?_cons_zero, List.getElem?_cons_succ, List.set_cons_zero, List.set_cons_succ, List.length_cons, List.length_nil, List.cons_append, List.nil_append, List.replicate_succ, List.replicate_zero, List.map_cons, List.map_nil, Option.join_some, List.append_nil, Nat.reduceAdd, Nat.reduceLT, Nat.reduceLeDiff, Nat.reduceSub, Nat.reduceEqDiff, if_true, if_false, decide_true, decide_false, Bool.false_eq_true, Bool.not_true, Bool.not_false, src_ok h, e1, e2, e3, List.length_map, e4, t1, t2, t3, t4, t5, t6, same_int]
end Lw

namespace Lw
open PySem PySem.Spec PyProof.Rows L2 VS
def g_fewest_to : LS → R O := (gSeq (gAsg 2 (gLst gNil))
    (gSeq (gAsg 3 (gD (gC (.int 0))))
    (gSeq (gFor (fun L => ((gFz (gUn (dSortK true) (gVar 0))) L).bind asItems) (fTup 2 (fCons (fName 4) (fCons (fName 5) fNil))) (gSeq (gIf (gB (gOp dGe (gPeek 3) (gPeek 1))) (fun L => .ok .bk L) gNext)
    (gSeq (gDrop (gApp 2 (gVar 4)))
    (gAsg 3 (gOp dAdd (gVar 3) (gVar 5))))))
    (gSeq (gIf (gB (gOp dLt (gPeek 3) (gPeek 1))) (gRet (gD (gC .none))) gNext)
    (gRet (gMove 2))))))
def m_fewest_to : LS → R S := runDef [false, false] 6 g_fewest_to
def g_main_k03 : LS → R O := (gSeq (gAsg 1 (gCall Lw.m_law_src [.r 0]))
    (gSeq (gAsg 2 (gCall Lw.m_law_names [.r 1, .d (gC (.int 12))]))
    (gSeq (gAsg 3 (gCall Lw.m_law_side [.r 1, .d (gVar 2), .d (gFz (gCall Lw.m_law_next [.r 1, .d (gC (.int 13))]))]))
    (gSeq (gAsg 4 (gUn dList (gPeek 3)))
    (gSeq (gAsg 5 (gD (gOp dSub (gFz (gCall Lw.m_law_next [.r 1, .d (gFz (gOp dAdd (gFz (gCall Lw.m_law_total [.d (gVar 4)])) (gC (.int 5))))])) (gC (.int 2)))))
    (gSeq (gIf (gB (gOp dEq (gFz (gCall Lw.m_law_next [.r 1, .d (gC (.int 2))])) (gC (.int 0)))) (gAsg 5 (gOp dAdd (gOp dSub (gFz (gCall Lw.m_law_sum_first [.d (gVar 4), .d (gFz (gCall Lw.m_law_next [.r 1, .d (gC (.int 13))]))])) (gC (.int 1))) (gFz (gCall Lw.m_law_next [.r 1, .d (gC (.int 3))])))) gNext)
    (gSeq (gIf (gB (gOp dEq (gFz (gCall Lw.m_law_next [.r 1, .d (gC (.int 8))])) (gC (.int 0)))) (gAsg 5 (gD (gOp dIx (gFz (gLst (gCons (gOp dPow (gC (.int 10)) (gC (.int 17))) (gCons (gUn dNeg (gOp dPow (gC (.int 10)) (gC (.int 17)))) gNil)))) (gFz (gCall Lw.m_law_next [.r 1, .d (gC (.int 2))]))))) gNext)
    (gSeq (gAsg 6 (gCall Lw.m_fewest_to [.d (gVar 3), .d (gVar 5)]))
    (gSeq (gIf (gB (gIsi "list" (gPeek 6))) (gSeq (gDrop (gApp 6 (gC (.str "Zz"))))
    (gSeq (gAsg 6 (gCall Lw.m_fewest_to [.d (gVar 3), .d (gVar 5)]))
    (gIf (gB (gOp dIn (gC (.str "Zz")) (gPeek 6))) (gRet (gD (gC (.bool false)))) gNext))) gNext)
    (gSeq (gIf (gNot (gB (gFz (gCall (Lw.m_law_same 12) [.d (gVar 3), .d (gVar 4)])))) (gRet (gD (gC (.bool false)))) gNext)
    (gSeq (gIf (gAnd (gB (gOp dGt (gPeek 5) (gFz (gCall Lw.m_law_total [.d (gVar 4)])))) (gB (gOp dGt (gPeek 5) (gC (.int 0))))) (gRet (gD (gOp dIs (gPeek 6) (gC .none)))) gNext)
    (gSeq (gIf (gNot (gB (gIsi "list" (gPeek 6)))) (gRet (gD (gC (.bool false)))) gNext)
    (gSeq (gAsg 7 (gD (gC (.int 0))))
    (gSeq (gFor (fun L => ((gVar 6) L).bind asItems) (fName 8) (gSeq (gIf (gOr (gNot (gB (gIsi "str" (gPeek 8)))) (gB (gOp dNe (gCount (gPeek 6) (gVar 8)) (gC (.int 1))))) (gRet (gD (gC (.bool false)))) gNext)
    (gSeq (gAsg 9 (gLc [10, 11] (fun L => ((gVar 4) L).bind asItems) (fTup 2 (fCons (fName 10) (fCons (fName 11) fNil))) (gB (gOp dEq (gPeek 10) (gPeek 8))) (gVar 11)))
    (gSeq (gIf (gB (gOp dNe (gUn dLen (gPeek 9)) (gC (.int 1)))) (gRet (gD (gC (.bool false)))) gNext)
    (gAsg 7 (gOp dAdd (gVar 7) (gIxP 9 (gC (.int 0)))))))))
    (gSeq (gIf (gB (gOp dLt (gPeek 5) (gC (.int 1)))) (gRet (gD (gOp dEq (gUn dLen (gPeek 6)) (gC (.int 0))))) gNext)
    (gRet (gD (gAndV (gOp dGe (gPeek 7) (gPeek 5)) (gOp dLt (gFz (gCall Lw.m_law_sum_first [.d (gVar 4), .d (gOp dSub (gUn dLen (gPeek 6)) (gC (.int 1)))])) (gPeek 5))))))))))))))))))))
def m_main_k03 : LS → R S := runDef [true] 12 g_main_k03
end Lw

namespace Lw
open PySem VS
/-! ### the law of the fewest names -/
/-- taken from the first on, till the goal is reached -/
def fewT (goal : Int) : Int → List (List Nat × Int) → List (List Nat × Int)
  | _, [] => []
  | r, z :: zs => if goal ≤ r then [] else z :: fewT goal (r + z.2) zs
theorem sumW_cons (z : List Nat × Int) (zs : List (List Nat × Int)) : sumW (z :: zs) = z.2 + sumW zs := rfl
theorem sumW_nil : sumW [] = 0 := rfl
theorem fewT_take (goal : Int) : ∀ (zs : List (List Nat × Int)) (r : Int), fewT goal r zs = zs.take (fewT goal r zs).length
  | [], _ => rfl
  | z :: zs, r => by
    unfold fewT
    by_cases h : goal ≤ r
    · rw [if_pos h]; rfl
    · rw [if_neg h, List.length_cons, List.take_succ_cons, ← fewT_take goal zs (r + z.2)]
/-- too light a side is taken whole -/
theorem fewT_all (goal : Int) : ∀ (zs : List (List Nat × Int)) (r : Int), r + sumW (fewT goal r zs) < goal → fewT goal r zs = zs
  | [], _, _ => rfl
  | z :: zs, r, h => by
    unfold fewT at *
    by_cases hg : goal ≤ r
    · rw [if_pos hg, sumW_nil] at h
      omega
    · rw [if_neg hg, sumW_cons] at h
      rw [if_neg hg, fewT_all goal zs (r + z.2) (by omega)]
/-- one fewer is too light -/
theorem fewT_one (goal : Int) : ∀ (zs : List (List Nat × Int)) (r : Int), r < goal → r + sumW (zs.take ((fewT goal r zs).length - 1)) < goal
  | [], r, h => by simpa [fewT, sumW] using h
  | z :: zs, r, h => by
    unfold fewT
    rw [if_neg (by omega), List.length_cons, Nat.add_sub_cancel]
    cases hk : fewT goal (r + z.2) zs with
    | nil => simpa [sumW] using h
    | cons y ys =>
      have hr : r + z.2 < goal := by
        cases zs with
        | nil => cases hk
        | cons z' zs' =>
          unfold fewT at hk
          by_cases hg : goal ≤ r + z.2
          · rw [if_pos hg] at hk; cases hk
          · omega
      have := fewT_one goal zs (r + z.2) hr
      rw [hk, List.length_cons, Nat.add_sub_cancel] at this
      rw [List.length_cons, List.take_succ_cons, sumW_cons]
      omega
theorem few_go {goal : Int} {o0 : Option S} : ∀ (zs : List (List Nat × Int)) (ns : List (List Nat)) (r : Int) (o4 o5 : Option S), ns.length + zs.length ≤ 100000 →
    ∃ o4' o5', forGo (fTup 2 (fCons (fName 4) (fCons (fName 5) fNil))) (gSeq (gIf (gB (gOp dGe (gPeek 3) (gPeek 1))) (fun L => .ok .bk L) gNext) (gSeq (gDrop (gApp 2 (gVar 4))) (gAsg 3 (gOp dAdd (gVar 3) (gVar 5))))) (zs.map oathD)
      [o0, some (.d (.int goal)), some (.ol (ns.map nD)), some (.d (.int r)), o4, o5] = .ok .nx [o0, some (.d (.int goal)), some (.ol ((ns ++ (fewT goal r zs).map (·.1)).map nD)), some (.d (.int (r + sumW (fewT goal r zs)))), o4', o5']
  | [], ns, r, o4, o5, _ => ⟨o4, o5, by
    rw [List.map_nil, forGo_nil]
    unfold fewT
    rw [List.map_nil, List.append_nil, sumW_nil, Int.add_zero]⟩
  | z :: zs, ns, r, o4, o5, hl => by
    rw [List.length_cons] at hl
    rw [List.map_cons, forGo_cons (L1 := [o0, some (.d (.int goal)), some (.ol (ns.map nD)), some (.d (.int r)), some (.d (nD z.1)), some (.d (.int z.2))]) _ _ _ _ rfl]
    unfold fewT
    by_cases hg : goal ≤ r
    · refine ⟨some (.d (nD z.1)), some (.d (.int z.2)), ?_⟩
      rw [if_pos hg, List.map_nil, List.append_nil, sumW_nil, Int.add_zero]
      simp only [ev_seq, seqK_nx, seqK_rt, seqK_bk, seqK_ct, seqK_err, ev_next, ev_if, ifK_ok, ifK_err, ev_asg, asgK_ok, asgK_err, ev_ret, retK_ok, retK_err, ev_retN, ev_drop, dropK_ok, dropK_err, ev_c, ev_d, dK_ok, dK_err, ev_fz, fzK_d, fzK_l, fzK_err, ev_op, opK1_ok, opK1_err, opK2_ok, opK2_err, ev_un, unK_ok, unK_err, ev_isi, ev_b, bK_ok, bK_err, ev_and, andK_ok, andK_err, ev_or, orK_ok, orK_err, ev_not, notK_ok, ev_andV, andVK_ok, ev_orV, orVK_ok, ev_ifE, ifEK_ok, ev_nil, ev_cons, consK1_ok, consK1_err, consK2_ok, consK2_err, ev_lst, lstK_ok, ev_tup, tupK_ok, ev_var, varK_d, varK_l, ev_peek, peekK_d, peekK_l, peekK_s, ev_move, moveK_d, moveK_l, ev_ixP, ixK_ok, ixK1_ok, ixK1_err, ixK2_ok, dIx_nat, dIx_natT, dIx_l0, dIx_l1, dIx_l2, dIx_l3, dIx_l4, dIx_t0, dIx_t1, dIx_t2, dIx_t3, ev_setIx, setK0_ok, setK0_err, setK1_ok, setK2_ok, setK3_0, setK3_1, setK3_2, setK3_3, setK3_4, ev_sl, slK1_ok, slK2_ok, slK3_ok, ev_no, ev_so, soK_ok, soK_err, ev_join, joinK1_ok, joinK2_ok, ev_app, appK1_ok, appK2_ok, appK2_err, appK3_ok, ev_a0, ev_aD, ev_aR, eaK1_ok, eaK1_err, eaK3_ok, eaK2_ok, eaK2_err, ev_call, callK_d1, callK_d2, callK_d3, callK_d4, callK_d5, callK_d6, callK_d7, callK_d8, callK_r0, callK_r1, callK_r2, callK_r3, callK_r4, callK_r5, callK_r6, callK_r7, callK_err, backK_ok, backK_err, slotOf_d, slotOf_r, putBack_d, putBack_r, putBack_nil, refs_nil, refs_d, refs_r, ev_run, endOf_nx, endOf_rt, endOf_err, maskL_t, maskL_f, maskL_nil, ev_for, forK_ok, forGo_nil, turnK_nx, turnK_ct, turnK_bk, turnK_rt, turnK_err, bind_ok, asItems_l, asItems_t, asItems_s, ev_name, ev_fnil, ev_fcons, ev_ftup, some_bind, ev_asgT, asgTK_ok, asgTK2_ok, ev_lc, lcK_ok, wipeL_nil, wipeL_cons, ev_yes, lcGo_nil, dLt_i, dLe_i, dGt_i, dGe_i, dEq_i, dEq_s, dEq_b, dNe_i, dNe_s, dIs_b, dSub_i, dLen_l, dLen_t, dList_l, dList_t, dSl_l, dNot_b, ty_n_bool, ty_n_int, ty_n_str, ty_n_list, ty_n_tuple, ty_b_bool, ty_b_int, ty_b_str, ty_b_list, ty_b_tuple, ty_i_bool, ty_i_int, ty_i_str, ty_i_list, ty_i_tuple, ty_s_bool, ty_s_int, ty_s_str, ty_s_list, ty_s_tuple, ty_l_bool, ty_l_int, ty_l_str, ty_l_list, ty_l_tuple, ty_t_bool, ty_t_int, ty_t_str, ty_t_list, ty_t_tuple, dIs_nn, dIs_in, dIs_bn, dIs_sn, dIs_ln, dIs_tn, dNe_b, ev_A, aK_ok, aK_err, dMin_ok, dMax_ok, asZip_l, asZip_t, ev_pop, popK1_ok, ev_cnt, cntK1_ok, cntK2_ok, dAdd_int, ofO_some, ofO_none, List.getElem?_cons_zero, List.getElem?_cons_succ, List.set_cons_zero, List.set_cons_succ, List.length_cons, List.length_nil, List.cons_append, List.nil_append, List.replicate_succ, List.replicate_zero, List.map_cons, List.map_nil, Option.join_some, List.append_nil, Nat.reduceAdd, Nat.reduceLT, Nat.reduceLeDiff, Nat.reduceSub, Nat.reduceEqDiff, if_true, if_false, decide_true, decide_false, Bool.false_eq_true, Bool.not_true, Bool.not_false, hg]
    · obtain ⟨o4', o5', e⟩ := few_go (goal := goal) (o0 := o0) zs (ns ++ [z.1]) (r + z.2) (some (.d (nD z.1))) (some (.d (.int z.2))) (by rw [List.length_append]; simp; omega)
      refine ⟨o4', o5', ?_⟩
      have h4 : ns.length < sizeLine := by rw [PySem.sizeLine_eq]; omega
      have step : gSeq (gIf (gB (gOp dGe (gPeek 3) (gPeek 1))) (fun L => .ok .bk L) gNext) (gSeq (gDrop (gApp 2 (gVar 4))) (gAsg 3 (gOp dAdd (gVar 3) (gVar 5)))) [o0, some (.d (.int goal)), some (.ol (ns.map nD)), some (.d (.int r)), some (.d (nD z.1)), some (.d (.int z.2))]
          = .ok .nx [o0, some (.d (.int goal)), some (.ol ((ns ++ [z.1]).map nD)), some (.d (.int (r + z.2))), some (.d (nD z.1)), some (.d (.int z.2))] := by
        rw [List.map_append]
        simp only [ev_seq, seqK_nx, seqK_rt, seqK_bk, seqK_ct, seqK_err, ev_next, ev_if, ifK_ok, ifK_err, ev_asg, asgK_ok, asgK_err, ev_ret, retK_ok, retK_err, ev_retN, ev_drop, dropK_ok, dropK_err, ev_c, ev_d, dK_ok, dK_err, ev_fz, fzK_d, fzK_l, fzK_err, ev_op, opK1_ok, opK1_err, opK2_ok, opK2_err, ev_un, unK_ok, unK_err, ev_isi, ev_b, bK_ok, bK_err, ev_and, andK_ok, andK_err, ev_or, orK_ok, orK_err, ev_not, notK_ok, ev_andV, andVK_ok, ev_orV, orVK_ok, ev_ifE, ifEK_ok, ev_nil, ev_cons, consK1_ok, consK1_err, consK2_ok, consK2_err, ev_lst, lstK_ok, ev_tup, tupK_ok, ev_var, varK_d, varK_l, ev_peek, peekK_d, peekK_l, peekK_s, ev_move, moveK_d, moveK_l, ev_ixP, ixK_ok, ixK1_ok, ixK1_err, ixK2_ok, dIx_nat, dIx_natT, dIx_l0, dIx_l1, dIx_l2, dIx_l3, dIx_l4, dIx_t0, dIx_t1, dIx_t2, dIx_t3, ev_setIx, setK0_ok, setK0_err, setK1_ok, setK2_ok, setK3_0, setK3_1, setK3_2, setK3_3, setK3_4, ev_sl, slK1_ok, slK2_ok, slK3_ok, ev_no, ev_so, soK_ok, soK_err, ev_join, joinK1_ok, joinK2_ok, ev_app, appK1_ok, appK2_ok, appK2_err, appK3_ok, ev_a0, ev_aD, ev_aR, eaK1_ok, eaK1_err, eaK3_ok, eaK2_ok, eaK2_err, ev_call, callK_d1, callK_d2, callK_d3, callK_d4, callK_d5, callK_d6, callK_d7, callK_d8, callK_r0, callK_r1, callK_r2, callK_r3, callK_r4, callK_r5, callK_r6, callK_r7, callK_err, backK_ok, backK_err, slotOf_d, slotOf_r, putBack_d, putBack_r, putBack_nil, refs_nil, refs_d, refs_r, ev_run, endOf_nx, endOf_rt, endOf_err, maskL_t, maskL_f, maskL_nil, ev_for, forK_ok, forGo_nil, turnK_nx, turnK_ct, turnK_bk, turnK_rt, turnK_err, bind_ok, asItems_l, asItems_t, asItems_s, ev_name, ev_fnil, ev_fcons, ev_ftup, some_bind, ev_asgT, asgTK_ok, asgTK2_ok, ev_lc, lcK_ok, wipeL_nil, wipeL_cons, ev_yes, lcGo_nil, dLt_i, dLe_i, dGt_i, dGe_i, dEq_i, dEq_s, dEq_b, dNe_i, dNe_s, dIs_b, dSub_i, dLen_l, dLen_t, dList_l, dList_t, dSl_l, dNot_b, ty_n_bool, ty_n_int, ty_n_str, ty_n_list, ty_n_tuple, ty_b_bool, ty_b_int, ty_b_str, ty_b_list, ty_b_tuple, ty_i_bool, ty_i_int, ty_i_str, ty_i_list, ty_i_tuple, ty_s_bool, ty_s_int, ty_s_str, ty_s_list, ty_s_tuple, ty_l_bool, ty_l_int, ty_l_str, ty_l_list, ty_l_tuple, ty_t_bool, ty_t_int, ty_t_str, ty_t_list, ty_t_tuple, dIs_nn, dIs_in, dIs_bn, dIs_sn, dIs_ln, dIs_tn, dNe_b, ev_A, aK_ok, aK_err, dMin_ok, dMax_ok, asZip_l, asZip_t, ev_pop, popK1_ok, ev_cnt, cntK1_ok, cntK2_ok, dAdd_int, ofO_some, ofO_none, List.getElem?_cons_zero, List.getElem?_cons_succ, List.set_cons_zero, List.set_cons_succ, List.length_cons, List.length_nil, List.cons_append, List.nil_append, List.replicate_succ, List.replicate_zero, List.map_cons, List.map_nil, Option.join_some, List.append_nil, Nat.reduceAdd, Nat.reduceLT, Nat.reduceLeDiff, Nat.reduceSub, Nat.reduceEqDiff, if_true, if_false, decide_true, decide_false, Bool.false_eq_true, Bool.not_true, Bool.not_false, hg, List.length_map, h4]
      rw [step, turnK_nx, e, if_neg hg, List.map_cons, sumW_cons, List.append_assoc, Int.add_assoc]
      rfl
def fewZ (goal : Int) (zs : List (List Nat × Int)) : List (List Nat × Int) := fewT goal 0 (heavyZ zs)
def fewS (goal : Int) (zs : List (List Nat × Int)) : S := if sumW (fewZ goal zs) < goal then .d .none else .ol (((fewZ goal zs).map (·.1)).map nD)
theorem few_ok (goal : Int) (zs : List (List Nat × Int)) (h : zs.length ≤ 1000) : m_fewest_to [some (.d (.list (zs.map oathD))), some (.d (.int goal))] = .ok (fewS goal zs) [none, none] := by
  have e : dSortK true (.list (zs.map oathD)) = some (.ol ((heavyZ zs).map oathD)) := by
    show (if (zs.map oathD).all isIt1 = true ∧ (zs.map oathD).length ≤ sizeLine then some (S.ol (srtK true (zs.map oathD))) else none) = _
    rw [if_pos ⟨isIt1_oaths zs, by rw [List.length_map, PySem.sizeLine_eq]; omega⟩, srtK_oaths]
  obtain ⟨o4, o5, e2⟩ := few_go (goal := goal) (o0 := some (.d (.list (zs.map oathD)))) (heavyZ zs) [] 0 none none (by rw [heavyZ_len]; simp; omega)
  rw [List.nil_append, Int.zero_add, List.map_nil] at e2
  have h0 : (0 : Nat) ≤ sizeLine := Nat.zero_le _
  unfold m_fewest_to g_fewest_to fewS fewZ
  by_cases hg : sumW (fewT goal 0 (heavyZ zs)) < goal
  · simp only [ev_seq, seqK_nx, seqK_rt, seqK_bk, seqK_ct, seqK_err, ev_next, ev_if, ifK_ok, ifK_err, ev_asg, asgK_ok, asgK_err, ev_ret, retK_ok, retK_err, ev_retN, ev_drop, dropK_ok, dropK_err, ev_c, ev_d, dK_ok, dK_err, ev_fz, fzK_d, fzK_l, fzK_err, ev_op, opK1_ok, opK1_err, opK2_ok, opK2_err, ev_un, unK_ok, unK_err, ev_isi, ev_b, bK_ok, bK_err, ev_and, andK_ok, andK_err, ev_or, orK_ok, orK_err, ev_not, notK_ok, ev_andV, andVK_ok, ev_orV, orVK_ok, ev_ifE, ifEK_ok, ev_nil, ev_cons, consK1_ok, consK1_err, consK2_ok, consK2_err, ev_lst, lstK_ok, ev_tup, tupK_ok, ev_var, varK_d, varK_l, ev_peek, peekK_d, peekK_l, peekK_s, ev_move, moveK_d, moveK_l, ev_ixP, ixK_ok, ixK1_ok, ixK1_err, ixK2_ok, dIx_nat, dIx_natT, dIx_l0, dIx_l1, dIx_l2, dIx_l3, dIx_l4, dIx_t0, dIx_t1, dIx_t2, dIx_t3, ev_setIx, setK0_ok, setK0_err, setK1_ok, setK2_ok, setK3_0, setK3_1, setK3_2, setK3_3, setK3_4, ev_sl, slK1_ok, slK2_ok, slK3_ok, ev_no, ev_so, soK_ok, soK_err, ev_join, joinK1_ok, joinK2_ok, ev_app, appK1_ok, appK2_ok, appK2_err, appK3_ok, ev_a0, ev_aD, ev_aR, eaK1_ok, eaK1_err, eaK3_ok, eaK2_ok, eaK2_err, ev_call, callK_d1, callK_d2, callK_d3, callK_d4, callK_d5, callK_d6, callK_d7, callK_d8, callK_r0, callK_r1, callK_r2, callK_r3, callK_r4, callK_r5, callK_r6, callK_r7, callK_err, backK_ok, backK_err, slotOf_d, slotOf_r, putBack_d, putBack_r, putBack_nil, refs_nil, refs_d, refs_r, ev_run, endOf_nx, endOf_rt, endOf_err, maskL_t, maskL_f, maskL_nil, ev_for, forK_ok, forGo_nil, turnK_nx, turnK_ct, turnK_bk, turnK_rt, turnK_err, bind_ok, asItems_l, asItems_t, asItems_s, ev_name, ev_fnil, ev_fcons, ev_ftup, some_bind, ev_asgT, asgTK_ok, asgTK2_ok, ev_lc, lcK_ok, wipeL_nil, wipeL_cons, ev_yes, lcGo_nil, dLt_i, dLe_i, dGt_i, dGe_i, dEq_i, dEq_s, dEq_b, dNe_i, dNe_s, dIs_b, dSub_i, dLen_l, dLen_t, dList_l, dList_t, dSl_l, dNot_b, ty_n_bool, ty_n_int, ty_n_str, ty_n_list, ty_n_tuple, ty_b_bool, ty_b_int, ty_b_str, ty_b_list, ty_b_tuple, ty_i_bool, ty_i_int, ty_i_str, ty_i_list, ty_i_tuple, ty_s_bool, ty_s_int, ty_s_str, ty_s_list, ty_s_tuple, ty_l_bool, ty_l_int, ty_l_str, ty_l_list, ty_l_tuple, ty_t_bool, ty_t_int, ty_t_str, ty_t_list, ty_t_tuple, dIs_nn, dIs_in, dIs_bn, dIs_sn, dIs_ln, dIs_tn, dNe_b, ev_A, aK_ok, aK_err, dMin_ok, dMax_ok, asZip_l, asZip_t, ev_pop, popK1_ok, ev_cnt, cntK1_ok, cntK2_ok, dAdd_int, ofO_some, ofO_none, List.getElem?_cons_zero, List.getElem?_cons_succ, List.set_cons_zero, List.set_cons_succ, List.length_cons, List.length_nil, List.cons_append, List.nil_append, List.replicate_succ, List.replicate_zero, List.map_cons, List.map_nil, Option.join_some, List.append_nil, Nat.reduceAdd, Nat.reduceLT, Nat.reduceLeDiff, Nat.reduceSub, Nat.reduceEqDiff, if_true, if_false, decide_true, decide_false, Bool.false_eq_true, Bool.not_true, Bool.not_false, h0, e, e2, hg]
  · simp only [ev_seq, seqK_nx, seqK_rt, seqK_bk, seqK_ct, seqK_err, ev_next, ev_if, ifK_ok, ifK_err, ev_asg, asgK_ok, asgK_err, ev_ret, retK_ok, retK_err, ev_retN, ev_drop, dropK_ok, dropK_err, ev_c, ev_d, dK_ok, dK_err, ev_fz, fzK_d, fzK_l, fzK_err, ev_op, opK1_ok, opK1_err, opK2_ok, opK2_err, ev_un, unK_ok, unK_err, ev_isi, ev_b, bK_ok, bK_err, ev_and, andK_ok, andK_err, ev_or, orK_ok, orK_err, ev_not, notK_ok, ev_andV, andVK_ok, ev_orV, orVK_ok, ev_ifE, ifEK_ok, ev_nil, ev_cons, consK1_ok, consK1_err, consK2_ok, consK2_err, ev_lst, lstK_ok, ev_tup, tupK_ok, ev_var, varK_d, varK_l, ev_peek, peekK_d, peekK_l, peekK_s, ev_move, moveK_d, moveK_l, ev_ixP, ixK_ok, ixK1_ok, ixK1_err, ixK2_ok, dIx_nat, dIx_natT, dIx_l0, dIx_l1, dIx_l2, dIx_l3, dIx_l4, dIx_t0, dIx_t1, dIx_t2, dIx_t3, ev_setIx, setK0_ok, setK0_err, setK1_ok, setK2_ok, setK3_0, setK3_1, setK3_2, setK3_3, setK3_4, ev_sl, slK1_ok, slK2_ok, slK3_ok, ev_no, ev_so, soK_ok, soK_err, ev_join, joinK1_ok, joinK2_ok, ev_app, appK1_ok, appK2_ok, appK2_err, appK3_ok, ev_a0, ev_aD, ev_aR, eaK1_ok, eaK1_err, eaK3_ok, eaK2_ok, eaK2_err, ev_call, callK_d1, callK_d2, callK_d3, callK_d4, callK_d5, callK_d6, callK_d7, callK_d8, callK_r0, callK_r1, callK_r2, callK_r3, callK_r4, callK_r5, callK_r6, callK_r7, callK_err, backK_ok, backK_err, slotOf_d, slotOf_r, putBack_d, putBack_r, putBack_nil, refs_nil, refs_d, refs_r, ev_run, endOf_nx, endOf_rt, endOf_err, maskL_t, maskL_f, maskL_nil, ev_for, forK_ok, forGo_nil, turnK_nx, turnK_ct, turnK_bk, turnK_rt, turnK_err, bind_ok, asItems_l, asItems_t, asItems_s, ev_name, ev_fnil, ev_fcons, ev_ftup, some_bind, ev_asgT, asgTK_ok, asgTK2_ok, ev_lc, lcK_ok, wipeL_nil, wipeL_cons, ev_yes, lcGo_nil, dLt_i, dLe_i, dGt_i, dGe_i, dEq_i, dEq_s, dEq_b, dNe_i, dNe_s, dIs_b, dSub_i, dLen_l, dLen_t, dList_l, dList_t, dSl_l, dNot_b, ty_n_bool, ty_n_int, ty_n_str, ty_n_list, ty_n_tuple, ty_b_bool, ty_b_int, ty_b_str, ty_b_list, ty_b_tuple, ty_i_bool, ty_i_int, ty_i_str, ty_i_list, ty_i_tuple, ty_s_bool, ty_s_int, ty_s_str, ty_s_list, ty_s_tuple, ty_l_bool, ty_l_int, ty_l_str, ty_l_list, ty_l_tuple, ty_t_bool, ty_t_int, ty_t_str, ty_t_list, ty_t_tuple, dIs_nn, dIs_in, dIs_bn, dIs_sn, dIs_ln, dIs_tn, dNe_b, ev_A, aK_ok, aK_err, dMin_ok, dMax_ok, asZip_l, asZip_t, ev_pop, popK1_ok, ev_cnt, cntK1_ok, cntK2_ok, dAdd_int, ofO_some, ofO_none, List.getElem?_cons_zero, List.getElem?_cons_succ, List.set_cons_zero, List.set_cons_succ, List.length_cons, List.length_nil, List.cons_append, List.nil_append, List.replicate_succ, List.replicate_zero, List.map_cons, List.map_nil, Option.join_some, List.append_nil, Nat.reduceAdd, Nat.reduceLT, Nat.reduceLeDiff, Nat.reduceSub, Nat.reduceEqDiff, if_true, if_false, decide_true, decide_false, Bool.false_eq_true, Bool.not_true, Bool.not_false, h0, e, e2, hg]
/-! what the law asks of it -/
theorem sumW_nn {zs : List (List Nat × Int)} (h : ∀ z ∈ zs, 1 ≤ z.2 ∧ z.2 ≤ 1000) : 0 ≤ sumW zs := by
  induction zs with
  | nil => exact Int.le_refl _
  | cons z zs ih =>
    rw [sumW_cons]
    have := h z List.mem_cons_self
    have := ih fun y hy => h y (List.mem_cons_of_mem _ hy)
    omega
theorem sumW_le {zs : List (List Nat × Int)} (h : ∀ z ∈ zs, 1 ≤ z.2 ∧ z.2 ≤ 1000) : sumW zs ≤ 1000 * zs.length := by
  induction zs with
  | nil => exact Int.le_refl _
  | cons z zs ih =>
    rw [sumW_cons, List.length_cons]
    have := h z List.mem_cons_self
    have := ih fun y hy => h y (List.mem_cons_of_mem _ hy)
    omega
theorem fewZ_sub {goal : Int} {zs : List (List Nat × Int)} {z : List Nat × Int} (h : z ∈ fewZ goal zs) : z ∈ zs := by
  unfold fewZ at h
  rw [fewT_take] at h
  exact (heavyZ_perm zs).mem_iff.mp (List.mem_of_mem_take h)
theorem fewZ_nd (goal : Int) {zs : List (List Nat × Int)} (h : (zs.map (·.1)).Nodup) : ((fewZ goal zs).map (·.1)).Nodup := by
  unfold fewZ
  rw [fewT_take, List.map_take]
  exact (((heavyZ_perm zs).map (·.1)).nodup_iff.mpr h).sublist (List.take_sublist _ _)
theorem sumW_heavy (zs : List (List Nat × Int)) : sumW (heavyZ zs) = sumW zs := perm_sum ((heavyZ_perm zs).map _)
theorem few_light {goal : Int} {zs : List (List Nat × Int)} (h : sumW (fewZ goal zs) < goal) : sumW zs < goal := by
  have := fewT_all goal (heavyZ zs) 0 (by rw [Int.zero_add]; exact h)
  unfold fewZ at h
  rw [this, sumW_heavy] at h
  exact h
theorem few_heavy {goal : Int} {zs : List (List Nat × Int)} (hz : ∀ z ∈ zs, 1 ≤ z.2 ∧ z.2 ≤ 1000) (h : ¬ sumW (fewZ goal zs) < goal) : goal ≤ sumW zs := by
  have h1 : sumW (fewZ goal zs) + sumW ((heavyZ zs).drop (fewZ goal zs).length) = sumW (heavyZ zs) := by
    have := fewT_take goal (heavyZ zs) 0
    unfold fewZ
    rw [this, List.length_take]
    have hk : min (fewT goal 0 (heavyZ zs)).length (heavyZ zs).length = (fewT goal 0 (heavyZ zs)).length := by
      rw [Nat.min_eq_left]
      rw [this, List.length_take]
      omega
    rw [hk]
    unfold sumW
    rw [← List.sum_append, ← List.map_append, List.take_append_drop]
  have h2 : 0 ≤ sumW ((heavyZ zs).drop (fewZ goal zs).length) := sumW_nn fun z h => hz z ((heavyZ_perm zs).mem_iff.mp (List.mem_of_mem_drop h))
  rw [sumW_heavy] at h1
  omega
theorem few_none {goal : Int} (zs : List (List Nat × Int)) (h : goal < 1) : fewZ goal zs = [] := by
  unfold fewZ
  cases heavyZ zs with
  | nil => rfl
  | cons z zs => exact if_pos (by omega)
theorem strs_names : ∀ ns : List (List Nat), strsOf (ns.map nD) = some (ns.map sOf)
  | [] => rfl
  | n :: ns => by
    show (strsOf (ns.map nD)).map (sOf n :: ·) = _
    rw [strs_names ns]
    rfl
theorem count_names (x : List Nat) (ns : List (List Nat)) : dCount (.list (ns.map nD)) (nD x) = some (.int (ns.count x : Nat)) := by
  show (strsOf (ns.map nD)).map _ = _
  rw [strs_names]
  show some (PyData.int (dCountS (sOf x) (ns.map sOf) : Nat)) = _
  congr 3
  unfold dCountS
  rw [List.countP_map, List.count]
  congr 1
theorem count_one {x : List Nat} {ns : List (List Nat)} (h : ns.Nodup) (hx : x ∈ ns) : ns.count x = 1 := by
  have := List.nodup_iff_count.mp h x
  have := List.count_pos_iff.mpr hx
  omega
theorem filt_go {x : List Nat} {o0 o1 o2 o3 o4 o5 o6 o7 o9 : Option S} : ∀ (zs : List (List Nat × Int)) (acc : List D), acc.length + zs.length ≤ 100000 →
    lcGo [10, 11] (fTup 2 (fCons (fName 10) (fCons (fName 11) fNil))) (gB (gOp dEq (gPeek 10) (gPeek 8))) (gVar 11) (zs.map oathD) acc [o0, o1, o2, o3, o4, o5, o6, o7, some (.d (nD x)), o9, none, none]
      = .ok (.ol (acc ++ (zs.filter fun z => decide (z.1 = x)).map fun z => .int z.2)) [o0, o1, o2, o3, o4, o5, o6, o7, some (.d (nD x)), o9, none, none]
  | [], acc, _ => by rw [List.map_nil, lcGo_nil, List.filter_nil, List.map_nil, List.append_nil]
  | z :: zs, acc, h => by
    rw [List.length_cons] at h
    by_cases hx : z.1 = x
    · have ht : gB (gOp dEq (gPeek 10) (gPeek 8)) [o0, o1, o2, o3, o4, o5, o6, o7, some (.d (nD x)), o9, some (.d (nD z.1)), some (.d (.int z.2))] = .ok true [o0, o1, o2, o3, o4, o5, o6, o7, some (.d (nD x)), o9, some (.d (nD z.1)), some (.d (.int z.2))] := by
        simp only [ev_seq, seqK_nx, seqK_rt, seqK_bk, seqK_ct, seqK_err, ev_next, ev_if, ifK_ok, ifK_err, ev_asg, asgK_ok, asgK_err, ev_ret, retK_ok, retK_err, ev_retN, ev_drop, dropK_ok, dropK_err, ev_c, ev_d, dK_ok, dK_err, ev_fz, fzK_d, fzK_l, fzK_err, ev_op, opK1_ok, opK1_err, opK2_ok, opK2_err, ev_un, unK_ok, unK_err, ev_isi, ev_b, bK_ok, bK_err, ev_and, andK_ok, andK_err, ev_or, orK_ok, orK_err, ev_not, notK_ok, ev_andV, andVK_ok, ev_orV, orVK_ok, ev_ifE, ifEK_ok, ev_nil, ev_cons, consK1_ok, consK1_err, consK2_ok, consK2_err, ev_lst, lstK_ok, ev_tup, tupK_ok, ev_var, varK_d, varK_l, ev_peek, peekK_d, peekK_l, peekK_s, ev_move, moveK_d, moveK_l, ev_ixP, ixK_ok, ixK1_ok, ixK1_err, ixK2_ok, dIx_nat, dIx_natT, dIx_l0, dIx_l1, dIx_l2, dIx_l3, dIx_l4, dIx_t0, dIx_t1, dIx_t2, dIx_t3, ev_setIx, setK0_ok, setK0_err, setK1_ok, setK2_ok, setK3_0, setK3_1, setK3_2, setK3_3, setK3_4, ev_sl, slK1_ok, slK2_ok, slK3_ok, ev_no, ev_so, soK_ok, soK_err, ev_join, joinK1_ok, joinK2_ok, ev_app, appK1_ok, appK2_ok, appK2_err, appK3_ok, ev_a0, ev_aD, ev_aR, eaK1_ok, eaK1_err, eaK3_ok, eaK2_ok, eaK2_err, ev_call, callK_d1, callK_d2, callK_d3, callK_d4, callK_d5, callK_d6, callK_d7, callK_d8, callK_r0, callK_r1, callK_r2, callK_r3, callK_r4, callK_r5, callK_r6, callK_r7, callK_err, backK_ok, backK_err, slotOf_d, slotOf_r, putBack_d, putBack_r, putBack_nil, refs_nil, refs_d, refs_r, ev_run, endOf_nx, endOf_rt, endOf_err, maskL_t, maskL_f, maskL_nil, ev_for, forK_ok, forGo_nil, turnK_nx, turnK_ct, turnK_bk, turnK_rt, turnK_err, bind_ok, asItems_l, asItems_t, asItems_s, ev_name, ev_fnil, ev_fcons, ev_ftup, some_bind, ev_asgT, asgTK_ok, asgTK2_ok, ev_lc, lcK_ok, wipeL_nil, wipeL_cons, ev_yes, lcGo_nil, dLt_i, dLe_i, dGt_i, dGe_i, dEq_i, dEq_s, dEq_b, dNe_i, dNe_s, dIs_b, dSub_i, dLen_l, dLen_t, dList_l, dList_t, dSl_l, dNot_b, ty_n_bool, ty_n_int, ty_n_str, ty_n_list, ty_n_tuple, ty_b_bool, ty_b_int, ty_b_str, ty_b_list, ty_b_tuple, ty_i_bool, ty_i_int, ty_i_str, ty_i_list, ty_i_tuple, ty_s_bool, ty_s_int, ty_s_str, ty_s_list, ty_s_tuple, ty_l_bool, ty_l_int, ty_l_str, ty_l_list, ty_l_tuple, ty_t_bool, ty_t_int, ty_t_str, ty_t_list, ty_t_tuple, dIs_nn, dIs_in, dIs_bn, dIs_sn, dIs_ln, dIs_tn, dNe_b, ev_A, aK_ok, aK_err, dMin_ok, dMax_ok, asZip_l, asZip_t, ev_pop, popK1_ok, ev_cnt, cntK1_ok, cntK2_ok, dAdd_int, ofO_some, ofO_none, List.getElem?_cons_zero, List.getElem?_cons_succ, List.set_cons_zero, List.set_cons_succ, List.length_cons, List.length_nil, List.cons_append, List.nil_append, List.replicate_succ, List.replicate_zero, List.map_cons, List.map_nil, Option.join_some, List.append_nil, Nat.reduceAdd, Nat.reduceLT, Nat.reduceLeDiff, Nat.reduceSub, Nat.reduceEqDiff, if_true, if_false, decide_true, decide_false, Bool.false_eq_true, Bool.not_true, Bool.not_false, hx]
      rw [List.map_cons, lcGo_yes (L1 := [o0, o1, o2, o3, o4, o5, o6, o7, some (.d (nD x)), o9, some (.d (nD z.1)), some (.d (.int z.2))]) (L2 := [o0, o1, o2, o3, o4, o5, o6, o7, some (.d (nD x)), o9, some (.d (nD z.1)), some (.d (.int z.2))]) (L3 := [o0, o1, o2, o3, o4, o5, o6, o7, some (.d (nD x)), o9, some (.d (nD z.1)), some (.d (.int z.2))]) (y := .int z.2) [10, 11] (fTup 2 (fCons (fName 10) (fCons (fName 11) fNil))) (gB (gOp dEq (gPeek 10) (gPeek 8))) (gVar 11) (oathD z) (zs.map oathD) acc rfl ht rfl (by rw [PySem.sizeLine_eq]; omega)]
      have := filt_go (x := x) (o0 := o0) (o1 := o1) (o2 := o2) (o3 := o3) (o4 := o4) (o5 := o5) (o6 := o6) (o7 := o7) (o9 := o9) zs (acc ++ [.int z.2]) (by rw [List.length_append]; simp; omega)
      show lcGo _ _ _ _ _ _ [o0, o1, o2, o3, o4, o5, o6, o7, some (.d (nD x)), o9, none, none] = _
      rw [this, List.filter_cons_of_pos (by simp [hx]), List.append_assoc]
      rfl
    · have hs : sOf z.1 ≠ sOf x := fun h => hx (sOf_inj h)
      have ht : gB (gOp dEq (gPeek 10) (gPeek 8)) [o0, o1, o2, o3, o4, o5, o6, o7, some (.d (nD x)), o9, some (.d (nD z.1)), some (.d (.int z.2))] = .ok false [o0, o1, o2, o3, o4, o5, o6, o7, some (.d (nD x)), o9, some (.d (nD z.1)), some (.d (.int z.2))] := by
        simp only [ev_seq, seqK_nx, seqK_rt, seqK_bk, seqK_ct, seqK_err, ev_next, ev_if, ifK_ok, ifK_err, ev_asg, asgK_ok, asgK_err, ev_ret, retK_ok, retK_err, ev_retN, ev_drop, dropK_ok, dropK_err, ev_c, ev_d, dK_ok, dK_err, ev_fz, fzK_d, fzK_l, fzK_err, ev_op, opK1_ok, opK1_err, opK2_ok, opK2_err, ev_un, unK_ok, unK_err, ev_isi, ev_b, bK_ok, bK_err, ev_and, andK_ok, andK_err, ev_or, orK_ok, orK_err, ev_not, notK_ok, ev_andV, andVK_ok, ev_orV, orVK_ok, ev_ifE, ifEK_ok, ev_nil, ev_cons, consK1_ok, consK1_err, consK2_ok, consK2_err, ev_lst, lstK_ok, ev_tup, tupK_ok, ev_var, varK_d, varK_l, ev_peek, peekK_d, peekK_l, peekK_s, ev_move, moveK_d, moveK_l, ev_ixP, ixK_ok, ixK1_ok, ixK1_err, ixK2_ok, dIx_nat, dIx_natT, dIx_l0, dIx_l1, dIx_l2, dIx_l3, dIx_l4, dIx_t0, dIx_t1, dIx_t2, dIx_t3, ev_setIx, setK0_ok, setK0_err, setK1_ok, setK2_ok, setK3_0, setK3_1, setK3_2, setK3_3, setK3_4, ev_sl, slK1_ok, slK2_ok, slK3_ok, ev_no, ev_so, soK_ok, soK_err, ev_join, joinK1_ok, joinK2_ok, ev_app, appK1_ok, appK2_ok, appK2_err, appK3_ok, ev_a0, ev_aD, ev_aR, eaK1_ok, eaK1_err, eaK3_ok, eaK2_ok, eaK2_err, ev_call, callK_d1, callK_d2, callK_d3, callK_d4, callK_d5, callK_d6, callK_d7, callK_d8, callK_r0, callK_r1, callK_r2, callK_r3, callK_r4, callK_r5, callK_r6, callK_r7, callK_err, backK_ok, backK_err, slotOf_d, slotOf_r, putBack_d, putBack_r, putBack_nil, refs_nil, refs_d, refs_r, ev_run, endOf_nx, endOf_rt, endOf_err, maskL_t, maskL_f, maskL_nil, ev_for, forK_ok, forGo_nil, turnK_nx, turnK_ct, turnK_bk, turnK_rt, turnK_err, bind_ok, asItems_l, asItems_t, asItems_s, ev_name, ev_fnil, ev_fcons, ev_ftup, some_bind, ev_asgT, asgTK_ok, asgTK2_ok, ev_lc, lcK_ok, wipeL_nil, wipeL_cons, ev_yes, lcGo_nil, dLt_i, dLe_i, dGt_i, dGe_i, dEq_i, dEq_s, dEq_b, dNe_i, dNe_s, dIs_b, dSub_i, dLen_l, dLen_t, dList_l, dList_t, dSl_l, dNot_b, ty_n_bool, ty_n_int, ty_n_str, ty_n_list, ty_n_tuple, ty_b_bool, ty_b_int, ty_b_str, ty_b_list, ty_b_tuple, ty_i_bool, ty_i_int, ty_i_str, ty_i_list, ty_i_tuple, ty_s_bool, ty_s_int, ty_s_str, ty_s_list, ty_s_tuple, ty_l_bool, ty_l_int, ty_l_str, ty_l_list, ty_l_tuple, ty_t_bool, ty_t_int, ty_t_str, ty_t_list, ty_t_tuple, dIs_nn, dIs_in, dIs_bn, dIs_sn, dIs_ln, dIs_tn, dNe_b, ev_A, aK_ok, aK_err, dMin_ok, dMax_ok, asZip_l, asZip_t, ev_pop, popK1_ok, ev_cnt, cntK1_ok, cntK2_ok, dAdd_int, ofO_some, ofO_none, List.getElem?_cons_zero, List.getElem?_cons_succ, List.set_cons_zero, List.set_cons_succ, List.length_cons, List.length_nil, List.cons_append, List.nil_append, List.replicate_succ, List.replicate_zero, List.map_cons, List.map_nil, Option.join_some, List.append_nil, Nat.reduceAdd, Nat.reduceLT, Nat.reduceLeDiff, Nat.reduceSub, Nat.reduceEqDiff, if_true, if_false, decide_true, decide_false, Bool.false_eq_true, Bool.not_true, Bool.not_false, hs]
      rw [List.map_cons, lcGo_no (L1 := [o0, o1, o2, o3, o4, o5, o6, o7, some (.d (nD x)), o9, some (.d (nD z.1)), some (.d (.int z.2))]) (L2 := [o0, o1, o2, o3, o4, o5, o6, o7, some (.d (nD x)), o9, some (.d (nD z.1)), some (.d (.int z.2))]) [10, 11] (fTup 2 (fCons (fName 10) (fCons (fName 11) fNil))) (gB (gOp dEq (gPeek 10) (gPeek 8))) (gVar 11) (oathD z) (zs.map oathD) acc rfl ht]
      have := filt_go (x := x) (o0 := o0) (o1 := o1) (o2 := o2) (o3 := o3) (o4 := o4) (o5 := o5) (o6 := o6) (o7 := o7) (o9 := o9) zs acc (by omega)
      show lcGo _ _ _ _ _ _ [o0, o1, o2, o3, o4, o5, o6, o7, some (.d (nD x)), o9, none, none] = _
      rw [this, List.filter_cons_of_neg (by simp [hx])]
theorem filt_one : ∀ {zs : List (List Nat × Int)} {z : List Nat × Int}, (zs.map (·.1)).Nodup → z ∈ zs → zs.filter (fun y => decide (y.1 = z.1)) = [z]
  | y :: zs, z, hn, hz => by
    rw [List.map_cons, List.nodup_cons] at hn
    rcases List.mem_cons.mp hz with rfl | hz
    · rw [List.filter_cons_of_pos (by simp)]
      congr 1
      refine List.filter_eq_nil_iff.mpr fun w hw => ?_
      simp only [decide_eq_true_eq]
      intro he
      exact hn.1 (List.mem_map.mpr ⟨w, hw, he⟩)
    · rw [List.filter_cons_of_neg (by
        simp only [decide_eq_true_eq]
        intro he
        exact hn.1 (List.mem_map.mpr ⟨z, hz, he.symm⟩)), filt_one hn.2 hz]
theorem walk_go {zs : List (List Nat × Int)} (hz : (zs.map (·.1)).Nodup) (hl : zs.length ≤ 1000) {fs : List (List Nat)} {o0 o1 o2 o3 o5 : Option S} : ∀ (ts : List (List Nat × Int)) (r : Int) (o8 o9 : Option S), (∀ t ∈ ts, t ∈ zs) → (∀ t ∈ ts, fs.count t.1 = 1) →
    ∃ o8' o9', forGo (fName 8) (gSeq (gIf (gOr (gNot (gB (gIsi "str" (gPeek 8)))) (gB (gOp dNe (gCount (gPeek 6) (gVar 8)) (gC (.int 1))))) (gRet (gD (gC (.bool false)))) gNext)
    (gSeq (gAsg 9 (gLc [10, 11] (fun L => ((gVar 4) L).bind asItems) (fTup 2 (fCons (fName 10) (fCons (fName 11) fNil))) (gB (gOp dEq (gPeek 10) (gPeek 8))) (gVar 11)))
    (gSeq (gIf (gB (gOp dNe (gUn dLen (gPeek 9)) (gC (.int 1)))) (gRet (gD (gC (.bool false)))) gNext)
    (gAsg 7 (gOp dAdd (gVar 7) (gIxP 9 (gC (.int 0)))))))) (ts.map fun t => nD t.1) [o0, o1, o2, o3, some (.d (.list (zs.map oathD))), o5, some (.d (.list (fs.map nD))), some (.d (.int r)), o8, o9, none, none]
      = .ok .nx [o0, o1, o2, o3, some (.d (.list (zs.map oathD))), o5, some (.d (.list (fs.map nD))), some (.d (.int (r + sumW ts))), o8', o9', none, none]
  | [], r, o8, o9, _, _ => ⟨o8, o9, by rw [List.map_nil, forGo_nil, sumW_nil, Int.add_zero]⟩
  | t :: ts, r, o8, o9, h1, h2 => by
    obtain ⟨o8', o9', e⟩ := walk_go hz hl (fs := fs) (o0 := o0) (o1 := o1) (o2 := o2) (o3 := o3) (o5 := o5) ts (r + t.2) (some (.d (nD t.1))) (some (.ol [.int t.2])) (fun y hy => h1 y (List.mem_cons_of_mem _ hy)) fun y hy => h2 y (List.mem_cons_of_mem _ hy)
    refine ⟨o8', o9', ?_⟩
    have hc : dCount (.list (fs.map nD)) (.str (sOf t.1)) = some (.int 1) := by
      have := count_names t.1 fs
      rw [h2 t List.mem_cons_self] at this
      exact this
    have hf := filt_go (x := t.1) (o0 := o0) (o1 := o1) (o2 := o2) (o3 := o3) (o4 := some (.d (.list (zs.map oathD)))) (o5 := o5) (o6 := some (.d (.list (fs.map nD)))) (o7 := some (.d (.int r))) (o9 := o9) zs [] (by simp; omega)
    rw [filt_one hz (h1 t List.mem_cons_self), List.nil_append, List.map_cons, List.map_nil] at hf
    rw [List.map_cons, forGo_cons (L1 := [o0, o1, o2, o3, some (.d (.list (zs.map oathD))), o5, some (.d (.list (fs.map nD))), some (.d (.int r)), some (.d (nD t.1)), o9, none, none]) _ _ _ _ rfl]
    have step : gSeq (gIf (gOr (gNot (gB (gIsi "str" (gPeek 8)))) (gB (gOp dNe (gCount (gPeek 6) (gVar 8)) (gC (.int 1))))) (gRet (gD (gC (.bool false)))) gNext) (gSeq (gAsg 9 (gLc [10, 11] (fun L => ((gVar 4) L).bind asItems) (fTup 2 (fCons (fName 10) (fCons (fName 11) fNil))) (gB (gOp dEq (gPeek 10) (gPeek 8))) (gVar 11))) (gSeq (gIf (gB (gOp dNe (gUn dLen (gPeek 9)) (gC (.int 1)))) (gRet (gD (gC (.bool false)))) gNext) (gAsg 7 (gOp dAdd (gVar 7) (gIxP 9 (gC (.int 0))))))) [o0, o1, o2, o3, some (.d (.list (zs.map oathD))), o5, some (.d (.list (fs.map nD))), some (.d (.int r)), some (.d (nD t.1)), o9, none, none]
      = .ok .nx [o0, o1, o2, o3, some (.d (.list (zs.map oathD))), o5, some (.d (.list (fs.map nD))), some (.d (.int (r + t.2))), some (.d (nD t.1)), some (.ol [.int t.2]), none, none] := by
      simp only [ev_seq, seqK_nx, seqK_rt, seqK_bk, seqK_ct, seqK_err, ev_next, ev_if, ifK_ok, ifK_err, ev_asg, asgK_ok, asgK_err, ev_ret, retK_ok, retK_err, ev_retN, ev_drop, dropK_ok, dropK_err, ev_c, ev_d, dK_ok, dK_err, ev_fz, fzK_d, fzK_l, fzK_err, ev_op, opK1_ok, opK1_err, opK2_ok, opK2_err, ev_un, unK_ok, unK_err, ev_isi, ev_b, bK_ok, bK_err, ev_and, andK_ok, andK_err, ev_or, orK_ok, orK_err, ev_not, notK_ok, ev_andV, andVK_ok, ev_orV, orVK_ok, ev_ifE, ifEK_ok, ev_nil, ev_cons, consK1_ok, consK1_err, consK2_ok, consK2_err, ev_lst, lstK_ok, ev_tup, tupK_ok, ev_var, varK_d, varK_l, ev_peek, peekK_d, peekK_l, peekK_s, ev_move, moveK_d, moveK_l, ev_ixP, ixK_ok, ixK1_ok, ixK1_err, ixK2_ok, dIx_nat, dIx_natT, dIx_l0, dIx_l1, dIx_l2, dIx_l3, dIx_l4, dIx_t0, dIx_t1, dIx_t2, dIx_t3, ev_setIx, setK0_ok, setK0_err, setK1_ok, setK2_ok, setK3_0, setK3_1, setK3_2, setK3_3, setK3_4, ev_sl, slK1_ok, slK2_ok, slK3_ok, ev_no, ev_so, soK_ok, soK_err, ev_join, joinK1_ok, joinK2_ok, ev_app, appK1_ok, appK2_ok, appK2_err, appK3_ok, ev_a0, ev_aD, ev_aR, eaK1_ok, eaK1_err, eaK3_ok, eaK2_ok, eaK2_err, ev_call, callK_d1, callK_d2, callK_d3, callK_d4, callK_d5, callK_d6, callK_d7, callK_d8, callK_r0, callK_r1, callK_r2, callK_r3, callK_r4, callK_r5, callK_r6, callK_r7, callK_err, backK_ok, backK_err, slotOf_d, slotOf_r, putBack_d, putBack_r, putBack_nil, refs_nil, refs_d, refs_r, ev_run, endOf_nx, endOf_rt, endOf_err, maskL_t, maskL_f, maskL_nil, ev_for, forK_ok, forGo_nil, turnK_nx, turnK_ct, turnK_bk, turnK_rt, turnK_err, bind_ok, asItems_l, asItems_t, asItems_s, ev_name, ev_fnil, ev_fcons, ev_ftup, some_bind, ev_asgT, asgTK_ok, asgTK2_ok, ev_lc, lcK_ok, wipeL_nil, wipeL_cons, ev_yes, lcGo_nil, dLt_i, dLe_i, dGt_i, dGe_i, dEq_i, dEq_s, dEq_b, dNe_i, dNe_s, dIs_b, dSub_i, dLen_l, dLen_t, dList_l, dList_t, dSl_l, dNot_b, ty_n_bool, ty_n_int, ty_n_str, ty_n_list, ty_n_tuple, ty_b_bool, ty_b_int, ty_b_str, ty_b_list, ty_b_tuple, ty_i_bool, ty_i_int, ty_i_str, ty_i_list, ty_i_tuple, ty_s_bool, ty_s_int, ty_s_str, ty_s_list, ty_s_tuple, ty_l_bool, ty_l_int, ty_l_str, ty_l_list, ty_l_tuple, ty_t_bool, ty_t_int, ty_t_str, ty_t_list, ty_t_tuple, dIs_nn, dIs_in, dIs_bn, dIs_sn, dIs_ln, dIs_tn, dNe_b, ev_A, aK_ok, aK_err, dMin_ok, dMax_ok, asZip_l, asZip_t, ev_pop, popK1_ok, ev_cnt, cntK1_ok, cntK2_ok, dAdd_int, ofO_some, ofO_none, List.getElem?_cons_zero, List.getElem?_cons_succ, List.set_cons_zero, List.set_cons_succ, List.length_cons, List.length_nil, List.cons_append, List.nil_append, List.replicate_succ, List.replicate_zero, List.map_cons, List.map_nil, Option.join_some, List.append_nil, Nat.reduceAdd, Nat.reduceLT, Nat.reduceLeDiff, Nat.reduceSub, Nat.reduceEqDiff, if_true, if_false, decide_true, decide_false, Bool.false_eq_true, Bool.not_true, Bool.not_false, hc, hf, List.length_cons, List.length_nil]
      rfl
    rw [step, turnK_nx, e, sumW_cons, Int.add_assoc]
end Lw

namespace Lw
open PySem VS
theorem zz_not {ns : List (List Nat)} (h : ∀ n ∈ ns, Good n) : dIn (.str "Zz") (.list (ns.map nD)) = some (.bool false) := by
  have e : (PyData.str "Zz") = nD [90, 122] := by
    show PyData.str _ = PyData.str _
    congr 1
  rw [e]
  unfold dIn
  rw [in_names, decide_eq_false]
  · rfl
  · intro hm
    have := (h _ hm).1 90 (by simp)
    omega
theorem pow17 : dPow (.int 10) (.int 17) = some (.int 100000000000000000) := by
  rw [dPow_ok ⟨by decide, by decide, by decide⟩]
  rfl
theorem dNeg_i (i : Int) : dNeg (.int i) = some (.int (-i)) := rfl
theorem k03_tail {s : S} {zs : List (List Nat × Int)} (hz : Side zs) (hl : zs.length ≤ 12) (hg : ∀ z ∈ zs, Good z.1) (g : Int) (o0 o2 : Option S) : ∃ L,
    (gSeq (gAsg 6 (gCall m_fewest_to [.d (gVar 3), .d (gVar 5)]))
    (gSeq (gIf (gB (gIsi "list" (gPeek 6))) (gSeq (gDrop (gApp 6 (gC (.str "Zz"))))
    (gSeq (gAsg 6 (gCall m_fewest_to [.d (gVar 3), .d (gVar 5)]))
    (gIf (gB (gOp dIn (gC (.str "Zz")) (gPeek 6))) (gRet (gD (gC (.bool false)))) gNext))) gNext)
    (gSeq (gIf (gNot (gB (gFz (gCall (m_law_same 12) [.d (gVar 3), .d (gVar 4)])))) (gRet (gD (gC (.bool false)))) gNext)
    (gSeq (gIf (gAnd (gB (gOp dGt (gPeek 5) (gFz (gCall m_law_total [.d (gVar 4)])))) (gB (gOp dGt (gPeek 5) (gC (.int 0))))) (gRet (gD (gOp dIs (gPeek 6) (gC .none)))) gNext)
    (gSeq (gIf (gNot (gB (gIsi "list" (gPeek 6)))) (gRet (gD (gC (.bool false)))) gNext)
    (gSeq (gAsg 7 (gD (gC (.int 0))))
    (gSeq (gFor (fun L => ((gVar 6) L).bind asItems) (fName 8) (gSeq (gIf (gOr (gNot (gB (gIsi "str" (gPeek 8)))) (gB (gOp dNe (gCount (gPeek 6) (gVar 8)) (gC (.int 1))))) (gRet (gD (gC (.bool false)))) gNext)
    (gSeq (gAsg 9 (gLc [10, 11] (fun L => ((gVar 4) L).bind asItems) (fTup 2 (fCons (fName 10) (fCons (fName 11) fNil))) (gB (gOp dEq (gPeek 10) (gPeek 8))) (gVar 11)))
    (gSeq (gIf (gB (gOp dNe (gUn dLen (gPeek 9)) (gC (.int 1)))) (gRet (gD (gC (.bool false)))) gNext)
    (gAsg 7 (gOp dAdd (gVar 7) (gIxP 9 (gC (.int 0)))))))))
    (gSeq (gIf (gB (gOp dLt (gPeek 5) (gC (.int 1)))) (gRet (gD (gOp dEq (gUn dLen (gPeek 6)) (gC (.int 0))))) gNext)
    (gRet (gD (gAndV (gOp dGe (gPeek 7) (gPeek 5)) (gOp dLt (gFz (gCall m_law_sum_first [.d (gVar 4), .d (gOp dSub (gUn dLen (gPeek 6)) (gC (.int 1)))])) (gPeek 5)))))))))))))
      [o0, some s, o2, some (.ol (zs.map oathD)), some (.d (.list (zs.map oathD))), some (.d (.int g)), none, none, none, none, none, none] = .ok (.rt (.d (.bool true))) L := by
  have hf := few_ok g zs (by omega)
  have ht := law_total_ok zs
  have hs : m_law_same 12 [some (.d (.list (zs.map oathD))), some (.d (.list (zs.map oathD)))] = .ok (.d (.bool true)) [none, none] := same_ok 12 _ (pl_side 9 zs)
  unfold fewS at hf
  by_cases h1 : sumW (fewZ g zs) < g
  · rw [if_pos h1] at hf
    have h2 : sumW zs < g := few_light h1
    have h3 : 0 < g := by
      have := sumW_nn hz.2
      omega
    refine ⟨[o0, some s, o2, some (.d (.list (zs.map oathD))), some (.d (.list (zs.map oathD))), some (.d (.int g)), some (.d .none), none, none, none, none, none], ?_⟩
    simp only [ev_seq, seqK_nx, seqK_rt, seqK_bk, seqK_ct, seqK_err, ev_next, ev_if, ifK_ok, ifK_err, ev_asg, asgK_ok, asgK_err, ev_ret, retK_ok, retK_err, ev_retN, ev_drop, dropK_ok, dropK_err, ev_c, ev_d, dK_ok, dK_err, ev_fz, fzK_d, fzK_l, fzK_err, ev_op, opK1_ok, opK1_err, opK2_ok, opK2_err, ev_un, unK_ok, unK_err, ev_isi, ev_b, bK_ok, bK_err, ev_and, andK_ok, andK_err, ev_or, orK_ok, orK_err, ev_not, notK_ok, ev_andV, andVK_ok, ev_orV, orVK_ok, ev_ifE, ifEK_ok, ev_nil, ev_cons, consK1_ok, consK1_err, consK2_ok, consK2_err, ev_lst, lstK_ok, ev_tup, tupK_ok, ev_var, varK_d, varK_l, ev_peek, peekK_d, peekK_l, peekK_s, ev_move, moveK_d, moveK_l, ev_ixP, ixK_ok, ixK1_ok, ixK1_err, ixK2_ok, dIx_nat, dIx_natT, dIx_l0, dIx_l1, dIx_l2, dIx_l3, dIx_l4, dIx_t0, dIx_t1, dIx_t2, dIx_t3, ev_setIx, setK0_ok, setK0_err, setK1_ok, setK2_ok, setK3_0, setK3_1, setK3_2, setK3_3, setK3_4, ev_sl, slK1_ok, slK2_ok, slK3_ok, ev_no, ev_so, soK_ok, soK_err, ev_join, joinK1_ok, joinK2_ok, ev_app, appK1_ok, appK2_ok, appK2_err, appK3_ok, ev_a0, ev_aD, ev_aR, eaK1_ok, eaK1_err, eaK3_ok, eaK2_ok, eaK2_err, ev_call, callK_d1, callK_d2, callK_d3, callK_d4, callK_d5, callK_d6, callK_d7, callK_d8, callK_r0, callK_r1, callK_r2, callK_r3, callK_r4, callK_r5, callK_r6, callK_r7, callK_err, backK_ok, backK_err, slotOf_d, slotOf_r, putBack_d, putBack_r, putBack_nil, refs_nil, refs_d, refs_r, ev_run, endOf_nx, endOf_rt, endOf_err, maskL_t, maskL_f, maskL_nil, ev_for, forK_ok, forGo_nil, turnK_nx, turnK_ct, turnK_bk, turnK_rt, turnK_err, bind_ok, asItems_l, asItems_t, asItems_s, ev_name, ev_fnil, ev_fcons, ev_ftup, some_bind, ev_asgT, asgTK_ok, asgTK2_ok, ev_lc, lcK_ok, wipeL_nil, wipeL_cons, ev_yes, lcGo_nil, dLt_i, dLe_i, dGt_i, dGe_i, dEq_i, dEq_s, dEq_b, dNe_i, dNe_s, dIs_b, dSub_i, dLen_l, dLen_t, dList_l, dList_t, dSl_l, dNot_b, ty_n_bool, ty_n_int, ty_n_str, ty_n_list, ty_n_tuple, ty_b_bool, ty_b_int, ty_b_str, ty_b_list, ty_b_tuple, ty_i_bool, ty_i_int, ty_i_str, ty_i_list, ty_i_tuple, ty_s_bool, ty_s_int, ty_s_str, ty_s_list, ty_s_tuple, ty_l_bool, ty_l_int, ty_l_str, ty_l_list, ty_l_tuple, ty_t_bool, ty_t_int, ty_t_str, ty_t_list, ty_t_tuple, dIs_nn, dIs_in, dIs_bn, dIs_sn, dIs_ln, dIs_tn, dNe_b, ev_A, aK_ok, aK_err, dMin_ok, dMax_ok, asZip_l, asZip_t, ev_pop, popK1_ok, ev_cnt, cntK1_ok, cntK2_ok, dAdd_int, ofO_some, ofO_none, List.getElem?_cons_zero, List.getElem?_cons_succ, List.set_cons_zero, List.set_cons_succ, List.length_cons, List.length_nil, List.cons_append, List.nil_append, List.replicate_succ, List.replicate_zero, List.map_cons, List.map_nil, Option.join_some, List.append_nil, Nat.reduceAdd, Nat.reduceLT, Nat.reduceLeDiff, Nat.reduceSub, Nat.reduceEqDiff, if_true, if_false, decide_true, decide_false, Bool.false_eq_true, Bool.not_true, Bool.not_false, hf, hs, ht, h2, h3]
  · rw [if_neg h1] at hf
    have h2 : ¬ sumW zs < g := by
      have := few_heavy hz.2 h1
      omega
    have hgz : ∀ n ∈ (fewZ g zs).map (·.1), Good n := fun n hn => by
      obtain ⟨z, hz1, rfl⟩ := List.mem_map.mp hn
      exact hg z (fewZ_sub hz1)
    have hzz := zz_not hgz
    have hlen : ((fewZ g zs).map (·.1)).length ≤ 12 := by
      rw [List.length_map]
      unfold fewZ
      rw [fewT_take, List.length_take, heavyZ_len]
      omega
    have h4 : ((fewZ g zs).map (·.1)).length < sizeLine := by rw [PySem.sizeLine_eq]; omega
    rw [List.length_map] at h4
    obtain ⟨o8, o9, hw⟩ := walk_go hz.1 (by omega) (fs := (fewZ g zs).map (·.1)) (o0 := o0) (o1 := some s) (o2 := o2) (o3 := some (.d (.list (zs.map oathD)))) (o5 := some (.d (.int g))) (fewZ g zs) 0 none none (fun t h => fewZ_sub h) fun t h => count_one (fewZ_nd g hz.1) (List.mem_map.mpr ⟨t, h, rfl⟩)
    rw [Int.zero_add] at hw
    have hmm : (fewZ g zs).map (fun t => nD t.1) = ((fewZ g zs).map (·.1)).map nD := by rw [List.map_map]; rfl
    rw [hmm] at hw
    simp only [ev_var] at hw
    by_cases h5 : g < 1
    · have hn := few_none zs h5
      refine ⟨[o0, some s, o2, some (.d (.list (zs.map oathD))), some (.d (.list (zs.map oathD))), some (.d (.int g)), some (.d (.list (((fewZ g zs).map (·.1)).map nD))), some (.d (.int (sumW (fewZ g zs)))), o8, o9, none, none], ?_⟩
      have hg0 : ¬ 0 < g := by omega
      have hl0 : ((fewZ g zs).length : Int) = 0 := by rw [hn]; rfl
      simp only [ev_seq, seqK_nx, seqK_rt, seqK_bk, seqK_ct, seqK_err, ev_next, ev_if, ifK_ok, ifK_err, ev_asg, asgK_ok, asgK_err, ev_ret, retK_ok, retK_err, ev_retN, ev_drop, dropK_ok, dropK_err, ev_c, ev_d, dK_ok, dK_err, ev_fz, fzK_d, fzK_l, fzK_err, ev_op, opK1_ok, opK1_err, opK2_ok, opK2_err, ev_un, unK_ok, unK_err, ev_isi, ev_b, bK_ok, bK_err, ev_and, andK_ok, andK_err, ev_or, orK_ok, orK_err, ev_not, notK_ok, ev_andV, andVK_ok, ev_orV, orVK_ok, ev_ifE, ifEK_ok, ev_nil, ev_cons, consK1_ok, consK1_err, consK2_ok, consK2_err, ev_lst, lstK_ok, ev_tup, tupK_ok, ev_var, varK_d, varK_l, ev_peek, peekK_d, peekK_l, peekK_s, ev_move, moveK_d, moveK_l, ev_ixP, ixK_ok, ixK1_ok, ixK1_err, ixK2_ok, dIx_nat, dIx_natT, dIx_l0, dIx_l1, dIx_l2, dIx_l3, dIx_l4, dIx_t0, dIx_t1, dIx_t2, dIx_t3, ev_setIx, setK0_ok, setK0_err, setK1_ok, setK2_ok, setK3_0, setK3_1, setK3_2, setK3_3, setK3_4, ev_sl, slK1_ok, slK2_ok, slK3_ok, ev_no, ev_so, soK_ok, soK_err, ev_join, joinK1_ok, joinK2_ok, ev_app, appK1_ok, appK2_ok, appK2_err, appK3_ok, ev_a0, ev_aD, ev_aR, eaK1_ok, eaK1_err, eaK3_ok, eaK2_ok, eaK2_err, ev_call, callK_d1, callK_d2, callK_d3, callK_d4, callK_d5, callK_d6, callK_d7, callK_d8, callK_r0, callK_r1, callK_r2, callK_r3, callK_r4, callK_r5, callK_r6, callK_r7, callK_err, backK_ok, backK_err, slotOf_d, slotOf_r, putBack_d, putBack_r, putBack_nil, refs_nil, refs_d, refs_r, ev_run, endOf_nx, endOf_rt, endOf_err, maskL_t, maskL_f, maskL_nil, ev_for, forK_ok, forGo_nil, turnK_nx, turnK_ct, turnK_bk, turnK_rt, turnK_err, bind_ok, asItems_l, asItems_t, asItems_s, ev_name, ev_fnil, ev_fcons, ev_ftup, some_bind, ev_asgT, asgTK_ok, asgTK2_ok, ev_lc, lcK_ok, wipeL_nil, wipeL_cons, ev_yes, lcGo_nil, dLt_i, dLe_i, dGt_i, dGe_i, dEq_i, dEq_s, dEq_b, dNe_i, dNe_s, dIs_b, dSub_i, dLen_l, dLen_t, dList_l, dList_t, dSl_l, dNot_b, ty_n_bool, ty_n_int, ty_n_str, ty_n_list, ty_n_tuple, ty_b_bool, ty_b_int, ty_b_str, ty_b_list, ty_b_tuple, ty_i_bool, ty_i_int, ty_i_str, ty_i_list, ty_i_tuple, ty_s_bool, ty_s_int, ty_s_str, ty_s_list, ty_s_tuple, ty_l_bool, ty_l_int, ty_l_str, ty_l_list, ty_l_tuple, ty_t_bool, ty_t_int, ty_t_str, ty_t_list, ty_t_tuple, dIs_nn, dIs_in, dIs_bn, dIs_sn, dIs_ln, dIs_tn, dNe_b, ev_A, aK_ok, aK_err, dMin_ok, dMax_ok, asZip_l, asZip_t, ev_pop, popK1_ok, ev_cnt, cntK1_ok, cntK2_ok, dAdd_int, ofO_some, ofO_none, List.getElem?_cons_zero, List.getElem?_cons_succ, List.set_cons_zero, List.set_cons_succ, List.length_cons, List.length_nil, List.cons_append, List.nil_append, List.replicate_succ, List.replicate_zero, List.map_cons, List.map_nil, Option.join_some, List.append_nil, Nat.reduceAdd, Nat.reduceLT, Nat.reduceLeDiff, Nat.reduceSub, Nat.reduceEqDiff, if_true, if_false, decide_true, decide_false, Bool.false_eq_true, Bool.not_true, Bool.not_false, hf, h4, hzz, hs, ht, h2, hw, h5, List.length_map, hl0]
    · have hk : 1 ≤ (fewZ g zs).length := by
        cases hc : fewZ g zs with
        | nil => rw [hc, sumW_nil] at h1; omega
        | cons z ts => rw [List.length_cons]; omega
      have hsf := sum_first_ok zs (by omega) (show (0 : Int) ≤ ((fewZ g zs).length : Int) - 1 by omega)
      have h6 : sumW ((heavyZ zs).take (((fewZ g zs).length : Int) - 1).toNat) < g := by
        have := fewT_one g (heavyZ zs) 0 (by omega)
        rw [Int.zero_add] at this
        have e : (((fewZ g zs).length : Int) - 1).toNat = (fewZ g zs).length - 1 := by omega
        rw [e]
        exact this
      have h7 : g ≤ sumW (fewZ g zs) := by omega
      refine ⟨[o0, some s, o2, some (.d (.list (zs.map oathD))), some (.d (.list (zs.map oathD))), some (.d (.int g)), some (.d (.list (((fewZ g zs).map (·.1)).map nD))), some (.d (.int (sumW (fewZ g zs)))), o8, o9, none, none], ?_⟩
      simp only [ev_seq, seqK_nx, seqK_rt, seqK_bk, seqK_ct, seqK_err, ev_next, ev_if, ifK_ok, ifK_err, ev_asg, asgK_ok, asgK_err, ev_ret, retK_ok, retK_err, ev_retN, ev_drop, dropK_ok, dropK_err, ev_c, ev_d, dK_ok, dK_err, ev_fz, fzK_d, fzK_l, fzK_err, ev_op, opK1_ok, opK1_err, opK2_ok, opK2_err, ev_un, unK_ok, unK_err, ev_isi, ev_b, bK_ok, bK_err, ev_and, andK_ok, andK_err, ev_or, orK_ok, orK_err, ev_not, notK_ok, ev_andV, andVK_ok, ev_orV, orVK_ok, ev_ifE, ifEK_ok, ev_nil, ev_cons, consK1_ok, consK1_err, consK2_ok, consK2_err, ev_lst, lstK_ok, ev_tup, tupK_ok, ev_var, varK_d, varK_l, ev_peek, peekK_d, peekK_l, peekK_s, ev_move, moveK_d, moveK_l, ev_ixP, ixK_ok, ixK1_ok, ixK1_err, ixK2_ok, dIx_nat, dIx_natT, dIx_l0, dIx_l1, dIx_l2, dIx_l3, dIx_l4, dIx_t0, dIx_t1, dIx_t2, dIx_t3, ev_setIx, setK0_ok, setK0_err, setK1_ok, setK2_ok, setK3_0, setK3_1, setK3_2, setK3_3, setK3_4, ev_sl, slK1_ok, slK2_ok, slK3_ok, ev_no, ev_so, soK_ok, soK_err, ev_join, joinK1_ok, joinK2_ok, ev_app, appK1_ok, appK2_ok, appK2_err, appK3_ok, ev_a0, ev_aD, ev_aR, eaK1_ok, eaK1_err, eaK3_ok, eaK2_ok, eaK2_err, ev_call, callK_d1, callK_d2, callK_d3, callK_d4, callK_d5, callK_d6, callK_d7, callK_d8, callK_r0, callK_r1, callK_r2, callK_r3, callK_r4, callK_r5, callK_r6, callK_r7, callK_err, backK_ok, backK_err, slotOf_d, slotOf_r, putBack_d, putBack_r, putBack_nil, refs_nil, refs_d, refs_r, ev_run, endOf_nx, endOf_rt, endOf_err, maskL_t, maskL_f, maskL_nil, ev_for, forK_ok, forGo_nil, turnK_nx, turnK_ct, turnK_bk, turnK_rt, turnK_err, bind_ok, asItems_l, asItems_t, asItems_s, ev_name, ev_fnil, ev_fcons, ev_ftup, some_bind, ev_asgT, asgTK_ok, asgTK2_ok, ev_lc, lcK_ok, wipeL_nil, wipeL_cons, ev_yes, lcGo_nil, dLt_i, dLe_i, dGt_i, dGe_i, dEq_i, dEq_s, dEq_b, dNe_i, dNe_s, dIs_b, dSub_i, dLen_l, dLen_t, dList_l, dList_t, dSl_l, dNot_b, ty_n_bool, ty_n_int, ty_n_str, ty_n_list, ty_n_tuple, ty_b_bool, ty_b_int, ty_b_str, ty_b_list, ty_b_tuple, ty_i_bool, ty_i_int, ty_i_str, ty_i_list, ty_i_tuple, ty_s_bool, ty_s_int, ty_s_str, ty_s_list, ty_s_tuple, ty_l_bool, ty_l_int, ty_l_str, ty_l_list, ty_l_tuple, ty_t_bool, ty_t_int, ty_t_str, ty_t_list, ty_t_tuple, dIs_nn, dIs_in, dIs_bn, dIs_sn, dIs_ln, dIs_tn, dNe_b, ev_A, aK_ok, aK_err, dMin_ok, dMax_ok, asZip_l, asZip_t, ev_pop, popK1_ok, ev_cnt, cntK1_ok, cntK2_ok, dAdd_int, ofO_some, ofO_none, List.getElem?_cons_zero, List.getElem?_cons_succ, List.set_cons_zero, List.set_cons_succ, List.length_cons, List.length_nil, List.cons_append, List.nil_append, List.replicate_succ, List.replicate_zero, List.map_cons, List.map_nil, Option.join_some, List.append_nil, Nat.reduceAdd, Nat.reduceLT, Nat.reduceLeDiff, Nat.reduceSub, Nat.reduceEqDiff, if_true, if_false, decide_true, decide_false, Bool.false_eq_true, Bool.not_true, Bool.not_false, hf, h4, hzz, hs, ht, h2, hw, h5, List.length_map, hsf, h6, h7]
theorem true_k03 (ns : List Int) (h : ns.length ≤ 63) : ∃ L, m_main_k03 [some (.scr ns)] = .ok (.d (.bool true)) L := by
  have hs0 := src_start h
  obtain ⟨nm, s1, e1, l1, d1, g1, hs1⟩ := names_ok hs0 (many := 12) (by omega) (by omega)
  obtain ⟨m, s2, e2, m0, m1, hs2⟩ := next_ok hs1 (n := 13) (by omega) (by omega)
  obtain ⟨zs, s3, e3, l3, z3, k3, hs3⟩ := side_ok hs2 d1 (by omega) m0 (by omega)
  have hz : zs.length ≤ 12 := by omega
  have t2 := law_total_ok zs
  have w0 := sumW_nn z3.2
  have w1 := sumW_le z3.2
  obtain ⟨a, s4, e4, a0, a1, hs4⟩ := next_ok hs3 (n := sumW zs + 5) (by omega) (by omega)
  obtain ⟨b, s5, e5, b0, b1, hs5⟩ := next_ok hs4 (n := 2) (by omega) (by omega)
  -- the goal
  have st : ∃ (g : Int) (s6 : S), gIf (gB (gOp dEq (gFz (gCall m_law_next [.r 1, .d (gC (.int 2))])) (gC (.int 0)))) (gAsg 5 (gOp dAdd (gOp dSub (gFz (gCall m_law_sum_first [.d (gVar 4), .d (gFz (gCall m_law_next [.r 1, .d (gC (.int 13))]))])) (gC (.int 1))) (gFz (gCall m_law_next [.r 1, .d (gC (.int 3))])))) gNext
      [some (.scr ns), some s4, some (.d (.list (nm.map nD))), some (.ol (zs.map oathD)), some (.d (.list (zs.map oathD))), some (.d (.int (a - 2))), none, none, none, none, none, none]
      = .ok .nx [some (.scr ns), some s6, some (.d (.list (nm.map nD))), some (.ol (zs.map oathD)), some (.d (.list (zs.map oathD))), some (.d (.int g)), none, none, none, none, none, none] ∧ Src s6 := by
    by_cases h0 : b = 0
    · obtain ⟨k, s6, e6, k0, k1, hs6⟩ := next_ok hs5 (n := 13) (by omega) (by omega)
      have t4 := sum_first_ok zs (by omega) k0
      obtain ⟨q, s7, e7, q0, q1, hs7⟩ := next_ok hs6 (n := 3) (by omega) (by omega)
      refine ⟨sumW ((heavyZ zs).take k.toNat) - 1 + q, s7, ?_, hs7⟩
      simp only [ev_seq, seqK_nx, seqK_rt, seqK_bk, seqK_ct, seqK_err, ev_next, ev_if, ifK_ok, ifK_err, ev_asg, asgK_ok, asgK_err, ev_ret, retK_ok, retK_err, ev_retN, ev_drop, dropK_ok, dropK_err, ev_c, ev_d, dK_ok, dK_err, ev_fz, fzK_d, fzK_l, fzK_err, ev_op, opK1_ok, opK1_err, opK2_ok, opK2_err, ev_un, unK_ok, unK_err, ev_isi, ev_b, bK_ok, bK_err, ev_and, andK_ok, andK_err, ev_or, orK_ok, orK_err, ev_not, notK_ok, ev_andV, andVK_ok, ev_orV, orVK_ok, ev_ifE, ifEK_ok, ev_nil, ev_cons, consK1_ok, consK1_err, consK2_ok, consK2_err, ev_lst, lstK_ok, ev_tup, tupK_ok, ev_var, varK_d, varK_l, ev_peek, peekK_d, peekK_l, peekK_s, ev_move, moveK_d, moveK_l, ev_ixP, ixK_ok, ixK1_ok, ixK1_err, ixK2_ok, dIx_nat, dIx_natT, dIx_l0, dIx_l1, dIx_l2, dIx_l3, dIx_l4, dIx_t0, dIx_t1, dIx_t2, dIx_t3, ev_setIx, setK0_ok, setK0_err, setK1_ok, setK2_ok, setK3_0, setK3_1, setK3_2, setK3_3, setK3_4, ev_sl, slK1_ok, slK2_ok, slK3_ok, ev_no, ev_so, soK_ok, soK_err, ev_join, joinK1_ok, joinK2_ok, ev_app, appK1_ok, appK2_ok, appK2_err, appK3_ok, ev_a0, ev_aD, ev_aR, eaK1_ok, eaK1_err, eaK3_ok, eaK2_ok, eaK2_err, ev_call, callK_d1, callK_d2, callK_d3, callK_d4, callK_d5, callK_d6, callK_d7, callK_d8, callK_r0, callK_r1, callK_r2, callK_r3, callK_r4, callK_r5, callK_r6, callK_r7, callK_err, backK_ok, backK_err, slotOf_d, slotOf_r, putBack_d, putBack_r, putBack_nil, refs_nil, refs_d, refs_r, ev_run, endOf_nx, endOf_rt, endOf_err, maskL_t, maskL_f, maskL_nil, ev_for, forK_ok, forGo_nil, turnK_nx, turnK_ct, turnK_bk, turnK_rt, turnK_err, bind_ok, asItems_l, asItems_t, asItems_s, ev_name, ev_fnil, ev_fcons, ev_ftup, some_bind, ev_asgT, asgTK_ok, asgTK2_ok, ev_lc, lcK_ok, wipeL_nil, wipeL_cons, ev_yes, lcGo_nil, dLt_i, dLe_i, dGt_i, dGe_i, dEq_i, dEq_s, dEq_b, dNe_i, dNe_s, dIs_b, dSub_i, dLen_l, dLen_t, dList_l, dList_t, dSl_l, dNot_b, ty_n_bool, ty_n_int, ty_n_str, ty_n_list, ty_n_tuple, ty_b_bool, ty_b_int, ty_b_str, ty_b_list, ty_b_tuple, ty_i_bool, ty_i_int, ty_i_str, ty_i_list, ty_i_tuple, ty_s_bool, ty_s_int, ty_s_str, ty_s_list, ty_s_tuple, ty_l_bool, ty_l_int, ty_l_str, ty_l_list, ty_l_tuple, ty_t_bool, ty_t_int, ty_t_str, ty_t_list, ty_t_tuple, dIs_nn, dIs_in, dIs_bn, dIs_sn, dIs_ln, dIs_tn, dNe_b, ev_A, aK_ok, aK_err, dMin_ok, dMax_ok, asZip_l, asZip_t, ev_pop, popK1_ok, ev_cnt, cntK1_ok, cntK2_ok, dAdd_int, ofO_some, ofO_none, List.getElem?_cons_zero, List.getElem?_cons_succ, List.set_cons_zero, List.set_cons_succ, List.length_cons, List.length_nil, List.cons_append, List.nil_append, List.replicate_succ, List.replicate_zero, List.map_cons, List.map_nil, Option.join_some, List.append_nil, Nat.reduceAdd, Nat.reduceLT, Nat.reduceLeDiff, Nat.reduceSub, Nat.reduceEqDiff, if_true, if_false, decide_true, decide_false, Bool.false_eq_true, Bool.not_true, Bool.not_false, e5, h0, e6, t4, e7]
    · refine ⟨a - 2, s5, ?_, hs5⟩
      simp only [ev_seq, seqK_nx, seqK_rt, seqK_bk, seqK_ct, seqK_err, ev_next, ev_if, ifK_ok, ifK_err, ev_asg, asgK_ok, asgK_err, ev_ret, retK_ok, retK_err, ev_retN, ev_drop, dropK_ok, dropK_err, ev_c, ev_d, dK_ok, dK_err, ev_fz, fzK_d, fzK_l, fzK_err, ev_op, opK1_ok, opK1_err, opK2_ok, opK2_err, ev_un, unK_ok, unK_err, ev_isi, ev_b, bK_ok, bK_err, ev_and, andK_ok, andK_err, ev_or, orK_ok, orK_err, ev_not, notK_ok, ev_andV, andVK_ok, ev_orV, orVK_ok, ev_ifE, ifEK_ok, ev_nil, ev_cons, consK1_ok, consK1_err, consK2_ok, consK2_err, ev_lst, lstK_ok, ev_tup, tupK_ok, ev_var, varK_d, varK_l, ev_peek, peekK_d, peekK_l, peekK_s, ev_move, moveK_d, moveK_l, ev_ixP, ixK_ok, ixK1_ok, ixK1_err, ixK2_ok, dIx_nat, dIx_natT, dIx_l0, dIx_l1, dIx_l2, dIx_l3, dIx_l4, dIx_t0, dIx_t1, dIx_t2, dIx_t3, ev_setIx, setK0_ok, setK0_err, setK1_ok, setK2_ok, setK3_0, setK3_1, setK3_2, setK3_3, setK3_4, ev_sl, slK1_ok, slK2_ok, slK3_ok, ev_no, ev_so, soK_ok, soK_err, ev_join, joinK1_ok, joinK2_ok, ev_app, appK1_ok, appK2_ok, appK2_err, appK3_ok, ev_a0, ev_aD, ev_aR, eaK1_ok, eaK1_err, eaK3_ok, eaK2_ok, eaK2_err, ev_call, callK_d1, callK_d2, callK_d3, callK_d4, callK_d5, callK_d6, callK_d7, callK_d8, callK_r0, callK_r1, callK_r2, callK_r3, callK_r4, callK_r5, callK_r6, callK_r7, callK_err, backK_ok, backK_err, slotOf_d, slotOf_r, putBack_d, putBack_r, putBack_nil, refs_nil, refs_d, refs_r, ev_run, endOf_nx, endOf_rt, endOf_err, maskL_t, maskL_f, maskL_nil, ev_for, forK_ok, forGo_nil, turnK_nx, turnK_ct, turnK_bk, turnK_rt, turnK_err, bind_ok, asItems_l, asItems_t, asItems_s, ev_name, ev_fnil, ev_fcons, ev_ftup, some_bind, ev_asgT, asgTK_ok, asgTK2_ok, ev_lc, lcK_ok, wipeL_nil, wipeL_cons, ev_yes, lcGo_nil, dLt_i, dLe_i, dGt_i, dGe_i, dEq_i, dEq_s, dEq_b, dNe_i, dNe_s, dIs_b, dSub_i, dLen_l, dLen_t, dList_l, dList_t, dSl_l, dNot_b, ty_n_bool, ty_n_int, ty_n_str, ty_n_list, ty_n_tuple, ty_b_bool, ty_b_int, ty_b_str, ty_b_list, ty_b_tuple, ty_i_bool, ty_i_int, ty_i_str, ty_i_list, ty_i_tuple, ty_s_bool, ty_s_int, ty_s_str, ty_s_list, ty_s_tuple, ty_l_bool, ty_l_int, ty_l_str, ty_l_list, ty_l_tuple, ty_t_bool, ty_t_int, ty_t_str, ty_t_list, ty_t_tuple, dIs_nn, dIs_in, dIs_bn, dIs_sn, dIs_ln, dIs_tn, dNe_b, ev_A, aK_ok, aK_err, dMin_ok, dMax_ok, asZip_l, asZip_t, ev_pop, popK1_ok, ev_cnt, cntK1_ok, cntK2_ok, dAdd_int, ofO_some, ofO_none, List.getElem?_cons_zero, List.getElem?_cons_succ, List.set_cons_zero, List.set_cons_succ, List.length_cons, List.length_nil, List.cons_append, List.nil_append, List.replicate_succ, List.replicate_zero, List.map_cons, List.map_nil, Option.join_some, List.append_nil, Nat.reduceAdd, Nat.reduceLT, Nat.reduceLeDiff, Nat.reduceSub, Nat.reduceEqDiff, if_true, if_false, decide_true, decide_false, Bool.false_eq_true, Bool.not_true, Bool.not_false, e5, h0]
  obtain ⟨g, s6, e6⟩ := st
  have hs6 := e6.2
  obtain ⟨b, s7, e7, b0, b1, hs7⟩ := next_ok hs6 (n := 8) (by omega) (by omega)
  have st : ∃ (g' : Int) (s8 : S), gIf (gB (gOp dEq (gFz (gCall m_law_next [.r 1, .d (gC (.int 8))])) (gC (.int 0)))) (gAsg 5 (gD (gOp dIx (gFz (gLst (gCons (gOp dPow (gC (.int 10)) (gC (.int 17))) (gCons (gUn dNeg (gOp dPow (gC (.int 10)) (gC (.int 17)))) gNil)))) (gFz (gCall m_law_next [.r 1, .d (gC (.int 2))]))))) gNext
      [some (.scr ns), some s6, some (.d (.list (nm.map nD))), some (.ol (zs.map oathD)), some (.d (.list (zs.map oathD))), some (.d (.int g)), none, none, none, none, none, none]
      = .ok .nx [some (.scr ns), some s8, some (.d (.list (nm.map nD))), some (.ol (zs.map oathD)), some (.d (.list (zs.map oathD))), some (.d (.int g')), none, none, none, none, none, none] := by
    by_cases h0 : b = 0
    · obtain ⟨k, s8, e8, k0, k1, hs8⟩ := next_ok hs7 (n := 2) (by omega) (by omega)
      have hx : ∃ g' : Int, dIx (.list [.int 100000000000000000, .int (-100000000000000000)]) (.int k) = some (.int g') := by
        have : k = 0 ∨ k = 1 := by omega
        rcases this with rfl | rfl
        · exact ⟨_, rfl⟩
        · exact ⟨_, rfl⟩
      obtain ⟨g', hx⟩ := hx
      refine ⟨g', s8, ?_⟩
      have h2 : (0 + 1 + 1 : Nat) ≤ sizeLine := small_len (by decide)
      simp only [ev_seq, seqK_nx, seqK_rt, seqK_bk, seqK_ct, seqK_err, ev_next, ev_if, ifK_ok, ifK_err, ev_asg, asgK_ok, asgK_err, ev_ret, retK_ok, retK_err, ev_retN, ev_drop, dropK_ok, dropK_err, ev_c, ev_d, dK_ok, dK_err, ev_fz, fzK_d, fzK_l, fzK_err, ev_op, opK1_ok, opK1_err, opK2_ok, opK2_err, ev_un, unK_ok, unK_err, ev_isi, ev_b, bK_ok, bK_err, ev_and, andK_ok, andK_err, ev_or, orK_ok, orK_err, ev_not, notK_ok, ev_andV, andVK_ok, ev_orV, orVK_ok, ev_ifE, ifEK_ok, ev_nil, ev_cons, consK1_ok, consK1_err, consK2_ok, consK2_err, ev_lst, lstK_ok, ev_tup, tupK_ok, ev_var, varK_d, varK_l, ev_peek, peekK_d, peekK_l, peekK_s, ev_move, moveK_d, moveK_l, ev_ixP, ixK_ok, ixK1_ok, ixK1_err, ixK2_ok, dIx_nat, dIx_natT, dIx_l0, dIx_l1, dIx_l2, dIx_l3, dIx_l4, dIx_t0, dIx_t1, dIx_t2, dIx_t3, ev_setIx, setK0_ok, setK0_err, setK1_ok, setK2_ok, setK3_0, setK3_1, setK3_2, setK3_3, setK3_4, ev_sl, slK1_ok, slK2_ok, slK3_ok, ev_no, ev_so, soK_ok, soK_err, ev_join, joinK1_ok, joinK2_ok, ev_app, appK1_ok, appK2_ok, appK2_err, appK3_ok, ev_a0, ev_aD, ev_aR, eaK1_ok, eaK1_err, eaK3_ok, eaK2_ok, eaK2_err, ev_call, callK_d1, callK_d2, callK_d3, callK_d4, callK_d5, callK_d6, callK_d7, callK_d8, callK_r0, callK_r1, callK_r2, callK_r3, callK_r4, callK_r5, callK_r6, callK_r7, callK_err, backK_ok, backK_err, slotOf_d, slotOf_r, putBack_d, putBack_r, putBack_nil, refs_nil, refs_d, refs_r, ev_run, endOf_nx, endOf_rt, endOf_err, maskL_t, maskL_f, maskL_nil, ev_for, forK_ok, forGo_nil, turnK_nx, turnK_ct, turnK_bk, turnK_rt, turnK_err, bind_ok, asItems_l, asItems_t, asItems_s, ev_name, ev_fnil, ev_fcons, ev_ftup, some_bind, ev_asgT, asgTK_ok, asgTK2_ok, ev_lc, lcK_ok, wipeL_nil, wipeL_cons, ev_yes, lcGo_nil, dLt_i, dLe_i, dGt_i, dGe_i, dEq_i, dEq_s, dEq_b, dNe_i, dNe_s, dIs_b, dSub_i, dLen_l, dLen_t, dList_l, dList_t, dSl_l, dNot_b, ty_n_bool, ty_n_int, ty_n_str, ty_n_list, ty_n_tuple, ty_b_bool, ty_b_int, ty_b_str, ty_b_list, ty_b_tuple, ty_i_bool, ty_i_int, ty_i_str, ty_i_list, ty_i_tuple, ty_s_bool, ty_s_int, ty_s_str, ty_s_list, ty_s_tuple, ty_l_bool, ty_l_int, ty_l_str, ty_l_list, ty_l_tuple, ty_t_bool, ty_t_int, ty_t_str, ty_t_list, ty_t_tuple, dIs_nn, dIs_in, dIs_bn, dIs_sn, dIs_ln, dIs_tn, dNe_b, ev_A, aK_ok, aK_err, dMin_ok, dMax_ok, asZip_l, asZip_t, ev_pop, popK1_ok, ev_cnt, cntK1_ok, cntK2_ok, dAdd_int, ofO_some, ofO_none, List.getElem?_cons_zero, List.getElem?_cons_succ, List.set_cons_zero, List.set_cons_succ, List.length_cons, List.length_nil, List.cons_append, List.nil_append, List.replicate_succ, List.replicate_zero, List.map_cons, List.map_nil, Option.join_some, List.append_nil, Nat.reduceAdd, Nat.reduceLT, Nat.reduceLeDiff, Nat.reduceSub, Nat.reduceEqDiff, if_true, if_false, decide_true, decide_false, Bool.false_eq_true, Bool.not_true, Bool.not_false, e7, h0, pow17, dNeg_i, h2, e8, hx]
    · refine ⟨g, s7, ?_⟩
      simp only [ev_seq, seqK_nx, seqK_rt, seqK_bk, seqK_ct, seqK_err, ev_next, ev_if, ifK_ok, ifK_err, ev_asg, asgK_ok, asgK_err, ev_ret, retK_ok, retK_err, ev_retN, ev_drop, dropK_ok, dropK_err, ev_c, ev_d, dK_ok, dK_err, ev_fz, fzK_d, fzK_l, fzK_err, ev_op, opK1_ok, opK1_err, opK2_ok, opK2_err, ev_un, unK_ok, unK_err, ev_isi, ev_b, bK_ok, bK_err, ev_and, andK_ok, andK_err, ev_or, orK_ok, orK_err, ev_not, notK_ok, ev_andV, andVK_ok, ev_orV, orVK_ok, ev_ifE, ifEK_ok, ev_nil, ev_cons, consK1_ok, consK1_err, consK2_ok, consK2_err, ev_lst, lstK_ok, ev_tup, tupK_ok, ev_var, varK_d, varK_l, ev_peek, peekK_d, peekK_l, peekK_s, ev_move, moveK_d, moveK_l, ev_ixP, ixK_ok, ixK1_ok, ixK1_err, ixK2_ok, dIx_nat, dIx_natT, dIx_l0, dIx_l1, dIx_l2, dIx_l3, dIx_l4, dIx_t0, dIx_t1, dIx_t2, dIx_t3, ev_setIx, setK0_ok, setK0_err, setK1_ok, setK2_ok, setK3_0, setK3_1, setK3_2, setK3_3, setK3_4, ev_sl, slK1_ok, slK2_ok, slK3_ok, ev_no, ev_so, soK_ok, soK_err, ev_join, joinK1_ok, joinK2_ok, ev_app, appK1_ok, appK2_ok, appK2_err, appK3_ok, ev_a0, ev_aD, ev_aR, eaK1_ok, eaK1_err, eaK3_ok, eaK2_ok, eaK2_err, ev_call, callK_d1, callK_d2, callK_d3, callK_d4, callK_d5, callK_d6, callK_d7, callK_d8, callK_r0, callK_r1, callK_r2, callK_r3, callK_r4, callK_r5, callK_r6, callK_r7, callK_err, backK_ok, backK_err, slotOf_d, slotOf_r, putBack_d, putBack_r, putBack_nil, refs_nil, refs_d, refs_r, ev_run, endOf_nx, endOf_rt, endOf_err, maskL_t, maskL_f, maskL_nil, ev_for, forK_ok, forGo_nil, turnK_nx, turnK_ct, turnK_bk, turnK_rt, turnK_err, bind_ok, asItems_l, asItems_t, asItems_s, ev_name, ev_fnil, ev_fcons, ev_ftup, some_bind, ev_asgT, asgTK_ok, asgTK2_ok, ev_lc, lcK_ok, wipeL_nil, wipeL_cons, ev_yes, lcGo_nil, dLt_i, dLe_i, dGt_i, dGe_i, dEq_i, dEq_s, dEq_b, dNe_i, dNe_s, dIs_b, dSub_i, dLen_l, dLen_t, dList_l, dList_t, dSl_l, dNot_b, ty_n_bool, ty_n_int, ty_n_str, ty_n_list, ty_n_tuple, ty_b_bool, ty_b_int, ty_b_str, ty_b_list, ty_b_tuple, ty_i_bool, ty_i_int, ty_i_str, ty_i_list, ty_i_tuple, ty_s_bool, ty_s_int, ty_s_str, ty_s_list, ty_s_tuple, ty_l_bool, ty_l_int, ty_l_str, ty_l_list, ty_l_tuple, ty_t_bool, ty_t_int, ty_t_str, ty_t_list, ty_t_tuple, dIs_nn, dIs_in, dIs_bn, dIs_sn, dIs_ln, dIs_tn, dNe_b, ev_A, aK_ok, aK_err, dMin_ok, dMax_ok, asZip_l, asZip_t, ev_pop, popK1_ok, ev_cnt, cntK1_ok, cntK2_ok, dAdd_int, ofO_some, ofO_none, List.getElem?_cons_zero, List.getElem?_cons_succ, List.set_cons_zero, List.set_cons_succ, List.length_cons, List.length_nil, List.cons_append, List.nil_append, List.replicate_succ, List.replicate_zero, List.map_cons, List.map_nil, Option.join_some, List.append_nil, Nat.reduceAdd, Nat.reduceLT, Nat.reduceLeDiff, Nat.reduceSub, Nat.reduceEqDiff, if_true, if_false, decide_true, decide_false, Bool.false_eq_true, Bool.not_true, Bool.not_false, e7, h0]
  obtain ⟨g', s8, e8⟩ := st
  obtain ⟨L, e9⟩ := k03_tail (s := s8) z3 hz (fun z hz => g1 z.1 (k3 z hz)) g' (some (.scr ns)) (some (.d (.list (nm.map nD))))
  refine ⟨maskL [true] L, ?_⟩
  have f1 : gAsg 1 (gCall m_law_src [.r 0]) [some (.scr ns), none, none, none, none, none, none, none, none, none, none, none] = .ok .nx [some (.scr ns), some (srcS ns 0 0 1 0), none, none, none, none, none, none, none, none, none, none] := by
    simp only [ev_seq, seqK_nx, seqK_rt, seqK_bk, seqK_ct, seqK_err, ev_next, ev_if, ifK_ok, ifK_err, ev_asg, asgK_ok, asgK_err, ev_ret, retK_ok, retK_err, ev_retN, ev_drop, dropK_ok, dropK_err, ev_c, ev_d, dK_ok, dK_err, ev_fz, fzK_d, fzK_l, fzK_err, ev_op, opK1_ok, opK1_err, opK2_ok, opK2_err, ev_un, unK_ok, unK_err, ev_isi, ev_b, bK_ok, bK_err, ev_and, andK_ok, andK_err, ev_or, orK_ok, orK_err, ev_not, notK_ok, ev_andV, andVK_ok, ev_orV, orVK_ok, ev_ifE, ifEK_ok, ev_nil, ev_cons, consK1_ok, consK1_err, consK2_ok, consK2_err, ev_lst, lstK_ok, ev_tup, tupK_ok, ev_var, varK_d, varK_l, ev_peek, peekK_d, peekK_l, peekK_s, ev_move, moveK_d, moveK_l, ev_ixP, ixK_ok, ixK1_ok, ixK1_err, ixK2_ok, dIx_nat, dIx_natT, dIx_l0, dIx_l1, dIx_l2, dIx_l3, dIx_l4, dIx_t0, dIx_t1, dIx_t2, dIx_t3, ev_setIx, setK0_ok, setK0_err, setK1_ok, setK2_ok, setK3_0, setK3_1, setK3_2, setK3_3, setK3_4, ev_sl, slK1_ok, slK2_ok, slK3_ok, ev_no, ev_so, soK_ok, soK_err, ev_join, joinK1_ok, joinK2_ok, ev_app, appK1_ok, appK2_ok, appK2_err, appK3_ok, ev_a0, ev_aD, ev_aR, eaK1_ok, eaK1_err, eaK3_ok, eaK2_ok, eaK2_err, ev_call, callK_d1, callK_d2, callK_d3, callK_d4, callK_d5, callK_d6, callK_d7, callK_d8, callK_r0, callK_r1, callK_r2, callK_r3, callK_r4, callK_r5, callK_r6, callK_r7, callK_err, backK_ok, backK_err, slotOf_d, slotOf_r, putBack_d, putBack_r, putBack_nil, refs_nil, refs_d, refs_r, ev_run, endOf_nx, endOf_rt, endOf_err, maskL_t, maskL_f, maskL_nil, ev_for, forK_ok, forGo_nil, turnK_nx, turnK_ct, turnK_bk, turnK_rt, turnK_err, bind_ok, asItems_l, asItems_t, asItems_s, ev_name, ev_fnil, ev_fcons, ev_ftup, some_bind, ev_asgT, asgTK_ok, asgTK2_ok, ev_lc, lcK_ok, wipeL_nil, wipeL_cons, ev_yes, lcGo_nil, dLt_i, dLe_i, dGt_i, dGe_i, dEq_i, dEq_s, dEq_b, dNe_i, dNe_s, dIs_b, dSub_i, dLen_l, dLen_t, dList_l, dList_t, dSl_l, dNot_b, ty_n_bool, ty_n_int, ty_n_str, ty_n_list, ty_n_tuple, ty_b_bool, ty_b_int, ty_b_str, ty_b_list, ty_b_tuple, ty_i_bool, ty_i_int, ty_i_str, ty_i_list, ty_i_tuple, ty_s_bool, ty_s_int, ty_s_str, ty_s_list, ty_s_tuple, ty_l_bool, ty_l_int, ty_l_str, ty_l_list, ty_l_tuple, ty_t_bool, ty_t_int, ty_t_str, ty_t_list, ty_t_tuple, dIs_nn, dIs_in, dIs_bn, dIs_sn, dIs_ln, dIs_tn, dNe_b, ev_A, aK_ok, aK_err, dMin_ok, dMax_ok, asZip_l, asZip_t, ev_pop, popK1_ok, ev_cnt, cntK1_ok, cntK2_ok, dAdd_int, ofO_some, ofO_none, List.getElem?_cons_zero, List.getElem?_cons_succ, List.set_cons_zero, List.set_cons_succ, List.length_cons, List.length_nil, List.cons_append, List.nil_append, List.replicate_succ, List.replicate_zero, List.map_cons, List.map_nil, Option.join_some, List.append_nil, Nat.reduceAdd, Nat.reduceLT, Nat.reduceLeDiff, Nat.reduceSub, Nat.reduceEqDiff, if_true, if_false, decide_true, decide_false, Bool.false_eq_true, Bool.not_true, Bool.not_false, src_ok h]
  have f2 : gAsg 2 (gCall m_law_names [.r 1, .d (gC (.int 12))]) [some (.scr ns), some (srcS ns 0 0 1 0), none, none, none, none, none, none, none, none, none, none] = .ok .nx [some (.scr ns), some s1, some (.ol (nm.map nD)), none, none, none, none, none, none, none, none, none] := by
    simp only [ev_seq, seqK_nx, seqK_rt, seqK_bk, seqK_ct, seqK_err, ev_next, ev_if, ifK_ok, ifK_err, ev_asg, asgK_ok, asgK_err, ev_ret, retK_ok, retK_err, ev_retN, ev_drop, dropK_ok, dropK_err, ev_c, ev_d, dK_ok, dK_err, ev_fz, fzK_d, fzK_l, fzK_err, ev_op, opK1_ok, opK1_err, opK2_ok, opK2_err, ev_un, unK_ok, unK_err, ev_isi, ev_b, bK_ok, bK_err, ev_and, andK_ok, andK_err, ev_or, orK_ok, orK_err, ev_not, notK_ok, ev_andV, andVK_ok, ev_orV, orVK_ok, ev_ifE, ifEK_ok, ev_nil, ev_cons, consK1_ok, consK1_err, consK2_ok, consK2_err, ev_lst, lstK_ok, ev_tup, tupK_ok, ev_var, varK_d, varK_l, ev_peek, peekK_d, peekK_l, peekK_s, ev_move, moveK_d, moveK_l, ev_ixP, ixK_ok, ixK1_ok, ixK1_err, ixK2_ok, dIx_nat, dIx_natT, dIx_l0, dIx_l1, dIx_l2, dIx_l3, dIx_l4, dIx_t0, dIx_t1, dIx_t2, dIx_t3, ev_setIx, setK0_ok, setK0_err, setK1_ok, setK2_ok, setK3_0, setK3_1, setK3_2, setK3_3, setK3_4, ev_sl, slK1_ok, slK2_ok, slK3_ok, ev_no, ev_so, soK_ok, soK_err, ev_join, joinK1_ok, joinK2_ok, ev_app, appK1_ok, appK2_ok, appK2_err, appK3_ok, ev_a0, ev_aD, ev_aR, eaK1_ok, eaK1_err, eaK3_ok, eaK2_ok, eaK2_err, ev_call, callK_d1, callK_d2, callK_d3, callK_d4, callK_d5, callK_d6, callK_d7, callK_d8, callK_r0, callK_r1, callK_r2, callK_r3, callK_r4, callK_r5, callK_r6, callK_r7, callK_err, backK_ok, backK_err, slotOf_d, slotOf_r, putBack_d, putBack_r, putBack_nil, refs_nil, refs_d, refs_r, ev_run, endOf_nx, endOf_rt, endOf_err, maskL_t, maskL_f, maskL_nil, ev_for, forK_ok, forGo_nil, turnK_nx, turnK_ct, turnK_bk, turnK_rt, turnK_err, bind_ok, asItems_l, asItems_t, asItems_s, ev_name, ev_fnil, ev_fcons, ev_ftup, some_bind, ev_asgT, asgTK_ok, asgTK2_ok, ev_lc, lcK_ok, wipeL_nil, wipeL_cons, ev_yes, lcGo_nil, dLt_i, dLe_i, dGt_i, dGe_i, dEq_i, dEq_s, dEq_b, dNe_i, dNe_s, dIs_b, dSub_i, dLen_l, dLen_t, dList_l, dList_t, dSl_l, dNot_b, ty_n_bool, ty_n_int, ty_n_str, ty_n_list, ty_n_tuple, ty_b_bool, ty_b_int, ty_b_str, ty_b_list, ty_b_tuple, ty_i_bool, ty_i_int, ty_i_str, ty_i_list, ty_i_tuple, ty_s_bool, ty_s_int, ty_s_str, ty_s_list, ty_s_tuple, ty_l_bool, ty_l_int, ty_l_str, ty_l_list, ty_l_tuple, ty_t_bool, ty_t_int, ty_t_str, ty_t_list, ty_t_tuple, dIs_nn, dIs_in, dIs_bn, dIs_sn, dIs_ln, dIs_tn, dNe_b, ev_A, aK_ok, aK_err, dMin_ok, dMax_ok, asZip_l, asZip_t, ev_pop, popK1_ok, ev_cnt, cntK1_ok, cntK2_ok, dAdd_int, ofO_some, ofO_none, List.getElem?_cons_zero, List.getElem?_cons_succ, List.set_cons_zero, List.set_cons_succ, List.length_cons, List.length_nil, List.cons_append, List.nil_append, List.replicate_succ, List.replicate_zero, List.map_cons, List.map_nil, Option.join_some, List.append_nil, Nat.reduceAdd, Nat.reduceLT, Nat.reduceLeDiff, Nat.reduceSub, Nat.reduceEqDiff, if_true, if_false, decide_true, decide_false, Bool.false_eq_true, Bool.not_true, Bool.not_false, e1]
  have f3 : gAsg 3 (gCall m_law_side [.r 1, .d (gVar 2), .d (gFz (gCall m_law_next [.r 1, .d (gC (.int 13))]))]) [some (.scr ns), some s1, some (.ol (nm.map nD)), none, none, none, none, none, none, none, none, none] = .ok .nx [some (.scr ns), some s3, some (.d (.list (nm.map nD))), some (.ol (zs.map oathD)), none, none, none, none, none, none, none, none] := by
    simp only [ev_seq, seqK_nx, seqK_rt, seqK_bk, seqK_ct, seqK_err, ev_next, ev_if, ifK_ok, ifK_err, ev_asg, asgK_ok, asgK_err, ev_ret, retK_ok, retK_err, ev_retN, ev_drop, dropK_ok, dropK_err, ev_c, ev_d, dK_ok, dK_err, ev_fz, fzK_d, fzK_l, fzK_err, ev_op, opK1_ok, opK1_err, opK2_ok, opK2_err, ev_un, unK_ok, unK_err, ev_isi, ev_b, bK_ok, bK_err, ev_and, andK_ok, andK_err, ev_or, orK_ok, orK_err, ev_not, notK_ok, ev_andV, andVK_ok, ev_orV, orVK_ok, ev_ifE, ifEK_ok, ev_nil, ev_cons, consK1_ok, consK1_err, consK2_ok, consK2_err, ev_lst, lstK_ok, ev_tup, tupK_ok, ev_var, varK_d, varK_l, ev_peek, peekK_d, peekK_l, peekK_s, ev_move, moveK_d, moveK_l, ev_ixP, ixK_ok, ixK1_ok, ixK1_err, ixK2_ok, dIx_nat, dIx_natT, dIx_l0, dIx_l1, dIx_l2, dIx_l3, dIx_l4, dIx_t0, dIx_t1, dIx_t2, dIx_t3, ev_setIx, setK0_ok, setK0_err, setK1_ok, setK2_ok, setK3_0, setK3_1, setK3_2, setK3_3, setK3_4, ev_sl, slK1_ok, slK2_ok, slK3_ok, ev_no, ev_so, soK_ok, soK_err, ev_join, joinK1_ok, joinK2_ok, ev_app, appK1_ok, appK2_ok, appK2_err, appK3_ok, ev_a0, ev_aD, ev_aR, eaK1_ok, eaK1_err, eaK3_ok, eaK2_ok, eaK2_err, ev_call, callK_d1, callK_d2, callK_d3, callK_d4, callK_d5, callK_d6, callK_d7, callK_d8, callK_r0, callK_r1, callK_r2, callK_r3, callK_r4, callK_r5, callK_r6, callK_r7, callK_err, backK_ok, backK_err, slotOf_d, slotOf_r, putBack_d, putBack_r, putBack_nil, refs_nil, refs_d, refs_r, ev_run, endOf_nx, endOf_rt, endOf_err, maskL_t, maskL_f, maskL_nil, ev_for, forK_ok, forGo_nil, turnK_nx, turnK_ct, turnK_bk, turnK_rt, turnK_err, bind_ok, asItems_l, asItems_t, asItems_s, ev_name, ev_fnil, ev_fcons, ev_ftup, some_bind, ev_asgT, asgTK_ok, asgTK2_ok, ev_lc, lcK_ok, wipeL_nil, wipeL_cons, ev_yes, lcGo_nil, dLt_i, dLe_i, dGt_i, dGe_i, dEq_i, dEq_s, dEq_b, dNe_i, dNe_s, dIs_b, dSub_i, dLen_l, dLen_t, dList_l, dList_t, dSl_l, dNot_b, ty_n_bool, ty_n_int, ty_n_str, ty_n_list, ty_n_tuple, ty_b_bool, ty_b_int, ty_b_str, ty_b_list, ty_b_tuple, ty_i_bool, ty_i_int, ty_i_str, ty_i_list, ty_i_tuple, ty_s_bool, ty_s_int, ty_s_str, ty_s_list, ty_s_tuple, ty_l_bool, ty_l_int, ty_l_str, ty_l_list, ty_l_tuple, ty_t_bool, ty_t_int, ty_t_str, ty_t_list, ty_t_tuple, dIs_nn, dIs_in, dIs_bn, dIs_sn, dIs_ln, dIs_tn, dNe_b, ev_A, aK_ok, aK_err, dMin_ok, dMax_ok, asZip_l, asZip_t, ev_pop, popK1_ok, ev_cnt, cntK1_ok, cntK2_ok, dAdd_int, ofO_some, ofO_none, List.getElem?_cons_zero, List.getElem?_cons_succ, List.set_cons_zero, List.set_cons_succ, List.length_cons, List.length_nil, List.cons_append, List.nil_append, List.replicate_succ, List.replicate_zero, List.map_cons, List.map_nil, Option.join_some, List.append_nil, Nat.reduceAdd, Nat.reduceLT, Nat.reduceLeDiff, Nat.reduceSub, Nat.reduceEqDiff, if_true, if_false, decide_true, decide_false, Bool.false_eq_true, Bool.not_true, Bool.not_false, e2, e3]
  have f4 : gAsg 4 (gUn dList (gPeek 3)) [some (.scr ns), some s3, some (.d (.list (nm.map nD))), some (.ol (zs.map oathD)), none, none, none, none, none, none, none, none] = .ok .nx [some (.scr ns), some s3, some (.d (.list (nm.map nD))), some (.ol (zs.map oathD)), some (.ol (zs.map oathD)), none, none, none, none, none, none, none] := by
    simp only [ev_seq, seqK_nx, seqK_rt, seqK_bk, seqK_ct, seqK_err, ev_next, ev_if, ifK_ok, ifK_err, ev_asg, asgK_ok, asgK_err, ev_ret, retK_ok, retK_err, ev_retN, ev_drop, dropK_ok, dropK_err, ev_c, ev_d, dK_ok, dK_err, ev_fz, fzK_d, fzK_l, fzK_err, ev_op, opK1_ok, opK1_err, opK2_ok, opK2_err, ev_un, unK_ok, unK_err, ev_isi, ev_b, bK_ok, bK_err, ev_and, andK_ok, andK_err, ev_or, orK_ok, orK_err, ev_not, notK_ok, ev_andV, andVK_ok, ev_orV, orVK_ok, ev_ifE, ifEK_ok, ev_nil, ev_cons, consK1_ok, consK1_err, consK2_ok, consK2_err, ev_lst, lstK_ok, ev_tup, tupK_ok, ev_var, varK_d, varK_l, ev_peek, peekK_d, peekK_l, peekK_s, ev_move, moveK_d, moveK_l, ev_ixP, ixK_ok, ixK1_ok, ixK1_err, ixK2_ok, dIx_nat, dIx_natT, dIx_l0, dIx_l1, dIx_l2, dIx_l3, dIx_l4, dIx_t0, dIx_t1, dIx_t2, dIx_t3, ev_setIx, setK0_ok, setK0_err, setK1_ok, setK2_ok, setK3_0, setK3_1, setK3_2, setK3_3, setK3_4, ev_sl, slK1_ok, slK2_ok, slK3_ok, ev_no, ev_so, soK_ok, soK_err, ev_join, joinK1_ok, joinK2_ok, ev_app, appK1_ok, appK2_ok, appK2_err, appK3_ok, ev_a0, ev_aD, ev_aR, eaK1_ok, eaK1_err, eaK3_ok, eaK2_ok, eaK2_err, ev_call, callK_d1, callK_d2, callK_d3, callK_d4, callK_d5, callK_d6, callK_d7, callK_d8, callK_r0, callK_r1, callK_r2, callK_r3, callK_r4, callK_r5, callK_r6, callK_r7, callK_err, backK_ok, backK_err, slotOf_d, slotOf_r, putBack_d, putBack_r, putBack_nil, refs_nil, refs_d, refs_r, ev_run, endOf_nx, endOf_rt, endOf_err, maskL_t, maskL_f, maskL_nil, ev_for, forK_ok, forGo_nil, turnK_nx, turnK_ct, turnK_bk, turnK_rt, turnK_err, bind_ok, asItems_l, asItems_t, asItems_s, ev_name, ev_fnil, ev_fcons, ev_ftup, some_bind, ev_asgT, asgTK_ok, asgTK2_ok, ev_lc, lcK_ok, wipeL_nil, wipeL_cons, ev_yes, lcGo_nil, dLt_i, dLe_i, dGt_i, dGe_i, dEq_i, dEq_s, dEq_b, dNe_i, dNe_s, dIs_b, dSub_i, dLen_l, dLen_t, dList_l, dList_t, dSl_l, dNot_b, ty_n_bool, ty_n_int, ty_n_str, ty_n_list, ty_n_tuple, ty_b_bool, ty_b_int, ty_b_str, ty_b_list, ty_b_tuple, ty_i_bool, ty_i_int, ty_i_str, ty_i_list, ty_i_tuple, ty_s_bool, ty_s_int, ty_s_str, ty_s_list, ty_s_tuple, ty_l_bool, ty_l_int, ty_l_str, ty_l_list, ty_l_tuple, ty_t_bool, ty_t_int, ty_t_str, ty_t_list, ty_t_tuple, dIs_nn, dIs_in, dIs_bn, dIs_sn, dIs_ln, dIs_tn, dNe_b, ev_A, aK_ok, aK_err, dMin_ok, dMax_ok, asZip_l, asZip_t, ev_pop, popK1_ok, ev_cnt, cntK1_ok, cntK2_ok, dAdd_int, ofO_some, ofO_none, List.getElem?_cons_zero, List.getElem?_cons_succ, List.set_cons_zero, List.set_cons_succ, List.length_cons, List.length_nil, List.cons_append, List.nil_append, List.replicate_succ, List.replicate_zero, List.map_cons, List.map_nil, Option.join_some, List.append_nil, Nat.reduceAdd, Nat.reduceLT, Nat.reduceLeDiff, Nat.reduceSub, Nat.reduceEqDiff, if_true, if_false, decide_true, decide_false, Bool.false_eq_true, Bool.not_true, Bool.not_false]
  have f5 : gAsg 5 (gD (gOp dSub (gFz (gCall m_law_next [.r 1, .d (gFz (gOp dAdd (gFz (gCall m_law_total [.d (gVar 4)])) (gC (.int 5))))])) (gC (.int 2)))) [some (.scr ns), some s3, some (.d (.list (nm.map nD))), some (.ol (zs.map oathD)), some (.ol (zs.map oathD)), none, none, none, none, none, none, none] = .ok .nx [some (.scr ns), some s4, some (.d (.list (nm.map nD))), some (.ol (zs.map oathD)), some (.d (.list (zs.map oathD))), some (.d (.int (a - 2))), none, none, none, none, none, none] := by
    simp only [ev_seq, seqK_nx, seqK_rt, seqK_bk, seqK_ct, seqK_err, ev_next, ev_if, ifK_ok, ifK_err, ev_asg, asgK_ok, asgK_err, ev_ret, retK_ok, retK_err, ev_retN, ev_drop, dropK_ok, dropK_err, ev_c, ev_d, dK_ok, dK_err, ev_fz, fzK_d, fzK_l, fzK_err, ev_op, opK1_ok, opK1_err, opK2_ok, opK2_err, ev_un, unK_ok, unK_err, ev_isi, ev_b, bK_ok, bK_err, ev_and, andK_ok, andK_err, ev_or, orK_ok, orK_err, ev_not, notK_ok, ev_andV, andVK_ok, ev_orV, orVK_ok, ev_ifE, ifEK_ok, ev_nil, ev_cons, consK1_ok, consK1_err, consK2_ok, consK2_err, ev_lst, lstK_ok, ev_tup, tupK_ok, ev_var, varK_d, varK_l, ev_peek, peekK_d, peekK_l, peekK_s, ev_move, moveK_d, moveK_l, ev_ixP, ixK_ok, ixK1_ok, ixK1_err, ixK2_ok, dIx_nat, dIx_natT, dIx_l0, dIx_l1, dIx_l2, dIx_l3, dIx_l4, dIx_t0, dIx_t1, dIx_t2, dIx_t3, ev_setIx, setK0_ok, setK0_err, setK1_ok, setK2_ok, setK3_0, setK3_1, setK3_2, setK3_3, setK3_4, ev_sl, slK1_ok, slK2_ok, slK3_ok, ev_no, ev_so, soK_ok, soK_err, ev_join, joinK1_ok, joinK2_ok, ev_app, appK1_ok, appK2_ok, appK2_err, appK3_ok, ev_a0, ev_aD, ev_aR, eaK1_ok, eaK1_err, eaK3_ok, eaK2_ok, eaK2_err, ev_call, callK_d1, callK_d2, callK_d3, callK_d4, callK_d5, callK_d6, callK_d7, callK_d8, callK_r0, callK_r1, callK_r2, callK_r3, callK_r4, callK_r5, callK_r6, callK_r7, callK_err, backK_ok, backK_err, slotOf_d, slotOf_r, putBack_d, putBack_r, putBack_nil, refs_nil, refs_d, refs_r, ev_run, endOf_nx, endOf_rt, endOf_err, maskL_t, maskL_f, maskL_nil, ev_for, forK_ok, forGo_nil, turnK_nx, turnK_ct, turnK_bk, turnK_rt, turnK_err, bind_ok, asItems_l, asItems_t, asItems_s, ev_name, ev_fnil, ev_fcons, ev_ftup, some_bind, ev_asgT, asgTK_ok, asgTK2_ok, ev_lc, lcK_ok, wipeL_nil, wipeL_cons, ev_yes, lcGo_nil, dLt_i, dLe_i, dGt_i, dGe_i, dEq_i, dEq_s, dEq_b, dNe_i, dNe_s, dIs_b, dSub_i, dLen_l, dLen_t, dList_l, dList_t, dSl_l, dNot_b, ty_n_bool, ty_n_int, ty_n_str, ty_n_list, ty_n_tuple, ty_b_bool, ty_b_int, ty_b_str, ty_b_list, ty_b_tuple, ty_i_bool, ty_i_int, ty_i_str, ty_i_list, ty_i_tuple, ty_s_bool, ty_s_int, ty_s_str, ty_s_list, ty_s_tuple, ty_l_bool, ty_l_int, ty_l_str, ty_l_list, ty_l_tuple, ty_t_bool, ty_t_int, ty_t_str, ty_t_list, ty_t_tuple, dIs_nn, dIs_in, dIs_bn, dIs_sn, dIs_ln, dIs_tn, dNe_b, ev_A, aK_ok, aK_err, dMin_ok, dMax_ok, asZip_l, asZip_t, ev_pop, popK1_ok, ev_cnt, cntK1_ok, cntK2_ok, dAdd_int, ofO_some, ofO_none, List.getElem?_cons_zero, List.getElem?_cons_succ, List.set_cons_zero, List.set_cons_succ, List.length_cons, List.length_nil, List.cons_append, List.nil_append, List.replicate_succ, List.replicate_zero, List.map_cons, List.map_nil, Option.join_some, List.append_nil, Nat.reduceAdd, Nat.reduceLT, Nat.reduceLeDiff, Nat.reduceSub, Nat.reduceEqDiff, if_true, if_false, decide_true, decide_false, Bool.false_eq_true, Bool.not_true, Bool.not_false, t2, e4]
  unfold m_main_k03 g_main_k03
  rw [ev_run]
  show endOf [true] (gSeq _ _ [some (.scr ns), none, none, none, none, none, none, none, none, none, none, none]) = _
  rw [ev_seq, f1, seqK_nx, ev_seq, f2, seqK_nx, ev_seq, f3, seqK_nx, ev_seq, f4, seqK_nx, ev_seq, f5, seqK_nx, ev_seq, e6.1, seqK_nx, ev_seq, e8, seqK_nx, e9, endOf_rt]
end Lw

namespace Tx
open PySem PySem.Spec PyProof.Rows L2 VS
/-! ### the text -/
def topS (i : Nat) : Stmt := PySem.Challenge.pw_forsworn_k03_fewest_names.main.body.getD i (.Pass ⟨0, 0, 0, 0⟩)
abbrev s_weight_last : Stmt := topS 1
abbrev N_weight_last : List Str := ["oath"]
theorem sc_weight_last : FnScope N_weight_last ["oath"] (defScope s_weight_last) := ⟨rfl, rfl, rfl, by decide +kernel, rfl, by decide +kernel, by decide +kernel⟩
abbrev s_fewest_to : Stmt := topS 2
abbrev N_fewest_to : List Str := ["side", "goal", "names", "reached", "name", "weight"]
theorem sc_fewest_to : FnScope N_fewest_to ["side", "goal"] (defScope s_fewest_to) := ⟨rfl, rfl, rfl, by decide +kernel, rfl, by decide +kernel, by decide +kernel⟩
abbrev s_law_src : Stmt := topS 4
abbrev N_law_src : List Str := ["_law_script"]
theorem sc_law_src : FnScope N_law_src ["_law_script"] (defScope s_law_src) := ⟨rfl, rfl, rfl, by decide +kernel, rfl, by decide +kernel, by decide +kernel⟩
abbrev s_law_next : Stmt := topS 5
abbrev N_law_next : List Str := ["_law_src_here", "_law_base", "_law_cell", "_law_digit"]
theorem sc_law_next : FnScope N_law_next ["_law_src_here", "_law_base"] (defScope s_law_next) := ⟨rfl, rfl, rfl, by decide +kernel, rfl, by decide +kernel, by decide +kernel⟩
abbrev s_law_whole : Stmt := topS 6
abbrev N_law_whole : List Str := ["_law_found"]
theorem sc_law_whole : FnScope N_law_whole ["_law_found"] (defScope s_law_whole) := ⟨rfl, rfl, rfl, by decide +kernel, rfl, by decide +kernel, by decide +kernel⟩
abbrev s_law_same : Stmt := topS 7
abbrev N_law_same : List Str := ["_law_found", "_law_due", "_law_one", "_law_other"]
theorem sc_law_same : FnScope N_law_same ["_law_found", "_law_due"] (defScope s_law_same) := ⟨rfl, rfl, rfl, by decide +kernel, rfl, by decide +kernel, by decide +kernel⟩
abbrev s_law_unlike : Stmt := topS 8
abbrev N_law_unlike : List Str := ["_law_names_here", "_law_name", "_law_letters", "_law_stem", "_law_tries"]
theorem sc_law_unlike : FnScope N_law_unlike ["_law_names_here", "_law_name"] (defScope s_law_unlike) := ⟨rfl, rfl, rfl, by decide +kernel, rfl, by decide +kernel, by decide +kernel⟩
abbrev s_law_word : Stmt := topS 9
abbrev N_law_word : List Str := ["_law_src_here", "_law_many", "_law_letters", "_law_k"]
theorem sc_law_word : FnScope N_law_word ["_law_src_here", "_law_many"] (defScope s_law_word) := ⟨rfl, rfl, rfl, by decide +kernel, rfl, by decide +kernel, by decide +kernel⟩
abbrev s_law_names : Stmt := topS 10
abbrev N_law_names : List Str := ["_law_src_here", "_law_many", "_law_style", "_law_stem", "_law_at", "_law_names_here", "_law_k", "_law_name"]
theorem sc_law_names : FnScope N_law_names ["_law_src_here", "_law_many"] (defScope s_law_names) := ⟨rfl, rfl, rfl, by decide +kernel, rfl, by decide +kernel, by decide +kernel⟩
abbrev s_law_weight : Stmt := topS 11
abbrev N_law_weight : List Str := ["_law_src_here", "_law_kind"]
theorem sc_law_weight : FnScope N_law_weight ["_law_src_here"] (defScope s_law_weight) := ⟨rfl, rfl, rfl, by decide +kernel, rfl, by decide +kernel, by decide +kernel⟩
abbrev s_law_total : Stmt := topS 12
abbrev N_law_total : List Str := ["_law_side_here", "_law_found", "_law_name", "_law_weight_here"]
theorem sc_law_total : FnScope N_law_total ["_law_side_here"] (defScope s_law_total) := ⟨rfl, rfl, rfl, by decide +kernel, rfl, by decide +kernel, by decide +kernel⟩
abbrev s_law_side : Stmt := topS 13
abbrev N_law_side : List Str := ["_law_src_here", "_law_names_here", "_law_many", "_law_left", "_law_side_here", "_law_k"]
theorem sc_law_side : FnScope N_law_side ["_law_src_here", "_law_names_here", "_law_many"] (defScope s_law_side) := ⟨rfl, rfl, rfl, by decide +kernel, rfl, by decide +kernel, by decide +kernel⟩
abbrev s_law_sum_first : Stmt := topS 14
abbrev N_law_sum_first : List Str := ["_law_side_here", "_law_many", "_law_weights", "_law_found", "_law_weight_here", "_law_name"]
theorem sc_law_sum_first : FnScope N_law_sum_first ["_law_side_here", "_law_many"] (defScope s_law_sum_first) := ⟨rfl, rfl, rfl, by decide +kernel, rfl, by decide +kernel, by decide +kernel⟩
abbrev s_law : Stmt := topS 15
abbrev N_law : List Str := ["_law_script", "_law_src_here", "_law_names_here", "_law_side_here", "_law_kept", "_law_goal", "_law_found", "_law_reached", "_law_name", "_law_weights", "_law_one", "_law_weight_here"]
theorem sc_law : FnScope N_law ["_law_script"] (defScope s_law) := ⟨rfl, rfl, rfl, by decide +kernel, rfl, by decide +kernel, by decide +kernel⟩
end Tx
namespace Tx
open PySem PySem.Spec PyProof.Rows L2 VS
/-! ### each def computes it -/
section
variable {P : Program} {w : World} {K : PySem.W.Frag} {mg : Str → Option Value} {base : Heap} {ca : Nat → Addr}
theorem ok_weight_last {f : Addr} {fd : FuncData} (F : Fun K "weight_last" "weight_last" s_weight_last f fd)  : FnOk P w K mg base (L2.CX P w) 1 f fd ["oath"] (VSp K ca [false] Lw.m_weight_last) := by
  refine vf_of (k := 0) F sc_weight_last rfl (by decide) fun cdv A outer s H E vs hr => ?_
  have tk : Takes (ctOf P w K mg base ca N_weight_last "weight_last" (defScope s_weight_last) f cdv A outer s H E [false] vs).X _ := takes_of rfl rfl rfl rfl
  exact (jb_one (js_ret (je_d (jd_ixP 0 (pv 0) jd_int))))
theorem ok_fewest_to {f : Addr} {fd : FuncData} (F : Fun K "fewest_to" "fewest_to" s_fewest_to f fd) (K_weight_last : KeyAt1 P w K mg "weight_last") (z_sorted : mg "sorted" = none) : FnOk P w K mg base (L2.CX P w) 1 f fd ["side", "goal"] (VSp K ca [false, false] Lw.m_fewest_to) := by
  refine vf_of (k := 0) F sc_fewest_to rfl (by decide) fun cdv A outer s H E vs hr => ?_
  have tk : Takes (ctOf P w K mg base ca N_fewest_to "fewest_to" (defScope s_fewest_to) f cdv A outer s H E [false, false] vs).X _ := takes_of rfl rfl rfl rfl
  exact (jb_cons (js_set 2 sc_fewest_to.nd rfl (by first | exact Or.inl rfl | exact Or.inr rfl) (by intro h; cases h) (je_lst ja_nil))
    (jb_cons (js_set 3 sc_fewest_to.nd rfl (by first | exact Or.inl rfl | exact Or.inr rfl) (by intro h; cases h) (je_d jd_int))
    (jb_cons (js_for PassesOwn.leaving rfl (ji_any (jd_fz (je_sortK hr K_weight_last (by rfl) (by rfl) z_sorted (jd_var 0 (pv 0))))) (jg_tup rfl (jgs_cons (jg_name 4 (by intro h; cases h) (pg_name (i := 4) sc_fewest_to.nd rfl (by first | exact Or.inl rfl | exact Or.inr rfl))) (jgs_cons (jg_name 5 (by intro h; cases h) (pg_name (i := 5) sc_fewest_to.nd rfl (by first | exact Or.inl rfl | exact Or.inr rfl))) jgs_nil))) (jb_cons (js_if (jt_cmpN cv_ge (jv_var 3 (pv 3)) (jv_var 1 (pv 1)) (nomark _)) (jb_one js_break) jb_nil)
    (jb_cons (js_expr (je_append 2 (pv 2) (jd_var 4 (pv 4))))
    (jb_one (js_set 3 sc_fewest_to.nd rfl (by first | exact Or.inl rfl | exact Or.inr rfl) (by intro h; cases h) (je_add (jd_var 3 (pv 3)) (jd_var 5 (pv 5))))))))
    (jb_cons (js_if (jt_cmpN cv_lt (jv_var 3 (pv 3)) (jv_var 1 (pv 1)) (nomark _)) (jb_one (js_ret (je_d jd_non))) jb_nil)
    (jb_one (js_ret (je_move 2 (pv 2))))))))
theorem ok_law_src {f : Addr} {fd : FuncData} (F : Fun K "_law_src" "_law_src" s_law_src f fd) (z_list : mg "list" = none) : FnOk P w K mg base (L2.CX P w) 1 f fd ["_law_script"] (VSp K ca [true] Lw.m_law_src) := by
  refine vf_of (k := 0) F sc_law_src rfl (by decide) fun cdv A outer s H E vs hr => ?_
  have tk : Takes (ctOf P w K mg base ca N_law_src "_law_src" (defScope s_law_src) f cdv A outer s H E [true] vs).X _ := takes_of rfl rfl rfl rfl
  exact (jb_one (js_ret (je_lst (ja_cons (jd_fz (je_list (by rfl) z_list (jv_d (jd_fz (je_slV (jv_var 0 (pv 0)) jo_no (jo_so jd_int)))))) (ja_cons jd_int (ja_cons jd_int (ja_cons jd_int (ja_cons jd_int ja_nil))))))))
theorem ok_law_next {f : Addr} {fd : FuncData} (F : Fun K "_law_next" "_law_next" s_law_next f fd) (z_len : mg "len" = none) : FnOk P w K mg base (L2.CX P w) 1 f fd ["_law_src_here", "_law_base"] (VSp K ca [true, false] Lw.m_law_next) := by
  refine vf_of (k := 0) F sc_law_next rfl (by decide) fun cdv A outer s H E vs hr => ?_
  have tk : Takes (ctOf P w K mg base ca N_law_next "_law_next" (defScope s_law_next) f cdv A outer s H E [true, false] vs).X _ := takes_of rfl rfl rfl rfl
  exact (jb_cons (js_setIx 0 (pv 0) jd_int (jd_fz (je_add (jd_ixP 0 (pv 0) jd_int) jd_int)))
    (jb_cons (js_if (jt_cmpN cv_le (jv_d (jd_ixP 0 (pv 0) jd_int)) (jv_d jd_int) (nomark _)) (jb_cons (js_set 2 sc_law_next.nd rfl (by first | exact Or.inl rfl | exact Or.inr rfl) (by intro h; cases h) (je_d jd_int))
    (jb_cons (js_if (jt_cmpN cv_lt (jv_d (jd_ixP 0 (pv 0) jd_int)) (jv_d (jd_len (by rfl) z_len (jv_d (jd_ixP 0 (pv 0) jd_int)))) (nomark _)) (jb_cons (js_set 2 sc_law_next.nd rfl (by first | exact Or.inl rfl | exact Or.inr rfl) (by intro h; cases h) (je_d (jd_ix (jd_ixP 0 (pv 0) jd_int) (jd_ixP 0 (pv 0) jd_int))))
    (jb_one (js_setIx 0 (pv 0) jd_int (jd_fz (je_add (jd_ixP 0 (pv 0) jd_int) jd_int))))) jb_nil)
    (jb_cons (js_setIx 0 (pv 0) jd_int (jd_mod (jd_fz (je_add (jd_fz (je_add (jd_fz (je_mul (jd_ixP 0 (pv 0) jd_int) jd_int)) (jd_mod (jd_var 2 (pv 2)) jd_int))) (jd_ixP 0 (pv 0) jd_int))) jd_int))
    (jb_one (js_if (jt_cmpN cv_ge (jv_var 2 (pv 2)) (jv_d (jd_pow jd_int jd_int)) (nomark _)) (jb_one (js_setIx 0 (pv 0) jd_int (jd_var 2 (pv 2)))) jb_nil))))) jb_nil)
    (jb_cons (js_if (jt_cmpN cv_gt (jv_d (jd_ixP 0 (pv 0) jd_int)) (jv_d jd_int) (nomark _)) (jb_cons (js_set 3 sc_law_next.nd rfl (by first | exact Or.inl rfl | exact Or.inr rfl) (by intro h; cases h) (je_d (jd_mod (jd_ixP 0 (pv 0) jd_int) (jd_var 1 (pv 1)))))
    (jb_cons (js_setIx 0 (pv 0) jd_int (jd_div (jd_ixP 0 (pv 0) jd_int) (jd_var 1 (pv 1))))
    (jb_one (js_ret (je_move 3 (pv 3)))))) jb_nil)
    (jb_one (js_ret (je_d (jd_mod (jd_div (jd_mod (jd_fz (je_mul (jd_ixP 0 (pv 0) jd_int) jd_int)) jd_int) jd_int) (jd_var 1 (pv 1)))))))))
theorem ok_law_whole {f : Addr} {fd : FuncData} (F : Fun K "_law_whole" "_law_whole" s_law_whole f fd) (z_isinstance : mg "isinstance" = none) (z_int : mg "int" = none) (z_bool : mg "bool" = none) : FnOk P w K mg base (L2.CX P w) 1 f fd ["_law_found"] (VSp K ca [false] Lw.m_law_whole) := by
  refine vf_of (k := 0) F sc_law_whole rfl (by decide) fun cdv A outer s H E vs hr => ?_
  have tk : Takes (ctOf P w K mg base ca N_law_whole "_law_whole" (defScope s_law_whole) f cdv A outer s H E [false] vs).X _ := takes_of rfl rfl rfl rfl
  exact (jb_one (js_ret (je_d (jd_and (jd_isi (T := "int") (by rfl) z_isinstance (by rfl) z_int (by decide +kernel) (jv_var 0 (pv 0))) (jd_one (jd_not (jd_isi (T := "bool") (by rfl) z_isinstance (by rfl) z_bool (by decide +kernel) (jv_var 0 (pv 0)))))))))
theorem ok_law_same {f : Addr} {fd : FuncData} (F : Fun K "_law_same" "_law_same" s_law_same f fd) (D_law_whole : Dx P w K mg base ca "_law_whole" 1 ["_law_found"] [false] Lw.m_law_whole) (z_isinstance : mg "isinstance" = none) (z_bool : mg "bool" = none) (z_int : mg "int" = none) (z_str : mg "str" = none) (z_list : mg "list" = none) (z_tuple : mg "tuple" = none) (z_len : mg "len" = none) (z_zip : mg "zip" = none) (hg : mg "_law_same" = some (.ref f)) (hk : PySem.W.keepIn K (.ref f) = true) (hb : Binds K fd ["_law_found", "_law_due"] []) : ∀ k_ : Nat, Dx P w K mg base ca "_law_same" (2 + k_) ["_law_found", "_law_due"] [false, false] (Lw.m_law_same k_)
  | 0 => dx_stuck hg hk hb
  | k_ + 1 => by
    have D_law_same := ok_law_same F D_law_whole z_isinstance z_bool z_int z_str z_list z_tuple z_len z_zip hg hk hb k_
    refine dx_of (vf_of (k := 2 + k_) F sc_law_same rfl (by decide) fun cdv A outer s H E vs hr => ?_) hg hk hb
    have tk : Takes (ctOf P w K mg base ca N_law_same "_law_same" (defScope s_law_same) f cdv A outer s H E [false, false] vs).X _ := takes_of rfl rfl rfl rfl
    exact (jb_cons (js_if (jt_cmpN cv_is (jv_var 1 (pv 1)) (jv_d jd_non) (nomark _)) (jb_one (js_ret (je_d (jd_cmpN cv_is (jv_var 0 (pv 0)) (jv_d jd_non) (nomark _))))) jb_nil)
    (jb_cons (js_if (jt_val (jd_isi (T := "bool") (by rfl) z_isinstance (by rfl) z_bool (by decide +kernel) (jv_var 1 (pv 1)))) (jb_one (js_ret (je_d (jd_and (jd_isi (T := "bool") (by rfl) z_isinstance (by rfl) z_bool (by decide +kernel) (jv_var 0 (pv 0))) (jd_one (jd_cmpN (cv_eq hr) (jv_var 0 (pv 0)) (jv_var 1 (pv 1)) (nomark _))))))) jb_nil)
    (jb_cons (js_if (jt_val (jd_isi (T := "int") (by rfl) z_isinstance (by rfl) z_int (by decide +kernel) (jv_var 1 (pv 1)))) (jb_one (js_ret (je_d (jd_and (jd_fz (je_dx D_law_whole hr (by omega) tk (by rfl) (jar_d (jd_var 0 (pv 0)) jar_nil))) (jd_one (jd_cmpN (cv_eq hr) (jv_var 0 (pv 0)) (jv_var 1 (pv 1)) (nomark _))))))) jb_nil)
    (jb_cons (js_if (jt_val (jd_isi (T := "str") (by rfl) z_isinstance (by rfl) z_str (by decide +kernel) (jv_var 1 (pv 1)))) (jb_one (js_ret (je_d (jd_and (jd_isi (T := "str") (by rfl) z_isinstance (by rfl) z_str (by decide +kernel) (jv_var 0 (pv 0))) (jd_one (jd_cmpN (cv_eq hr) (jv_var 0 (pv 0)) (jv_var 1 (pv 1)) (nomark _))))))) jb_nil)
    (jb_cons (js_if (jt_w (jw_or (jt_cmpN (cv_ne hr) (jv_d (jd_isi (T := "list") (by rfl) z_isinstance (by rfl) z_list (by decide +kernel) (jv_var 1 (pv 1)))) (jv_d (jd_isi (T := "list") (by rfl) z_isinstance (by rfl) z_list (by decide +kernel) (jv_var 0 (pv 0)))) (nomark _)) (jw_or1 (jt_cmpN (cv_ne hr) (jv_d (jd_isi (T := "tuple") (by rfl) z_isinstance (by rfl) z_tuple (by decide +kernel) (jv_var 1 (pv 1)))) (jv_d (jd_isi (T := "tuple") (by rfl) z_isinstance (by rfl) z_tuple (by decide +kernel) (jv_var 0 (pv 0)))) (nomark _))))) (jb_one (js_ret (je_d jd_bl))) jb_nil)
    (jb_cons (js_if (jt_cmpN (cv_ne hr) (jv_d (jd_len (by rfl) z_len (jv_var 0 (pv 0)))) (jv_d (jd_len (by rfl) z_len (jv_var 1 (pv 1)))) (nomark _)) (jb_one (js_ret (je_d jd_bl))) jb_nil)
    (jb_cons (js_for PassesOwn.leaving rfl (ji_zip (by rfl) z_zip (ja_cons (jd_var 0 (pv 0)) (ja_cons (jd_var 1 (pv 1)) ja_nil))) (jg_tup rfl (jgs_cons (jg_name 2 (by intro h; cases h) (pg_name (i := 2) sc_law_same.nd rfl (by first | exact Or.inl rfl | exact Or.inr rfl))) (jgs_cons (jg_name 3 (by intro h; cases h) (pg_name (i := 3) sc_law_same.nd rfl (by first | exact Or.inl rfl | exact Or.inr rfl))) jgs_nil))) (jb_one (js_if (jt_not (jt_val (jd_fz (je_dx D_law_same hr (by omega) tk (by rfl) (jar_d (jd_var 2 (pv 2)) (jar_d (jd_var 3 (pv 3)) jar_nil)))))) (jb_one (js_ret (je_d jd_bl))) jb_nil)))
    (jb_one (js_ret (je_d jd_bl))))))))))
theorem ok_law_unlike {f : Addr} {fd : FuncData} (F : Fun K "_law_unlike" "_law_unlike" s_law_unlike f fd) (z_range : mg "range" = none) (z_len : mg "len" = none) : FnOk P w K mg base (L2.CX P w) 1 f fd ["_law_names_here", "_law_name"] (VSp K ca [true, false] Lw.m_law_unlike) := by
  refine vf_of (k := 0) F sc_law_unlike rfl (by decide) fun cdv A outer s H E vs hr => ?_
  have tk : Takes (ctOf P w K mg base ca N_law_unlike "_law_unlike" (defScope s_law_unlike) f cdv A outer s H E [true, false] vs).X _ := takes_of rfl rfl rfl rfl
  exact (jb_cons (js_set 2 sc_law_unlike.nd rfl (by first | exact Or.inl rfl | exact Or.inr rfl) (by intro h; cases h) (je_d jd_str))
    (jb_cons (js_set 3 sc_law_unlike.nd rfl (by first | exact Or.inl rfl | exact Or.inr rfl) (by intro h; cases h) (je_slV (jv_var 1 (pv 1)) jo_no (jo_so jd_int)))
    (jb_cons (js_for PassesOwn.leaving rfl (ji_range1 (by rfl) z_range (ja_cons (jd_fz (je_add (jd_len (by rfl) z_len (jv_var 0 (pv 0))) jd_int)) ja_nil)) (jg_name 4 (by intro h; cases h) (pg_name (i := 4) sc_law_unlike.nd rfl (by first | exact Or.inl rfl | exact Or.inr rfl))) (jb_cons (js_if (jt_cmpN (cv_notIn hr) (jv_var 1 (pv 1)) (jv_var 0 (pv 0)) rfl) (jb_one (js_ret (je_move 1 (pv 1)))) jb_nil)
    (jb_one (js_set 1 sc_law_unlike.nd rfl (by first | exact Or.inl rfl | exact Or.inr rfl) (by intro h; cases h) (je_add (jd_fz (je_add (jd_var 3 (pv 3)) (jd_ixP 2 (pv 2) (jd_mod (jd_var 4 (pv 4)) jd_int)))) (jd_ixP 2 (pv 2) (jd_div (jd_var 4 (pv 4)) jd_int)))))))
    (jb_one (js_ret (je_move 1 (pv 1)))))))
theorem ok_law_word {f : Addr} {fd : FuncData} (F : Fun K "_law_word" "_law_word" s_law_word f fd) (D_law_next : Dx P w K mg base ca "_law_next" 1 ["_law_src_here", "_law_base"] [true, false] Lw.m_law_next) (z_range : mg "range" = none) : FnOk P w K mg base (L2.CX P w) 2 f fd ["_law_src_here", "_law_many"] (VSp K ca [true, false] Lw.m_law_word) := by
  refine vf_of (k := 1) F sc_law_word rfl (by decide) fun cdv A outer s H E vs hr => ?_
  have tk : Takes (ctOf P w K mg base ca N_law_word "_law_word" (defScope s_law_word) f cdv A outer s H E [true, false] vs).X _ := takes_of rfl rfl rfl rfl
  exact (jb_cons (js_set 2 sc_law_word.nd rfl (by first | exact Or.inl rfl | exact Or.inr rfl) (by intro h; cases h) (je_d jd_str))
    (jb_one (js_ret (je_d (jd_join jd_str (jv_d (jd_fz (je_lc (own := [("_law_k", 3)]) rfl sc_law_word.nd (ji_range1 (by rfl) z_range (ja_cons (jd_var 1 (pv 1)) ja_nil)) (blkOk_by (own := [("_law_k", 3)]) (N := N_law_word) (sc := defScope s_law_word) (by decide +kernel)) (fun _ => (jg_name 3 (by intro h; cases h) (pg_name (i := 3) sc_law_word.nd rfl (by first | exact Or.inl rfl | exact Or.inr rfl)))) (by decide) (by intro k hk; simp only [List.map_cons, List.map_nil, List.mem_cons, List.not_mem_nil, or_false] at hk; rcases hk with rfl <;> (intro h; cases h)) (fun _ => jts_nil) (fun _ => (jd_ixP 2 (pv 2) (jd_fz (je_dx D_law_next hr (by decide) takes0 (by rfl) (jar_r 0 (pv 0) (jar_d jd_int jar_nil))))))))))))))
theorem ok_law_names {f : Addr} {fd : FuncData} (F : Fun K "_law_names" "_law_names" s_law_names f fd) (D_law_next : Dx P w K mg base ca "_law_next" 1 ["_law_src_here", "_law_base"] [true, false] Lw.m_law_next) (D_law_word : Dx P w K mg base ca "_law_word" 2 ["_law_src_here", "_law_many"] [true, false] Lw.m_law_word) (D_law_unlike : Dx P w K mg base ca "_law_unlike" 1 ["_law_names_here", "_law_name"] [true, false] Lw.m_law_unlike) (z_len : mg "len" = none) (z_range : mg "range" = none) : FnOk P w K mg base (L2.CX P w) 3 f fd ["_law_src_here", "_law_many"] (VSp K ca [true, false] Lw.m_law_names) := by
  refine vf_of (k := 2) F sc_law_names rfl (by decide) fun cdv A outer s H E vs hr => ?_
  have tk : Takes (ctOf P w K mg base ca N_law_names "_law_names" (defScope s_law_names) f cdv A outer s H E [true, false] vs).X _ := takes_of rfl rfl rfl rfl
  exact (jb_cons (js_set 2 sc_law_names.nd rfl (by first | exact Or.inl rfl | exact Or.inr rfl) (by intro h; cases h) (je_dx D_law_next hr (by decide) tk (by rfl) (jar_r 0 (pv 0) (jar_d jd_int jar_nil))))
    (jb_cons (js_set 3 sc_law_names.nd rfl (by first | exact Or.inl rfl | exact Or.inr rfl) (by intro h; cases h) (je_dx D_law_word hr (by decide) tk (by rfl) (jar_r 0 (pv 0) (jar_d (jd_fz (je_add jd_int (jd_fz (je_dx D_law_next hr (by decide) tk (by rfl) (jar_r 0 (pv 0) (jar_d jd_int jar_nil)))))) jar_nil))))
    (jb_cons (js_set 4 sc_law_names.nd rfl (by first | exact Or.inl rfl | exact Or.inr rfl) (by intro h; cases h) (je_dx D_law_next hr (by decide) tk (by rfl) (jar_r 0 (pv 0) (jar_d (jd_len (by rfl) z_len (jv_var 3 (pv 3))) jar_nil))))
    (jb_cons (js_set 5 sc_law_names.nd rfl (by first | exact Or.inl rfl | exact Or.inr rfl) (by intro h; cases h) (je_lst ja_nil))
    (jb_cons (js_for PassesOwn.leaving rfl (ji_range1 (by rfl) z_range (ja_cons (jd_var 1 (pv 1)) ja_nil)) (jg_name 6 (by intro h; cases h) (pg_name (i := 6) sc_law_names.nd rfl (by first | exact Or.inl rfl | exact Or.inr rfl))) (jb_cons (js_set 7 sc_law_names.nd rfl (by first | exact Or.inl rfl | exact Or.inr rfl) (by intro h; cases h) (je_add (jd_fz (je_add (jd_fz (je_slV (jv_var 3 (pv 3)) jo_no (jo_so (jd_var 4 (pv 4))))) (jd_fz (je_dx D_law_word hr (by decide) tk (by rfl) (jar_r 0 (pv 0) (jar_d jd_int jar_nil)))))) (jd_fz (je_slV (jv_var 3 (pv 3)) (jo_so (jd_fz (je_add (jd_var 4 (pv 4)) jd_int))) jo_no))))
    (jb_cons (js_if (jt_cmpN (cv_eq hr) (jv_var 2 (pv 2)) (jv_d jd_int) (nomark _)) (jb_one (js_set 7 sc_law_names.nd rfl (by first | exact Or.inl rfl | exact Or.inr rfl) (by intro h; cases h) (je_sl (jd_var 3 (pv 3)) jo_no (jo_so (jd_fz (je_add jd_int (jd_fz (je_dx D_law_next hr (by decide) tk (by rfl) (jar_r 0 (pv 0) (jar_d (jd_len (by rfl) z_len (jv_var 3 (pv 3))) jar_nil)))))))))) jb_nil)
    (jb_cons (js_if (jt_cmpN (cv_eq hr) (jv_var 2 (pv 2)) (jv_d jd_int) (nomark _)) (jb_one (js_set 7 sc_law_names.nd rfl (by first | exact Or.inl rfl | exact Or.inr rfl) (by intro h; cases h) (je_dx D_law_word hr (by decide) tk (by rfl) (jar_r 0 (pv 0) (jar_d (jd_fz (je_add jd_int (jd_fz (je_dx D_law_next hr (by decide) tk (by rfl) (jar_r 0 (pv 0) (jar_d jd_int jar_nil)))))) jar_nil))))) jb_nil)
    (jb_one (js_expr (je_append 5 (pv 5) (jd_fz (je_dx D_law_unlike hr (by decide) tk (by rfl) (jar_r 5 (pv 5) (jar_d (jd_var 7 (pv 7)) jar_nil)))))))))))
    (jb_one (js_ret (je_move 5 (pv 5)))))))))
theorem ok_law_weight {f : Addr} {fd : FuncData} (F : Fun K "_law_weight" "_law_weight" s_law_weight f fd) (D_law_next : Dx P w K mg base ca "_law_next" 1 ["_law_src_here", "_law_base"] [true, false] Lw.m_law_next) : FnOk P w K mg base (L2.CX P w) 2 f fd ["_law_src_here"] (VSp K ca [true] Lw.m_law_weight) := by
  refine vf_of (k := 1) F sc_law_weight rfl (by decide) fun cdv A outer s H E vs hr => ?_
  have tk : Takes (ctOf P w K mg base ca N_law_weight "_law_weight" (defScope s_law_weight) f cdv A outer s H E [true] vs).X _ := takes_of rfl rfl rfl rfl
  exact (jb_cons (js_set 1 sc_law_weight.nd rfl (by first | exact Or.inl rfl | exact Or.inr rfl) (by intro h; cases h) (je_dx D_law_next hr (by decide) tk (by rfl) (jar_r 0 (pv 0) (jar_d jd_int jar_nil))))
    (jb_cons (js_if (jt_cmpN (cv_eq hr) (jv_var 1 (pv 1)) (jv_d jd_int) (nomark _)) (jb_one (js_ret (je_add jd_int (jd_fz (je_dx D_law_next hr (by decide) tk (by rfl) (jar_r 0 (pv 0) (jar_d jd_int jar_nil))))))) jb_nil)
    (jb_cons (js_if (jt_cmpN (cv_eq hr) (jv_var 1 (pv 1)) (jv_d jd_int) (nomark _)) (jb_one (js_ret (je_d (jd_sub jd_int (jd_fz (je_dx D_law_next hr (by decide) tk (by rfl) (jar_r 0 (pv 0) (jar_d jd_int jar_nil)))))))) jb_nil)
    (jb_one (js_ret (je_add jd_int (jd_fz (je_dx D_law_next hr (by decide) tk (by rfl) (jar_r 0 (pv 0) (jar_d jd_int jar_nil))))))))))
theorem ok_law_total {f : Addr} {fd : FuncData} (F : Fun K "_law_total" "_law_total" s_law_total f fd)  : FnOk P w K mg base (L2.CX P w) 1 f fd ["_law_side_here"] (VSp K ca [false] Lw.m_law_total) := by
  refine vf_of (k := 0) F sc_law_total rfl (by decide) fun cdv A outer s H E vs hr => ?_
  have tk : Takes (ctOf P w K mg base ca N_law_total "_law_total" (defScope s_law_total) f cdv A outer s H E [false] vs).X _ := takes_of rfl rfl rfl rfl
  exact (jb_cons (js_set 1 sc_law_total.nd rfl (by first | exact Or.inl rfl | exact Or.inr rfl) (by intro h; cases h) (je_d jd_int))
    (jb_cons (js_for PassesOwn.leaving rfl (ji_any (jd_var 0 (pv 0))) (jg_tup rfl (jgs_cons (jg_name 2 (by intro h; cases h) (pg_name (i := 2) sc_law_total.nd rfl (by first | exact Or.inl rfl | exact Or.inr rfl))) (jgs_cons (jg_name 3 (by intro h; cases h) (pg_name (i := 3) sc_law_total.nd rfl (by first | exact Or.inl rfl | exact Or.inr rfl))) jgs_nil))) (jb_one (js_set 1 sc_law_total.nd rfl (by first | exact Or.inl rfl | exact Or.inr rfl) (by intro h; cases h) (je_add (jd_var 1 (pv 1)) (jd_var 3 (pv 3))))))
    (jb_one (js_ret (je_move 1 (pv 1))))))
theorem ok_law_side {f : Addr} {fd : FuncData} (F : Fun K "_law_side" "_law_side" s_law_side f fd) (D_law_weight : Dx P w K mg base ca "_law_weight" 2 ["_law_src_here"] [true] Lw.m_law_weight) (D_law_next : Dx P w K mg base ca "_law_next" 1 ["_law_src_here", "_law_base"] [true, false] Lw.m_law_next) (z_list : mg "list" = none) (z_range : mg "range" = none) (z_min : mg "min" = none) (z_len : mg "len" = none) : FnOk P w K mg base (L2.CX P w) 3 f fd ["_law_src_here", "_law_names_here", "_law_many"] (VSp K ca [true, false, false] Lw.m_law_side) := by
  refine vf_of (k := 2) F sc_law_side rfl (by decide) fun cdv A outer s H E vs hr => ?_
  have tk : Takes (ctOf P w K mg base ca N_law_side "_law_side" (defScope s_law_side) f cdv A outer s H E [true, false, false] vs).X _ := takes_of rfl rfl rfl rfl
  exact (jb_cons (js_set 3 sc_law_side.nd rfl (by first | exact Or.inl rfl | exact Or.inr rfl) (by intro h; cases h) (je_list (by rfl) z_list (jv_var 1 (pv 1))))
    (jb_cons (js_set 4 sc_law_side.nd rfl (by first | exact Or.inl rfl | exact Or.inr rfl) (by intro h; cases h) (je_lst ja_nil))
    (jb_cons (js_for PassesOwn.leaving rfl (ji_range1 (by rfl) z_range (ja_cons (jd_min rfl (by rfl) z_min (ja_cons (jd_var 2 (pv 2)) (ja_cons (jd_len (by rfl) z_len (jv_var 1 (pv 1))) ja_nil))) ja_nil)) (jg_name 5 (by intro h; cases h) (pg_name (i := 5) sc_law_side.nd rfl (by first | exact Or.inl rfl | exact Or.inr rfl))) (jb_one (js_expr (je_append 4 (pv 4) (jd_tup (ja_cons (jd_popAt 3 (pv 3) (jd_fz (je_dx D_law_next hr (by decide) tk (by rfl) (jar_r 0 (pv 0) (jar_d (jd_len (by rfl) z_len (jv_var 3 (pv 3))) jar_nil))))) (ja_cons (jd_fz (je_dx D_law_weight hr (by decide) tk (by rfl) (jar_r 0 (pv 0) jar_nil))) ja_nil)))))))
    (jb_one (js_ret (je_move 4 (pv 4)))))))
theorem ok_law_sum_first {f : Addr} {fd : FuncData} (F : Fun K "_law_sum_first" "_law_sum_first" s_law_sum_first f fd) (z_sorted : mg "sorted" = none) (z_max : mg "max" = none) (z_len : mg "len" = none) : FnOk P w K mg base (L2.CX P w) 1 f fd ["_law_side_here", "_law_many"] (VSp K ca [false, false] Lw.m_law_sum_first) := by
  refine vf_of (k := 0) F sc_law_sum_first rfl (by decide) fun cdv A outer s H E vs hr => ?_
  have tk : Takes (ctOf P w K mg base ca N_law_sum_first "_law_sum_first" (defScope s_law_sum_first) f cdv A outer s H E [false, false] vs).X _ := takes_of rfl rfl rfl rfl
  exact (jb_cons (js_set 2 sc_law_sum_first.nd rfl (by first | exact Or.inl rfl | exact Or.inr rfl) (by intro h; cases h) (je_sorted (by rfl) z_sorted (jv_d (jd_fz (je_lc (own := [("_law_name", 5), ("_law_weight_here", 4)]) rfl sc_law_sum_first.nd (ji_any (jd_var 0 (pv 0))) (blkOk_by (own := [("_law_name", 5), ("_law_weight_here", 4)]) (N := N_law_sum_first) (sc := defScope s_law_sum_first) (by decide +kernel)) (fun _ => (jg_tup rfl (jgs_cons (jg_name 5 (by intro h; cases h) (pg_name (i := 5) sc_law_sum_first.nd rfl (by first | exact Or.inl rfl | exact Or.inr rfl))) (jgs_cons (jg_name 4 (by intro h; cases h) (pg_name (i := 4) sc_law_sum_first.nd rfl (by first | exact Or.inl rfl | exact Or.inr rfl))) jgs_nil)))) (by decide) (by intro k hk; simp only [List.map_cons, List.map_nil, List.mem_cons, List.not_mem_nil, or_false] at hk; rcases hk with rfl | rfl <;> (intro h; cases h)) (fun _ => jts_nil) (fun _ => (jd_var 4 (pv 4))))))))
    (jb_cons (js_set 3 sc_law_sum_first.nd rfl (by first | exact Or.inl rfl | exact Or.inr rfl) (by intro h; cases h) (je_d jd_int))
    (jb_cons (js_for PassesOwn.leaving rfl (ji_any (jd_fz (je_slV (jv_var 2 (pv 2)) (jo_so (jd_max rfl (by rfl) z_max (ja_cons jd_int (ja_cons (jd_sub (jd_len (by rfl) z_len (jv_var 2 (pv 2))) (jd_var 1 (pv 1))) ja_nil)))) jo_no))) (jg_name 4 (by intro h; cases h) (pg_name (i := 4) sc_law_sum_first.nd rfl (by first | exact Or.inl rfl | exact Or.inr rfl))) (jb_one (js_set 3 sc_law_sum_first.nd rfl (by first | exact Or.inl rfl | exact Or.inr rfl) (by intro h; cases h) (je_add (jd_var 3 (pv 3)) (jd_var 4 (pv 4))))))
    (jb_one (js_ret (je_move 3 (pv 3)))))))
theorem ok_law {f : Addr} {fd : FuncData} (F : Fun K "law" "law" s_law f fd) (D_law_src : Dx P w K mg base ca "_law_src" 1 ["_law_script"] [true] Lw.m_law_src) (D_law_names : Dx P w K mg base ca "_law_names" 3 ["_law_src_here", "_law_many"] [true, false] Lw.m_law_names) (D_law_side : Dx P w K mg base ca "_law_side" 3 ["_law_src_here", "_law_names_here", "_law_many"] [true, false, false] Lw.m_law_side) (D_law_next : Dx P w K mg base ca "_law_next" 1 ["_law_src_here", "_law_base"] [true, false] Lw.m_law_next) (D_law_total : Dx P w K mg base ca "_law_total" 1 ["_law_side_here"] [false] Lw.m_law_total) (D_law_sum_first : Dx P w K mg base ca "_law_sum_first" 1 ["_law_side_here", "_law_many"] [false, false] Lw.m_law_sum_first) (D_fewest_to : Dx P w K mg base ca "fewest_to" 1 ["side", "goal"] [false, false] Lw.m_fewest_to) (D_law_same : Dx P w K mg base ca "_law_same" 14 ["_law_found", "_law_due"] [false, false] (Lw.m_law_same 12)) (z_list : mg "list" = none) (z_isinstance : mg "isinstance" = none) (z_str : mg "str" = none) (z_len : mg "len" = none) : FnOk P w K mg base (L2.CX P w) 15 f fd ["_law_script"] (VSp K ca [true] Lw.m_main_k03) := by
  refine vf_of (k := 14) F sc_law rfl (by decide) fun cdv A outer s H E vs hr => ?_
  have tk : Takes (ctOf P w K mg base ca N_law "law" (defScope s_law) f cdv A outer s H E [true] vs).X _ := takes_of rfl rfl rfl rfl
  exact (jb_cons (js_set 1 sc_law.nd rfl (by first | exact Or.inl rfl | exact Or.inr rfl) (by intro h; cases h) (je_dx D_law_src hr (by decide) tk (by rfl) (jar_r 0 (pv 0) jar_nil)))
    (jb_cons (js_set 2 sc_law.nd rfl (by first | exact Or.inl rfl | exact Or.inr rfl) (by intro h; cases h) (je_dx D_law_names hr (by decide) tk (by rfl) (jar_r 1 (pv 1) (jar_d jd_int jar_nil))))
    (jb_cons (js_set 3 sc_law.nd rfl (by first | exact Or.inl rfl | exact Or.inr rfl) (by intro h; cases h) (je_dx D_law_side hr (by decide) tk (by rfl) (jar_r 1 (pv 1) (jar_d (jd_var 2 (pv 2)) (jar_d (jd_fz (je_dx D_law_next hr (by decide) tk (by rfl) (jar_r 1 (pv 1) (jar_d jd_int jar_nil)))) jar_nil)))))
    (jb_cons (js_set 4 sc_law.nd rfl (by first | exact Or.inl rfl | exact Or.inr rfl) (by intro h; cases h) (je_list (by rfl) z_list (jv_var 3 (pv 3))))
    (jb_cons (js_set 5 sc_law.nd rfl (by first | exact Or.inl rfl | exact Or.inr rfl) (by intro h; cases h) (je_d (jd_sub (jd_fz (je_dx D_law_next hr (by decide) tk (by rfl) (jar_r 1 (pv 1) (jar_d (jd_fz (je_add (jd_fz (je_dx D_law_total hr (by decide) tk (by rfl) (jar_d (jd_var 4 (pv 4)) jar_nil))) jd_int)) jar_nil)))) jd_int)))
    (jb_cons (js_if (jt_cmpN (cv_eq hr) (jv_d (jd_fz (je_dx D_law_next hr (by decide) tk (by rfl) (jar_r 1 (pv 1) (jar_d jd_int jar_nil))))) (jv_d jd_int) (nomark _)) (jb_one (js_set 5 sc_law.nd rfl (by first | exact Or.inl rfl | exact Or.inr rfl) (by intro h; cases h) (je_add (jd_sub (jd_fz (je_dx D_law_sum_first hr (by decide) tk (by rfl) (jar_d (jd_var 4 (pv 4)) (jar_d (jd_fz (je_dx D_law_next hr (by decide) tk (by rfl) (jar_r 1 (pv 1) (jar_d jd_int jar_nil)))) jar_nil)))) jd_int) (jd_fz (je_dx D_law_next hr (by decide) tk (by rfl) (jar_r 1 (pv 1) (jar_d jd_int jar_nil))))))) jb_nil)
    (jb_cons (js_if (jt_cmpN (cv_eq hr) (jv_d (jd_fz (je_dx D_law_next hr (by decide) tk (by rfl) (jar_r 1 (pv 1) (jar_d jd_int jar_nil))))) (jv_d jd_int) (nomark _)) (jb_one (js_set 5 sc_law.nd rfl (by first | exact Or.inl rfl | exact Or.inr rfl) (by intro h; cases h) (je_d (jd_ix (jd_fz (je_lst (ja_cons (jd_pow jd_int jd_int) (ja_cons (jd_neg (jd_pow jd_int jd_int)) ja_nil)))) (jd_fz (je_dx D_law_next hr (by decide) tk (by rfl) (jar_r 1 (pv 1) (jar_d jd_int jar_nil)))))))) jb_nil)
    (jb_cons (js_set 6 sc_law.nd rfl (by first | exact Or.inl rfl | exact Or.inr rfl) (by intro h; cases h) (je_dx D_fewest_to hr (by decide) tk (by rfl) (jar_d (jd_var 3 (pv 3)) (jar_d (jd_var 5 (pv 5)) jar_nil))))
    (jb_cons (js_if (jt_val (jd_isi (T := "list") (by rfl) z_isinstance (by rfl) z_list (by decide +kernel) (jv_var 6 (pv 6)))) (jb_cons (js_expr (je_append 6 (pv 6) jd_str))
    (jb_cons (js_set 6 sc_law.nd rfl (by first | exact Or.inl rfl | exact Or.inr rfl) (by intro h; cases h) (je_dx D_fewest_to hr (by decide) tk (by rfl) (jar_d (jd_var 3 (pv 3)) (jar_d (jd_var 5 (pv 5)) jar_nil))))
    (jb_one (js_if (jt_cmpN (cv_in hr) (jv_d jd_str) (jv_var 6 (pv 6)) rfl) (jb_one (js_ret (je_d jd_bl))) jb_nil)))) jb_nil)
    (jb_cons (js_if (jt_not (jt_val (jd_fz (je_dx D_law_same hr (by decide) tk (by rfl) (jar_d (jd_var 3 (pv 3)) (jar_d (jd_var 4 (pv 4)) jar_nil)))))) (jb_one (js_ret (je_d jd_bl))) jb_nil)
    (jb_cons (js_if (jt_w (jw_and (jt_cmpN cv_gt (jv_var 5 (pv 5)) (jv_d (jd_fz (je_dx D_law_total hr (by decide) tk (by rfl) (jar_d (jd_var 4 (pv 4)) jar_nil)))) (nomark _)) (jw_and1 (jt_cmpN cv_gt (jv_var 5 (pv 5)) (jv_d jd_int) (nomark _))))) (jb_one (js_ret (je_d (jd_cmpN cv_is (jv_var 6 (pv 6)) (jv_d jd_non) (nomark _))))) jb_nil)
    (jb_cons (js_if (jt_not (jt_val (jd_isi (T := "list") (by rfl) z_isinstance (by rfl) z_list (by decide +kernel) (jv_var 6 (pv 6))))) (jb_one (js_ret (je_d jd_bl))) jb_nil)
    (jb_cons (js_set 7 sc_law.nd rfl (by first | exact Or.inl rfl | exact Or.inr rfl) (by intro h; cases h) (je_d jd_int))
    (jb_cons (js_for PassesOwn.leaving rfl (ji_any (jd_var 6 (pv 6))) (jg_name 8 (by intro h; cases h) (pg_name (i := 8) sc_law.nd rfl (by first | exact Or.inl rfl | exact Or.inr rfl))) (jb_cons (js_if (jt_w (jw_or (jt_not (jt_val (jd_isi (T := "str") (by rfl) z_isinstance (by rfl) z_str (by decide +kernel) (jv_var 8 (pv 8))))) (jw_or1 (jt_cmpN (cv_ne hr) (jv_d (jd_countS (jv_var 6 (pv 6)) (jd_var 8 (pv 8)))) (jv_d jd_int) (nomark _))))) (jb_one (js_ret (je_d jd_bl))) jb_nil)
    (jb_cons (js_setLc (own := [("_law_one", 10), ("_law_weight_here", 11)]) (i := 9) rfl sc_law.nd rfl rfl (by intro h; cases h) (sw_true rfl rfl rfl (by decide +kernel)) (ji_any (jd_var 4 (pv 4))) (blkOk_by (own := [("_law_one", 10), ("_law_weight_here", 11)]) (N := N_law) (sc := defScope s_law) (by decide +kernel)) (fun _ => (jg_tup rfl (jgs_cons (jg_name 10 (by intro h; cases h) (pg_name (i := 10) sc_law.nd rfl (by first | exact Or.inl rfl | exact Or.inr rfl))) (jgs_cons (jg_name 11 (by intro h; cases h) (pg_name (i := 11) sc_law.nd rfl (by first | exact Or.inl rfl | exact Or.inr rfl))) jgs_nil)))) (by decide) (by intro k hk; simp only [List.map_cons, List.map_nil, List.mem_cons, List.not_mem_nil, or_false] at hk; rcases hk with rfl | rfl <;> (intro h; cases h)) (fun _ => (jts_one (jt_cmpN (cv_eq hr) (jv_var 10 (pv 10)) (jv_var 8 (pv 8)) (nomark _)))) (fun _ => (jd_var 11 (pv 11))))
    (jb_cons (js_if (jt_cmpN (cv_ne hr) (jv_d (jd_len (by rfl) z_len (jv_var 9 (pv 9)))) (jv_d jd_int) (nomark _)) (jb_one (js_ret (je_d jd_bl))) jb_nil)
    (jb_one (js_set 7 sc_law.nd rfl (by first | exact Or.inl rfl | exact Or.inr rfl) (by intro h; cases h) (je_add (jd_var 7 (pv 7)) (jd_ixP 9 (pv 9) jd_int))))))))
    (jb_cons (js_if (jt_cmpN cv_lt (jv_var 5 (pv 5)) (jv_d jd_int) (nomark _)) (jb_one (js_ret (je_d (jd_cmpN (cv_eq hr) (jv_d (jd_len (by rfl) z_len (jv_var 6 (pv 6)))) (jv_d jd_int) (nomark _))))) jb_nil)
    (jb_one (js_ret (je_d (jd_and (jd_cmpN cv_ge (jv_var 7 (pv 7)) (jv_var 5 (pv 5)) (nomark _)) (jd_one (jd_cmpN cv_lt (jv_d (jd_fz (je_dx D_law_sum_first hr (by decide) tk (by rfl) (jar_d (jd_var 4 (pv 4)) (jar_d (jd_sub (jd_len (by rfl) z_len (jv_var 6 (pv 6))) jd_int) jar_nil))))) (jv_var 5 (pv 5)) (nomark _))))))))))))))))))))))
end
end Tx

namespace Tx
open PySem PySem.Spec PyProof.Rows L2 VS
theorem all_mk {l : PySem.W.OpenLaw} {w : World} {K : PySem.W.Frag} {h : Heap} {mg : Str → Option Value} {fa : Addr} (X : K.In h) (G : h.Ns mainGlobals mg) (hfa : mg "law" = some (.ref fa))
    {f0 : Addr} {od0 an0 : Option Addr} {sl0 : Array (Option Value)} {oc0 kV0 dc0 pm0 cd0 ct0 : Value}
    {f1 : Addr} {od1 an1 : Option Addr} {sl1 : Array (Option Value)} {oc1 kV1 dc1 pm1 cd1 ct1 : Value}
    {f2 : Addr} {od2 an2 : Option Addr} {sl2 : Array (Option Value)} {oc2 kV2 dc2 pm2 cd2 ct2 : Value}
    {f3 : Addr} {od3 an3 : Option Addr} {sl3 : Array (Option Value)} {oc3 kV3 dc3 pm3 cd3 ct3 : Value}
    {f4 : Addr} {od4 an4 : Option Addr} {sl4 : Array (Option Value)} {oc4 kV4 dc4 pm4 cd4 ct4 : Value}
    {f5 : Addr} {od5 an5 : Option Addr} {sl5 : Array (Option Value)} {oc5 kV5 dc5 pm5 cd5 ct5 : Value}
    {f6 : Addr} {od6 an6 : Option Addr} {sl6 : Array (Option Value)} {oc6 kV6 dc6 pm6 cd6 ct6 : Value}
    {f7 : Addr} {od7 an7 : Option Addr} {sl7 : Array (Option Value)} {oc7 kV7 dc7 pm7 cd7 ct7 : Value}
    {f8 : Addr} {od8 an8 : Option Addr} {sl8 : Array (Option Value)} {oc8 kV8 dc8 pm8 cd8 ct8 : Value}
    {f9 : Addr} {od9 an9 : Option Addr} {sl9 : Array (Option Value)} {oc9 kV9 dc9 pm9 cd9 ct9 : Value}
    {f10 : Addr} {od10 an10 : Option Addr} {sl10 : Array (Option Value)} {oc10 kV10 dc10 pm10 cd10 ct10 : Value}
    {f11 : Addr} {od11 an11 : Option Addr} {sl11 : Array (Option Value)} {oc11 kV11 dc11 pm11 cd11 ct11 : Value}
    {f12 : Addr} {od12 an12 : Option Addr} {sl12 : Array (Option Value)} {oc12 kV12 dc12 pm12 cd12 ct12 : Value}
    {f13 : Addr} {od13 an13 : Option Addr} {sl13 : Array (Option Value)} {oc13 kV13 dc13 pm13 cd13 ct13 : Value}
    (a0 : PySem.W.nsIn K mainGlobals "weight_last" = some (some (.ref f0))) (l0 : K.lookup f0 = some ⟨oc0, od0, .func (PySem.W.fnOf "weight_last" "weight_last" (defArgs s_weight_last) (defBody s_weight_last) (defScope s_weight_last) .none kV0 dc0 pm0 an0 cd0 ct0), sl0⟩) (c0 : PySem.W.codeIn K cd0 "weight_last" = true) (k0 : PySem.W.keepIn K (.ref f0) = true)
    (a1 : PySem.W.nsIn K mainGlobals "fewest_to" = some (some (.ref f1))) (l1 : K.lookup f1 = some ⟨oc1, od1, .func (PySem.W.fnOf "fewest_to" "fewest_to" (defArgs s_fewest_to) (defBody s_fewest_to) (defScope s_fewest_to) .none kV1 dc1 pm1 an1 cd1 ct1), sl1⟩) (c1 : PySem.W.codeIn K cd1 "fewest_to" = true) (k1 : PySem.W.keepIn K (.ref f1) = true)
    (a2 : PySem.W.nsIn K mainGlobals "_law_src" = some (some (.ref f2))) (l2 : K.lookup f2 = some ⟨oc2, od2, .func (PySem.W.fnOf "_law_src" "_law_src" (defArgs s_law_src) (defBody s_law_src) (defScope s_law_src) .none kV2 dc2 pm2 an2 cd2 ct2), sl2⟩) (c2 : PySem.W.codeIn K cd2 "_law_src" = true) (k2 : PySem.W.keepIn K (.ref f2) = true)
    (a3 : PySem.W.nsIn K mainGlobals "_law_next" = some (some (.ref f3))) (l3 : K.lookup f3 = some ⟨oc3, od3, .func (PySem.W.fnOf "_law_next" "_law_next" (defArgs s_law_next) (defBody s_law_next) (defScope s_law_next) .none kV3 dc3 pm3 an3 cd3 ct3), sl3⟩) (c3 : PySem.W.codeIn K cd3 "_law_next" = true) (k3 : PySem.W.keepIn K (.ref f3) = true)
    (a4 : PySem.W.nsIn K mainGlobals "_law_whole" = some (some (.ref f4))) (l4 : K.lookup f4 = some ⟨oc4, od4, .func (PySem.W.fnOf "_law_whole" "_law_whole" (defArgs s_law_whole) (defBody s_law_whole) (defScope s_law_whole) .none kV4 dc4 pm4 an4 cd4 ct4), sl4⟩) (c4 : PySem.W.codeIn K cd4 "_law_whole" = true) (k4 : PySem.W.keepIn K (.ref f4) = true)
    (a5 : PySem.W.nsIn K mainGlobals "_law_same" = some (some (.ref f5))) (l5 : K.lookup f5 = some ⟨oc5, od5, .func (PySem.W.fnOf "_law_same" "_law_same" (defArgs s_law_same) (defBody s_law_same) (defScope s_law_same) .none kV5 dc5 pm5 an5 cd5 ct5), sl5⟩) (c5 : PySem.W.codeIn K cd5 "_law_same" = true) (k5 : PySem.W.keepIn K (.ref f5) = true)
    (a6 : PySem.W.nsIn K mainGlobals "_law_unlike" = some (some (.ref f6))) (l6 : K.lookup f6 = some ⟨oc6, od6, .func (PySem.W.fnOf "_law_unlike" "_law_unlike" (defArgs s_law_unlike) (defBody s_law_unlike) (defScope s_law_unlike) .none kV6 dc6 pm6 an6 cd6 ct6), sl6⟩) (c6 : PySem.W.codeIn K cd6 "_law_unlike" = true) (k6 : PySem.W.keepIn K (.ref f6) = true)
    (a7 : PySem.W.nsIn K mainGlobals "_law_word" = some (some (.ref f7))) (l7 : K.lookup f7 = some ⟨oc7, od7, .func (PySem.W.fnOf "_law_word" "_law_word" (defArgs s_law_word) (defBody s_law_word) (defScope s_law_word) .none kV7 dc7 pm7 an7 cd7 ct7), sl7⟩) (c7 : PySem.W.codeIn K cd7 "_law_word" = true) (k7 : PySem.W.keepIn K (.ref f7) = true)
    (a8 : PySem.W.nsIn K mainGlobals "_law_names" = some (some (.ref f8))) (l8 : K.lookup f8 = some ⟨oc8, od8, .func (PySem.W.fnOf "_law_names" "_law_names" (defArgs s_law_names) (defBody s_law_names) (defScope s_law_names) .none kV8 dc8 pm8 an8 cd8 ct8), sl8⟩) (c8 : PySem.W.codeIn K cd8 "_law_names" = true) (k8 : PySem.W.keepIn K (.ref f8) = true)
    (a9 : PySem.W.nsIn K mainGlobals "_law_weight" = some (some (.ref f9))) (l9 : K.lookup f9 = some ⟨oc9, od9, .func (PySem.W.fnOf "_law_weight" "_law_weight" (defArgs s_law_weight) (defBody s_law_weight) (defScope s_law_weight) .none kV9 dc9 pm9 an9 cd9 ct9), sl9⟩) (c9 : PySem.W.codeIn K cd9 "_law_weight" = true) (k9 : PySem.W.keepIn K (.ref f9) = true)
    (a10 : PySem.W.nsIn K mainGlobals "_law_total" = some (some (.ref f10))) (l10 : K.lookup f10 = some ⟨oc10, od10, .func (PySem.W.fnOf "_law_total" "_law_total" (defArgs s_law_total) (defBody s_law_total) (defScope s_law_total) .none kV10 dc10 pm10 an10 cd10 ct10), sl10⟩) (c10 : PySem.W.codeIn K cd10 "_law_total" = true) (k10 : PySem.W.keepIn K (.ref f10) = true)
    (a11 : PySem.W.nsIn K mainGlobals "_law_side" = some (some (.ref f11))) (l11 : K.lookup f11 = some ⟨oc11, od11, .func (PySem.W.fnOf "_law_side" "_law_side" (defArgs s_law_side) (defBody s_law_side) (defScope s_law_side) .none kV11 dc11 pm11 an11 cd11 ct11), sl11⟩) (c11 : PySem.W.codeIn K cd11 "_law_side" = true) (k11 : PySem.W.keepIn K (.ref f11) = true)
    (a12 : PySem.W.nsIn K mainGlobals "_law_sum_first" = some (some (.ref f12))) (l12 : K.lookup f12 = some ⟨oc12, od12, .func (PySem.W.fnOf "_law_sum_first" "_law_sum_first" (defArgs s_law_sum_first) (defBody s_law_sum_first) (defScope s_law_sum_first) .none kV12 dc12 pm12 an12 cd12 ct12), sl12⟩) (c12 : PySem.W.codeIn K cd12 "_law_sum_first" = true) (k12 : PySem.W.keepIn K (.ref f12) = true)
    (a13 : PySem.W.nsIn K mainGlobals "law" = some (some (.ref f13))) (l13 : K.lookup f13 = some ⟨oc13, od13, .func (PySem.W.fnOf "law" "law" (defArgs s_law) (defBody s_law) (defScope s_law) .none kV13 dc13 pm13 an13 cd13 ct13), sl13⟩) (c13 : PySem.W.codeIn K cd13 "law" = true) (k13 : PySem.W.keepIn K (.ref f13) = true)
    (y_sorted : PySem.W.nsIn K mainGlobals "sorted" = some none)
    (y_list : PySem.W.nsIn K mainGlobals "list" = some none)
    (y_len : PySem.W.nsIn K mainGlobals "len" = some none)
    (y_isinstance : PySem.W.nsIn K mainGlobals "isinstance" = some none)
    (y_int : PySem.W.nsIn K mainGlobals "int" = some none)
    (y_bool : PySem.W.nsIn K mainGlobals "bool" = some none)
    (y_str : PySem.W.nsIn K mainGlobals "str" = some none)
    (y_tuple : PySem.W.nsIn K mainGlobals "tuple" = some none)
    (y_zip : PySem.W.nsIn K mainGlobals "zip" = some none)
    (y_range : PySem.W.nsIn K mainGlobals "range" = some none)
    (y_min : PySem.W.nsIn K mainGlobals "min" = some none)
    (y_max : PySem.W.nsIn K mainGlobals "max" = some none)
    : ∃ fd : FuncData, (∀ (s : Shared) (v : Value), BindsTo s fd ⟨[v], []⟩ [("_law_script", v)]) ∧ ∀ base : Heap, K.In base → base.Ns mainGlobals mg → FnOk l.prog w K mg base (L2.CX l.prog w) 15 fa fd ["_law_script"] (VSp K (fun _ => 0) [true] Lw.m_main_k03) := by
  have e := hfa.symm.trans (PySem.W.mg_of X G a13)
  cases e
  have z_sorted := PySem.W.mg_none_of X G y_sorted
  have z_list := PySem.W.mg_none_of X G y_list
  have z_len := PySem.W.mg_none_of X G y_len
  have z_isinstance := PySem.W.mg_none_of X G y_isinstance
  have z_int := PySem.W.mg_none_of X G y_int
  have z_bool := PySem.W.mg_none_of X G y_bool
  have z_str := PySem.W.mg_none_of X G y_str
  have z_tuple := PySem.W.mg_none_of X G y_tuple
  have z_zip := PySem.W.mg_none_of X G y_zip
  have z_range := PySem.W.mg_none_of X G y_range
  have z_min := PySem.W.mg_none_of X G y_min
  have z_max := PySem.W.mg_none_of X G y_max
  have F0 := fun_mk (st := s_weight_last) l0 c0 k0
  have b0 := F0.binds (ps := ["oath"]) fun _ _ _ _ _ _ us hl => match us, hl with | [_], _ => rfl
  have F1 := fun_mk (st := s_fewest_to) l1 c1 k1
  have b1 := F1.binds (ps := ["side", "goal"]) fun _ _ _ _ _ _ us hl => match us, hl with | [_, _], _ => rfl
  have F2 := fun_mk (st := s_law_src) l2 c2 k2
  have b2 := F2.binds (ps := ["_law_script"]) fun _ _ _ _ _ _ us hl => match us, hl with | [_], _ => rfl
  have F3 := fun_mk (st := s_law_next) l3 c3 k3
  have b3 := F3.binds (ps := ["_law_src_here", "_law_base"]) fun _ _ _ _ _ _ us hl => match us, hl with | [_, _], _ => rfl
  have F4 := fun_mk (st := s_law_whole) l4 c4 k4
  have b4 := F4.binds (ps := ["_law_found"]) fun _ _ _ _ _ _ us hl => match us, hl with | [_], _ => rfl
  have F5 := fun_mk (st := s_law_same) l5 c5 k5
  have b5 := F5.binds (ps := ["_law_found", "_law_due"]) fun _ _ _ _ _ _ us hl => match us, hl with | [_, _], _ => rfl
  have F6 := fun_mk (st := s_law_unlike) l6 c6 k6
  have b6 := F6.binds (ps := ["_law_names_here", "_law_name"]) fun _ _ _ _ _ _ us hl => match us, hl with | [_, _], _ => rfl
  have F7 := fun_mk (st := s_law_word) l7 c7 k7
  have b7 := F7.binds (ps := ["_law_src_here", "_law_many"]) fun _ _ _ _ _ _ us hl => match us, hl with | [_, _], _ => rfl
  have F8 := fun_mk (st := s_law_names) l8 c8 k8
  have b8 := F8.binds (ps := ["_law_src_here", "_law_many"]) fun _ _ _ _ _ _ us hl => match us, hl with | [_, _], _ => rfl
  have F9 := fun_mk (st := s_law_weight) l9 c9 k9
  have b9 := F9.binds (ps := ["_law_src_here"]) fun _ _ _ _ _ _ us hl => match us, hl with | [_], _ => rfl
  have F10 := fun_mk (st := s_law_total) l10 c10 k10
  have b10 := F10.binds (ps := ["_law_side_here"]) fun _ _ _ _ _ _ us hl => match us, hl with | [_], _ => rfl
  have F11 := fun_mk (st := s_law_side) l11 c11 k11
  have b11 := F11.binds (ps := ["_law_src_here", "_law_names_here", "_law_many"]) fun _ _ _ _ _ _ us hl => match us, hl with | [_, _, _], _ => rfl
  have F12 := fun_mk (st := s_law_sum_first) l12 c12 k12
  have b12 := F12.binds (ps := ["_law_side_here", "_law_many"]) fun _ _ _ _ _ _ us hl => match us, hl with | [_, _], _ => rfl
  have F13 := fun_mk (st := s_law) l13 c13 k13
  refine ⟨PySem.W.fnOf "law" "law" (defArgs s_law) (defBody s_law) (defScope s_law) .none kV13 dc13 pm13 an13 cd13 ct13, fun s v => .of_eq rfl, fun base _ _ => ?_⟩
  have K_weight_last : KeyAt1 l.prog w K mg "weight_last" := key_at1 F0 sc_weight_last rfl b0 (PySem.W.mg_of X G a0) (by rfl) rfl
  have D_weight_last := dx_of (ok_weight_last (P := l.prog) (w := w) (base := base) (ca := fun _ => 0) F0 ) (PySem.W.mg_of X G a0) k0 b0
  have D_fewest_to := dx_of (ok_fewest_to (P := l.prog) (w := w) (base := base) (ca := fun _ => 0) F1 K_weight_last z_sorted) (PySem.W.mg_of X G a1) k1 b1
  have D_law_src := dx_of (ok_law_src (P := l.prog) (w := w) (base := base) (ca := fun _ => 0) F2 z_list) (PySem.W.mg_of X G a2) k2 b2
  have D_law_next := dx_of (ok_law_next (P := l.prog) (w := w) (base := base) (ca := fun _ => 0) F3 z_len) (PySem.W.mg_of X G a3) k3 b3
  have D_law_whole := dx_of (ok_law_whole (P := l.prog) (w := w) (base := base) (ca := fun _ => 0) F4 z_isinstance z_int z_bool) (PySem.W.mg_of X G a4) k4 b4
  have D_law_same := ok_law_same (P := l.prog) (w := w) (base := base) (ca := fun _ => 0) F5 D_law_whole z_isinstance z_bool z_int z_str z_list z_tuple z_len z_zip (PySem.W.mg_of X G a5) k5 b5 12
  have D_law_unlike := dx_of (ok_law_unlike (P := l.prog) (w := w) (base := base) (ca := fun _ => 0) F6 z_range z_len) (PySem.W.mg_of X G a6) k6 b6
  have D_law_word := dx_of (ok_law_word (P := l.prog) (w := w) (base := base) (ca := fun _ => 0) F7 D_law_next z_range) (PySem.W.mg_of X G a7) k7 b7
  have D_law_names := dx_of (ok_law_names (P := l.prog) (w := w) (base := base) (ca := fun _ => 0) F8 D_law_next D_law_word D_law_unlike z_len z_range) (PySem.W.mg_of X G a8) k8 b8
  have D_law_weight := dx_of (ok_law_weight (P := l.prog) (w := w) (base := base) (ca := fun _ => 0) F9 D_law_next) (PySem.W.mg_of X G a9) k9 b9
  have D_law_total := dx_of (ok_law_total (P := l.prog) (w := w) (base := base) (ca := fun _ => 0) F10 ) (PySem.W.mg_of X G a10) k10 b10
  have D_law_side := dx_of (ok_law_side (P := l.prog) (w := w) (base := base) (ca := fun _ => 0) F11 D_law_weight D_law_next z_list z_range z_min z_len) (PySem.W.mg_of X G a11) k11 b11
  have D_law_sum_first := dx_of (ok_law_sum_first (P := l.prog) (w := w) (base := base) (ca := fun _ => 0) F12 z_sorted z_max z_len) (PySem.W.mg_of X G a12) k12 b12
  exact ok_law F13 D_law_src D_law_names D_law_side D_law_next D_law_total D_law_sum_first D_fewest_to D_law_same z_list z_isinstance z_str z_len
end Tx
open PySem PySem.W PyProof.Rows
set_option maxHeartbeats 0 in
theorem PySem.Challenge.cw_forsworn_k03_fewest_names_holds : PySem.Challenge.rw_forsworn_k03_fewest_names.Holds := by
  w_on; o_law; k_head; (case hw => w_witness2)
  k_fill
  refine L2.walk_of (l := PySem.Challenge.rw_forsworn_k03_fewest_names) (n := 63) (k := 15) (x := "_law_script") (CX := fun w => L2.CX PySem.Challenge.rw_forsworn_k03_fewest_names.prog w) (sp := fun w => VS.VSp _ (fun _ => 0) [true] Lw.m_main_k03) rfl (by decide) rfl ⟨rfl, by decide, by decide⟩ (fun w h Y => PySem.W.kIn_of Y) ?F (fun _ _ a ns hl _ hS => (Lw.true_k03 ns hl).elim fun L h => VS.law_sp hS h) (fun _ H s e s' h => VS.cx_false H s e s' h)
  case F =>
    intro w mg fa h KX G hmg
    refine' Tx.all_mk KX G hmg ?a0 ?l0 ?c0 ?k0 ?a1 ?l1 ?c1 ?k1 ?a2 ?l2 ?c2 ?k2 ?a3 ?l3 ?c3 ?k3 ?a4 ?l4 ?c4 ?k4 ?a5 ?l5 ?c5 ?k5 ?a6 ?l6 ?c6 ?k6 ?a7 ?l7 ?c7 ?k7 ?a8 ?l8 ?c8 ?k8 ?a9 ?l9 ?c9 ?k9 ?a10 ?l10 ?c10 ?k10 ?a11 ?l11 ?c11 ?k11 ?a12 ?l12 ?c12 ?k12 ?a13 ?l13 ?c13 ?k13 ?y_sorted ?y_list ?y_len ?y_isinstance ?y_int ?y_bool ?y_str ?y_tuple ?y_zip ?y_range ?y_min ?y_max
    (case a0 => k_is); (case l0 => k_is); (case c0 => k_is); (case k0 => k_is); (case a1 => k_is); (case l1 => k_is)
    (case c1 => k_is); (case k1 => k_is); (case a2 => k_is); (case l2 => k_is); (case c2 => k_is); (case k2 => k_is)
    (case a3 => k_is); (case l3 => k_is); (case c3 => k_is); (case k3 => k_is); (case a4 => k_is); (case l4 => k_is)
    (case c4 => k_is); (case k4 => k_is); (case a5 => k_is); (case l5 => k_is); (case c5 => k_is); (case k5 => k_is)
    (case a6 => k_is); (case l6 => k_is); (case c6 => k_is); (case k6 => k_is); (case a7 => k_is); (case l7 => k_is)
    (case c7 => k_is); (case k7 => k_is); (case a8 => k_is); (case l8 => k_is); (case c8 => k_is); (case k8 => k_is)
    (case a9 => k_is); (case l9 => k_is); (case c9 => k_is); (case k9 => k_is); (case a10 => k_is); (case l10 => k_is)
    (case c10 => k_is); (case k10 => k_is); (case a11 => k_is); (case l11 => k_is); (case c11 => k_is); (case k11 => k_is)
    (case a12 => k_is); (case l12 => k_is); (case c12 => k_is); (case k12 => k_is); (case a13 => k_is); (case l13 => k_is)
    (case c13 => k_is); (case k13 => k_is); (case y_sorted => k_is); (case y_list => k_is); (case y_len => k_is); (case y_isinstance => k_is)
    (case y_int => k_is); (case y_bool => k_is); (case y_str => k_is); (case y_tuple => k_is); (case y_zip => k_is); (case y_range => k_is)
    (case y_min => k_is); (case y_max => k_is)

