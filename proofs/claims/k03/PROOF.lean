import PyProof.Rows.All
import Wide.All
import OpenK.AllK
import Wide.FinOn
import HandS.ForMost
import HandS.Walk
import HandS.TupMul
import HandS.Deep
import HandS.IsInst
import HandS.TupLe
import HandS.SortInts
import HandS.TupAny
import HandS.Conv
import HandS.Text
import HandS.Flow
import HandS.Words
import HandS.Codes
import HandS.Ends
import PySem.Challenge.RW_everyhaven_k03_whole_best_shares
set_option Elab.async false
set_option linter.all false
set_option maxRecDepth 100000
set_option maxHeartbeats 16000000
/-! Fw: plain data, and how the abstract heap bears it. -/
namespace Fw
open PySem L2

/-- plain data -/
inductive D where
  | non | bl (b : Bool) | int (i : Int) | str (s : Str) | tup (ds : List D) | lst (ds : List D) | dic (kvs : List (Key × D)) | set (ds : List D) | scr (ds : List D)

abbrev Env := List (Option D)
/-- kinds of slots: plain values, own containers, containers of the caller -/
inductive Kd where
  | val | own | io
  deriving DecidableEq

/-- the script: read, never written -/
def Scr (K : PySem.W.Frag) (H : Hp) (a : Addr) (xs : List V) : Prop := (∃ o, H a = some (.frz o (.lst xs))) ∨
  ∃ (o : Obj) (its : Array Value) (n : Nat), K.lookup a = some o ∧ o.cls = .type "list" ∧ o.dict = none ∧ o.data = .seq its n ∧ its.size ≤ sizeLine ∧ Vals xs its.toList
theorem Scr.sql {K : PySem.W.Frag} {H : Hp} {a : Addr} {xs : List V} (h : Scr K H a xs) : SqL K H a xs := h.elim (fun h => .inl (.inr h)) .inr
section
variable (A : Addr → Prop) (K : PySem.W.Frag) (H : Hp)
mutual
inductive Rep : V → D → Prop
  | non : Rep .non .non
  | bl (b : Bool) : Rep (.bl b) (.bl b)
  | int (i : Int) : Rep (.int i) (.int i)
  | str (x : Str) : Rep (.str x) (.str x)
  | tup {a : Addr} {vs : List V} {ds : List D} : SqT K H a vs → Reps vs ds → Rep (.ref a) (.tup ds)
  | lst {a : Addr} {vs : List V} {ds : List D} : ¬ A a → H a = some (.lst vs) → Reps vs ds → Rep (.ref a) (.lst ds)
  | scr {a : Addr} {vs : List V} {ds : List D} : Scr K H a vs → Reps vs ds → Rep (.ref a) (.scr ds)
  | dic {a : Addr} {kv : List (Key × V)} {ks : List (Key × D)} : ¬ A a → H a = some (.dK kv) → RepKs kv ks → Rep (.ref a) (.dic ks)
inductive Reps : List V → List D → Prop
  | nil : Reps [] []
  | cons {v : V} {vs : List V} {d : D} {ds : List D} : Rep v d → Reps vs ds → Reps (v :: vs) (d :: ds)
inductive RepKs : List (Key × V) → List (Key × D) → Prop
  | nil : RepKs [] []
  | cons {k : Key} {v : V} {vs : List (Key × V)} {d : D} {ds : List (Key × D)} : Rep v d → RepKs vs ds → RepKs ((k, v) :: vs) ((k, d) :: ds)
end
/-- the container at a holds d; what is in it is away from A -/
inductive Own : Addr → D → Prop
  | lst {a : Addr} {vs : List V} {ds : List D} : H a = some (.lst vs) → Reps A K H vs ds → Own a (.lst ds)
  | dic {a : Addr} {kv : List (Key × V)} {ks : List (Key × D)} : H a = some (.dK kv) → RepKs A K H kv ks → Own a (.dic ks)
end

section
variable {A A' : Addr → Prop} {K : PySem.W.Frag} {H H' : Hp}
/-- what a change of the heap keeps -/
structure Kp (P : Addr → Prop) (H H' : Hp) : Prop where
  keep : ∀ b o, H b = some o → ¬ P b → H' b = some o
  dom : ∀ b, H b ≠ none → H' b ≠ none
  tups : ∀ b xs, H b = some (.tup xs) → H' b = some (.tup xs)
  frzs : ∀ b o u, H b = some (.frz o u) → H' b = some (.frz o u)
theorem Kp.refl (P : Addr → Prop) (H : Hp) : Kp P H H := ⟨fun _ _ e _ => e, fun _ e => e, fun _ _ e => e, fun _ _ _ e => e⟩
theorem Kp.sqt {P : Addr → Prop} (k : Kp P H H') {a : Addr} {vs : List V} (h : SqT K H a vs) : SqT K H' a vs := by
  rcases h with (h | ⟨o, h⟩) | h
  · exact .inl (.inl (k.tups _ _ h))
  · exact .inl (.inr ⟨o, k.frzs _ _ _ h⟩)
  · exact .inr h
theorem Kp.scr {P : Addr → Prop} (k : Kp P H H') {a : Addr} {vs : List V} (h : Scr K H a vs) : Scr K H' a vs := by
  rcases h with ⟨o, h⟩ | h
  · exact .inl ⟨o, k.frzs _ _ _ h⟩
  · exact .inr h
theorem Kp.rd {P : Addr → Prop} (k : Kp P H H') {a : Addr} {u : HO} (h : Rd H a u) (n : ¬ P a) : Rd H' a u := by
  rcases h with h | ⟨o, h⟩
  · exact .inl (k.keep _ _ h n)
  · exact .inr ⟨o, k.frzs _ _ _ h⟩
mutual
theorem Rep.keep {P : Addr → Prop} (k : Kp P H H') (hp : ∀ a, P a → A a) (hA : ∀ a, H a ≠ none → A' a → A a) : ∀ {v : V} {d : D}, Rep A K H v d → Rep A' K H' v d
  | _, _, .non => .non
  | _, _, .bl b => .bl b
  | _, _, .int i => .int i
  | _, _, .str x => .str x
  | _, _, .tup h r => .tup (k.sqt h) (Reps.keep k hp hA r)
  | _, _, .lst n h r => .lst (fun z => n (hA _ (by rw [h]; exact fun z => nomatch z) z)) (k.keep _ _ h fun z => n (hp _ z)) (Reps.keep k hp hA r)
  | _, _, .scr h r => .scr (k.scr h) (Reps.keep k hp hA r)
  | _, _, .dic n h r => .dic (fun z => n (hA _ (by rw [h]; exact fun z => nomatch z) z)) (k.keep _ _ h fun z => n (hp _ z)) (RepKs.keep k hp hA r)
theorem Reps.keep {P : Addr → Prop} (k : Kp P H H') (hp : ∀ a, P a → A a) (hA : ∀ a, H a ≠ none → A' a → A a) : ∀ {v : List V} {d : List D}, Reps A K H v d → Reps A' K H' v d
  | _, _, .nil => .nil
  | _, _, .cons h r => .cons (Rep.keep k hp hA h) (Reps.keep k hp hA r)
theorem RepKs.keep {P : Addr → Prop} (k : Kp P H H') (hp : ∀ a, P a → A a) (hA : ∀ a, H a ≠ none → A' a → A a) : ∀ {v : List (Key × V)} {d : List (Key × D)}, RepKs A K H v d → RepKs A' K H' v d
  | _, _, .nil => .nil
  | _, _, .cons h r => .cons (Rep.keep k hp hA h) (RepKs.keep k hp hA r)
end
theorem Own.keep {P : Addr → Prop} (k : Kp P H H') (hp : ∀ a, P a → A a) (hA : ∀ a, H a ≠ none → A' a → A a) {a : Addr} {d : D} (n : ¬ P a) : Own A K H a d → Own A' K H' a d
  | .lst h r => .lst (k.keep _ _ h n) (r.keep k hp hA)
  | .dic h r => .dic (k.keep _ _ h n) (r.keep k hp hA)
theorem Rep.weak (h : Rep A K H v d) (hA : ∀ a, H a ≠ none → A' a → A a) : Rep A' K H v d := h.keep (P := fun _ => False) (Kp.refl _ _) (fun _ z => z.elim) hA
theorem Reps.weak (h : Reps A K H v d) (hA : ∀ a, H a ≠ none → A' a → A a) : Reps A' K H v d := h.keep (P := fun _ => False) (Kp.refl _ _) (fun _ z => z.elim) hA
theorem RepKs.weak (h : RepKs A K H v d) (hA : ∀ a, H a ≠ none → A' a → A a) : RepKs A' K H v d := h.keep (P := fun _ => False) (Kp.refl _ _) (fun _ z => z.elim) hA
theorem Own.weak {a : Addr} {d : D} (h : Own A K H a d) (hA : ∀ a, H a ≠ none → A' a → A a) : Own A' K H a d := h.keep (P := fun _ => False) (Kp.refl _ _) (fun _ z => z.elim) hA fun z => z
theorem Own.there {a : Addr} {d : D} (h : Own A K H a d) : H a ≠ none := by cases h with
  | lst h _ => rw [h]; exact fun z => nomatch z
  | dic h _ => rw [h]; exact fun z => nomatch z
theorem Own.mut {a : Addr} {d : D} (h : Own A K H a d) : Mut (H a) := by cases h with
  | lst h _ => rw [h]; trivial
  | dic h _ => rw [h]; trivial
theorem Own.rep {a : Addr} {d : D} (h : Own A K H a d) (n : ¬ A a) : Rep A K H (.ref a) d := by cases h with
  | lst h r => exact .lst n h r
  | dic h r => exact .dic n h r
theorem Reps.length : ∀ {vs : List V} {ds : List D}, Reps A K H vs ds → vs.length = ds.length
  | _, _, .nil => rfl
  | _, _, .cons _ r => by simp [Reps.length r]
theorem Reps.get : ∀ {vs : List V} {ds : List D} {i : Nat} {v : V}, Reps A K H vs ds → vs[i]? = some v → ∃ d, ds[i]? = some d ∧ Rep A K H v d
  | _, _, i, _, .nil, e => by simp at e
  | _, _, 0, _, .cons h _, e => by simp at e; subst e; exact ⟨_, rfl, h⟩
  | _, _, i + 1, _, .cons _ r, e => by simp at e; simpa using Reps.get r e
theorem Reps.get' : ∀ {vs : List V} {ds : List D} {i : Nat} {d : D}, Reps A K H vs ds → ds[i]? = some d → ∃ v, vs[i]? = some v ∧ Rep A K H v d
  | _, _, i, _, .nil, e => by simp at e
  | _, _, 0, _, .cons h _, e => by simp at e; subst e; exact ⟨_, rfl, h⟩
  | _, _, i + 1, _, .cons _ r, e => by simp at e; simpa using Reps.get' r e
theorem Reps.append : ∀ {vs ws : List V} {ds es : List D}, Reps A K H vs ds → Reps A K H ws es → Reps A K H (vs ++ ws) (ds ++ es)
  | _, _, _, _, .nil, s => s
  | _, _, _, _, .cons h r, s => .cons h (Reps.append r s)
theorem Reps.set {v : V} {d : D} (h : Rep A K H v d) : ∀ {vs : List V} {ds : List D} (i : Nat), Reps A K H vs ds → Reps A K H (vs.set i v) (ds.set i d)
  | _, _, _, .nil => .nil
  | _, _, 0, .cons _ r => .cons h r
  | _, _, i + 1, .cons q r => .cons q (Reps.set h i r)
theorem Reps.take : ∀ {vs : List V} {ds : List D} (n : Nat), Reps A K H vs ds → Reps A K H (vs.take n) (ds.take n)
  | _, _, 0, _ => .nil
  | _, _, n + 1, .nil => .nil
  | _, _, n + 1, .cons h r => .cons h (Reps.take n r)
theorem Reps.drop : ∀ {vs : List V} {ds : List D} (n : Nat), Reps A K H vs ds → Reps A K H (vs.drop n) (ds.drop n)
  | _, _, 0, r => r
  | _, _, n + 1, .nil => .nil
  | _, _, n + 1, .cons _ r => Reps.drop n r
theorem Reps.one {v : V} {d : D} (h : Rep A K H v d) : Reps A K H [v] [d] := .cons h .nil
theorem Reps.eraseIdx : ∀ {vs : List V} {ds : List D} (i : Nat), Reps A K H vs ds → Reps A K H (vs.eraseIdx i) (ds.eraseIdx i)
  | _, _, _, .nil => .nil
  | _, _, 0, .cons _ r => r
  | _, _, i + 1, .cons h r => .cons h (Reps.eraseIdx i r)
theorem Reps.reverse {vs : List V} {ds : List D} (r : Reps A K H vs ds) : Reps A K H vs.reverse ds.reverse := by
  induction vs generalizing ds with
  | nil => cases r; exact .nil
  | cons v vs ih => cases r with
    | cons h r => rw [List.reverse_cons, List.reverse_cons]; exact (ih r).append (.one h)
theorem Reps.rep {vs : List V} {ds : List D} (r : Reps A K H vs ds) : ∀ k : Nat, Reps A K H (List.replicate k vs).flatten (List.replicate k ds).flatten
  | 0 => .nil
  | k + 1 => by rw [List.replicate_succ, List.replicate_succ, List.flatten_cons, List.flatten_cons]; exact r.append (Reps.rep r k)
theorem Reps.dropLast {vs : List V} {ds : List D} (r : Reps A K H vs ds) : Reps A K H vs.dropLast ds.dropLast := by
  rw [List.dropLast_eq_take, List.dropLast_eq_take, r.length]; exact r.take _
end

/-! ### frames -/
def kd (ks : List Kd) (i : Nat) : Kd := ks.getD i .val
/-- the live own containers of a frame -/
def OL (ks : List Kd) (ow : Nat → Addr) (r : Env) (a : Addr) : Prop := ∃ i d, r[i]? = some (some d) ∧ kd ks i ≠ .val ∧ a = ow i
def OLn (ks : List Kd) (ow : Nat → Addr) (r : Env) (a : Addr) : Prop := ∃ i d, r[i]? = some (some d) ∧ kd ks i = .own ∧ a = ow i
def Av (ks : List Kd) (O : Addr → Prop) (ow : Nat → Addr) (r : Env) (a : Addr) : Prop := O a ∨ OL ks ow r a

/-- the frame's slots bear the environment -/
structure SR (K : PySem.W.Frag) (ks : List Kd) (O : Addr → Prop) (ow : Nat → Addr) (g : St) (H : Hp) (r : Env) : Prop where
  len : r.length = g.length
  val : ∀ i d, r[i]? = some (some d) → kd ks i = .val → ∃ v, g[i]? = some (some v) ∧ Rep (Av ks O ow r) K H v d
  own : ∀ i d, r[i]? = some (some d) → kd ks i ≠ .val → g[i]? = some (some (.ref (ow i))) ∧ ¬ O (ow i) ∧ Own (Av ks O ow r) K H (ow i) d
  inj : ∀ i j d e, r[i]? = some (some d) → r[j]? = some (some e) → kd ks i ≠ .val → kd ks j ≠ .val → i ≠ j → ow i ≠ ow j
  odom : ∀ a, O a → H a ≠ none

/-- a step of a frame: what it may change -/
structure Stp (ks : List Kd) (ow : Nat → Addr) (r : Env) (H : Hp) (ow' : Nat → Addr) (r' : Env) (H' : Hp) : Prop where
  kp : Kp (OL ks ow r) H H'
  base : ∀ i d, r'[i]? = some (some d) → kd ks i ≠ .val → OLn ks ow r (ow' i) ∨ (kd ks i = .io ∧ ow' i = ow i ∧ ∃ e, r[i]? = some (some e)) ∨ H (ow' i) = none
  io : ∀ i, kd ks i = .io → ow' i = ow i

section
variable {K : PySem.W.Frag} {ks : List Kd} {O O' : Addr → Prop} {ow ow1 ow2 : Nat → Addr} {g g1 : St} {H H1 H2 : Hp} {r r1 r2 : Env}
theorem OLn.ol {a : Addr} (h : OLn ks ow r a) : OL ks ow r a := let ⟨i, d, e, k, z⟩ := h; ⟨i, d, e, (by rw [k]; exact fun z => nomatch z), z⟩
theorem Stp.refl : Stp ks ow r H ow r H := ⟨Kp.refl _ _, fun i d e k => by
  cases q : kd ks i with
  | val => exact absurd q k
  | own => exact .inl ⟨i, d, e, q, rfl⟩
  | io => exact .inr (.inl ⟨rfl, rfl, d, e⟩), fun _ _ => rfl⟩
theorem Stp.olback (a : Stp ks ow r H ow1 r1 H1) {b : Addr} (h : OL ks ow1 r1 b) : OL ks ow r b ∨ H b = none := by
  obtain ⟨i, d, e, k, rfl⟩ := h
  rcases a.base i d e k with h | ⟨hk, ho, e', he⟩ | h
  · exact .inl h.ol
  · exact .inl ⟨i, e', he, k, ho⟩
  · exact .inr h
theorem Stp.trans (a : Stp ks ow r H ow1 r1 H1) (b : Stp ks ow1 r1 H1 ow2 r2 H2) : Stp ks ow r H ow2 r2 H2 where
  kp := {
    keep := fun c o e n => b.kp.keep c o (a.kp.keep c o e n) fun z => by
      rcases a.olback z with h | h
      · exact n h
      · rw [e] at h; cases h
    dom := fun c e => b.kp.dom c (a.kp.dom c e)
    tups := fun c xs e => b.kp.tups c xs (a.kp.tups c xs e)
    frzs := fun c o u e => b.kp.frzs c o u (a.kp.frzs c o u e) }
  base := fun i d e k => by
    rcases b.base i d e k with ⟨j, dj, ej, kj, ho⟩ | ⟨hk, ho, e', he⟩ | h
    · rw [ho]
      rcases a.base j dj ej (by rw [kj]; exact fun z => nomatch z) with h | ⟨hk', _⟩ | h
      · exact .inl h
      · rw [kj] at hk'; cases hk'
      · exact .inr (.inr h)
    · rcases a.base i e' he k with h | ⟨hk', ho', e'', he'⟩ | h
      · rw [ho]; exact .inl h
      · exact .inr (.inl ⟨hk, ho.trans ho', e'', he'⟩)
      · rw [ho]; exact .inr (.inr h)
    · refine .inr (.inr ?_)
      cases q : H (ow2 i) with
      | none => rfl
      | some o => exact absurd h (a.kp.dom _ (by rw [q]; exact fun z => nomatch z))
  io := fun i k => (b.io i k).trans (a.io i k)
theorem SR.oldom (s : SR K ks O ow g H r) {a : Addr} (h : OL ks ow r a) : Mut (H a) := by
  obtain ⟨i, d, e, k, rfl⟩ := h
  exact (s.own i d e k).2.2.mut
theorem SR.avdom (s : SR K ks O ow g H r) {a : Addr} (h : Av ks O ow r a) : H a ≠ none := by
  rcases h with h | h
  · exact s.odom a h
  · have m := s.oldom h
    intro z; rw [z] at m; exact m
/-- a temporary value over a step -/
theorem Rep.step {v : V} {d : D} (h : Rep (Av ks O ow r) K H v d) (s : Stp ks ow r H ow1 r1 H1) : Rep (Av ks O ow1 r1) K H1 v d :=
  h.keep s.kp (fun a z => .inr z) fun a n z => by
    rcases z with z | z
    · exact .inl z
    · rcases s.olback z with z | z
      · exact .inr z
      · exact absurd z n
theorem Reps.step {v : List V} {d : List D} (h : Reps (Av ks O ow r) K H v d) (s : Stp ks ow r H ow1 r1 H1) : Reps (Av ks O ow1 r1) K H1 v d :=
  h.keep s.kp (fun a z => .inr z) fun a n z => by
    rcases z with z | z
    · exact .inl z
    · rcases s.olback z with z | z
      · exact .inr z
      · exact absurd z n
theorem kp_ext {P : Addr → Prop} (hs : ∀ b o, H b = some o → H1 b = some o) : Kp P H H1 where
  keep := fun b o e _ => hs b o e
  dom := fun b e z => by
    cases q : H b with
    | none => exact e q
    | some o => rw [hs b o q] at z; cases z
  tups := fun b xs e => hs b _ e
  frzs := fun b o u e => hs b _ e
/-- all that stood stands, what is new is new -/
theorem Stp.ext (hs : ∀ b o, H b = some o → H1 b = some o) : Stp ks ow r H ow r H1 where
  kp := kp_ext hs
  base := (Stp.refl (ks := ks) (ow := ow) (r := r) (H := H)).base
  io := fun _ _ => rfl
theorem SR.ext (s : SR K ks O ow g H r) (hs : ∀ b o, H b = some o → H1 b = some o) (hO : ∀ a, O' a → O a ∨ H a = none) (hO' : ∀ a, O' a → H1 a ≠ none) : SR K ks O' ow g H1 r where
  len := s.len
  val := fun i d e k => by
    obtain ⟨v, hv, hr⟩ := s.val i d e k
    refine ⟨v, hv, hr.keep (kp_ext (P := fun _ => False) hs) (fun _ z => z.elim) fun a n z => ?_⟩
    rcases z with z | z
    · exact (hO a z).elim .inl fun z => absurd z n
    · exact .inr z
  own := fun i d e k => by
    obtain ⟨h1, h2, h3⟩ := s.own i d e k
    refine ⟨h1, fun z => (hO _ z).elim h2 h3.there, h3.keep (kp_ext (P := fun _ => False) hs) (fun _ z => z.elim) (fun a n z => ?_) (fun z => z)⟩
    rcases z with z | z
    · exact (hO a z).elim .inl fun z => absurd z n
    · exact .inr z
  inj := s.inj
  odom := hO'
end
end Fw
/-! Fw: the operations over plain data, the small language, its meaning. -/
namespace Fw
open PySem L2
noncomputable section

/-! ### equality, order -/
mutual
def okD : D → Bool
  | .non => true | .bl _ => true | .int _ => true
  | .str x => PyData.strOk x
  | .tup ds => oksD ds | .lst ds => oksD ds
  | .dic _ => false | .set _ => false | .scr _ => false
def oksD : List D → Bool
  | [] => true
  | d :: ds => okD d && oksD ds
end
mutual
def dpt : D → Nat
  | .tup ds => dpts ds + 1 | .lst ds => dpts ds + 1
  | .dic _ => 1 | .set _ => 1 | .scr _ => 1
  | .non => 0 | .bl _ => 0 | .int _ => 0 | .str _ => 0
def dpts : List D → Nat
  | [] => 0
  | d :: ds => max (dpt d) (dpts ds)
end
mutual
def eqv : D → D → Bool
  | .non, .non => true
  | .bl a, .bl b => a == b
  | .bl a, .int j => (if a then 1 else 0) == j
  | .int i, .bl b => i == (if b then 1 else 0)
  | .int i, .int j => i == j
  | .str x, .str y => x == y
  | .lst xs, .lst ys => eqvs xs ys
  | .tup xs, .tup ys => eqvs xs ys
  | _, _ => false
def eqvs : List D → List D → Bool
  | [], [] => true
  | x :: xs, y :: ys => eqv x y && eqvs xs ys
  | _, _ => false
end
def eqOk (x y : D) : Bool := okD x && okD y && (decide (dpt x ≤ 64) || decide (dpt y ≤ 64))
def deq (x y : D) : Option Bool := if eqOk x y = true then some (eqv x y) else none

-- what may be ordered
mutual
def ordD : D → Bool
  | .int _ => true
  | .str x => PyData.strOk x
  | .tup ds => ordsD ds
  | _ => false
def ordsD : List D → Bool
  | [] => true
  | d :: ds => ordD d && ordsD ds
end
def rankD : D → Nat
  | .int _ => 0 | .str _ => 1 | .tup _ => 2 | _ => 3
-- a total order of them, by kind first
mutual
def ltD : D → D → Bool
  | .int i, .int j => decide (i < j)
  | .str x, .str y => decide (x.cps.toList < y.cps.toList)
  | .tup xs, .tup ys => ltsD xs ys
  | .lst xs, .lst ys => ltsD xs ys
  | x, y => decide (rankD x < rankD y)
def ltsD : List D → List D → Bool
  | [], [] => false
  | [], _ :: _ => true
  | _ :: _, [] => false
  | x :: xs, y :: ys => if eqv x y = true then ltsD xs ys else ltD x y
end
-- do they compare without an error
mutual
def cmpD : D → D → Bool
  | .int _, .int _ => true
  | .str _, .str _ => true
  | .tup xs, .tup ys => cmpsD xs ys
  | _, _ => false
def cmpsD : List D → List D → Bool
  | x :: xs, y :: ys => (eqv x y || cmpD x y) && cmpsD xs ys
  | _, _ => true
end
def ltOk (x y : D) : Bool := ordD x && ordD y && cmpD x y && (decide (dpt x ≤ 64) || decide (dpt y ≤ 64))
def opD : CmpOp → D → D → Bool
  | .Lt, d, e => ltD d e
  | .Gt, d, e => ltD e d
  | .LtE, d, e => !ltD e d
  | .GtE, d, e => !ltD d e
  | _, _, _ => false
def dord (op : CmpOp) (x y : D) : Option Bool := if ltOk x y = true then some (opD op x y) else none

/-! ### operations -/
def dlen : D → Option Int
  | .str x => if x.length ≤ sizeLine then some x.length else none
  | .tup ds => some ds.length
  | .lst ds => some ds.length
  | .scr ds => some ds.length
  | .dic ks => some ks.length
  | _ => none
def tru : D → Option Bool
  | .non => some false
  | .bl b => some b
  | .int i => some (i != 0)
  | .str x => if x.length ≤ sizeLine then some ((x.length : Int) != 0) else none
  | .tup ds => some (!ds.isEmpty)
  | .lst ds => some (!ds.isEmpty)
  | .dic ks => some (!ks.isEmpty)
  | _ => none
def keyOf : D → Option Key
  | .int i => some (.inl i)
  | .str x => some (.inr x)
  | _ => none
def kD : Key → D
  | .inl i => .int i
  | .inr x => .str x
def look (ks : List (Key × D)) (k : Key) : Option D := (ks.find? fun p => decide (p.1 = k)).map (·.2)
def putD (ks : List (Key × D)) (k : Key) (d : D) : List (Key × D) :=
  if (ks.any fun p => decide (p.1 = k)) = true then ks.map (fun p => if p.1 = k then (p.1, d) else p) else ks ++ [(k, d)]
def delD (ks : List (Key × D)) (k : Key) : List (Key × D) := ks.filter fun p => decide (p.1 ≠ k)
def didx : D → D → Option D
  | .tup ds, .int i => atI ds i
  | .lst ds, .int i => atI ds i
  | .scr ds, .int i => atI ds i
  | .str x, .int i => if x.length ≤ sizeLine then (atI x.cps.toList i).map fun c => .str ⟨#[c]⟩ else none
  | .dic ks, k => (keyOf k).bind (look ks)
  | _, _ => none
def cutD (ds : List D) (lo hi : Option Int) : List D := (ds.drop (HT.sIx ds.length 0 lo)).take (HT.sIx ds.length ds.length hi - HT.sIx ds.length 0 lo)
def dsl : D → Option Int → Option Int → Option D
  | .tup ds, lo, hi => some (.tup (cutD ds lo hi))
  | .lst ds, lo, hi => some (.lst (cutD ds lo hi))
  | .scr ds, lo, hi => some (.lst (cutD ds lo hi))
  | _, _, _ => none
def small (i : Int) : Bool := decide (-(2 ^ 64) < i) && decide (i < 2 ^ 64)
def dbin : Operator → D → D → Option D
  | .Add, .int i, .int j => some (.int (i + j))
  | .Add, .int i, .bl b => some (.int (i + if b then 1 else 0))
  | .Add, .str x, .str y => if x.length + y.length ≤ sizeLine then some (.str (x ++ y)) else none
  | .Add, .tup xs, .tup ys => if xs.length + ys.length ≤ sizeLine then some (.tup (xs ++ ys)) else none
  | .Add, .lst xs, .lst ys => if xs.length + ys.length ≤ sizeLine then some (.lst (xs ++ ys)) else none
  | .Sub, .int i, .int j => some (.int (i - j))
  | .Mult, .int i, .int j => if (small i || small j) = true then some (.int (i * j)) else none
  | .Mult, .lst xs, .int k => if -(2 ^ 63) ≤ k ∧ k < 2 ^ 63 ∧ xs.length * k.toNat ≤ sizeLine then some (.lst (List.replicate k.toNat xs).flatten) else none
  | .FloorDiv, .int i, .int j => if j ≠ 0 ∧ j.natAbs < 1073741824 then some (.int (i.fdiv j)) else none
  | .Mod, .int i, .int j => if j ≠ 0 then some (.int (i.fmod j)) else none
  | .Pow, .int i, .int j => if 0 ≤ j ∧ j ≤ 1000000 ∧ i.natAbs < 2 ^ 64 then some (.int (i ^ j.toNat)) else none
  | _, _, _ => none
/-- .. op= .., of ints -/
def daug : Operator → D → D → Option Int
  | .Add, .int i, .int j => some (i + j)
  | .Sub, .int i, .int j => some (i - j)
  | .Mult, .int i, .int j => if (small i || small j) = true then some (i * j) else none
  | _, _, _ => none
def inOk (x : D) (ys : List D) : Bool := okD x && oksD ys && (decide (dpt x ≤ 64) || decide (dpts ys ≤ 64))
def dcmp : CmpOp → D → D → Option Bool
  | .Eq, x, y => deq x y
  | .NotEq, x, y => (deq x y).map not
  | .Lt, .int i, .int j => some (decide (i < j))
  | .Gt, .int i, .int j => some (decide (j < i))
  | .LtE, .int i, .int j => some (decide (i ≤ j))
  | .GtE, .int i, .int j => some (decide (j ≤ i))
  | .Lt, x, y => dord .Lt x y
  | .Gt, x, y => dord .Gt x y
  | .LtE, x, y => dord .LtE x y
  | .GtE, x, y => dord .GtE x y
  | .Is, x, .non => some (match x with | .non => true | _ => false)
  | .IsNot, x, .non => some (match x with | .non => false | _ => true)
  | .Is, .bl a, .bl b => some (a == b)
  | .IsNot, .bl a, .bl b => some (a != b)
  | .In, x, .lst ys => if inOk x ys = true then some (ys.any fun z => eqv z x) else none
  | .In, x, .tup ys => if inOk x ys = true then some (ys.any fun z => eqv z x) else none
  | .In, k, .dic ks => (keyOf k).map fun k => (look ks k).isSome
  | .NotIn, x, .lst ys => if inOk x ys = true then some (!ys.any fun z => eqv z x) else none
  | .NotIn, x, .tup ys => if inOk x ys = true then some (!ys.any fun z => eqv z x) else none
  | .NotIn, k, .dic ks => (keyOf k).map fun k => !(look ks k).isSome
  | _, _, _ => none

def intsD : List D → Option (List Int)
  | [] => some []
  | .int i :: r => (intsD r).map (i :: ·)
  | _ :: _ => none
def blsD : List D → Option (List Bool)
  | [] => some []
  | .bl i :: r => (blsD r).map (i :: ·)
  | _ :: _ => none
def iabs (i : Int) : Int := if i < 0 then -i else i
def imax (i j : Int) : Int := if j > i then j else i
def imin (i j : Int) : Int := if j < i then j else i
def maxI : List Int → Option Int
  | [] => none
  | [i] => some i
  | i :: r => (maxI r).map (max i)
def minI : List Int → Option Int
  | [] => none
  | [i] => some i
  | i :: r => (minI r).map (min i)
/-- a sort: stable, by ltD -/
def insD (x : D) : List D → List D
  | [] => [x]
  | y :: ys => if ltD x y = true then x :: y :: ys else y :: insD x ys
def sortD (ds : List D) : List D := ds.foldr (fun x acc => insD' x acc) []
where insD' (x : D) : List D → List D
  | [] => [x]
  | y :: ys => if ltD y x = true then y :: insD' x ys else x :: y :: ys
def sortOk (ds : List D) : Bool := ds.all fun x => ds.all fun y => ltOk x y
/-- each int once, ascending -/
def insI (i : Int) : List Int → List Int
  | [] => [i]
  | j :: r => if i < j then i :: j :: r else if i = j then j :: r else j :: insI i r
def setI (ns : List Int) : List Int := ns.foldr insI []

/-- built-in functions of one argument -/
inductive B1 where
  | len | int | bool | abs | sum | sorted | list | tuple | all | any | min | max | sortedset
  deriving DecidableEq
def b1 : B1 → D → Option D
  | .len, d => (dlen d).map .int
  | .int, .int i => some (.int i)
  | .int, .bl b => some (.int (if b then 1 else 0))
  | .bool, .int i => some (.bl (i != 0))
  | .bool, .bl b => some (.bl b)
  | .abs, .int i => some (.int (iabs i))
  | .sum, .lst ds => (intsD ds).map fun ns => .int ns.sum
  | .sum, .tup ds => (intsD ds).map fun ns => .int ns.sum
  | .sorted, .lst ds => if sortOk ds = true then some (.lst (sortD ds)) else none
  | .list, .lst ds => some (.lst ds)
  | .list, .scr ds => some (.lst ds)
  | .list, .tup ds => some (.lst ds)
  | .tuple, .lst ds => some (.tup ds)
  | .tuple, .tup ds => some (.tup ds)
  | .all, .lst ds => (blsD ds).map fun bs => .bl (bs.all id)
  | .any, .lst ds => (blsD ds).map fun bs => .bl (bs.any id)
  | .min, .lst ds => ((intsD ds).bind minI).map .int
  | .min, .tup ds => ((intsD ds).bind minI).map .int
  | .max, .lst ds => ((intsD ds).bind maxI).map .int
  | .max, .tup ds => ((intsD ds).bind maxI).map .int
  | .sortedset, .lst ds => (intsD ds).bind fun ns => if ns.length < 64 then some (.lst ((setI ns).map .int)) else none
  | _, _ => none
/-- does it give a new container (where it gives one) -/
def B1.fr : B1 → Bool
  | .sorted => true | .list => true | .sortedset => true | _ => false
inductive B2 where
  | min | max
  deriving DecidableEq
def b2 : B2 → D → D → Option D
  | .min, .int i, .int j => some (.int (imin i j))
  | .max, .int i, .int j => some (.int (imax i j))
  | _, _, _ => none
/-- isinstance -/
inductive Ty where
  | tint | tbool | tstr | ttuple | tlist | tdict
  deriving DecidableEq
def isT : Ty → D → Option Bool
  | .tint, .int _ => some true
  | .tint, .bl _ => some true
  | .tbool, .bl _ => some true
  | .tstr, .str _ => some true
  | .ttuple, .tup _ => some true
  | .tlist, .lst _ => some true
  | .tdict, .dic _ => some true
  | _, .set _ => none
  | _, .scr _ => none
  | _, _ => some false

/-- methods of a list, of one argument -/
inductive M1 where
  | append | extend | pop
  deriving DecidableEq
def m1 : M1 → List D → D → Option (D × List D)
  | .append, ds, d => if ds.length < sizeLine then some (.non, ds ++ [d]) else none
  | .extend, ds, .lst es => if ds.length + es.length ≤ sizeLine then some (.non, ds ++ es) else none
  | .pop, ds, .int k => if -(2 ^ 63) ≤ k ∧ k < 2 ^ 63 then (seqIndex? k ds.length).bind fun j => (ds[j]?).map fun d => (d, ds.eraseIdx j) else none
  | _, _, _ => none
def isL : D → Bool
  | .lst _ => true
  | _ => false
/-! ### the language -/
inductive Tg where
  | nm (i : Nat)
  | tp (ts : List Tg)
mutual
inductive E where
  | var (i : Nat) | bor (i : Nat) | mv (i : Nat)
  | non | bl (b : Bool) | int (i : Int) | str (x : Str)
  | glo (x : Str) (d : D)
  | tup (es : List E) | lst (es : List E) | dic0
  | bin (op : Operator) (a b : E) | neg (a : E)
  | cmp (op : CmpOp) (a b : E) | chain (op op' : CmpOp) (a b c : E)
  | and (a b : E) | or (a b : E) | not (a : E) | ite (c a b : E)
  | idx (a b : E) | sl (a lo hi : E)
  | call (f : Nat) (es : List E)
  | b1 (b : B1) (a : E) | b2 (b : B2) (a c : E) | isi (a : E) (t : Ty)
  | get (a b : E) | get2 (a b c : E)
  | pop (i : Nat) | mth (m : M1) (i : Nat) (a : E)
  | lc (el : E) (tg : Tg) (it : It) (ifs : List E) (own : List Nat)
inductive It where
  | seq (a : E) | rng1 (a : E) | rng2 (a b : E) | zip (a b : E)
end
inductive S where
  | asg (i : Nat) (e : E) | own (i : Nat) (e : E) | unp (tg : Tg) (e : E) | par (i j : Nat) (a b : E)
  | aug (i : Nat) (op : Operator) (e : E)
  | set (i : Nat) (k e : E) | expr (e : E)
  | ife (c : E) (a b : List S)
  | loop (tg : Tg) (it : It) (body : List S) | whl (c : E) (body : List S)
  | ret (e : E) | retn | brk | cnt | pas

/-! ### its meaning -/
abbrev Fns := Nat → List D → Option (D × List D)
open Classical in
def gd (p : Prop) {α : Type} (x : Option α) : Option α := if p then x else none
theorem gd_true {p : Prop} {α : Type} {x : Option α} (h : p) : gd p x = x := if_pos h
theorem gd_some {p : Prop} {α : Type} {x : Option α} {y : α} (h : gd p x = some y) : p ∧ x = some y := by
  unfold gd at h
  split at h
  · exact ⟨‹p›, h⟩
  · cases h
/-- what was borrowed is as it was -/
def stb : E → Env → Env → Prop
  | .bor i, r, r' => r'[i]? = r[i]?
  | _, _, _ => True
def stbIt : It → Env → Env → Prop
  | .seq a, r, r' => stb a r r'
  | .zip a b, r, r' => stb a r r' ∧ stb b r r'
  | _, _, _ => True
mutual
def put : Tg → D → Env → Option Env
  | .nm i, d, r => some (r.set i (some d))
  | .tp ts, .tup ds, r => puts ts ds r
  | .tp _, _, _ => none
def puts : List Tg → List D → Env → Option Env
  | [], [], r => some r
  | t :: ts, d :: ds, r => (put t d r).bind fun r1 => puts ts ds r1
  | _, _, _ => none
end
def slot (r : Env) (i : Nat) : Option D := (r[i]?).bind id
def wipeE (r : Env) (own : List Nat) : Env := own.foldl (fun r i => r.set i none) r
def backE (r0 r : Env) (own : List Nat) : Env := own.foldl (fun r i => r.set i (slot r0 i)) r
def elems : D → Option (List D)
  | .lst ds => some ds
  | .tup ds => some ds
  | .scr ds => some ds
  | _ => none
def rngD (lo hi : Int) : List D := (List.range (hi - lo).toNat).map fun (k : Nat) => .int (lo + (k : Int))
def mid (i : Int) : Bool := decide (-(2 ^ 62) ≤ i) && decide (i < 2 ^ 62)
def lcLoop (g : D → Env → Option (Option D × Env)) : List D → Env → Option (List D × Env)
  | [], r => some ([], r)
  | d :: ds, r => (g d r).bind fun p => (lcLoop g ds p.2).bind fun q => some (match p.1 with | some x => x :: q.1 | none => q.1, q.2)
/-- the places of the callee's own containers among its arguments, what they hold now -/
def fill : List E → List D → Env → Option (List D)
  | [], [], _ => some []
  | .bor i :: es, _ :: ds, r => (slot r i).bind fun d => (fill es ds r).map (d :: ·)
  | _ :: es, d :: ds, r => (fill es ds r).map (d :: ·)
  | _, _, _ => none
def outs : List E → List D → Env → Option Env
  | [], [], r => some r
  | .bor i :: es, d :: ds, r => outs es ds (r.set i (some d))
  | .bor _ :: _, [], _ => none
  | _ :: es, ds, r => outs es ds r
  | [], _ :: _, _ => none
def partOf : E → D → Option (Option Int)
  | .non, _ => some none
  | _, .int i => some (some i)
  | _, _ => none

mutual
def ev (F : Fns) : E → Env → Option (D × Env)
  | .var i, r => (slot r i).map fun d => (d, r)
  | .bor i, r => (slot r i).map fun d => (d, r)
  | .mv i, r => (slot r i).map fun d => (d, r.set i none)
  | .non, r => some (.non, r)
  | .bl b, r => some (.bl b, r)
  | .int i, r => some (.int i, r)
  | .str x, r => some (.str x, r)
  | .glo _ d, r => some (d, r)
  | .tup es, r => (evs F es r).bind fun p => gd (p.1.length ≤ sizeLine) (some (.tup p.1, p.2))
  | .lst es, r => (evs F es r).bind fun p => gd (p.1.length ≤ sizeLine) (some (.lst p.1, p.2))
  | .dic0, r => some (.dic [], r)
  | .bin op a b, r => (ev F a r).bind fun p => (ev F b p.2).bind fun q => gd (stb a p.2 q.2) ((dbin op p.1 q.1).map fun d => (d, q.2))
  | .neg a, r => (ev F a r).bind fun p => match p.1 with | .int i => some (.int (-i), p.2) | _ => none
  | .cmp op a b, r => (ev F a r).bind fun p => (ev F b p.2).bind fun q => gd (stb a p.2 q.2) ((dcmp op p.1 q.1).map fun d => (.bl d, q.2))
  | .chain op op' a b c, r => (ev F a r).bind fun p => (ev F b p.2).bind fun q => (dcmp op p.1 q.1).bind fun k =>
      if k = true then (ev F c q.2).bind fun t => (dcmp op' q.1 t.1).map fun d => (.bl d, t.2) else some (.bl false, q.2)
  | .and a b, r => (ev F a r).bind fun p => match p.1 with | .bl true => ev F b p.2 | .bl false => some (.bl false, p.2) | _ => none
  | .or a b, r => (ev F a r).bind fun p => match p.1 with | .bl true => some (.bl true, p.2) | .bl false => ev F b p.2 | _ => none
  | .not a, r => (ev F a r).bind fun p => (tru p.1).map fun b => (.bl (!b), p.2)
  | .ite c a b, r => (ev F c r).bind fun p => (tru p.1).bind fun k => if k = true then ev F a p.2 else ev F b p.2
  | .idx a b, r => (ev F a r).bind fun p => (ev F b p.2).bind fun q => gd (stb a p.2 q.2) ((didx p.1 q.1).map fun d => (d, q.2))
  | .sl a lo hi, r => (ev F a r).bind fun p => (ev F lo p.2).bind fun q => (ev F hi q.2).bind fun t => gd (stb a p.2 t.2) ((partOf lo q.1).bind fun l => (partOf hi t.1).bind fun h => (dsl p.1 l h).map fun d => (d, t.2))
  | .call f es, r => (evs F es r).bind fun p => (fill es p.1 p.2).bind fun ds => (F f ds).bind fun q => (outs es q.2 p.2).map fun r' => (q.1, r')
  | .b1 b a, r => (ev F a r).bind fun p => (b1 b p.1).map fun d => (d, p.2)
  | .b2 b a c, r => (ev F a r).bind fun p => (ev F c p.2).bind fun q => (b2 b p.1 q.1).map fun d => (d, q.2)
  | .isi a t, r => (ev F a r).bind fun p => (isT t p.1).map fun d => (.bl d, p.2)
  | .get a b, r => (ev F a r).bind fun p => (ev F b p.2).bind fun q => gd (stb a p.2 q.2) (match p.1 with | .dic ks => (keyOf q.1).map fun k => ((look ks k).getD .non, q.2) | _ => none)
  | .get2 a b c, r => (ev F a r).bind fun p => (ev F b p.2).bind fun q => (ev F c q.2).bind fun t => gd (stb a p.2 t.2) (match p.1 with | .dic ks => (keyOf q.1).map fun k => ((look ks k).getD t.1, t.2) | _ => none)
  | .pop i, r => match slot r i with
    | some (.lst ds) => (ds[ds.length - 1]?).map fun d => (d, r.set i (some (.lst ds.dropLast)))
    | _ => none
  | .mth m i a, r => (slot r i).bind fun d0 => gd (isL d0 = true) ((ev F a r).bind fun p => match slot p.2 i with
    | some (.lst ds) => (m1 m ds p.1).map fun q => (q.1, p.2.set i (some (.lst q.2)))
    | _ => none)
  | .lc el tg it ifs own, r => (evIt F it r).bind fun p =>
      (lcLoop (fun d r' => (put tg d (wipeE r' own)).bind fun r1 => (evIfs F ifs r1).bind fun q =>
        if q.1 = true then (ev F el q.2).bind fun t => gd (stbIt it p.2 t.2) (some (some t.1, t.2)) else gd (stbIt it p.2 q.2) (some (none, q.2))) p.1 p.2).bind fun q =>
      gd (q.1.length ≤ sizeLine) (some (.lst q.1, backE p.2 q.2 own))
def evs (F : Fns) : List E → Env → Option (List D × Env)
  | [], r => some ([], r)
  | e :: es, r => (ev F e r).bind fun p => (evs F es p.2).map fun q => (p.1 :: q.1, q.2)
def evIfs (F : Fns) : List E → Env → Option (Bool × Env)
  | [], r => some (true, r)
  | e :: es, r => (ev F e r).bind fun p => (tru p.1).bind fun k => if k = true then evIfs F es p.2 else some (false, p.2)
def evIt (F : Fns) : It → Env → Option (List D × Env)
  | .seq a, r => (ev F a r).bind fun p => (elems p.1).map fun ds => (ds, p.2)
  | .rng1 a, r => (ev F a r).bind fun p => match p.1 with | .int i => gd (mid i = true) (some (rngD 0 i, p.2)) | _ => none
  | .rng2 a b, r => (ev F a r).bind fun p => (ev F b p.2).bind fun q => match p.1, q.1 with | .int i, .int j => gd (mid i = true ∧ mid j = true) (some (rngD i j, q.2)) | _, _ => none
  | .zip a b, r => (ev F a r).bind fun p => (ev F b p.2).bind fun q => gd (stb a p.2 q.2) ((elems p.1).bind fun xs => (elems q.1).map fun ys => ((xs.zip ys).map fun t => .tup [t.1, t.2], q.2))
end

/-- how a statement ends -/
inductive Out where
  | nx (r : Env) | rt (d : D) (r : Env) | bk (r : Env) | ct (r : Env)
def forLoop (g : D → Env → Option Out) : List D → Env → Option Out
  | [], r => some (.nx r)
  | d :: ds, r => (g d r).bind fun o => match o with
    | .nx r' => forLoop g ds r'
    | .ct r' => forLoop g ds r'
    | .bk r' => some (.nx r')
    | .rt d r' => some (.rt d r')
def whlLoop (c : Env → Option (Bool × Env)) (g : Env → Option Out) : Nat → Env → Option Out
  | 0, _ => none
  | n + 1, r => (c r).bind fun p => if p.1 = true then (g p.2).bind fun o => (match o with
    | .nx r' => whlLoop c g n r'
    | .ct r' => whlLoop c g n r'
    | .bk r' => some (.nx r')
    | .rt d r' => some (.rt d r')) else some (.nx p.2)
def tst (F : Fns) (e : E) (r : Env) : Option (Bool × Env) := (ev F e r).bind fun p => (tru p.1).map fun k => (k, p.2)
mutual
/-- statements; n: how many turns a while may take -/
def ex (F : Fns) (n : Nat) : S → Env → Option Out
  | .asg i e, r => (ev F e r).map fun p => .nx (p.2.set i (some p.1))
  | .own i e, r => (ev F e r).bind fun p => match p.1 with
    | .lst ds => some (.nx (p.2.set i (some (.lst ds))))
    | .dic ds => some (.nx (p.2.set i (some (.dic ds))))
    | _ => none
  | .unp tg e, r => (ev F e r).bind fun p => (put tg p.1 p.2).map .nx
  | .par i j a b, r => (ev F a r).bind fun p => (ev F b p.2).map fun q => .nx ((q.2.set i (some p.1)).set j (some q.1))
  | .aug i op e, r => (slot r i).bind fun x => (ev F e r).bind fun p => (daug op x p.1).map fun d => .nx (p.2.set i (some (.int d)))
  | .set i k e, r => (ev F e r).bind fun p => (slot p.2 i).bind fun _ => (ev F k p.2).bind fun q => match slot q.2 i with
    | some (.lst ds) => (match q.1 with | .int z => (ixN ds.length z).map fun j => .nx (q.2.set i (some (.lst (ds.set j p.1)))) | _ => none)
    | some (.dic ks) => (keyOf q.1).bind fun z => gd (ks.length < sizeLine) (some (.nx (q.2.set i (some (.dic (putD ks z p.1))))))
    | _ => none
  | .expr e, r => (ev F e r).map fun p => .nx p.2
  | .ife c a b, r => (tst F c r).bind fun p => if p.1 = true then exs F n a p.2 else exs F n b p.2
  | .loop tg it body, r => (evIt F it r).bind fun p => forLoop (fun d r' => (put tg d r').bind fun r1 => (exs F n body r1).bind fun o =>
      match o with
      | .nx r2 => gd (stbIt it p.2 r2) (some o)
      | .ct r2 => gd (stbIt it p.2 r2) (some o)
      | _ => some o) p.1 p.2
  | .whl c body, r => whlLoop (tst F c) (exs F n body) n r
  | .ret e, r => (ev F e r).map fun p => .rt p.1 p.2
  | .retn, r => some (.rt .non r)
  | .brk, r => some (.bk r)
  | .cnt, r => some (.ct r)
  | .pas, r => some (.nx r)
def exs (F : Fns) (n : Nat) : List S → Env → Option Out
  | [], r => some (.nx r)
  | s :: ss, r => (ex F n s r).bind fun o => match o with
    | .nx r' => exs F n ss r'
    | o => some o
end

/-- a def -/
structure Fd where
  name : Str
  N : List Str
  P : List Str
  ks : List Kd
  fr : Bool
  body : List S
/-- the callee's own containers behind the call -/
def backs : List Kd → Nat → Env → Option (List D)
  | [], _, _ => some []
  | .io :: ks, i, r => (slot r i).bind fun d => (backs ks (i + 1) r).map (d :: ·)
  | _ :: ks, i, r => backs ks (i + 1) r
def startE (N : List Str) (ds : List D) : Env := ds.map some ++ List.replicate (N.length - ds.length) none
def run (n : Nat) (T : List Fd) : Nat → Fns
  | 0 => fun _ _ => none
  | k + 1 => fun f ds => (T[f]?).bind fun d => gd (ds.length = d.P.length) ((exs (run n T k) n d.body (startE d.N ds)).bind fun o => match o with
    | .rt v r => (backs (d.ks.take d.P.length) 0 r).map fun os => (v, os)
    | .nx r => gd (d.fr = false) ((backs (d.ks.take d.P.length) 0 r).map fun os => (.non, os))
    | _ => none)
end

end Fw
/-! Fw: each operation over plain data is what the machine does. -/
namespace Fw
open PySem L2

section
variable {A : Addr → Prop} {K : PySem.W.Frag} {H : Hp}
/-- a value to be read: what is in it is away from A -/
inductive Vw (A : Addr → Prop) (K : PySem.W.Frag) (H : Hp) : V → D → Prop
  | rep {v : V} {d : D} : Rep A K H v d → Vw A K H v d
  | own {a : Addr} {d : D} : Own A K H a d → Vw A K H (.ref a) d
def isC : D → Bool
  | .lst _ => true
  | .dic _ => true
  | _ => false
/-- what an operation gives, over the heap ahead of it -/
inductive Res (A : Addr → Prop) (K : PySem.W.Frag) (H : Hp) (fr : Bool) : V → Hp → D → Prop
  | same {v : V} {d : D} : Rep A K H v d → (fr = true → isC d = false) → Res A K H fr v H d
  | tup {p : Addr} {vs : List V} {ds : List D} : H p = none → Reps A K H vs ds → Res A K H fr (.ref p) (upd H p (.tup vs)) (.tup ds)
  | lst {p : Addr} {vs : List V} {ds : List D} : H p = none → Reps A K H vs ds → Res A K H fr (.ref p) (upd H p (.lst vs)) (.lst ds)
  | dic {p : Addr} {kv : List (Key × V)} {ks : List (Key × D)} : H p = none → RepKs A K H kv ks → Res A K H fr (.ref p) (upd H p (.dK kv)) (.dic ks)
theorem Vw.lst {v : V} {ds : List D} (h : Vw A K H v (.lst ds)) : ∃ a vs, v = .ref a ∧ H a = some (.lst vs) ∧ Reps A K H vs ds := by
  cases h with
  | rep h => cases h with
    | lst n e r => exact ⟨_, _, rfl, e, r⟩
  | own h => cases h with
    | lst e r => exact ⟨_, _, rfl, e, r⟩
theorem Vw.tup {v : V} {ds : List D} (h : Vw A K H v (.tup ds)) : ∃ a vs, v = .ref a ∧ SqT K H a vs ∧ Reps A K H vs ds := by
  cases h with
  | rep h => cases h with
    | tup e r => exact ⟨_, _, rfl, e, r⟩
  | own h => nomatch h
theorem Vw.scr {v : V} {ds : List D} (h : Vw A K H v (.scr ds)) : ∃ a vs, v = .ref a ∧ Scr K H a vs ∧ Reps A K H vs ds := by
  cases h with
  | rep h => cases h with
    | scr e r => exact ⟨_, _, rfl, e, r⟩
  | own h => nomatch h
theorem Vw.dic {v : V} {ks : List (Key × D)} (h : Vw A K H v (.dic ks)) : ∃ a kv, v = .ref a ∧ H a = some (.dK kv) ∧ RepKs A K H kv ks := by
  cases h with
  | rep h => cases h with
    | dic n e r => exact ⟨_, _, rfl, e, r⟩
  | own h => cases h with
    | dic e r => exact ⟨_, _, rfl, e, r⟩
theorem Vw.int {v : V} {i : Int} (h : Vw A K H v (.int i)) : v = .int i := by
  cases h with
  | rep h => cases h; rfl
  | own h => nomatch h
theorem Vw.bl {v : V} {i : Bool} (h : Vw A K H v (.bl i)) : v = .bl i := by
  cases h with
  | rep h => cases h; rfl
  | own h => nomatch h
theorem Vw.str {v : V} {i : Str} (h : Vw A K H v (.str i)) : v = .str i := by
  cases h with
  | rep h => cases h; rfl
  | own h => nomatch h
theorem Vw.non {v : V} (h : Vw A K H v .non) : v = .non := by
  cases h with
  | rep h => cases h; rfl
  | own h => nomatch h
theorem Reps.intsD {ds : List D} : ∀ {vs : List V} {ns : List Int}, Reps A K H vs ds → Fw.intsD ds = some ns → vs = ns.map V.int ∧ ds = ns.map D.int := by
  induction ds with
  | nil =>
    intro vs ns h e
    cases h
    simp only [Fw.intsD, Option.some.injEq] at e
    subst e
    exact ⟨rfl, rfl⟩
  | cons d ds ih =>
    intro vs ns h e
    cases h with
    | cons a r =>
      cases d <;> (try (simp only [Fw.intsD] at e; done)) <;> (try (simp [Fw.intsD] at e; done))
      case int i =>
        simp only [Fw.intsD] at e
        cases a
        cases q : Fw.intsD ds with
        | none => rw [q] at e; cases e
        | some ms =>
          rw [q] at e
          simp only [Option.map_some, Option.some.injEq] at e
          subst e
          obtain ⟨h1, h2⟩ := ih r q
          exact ⟨by rw [h1]; rfl, by rw [h2]; rfl⟩
theorem Reps.blsD {ds : List D} : ∀ {vs : List V} {ns : List Bool}, Reps A K H vs ds → Fw.blsD ds = some ns → vs = ns.map V.bl ∧ ds = ns.map D.bl := by
  induction ds with
  | nil =>
    intro vs ns h e
    cases h
    simp only [Fw.blsD, Option.some.injEq] at e
    subst e
    exact ⟨rfl, rfl⟩
  | cons d ds ih =>
    intro vs ns h e
    cases h with
    | cons a r =>
      cases d <;> (try (simp only [Fw.blsD] at e; done)) <;> (try (simp [Fw.blsD] at e; done))
      case bl i =>
        simp only [Fw.blsD] at e
        cases a
        cases q : Fw.blsD ds with
        | none => rw [q] at e; cases e
        | some ms =>
          rw [q] at e
          simp only [Option.map_some, Option.some.injEq] at e
          subst e
          obtain ⟨h1, h2⟩ := ih r q
          exact ⟨by rw [h1]; rfl, by rw [h2]; rfl⟩
theorem reps_ints : ∀ ns : List Int, Reps A K H (ns.map V.int) (ns.map D.int)
  | [] => .nil
  | n :: ns => .cons (.int n) (reps_ints ns)

/-! ### data for == -/
mutual
def py : D → PyData
  | .non => .none | .bl b => .bool b | .int i => .int i | .str x => .str x
  | .tup ds => .tuple (pys ds) | .lst ds => .list (pys ds)
  | .dic _ => .dict [] | .set _ => .dict [] | .scr _ => .dict []
def pys : List D → List PyData
  | [] => []
  | d :: ds => py d :: pys ds
end
mutual
theorem Rep.dp : ∀ {v : V} {d : D}, Rep A K H v d → okD d = true → Dp K H v (py d)
  | _, _, .non, _ => .non
  | _, _, .bl b, _ => .bl b
  | _, _, .int i, _ => .int i
  | _, _, .str x, _ => .str x
  | _, _, .tup e r, h => .tup e (Reps.dp r h)
  | _, _, .lst n e r, h => .lst (SqL.of e) (Reps.dp r h)
  | _, _, .scr e r, h => by simp [okD] at h
  | _, _, .dic n e r, h => by simp [okD] at h
theorem Reps.dp : ∀ {v : List V} {d : List D}, Reps A K H v d → oksD d = true → DpAll K H v (pys d)
  | _, _, .nil, _ => .nil
  | _, _, .cons a r, h => by
    simp only [oksD, Bool.and_eq_true] at h
    exact .cons (Rep.dp a h.1) (Reps.dp r h.2)
end
theorem Vw.dp {v : V} {d : D} (h : Vw A K H v d) (ok : okD d = true) : Dp K H v (py d) := by
  cases h with
  | rep h => exact h.dp ok
  | own h => cases h with
    | lst e r => exact .lst (SqL.of e) (Reps.dp r ok)
    | dic e r => simp [okD] at ok
mutual
theorem py_lay : ∀ d : D, okD d = true → (py d).canLay0 = true
  | .non, _ => rfl | .bl _, _ => rfl | .int _, _ => rfl
  | .str x, h => by simpa [okD, py, PyData.canLay0] using h
  | .tup ds, h => by simp only [py, PyData.canLay0]; exact pys_lay ds (by simpa [okD] using h)
  | .lst ds, h => by simp only [py, PyData.canLay0]; exact pys_lay ds (by simpa [okD] using h)
  | .dic _, h => by simp [okD] at h
  | .set _, h => by simp [okD] at h
  | .scr _, h => by simp [okD] at h
theorem pys_lay : ∀ d : List D, oksD d = true → PyData.canLayAll0 (pys d) = true
  | [], _ => by simp [pys, PyData.canLayAll0]
  | d :: ds, h => by
    simp only [oksD, Bool.and_eq_true] at h
    simp only [pys, PyData.canLayAll0, py_lay d h.1, pys_lay ds h.2, Bool.and_self]
end
mutual
theorem py_depth : ∀ d : D, (py d).depth = dpt d
  | .non => by simp [py, PyData.depth, dpt] | .bl _ => by simp [py, PyData.depth, dpt] | .int _ => by simp [py, PyData.depth, dpt]
  | .str x => by simp [py, PyData.depth, dpt]
  | .tup ds => by simp only [py, PyData.depth, dpt, pys_depth ds]
  | .lst ds => by simp only [py, PyData.depth, dpt, pys_depth ds]
  | .dic _ => by simp [py, PyData.depth, PyData.depthKv, dpt]
  | .set _ => by simp [py, PyData.depth, PyData.depthKv, dpt]
  | .scr _ => by simp [py, PyData.depth, PyData.depthKv, dpt]
theorem pys_depth : ∀ d : List D, PyData.depthAll (pys d) = dpts d
  | [] => by simp [pys, PyData.depthAll, dpts]
  | d :: ds => by simp only [pys, PyData.depthAll, dpts, py_depth d, pys_depth ds]
end
mutual
theorem py_eqv : ∀ d e : D, okD d = true → okD e = true → PyData.eqv (py d) (py e) = eqv d e
  | .tup xs, .tup ys, h, k => by simp only [py, PyData.eqv, eqv]; exact pys_eqv xs ys (by simpa [okD] using h) (by simpa [okD] using k)
  | .lst xs, .lst ys, h, k => by simp only [py, PyData.eqv, eqv]; exact pys_eqv xs ys (by simpa [okD] using h) (by simpa [okD] using k)
  | .non, e, h, k => by cases e <;> simp_all [py, PyData.eqv, eqv, okD]
  | .bl _, e, h, k => by cases e <;> simp_all [py, PyData.eqv, eqv, okD]
  | .int _, e, h, k => by cases e <;> simp_all [py, PyData.eqv, eqv, okD]
  | .str _, e, h, k => by cases e <;> simp_all [py, PyData.eqv, eqv, okD]
  | .dic _, e, h, k => by simp [okD] at h
  | .set _, e, h, k => by simp [okD] at h
  | .scr _, e, h, k => by simp [okD] at h
  | .tup _, .non, h, k => by simp [py, PyData.eqv, eqv]
  | .tup _, .bl _, h, k => by simp [py, PyData.eqv, eqv]
  | .tup _, .int _, h, k => by simp [py, PyData.eqv, eqv]
  | .tup _, .str _, h, k => by simp [py, PyData.eqv, eqv]
  | .tup _, .lst _, h, k => by simp [py, PyData.eqv, eqv]
  | .tup _, .dic _, h, k => by simp [okD] at k
  | .tup _, .set _, h, k => by simp [okD] at k
  | .tup _, .scr _, h, k => by simp [okD] at k
  | .lst _, .non, h, k => by simp [py, PyData.eqv, eqv]
  | .lst _, .bl _, h, k => by simp [py, PyData.eqv, eqv]
  | .lst _, .int _, h, k => by simp [py, PyData.eqv, eqv]
  | .lst _, .str _, h, k => by simp [py, PyData.eqv, eqv]
  | .lst _, .tup _, h, k => by simp [py, PyData.eqv, eqv]
  | .lst _, .dic _, h, k => by simp [okD] at k
  | .lst _, .set _, h, k => by simp [okD] at k
  | .lst _, .scr _, h, k => by simp [okD] at k
theorem pys_eqv : ∀ d e : List D, oksD d = true → oksD e = true → PyData.eqvAll (pys d) (pys e) = eqvs d e
  | [], [], _, _ => by simp [pys, PyData.eqvAll, eqvs]
  | [], _ :: _, _, _ => by simp [pys, PyData.eqvAll, eqvs]
  | _ :: _, [], _, _ => by simp [pys, PyData.eqvAll, eqvs]
  | x :: xs, y :: ys, h, k => by
    simp only [oksD, Bool.and_eq_true] at h k
    simp only [pys, PyData.eqvAll, eqvs, py_eqv x y h.1 k.1, pys_eqv xs ys h.2 k.2]
end
end

section
variable {X : Cx} {A : Addr → Prop}
/-- == and != of data -/
def rEqF (A : Addr → Prop) (K : PySem.W.Frag) (neg : Bool) : R2 := fun x y H Q => ∃ d e b, Vw A K H x d ∧ Vw A K H y e ∧ deq d e = some b ∧ Q (.bl (if neg then !b else b)) H
theorem op_eqF (hu : X.A.units + 64 < cLine) : OpR X (compareOp .Eq) (rEqF A X.K false) := by
  intro pins s σ H x y v u Q I rx ry h
  obtain ⟨d, e, b, hd, he, hb, q⟩ := h
  unfold deq eqOk at hb
  split at hb
  case isFalse => cases hb
  case isTrue ok =>
    simp only [Bool.and_eq_true, Bool.or_eq_true, decide_eq_true_eq] at ok
    cases hb
    obtain ⟨as, r1⟩ := Dp.reads I _ x v (hd.dp ok.1.1) rx
    obtain ⟨bs, r2⟩ := Dp.reads I _ y u (he.dp ok.1.2) ry
    refine SeqAt.compareEq_reads r1 r2 (py_lay _ ok.1.1) (py_lay _ ok.1.2) (by rw [py_depth, py_depth]; omega) ?_
    exact fin_bl I q (py_eqv d e ok.1.1 ok.1.2).symm
theorem op_neF (hu : X.A.units + 64 < cLine) : OpR X (compareOp .NotEq) (rEqF A X.K true) := by
  intro pins s σ H x y v u Q I rx ry h
  obtain ⟨d, e, b, hd, he, hb, q⟩ := h
  unfold deq eqOk at hb
  split at hb
  case isFalse => cases hb
  case isTrue ok =>
    simp only [Bool.and_eq_true, Bool.or_eq_true, decide_eq_true_eq] at ok
    cases hb
    obtain ⟨as, r1⟩ := Dp.reads I _ x v (hd.dp ok.1.1) rx
    obtain ⟨bs, r2⟩ := Dp.reads I _ y u (he.dp ok.1.2) ry
    refine SeqAt.compareNe_reads r1 r2 (py_lay _ ok.1.1) (py_lay _ ok.1.2) (by rw [py_depth, py_depth]; omega) ?_
    exact fin_bl I q (by rw [py_eqv d e ok.1.1 ok.1.2]; rfl)
end
end Fw
namespace Fw
open PySem L2

theorem pys_any : ∀ (ys : List D) (x : D), oksD ys = true → okD x = true → ((pys ys).any fun z => PyData.eqv z (py x)) = ys.any fun z => eqv z x
  | [], _, _, _ => rfl
  | y :: ys, x, h, k => by
    simp only [oksD, Bool.and_eq_true] at h
    simp only [pys, List.any_cons, py_eqv y x h.1 k, pys_any ys x h.2 k]

section
variable {X : Cx}
def rInF (K : PySem.W.Frag) (neg : Bool) : R2 := fun x y H Q => ∃ A d e b, Vw A K H x d ∧ Vw A K H y e ∧ dcmp (if neg then .NotIn else .In) d e = some b ∧ Q (.bl b) H

/-- + - * // % ** -/
def rBin (K : PySem.W.Frag) (op : Operator) : R2 := fun x y H Q => ∃ (A : Addr → Prop) (d e f : D), Vw A K H x d ∧ Vw A K H y e ∧ dbin op d e = some f ∧ ∀ v H', Res A K H true v H' f → Q v H'
theorem OpR.imp {f : Value → Value → Sem Value} {r r' : R2} (h : OpR X f r) (i : ∀ x y H Q, r' x y H Q → r x y H Q) : OpR X f r' := fun pins s σ H x y v u Q I rx ry q => h pins s σ H x y v u Q I rx ry (i x y H Q q)
theorem op_binF : ∀ op, OpR X (binaryOp op) (rBin X.K op)
  | .Add => by
    intro pins s σ H x y v u Q I rx ry h
    obtain ⟨A, d, e, f, hd, he, hf, q⟩ := h
    cases d <;> cases e <;> simp only [dbin] at hf <;> try cases hf
    case int.bl i b => exact op_add_ib pins s σ H x y v u Q I rx ry ⟨i, b, hd.int, he.bl, by cases b <;> exact q _ _ (.same (.int _) fun _ => rfl)⟩
    case int.int i j => exact op_add pins s σ H x y v u Q I rx ry ⟨i, j, hd.int, he.int, q _ _ (.same (.int _) fun _ => rfl)⟩
    case str.str i j =>
      split at hf
      · cases hf; exact op_add_str pins s σ H x y v u Q I rx ry ⟨i, j, hd.str, he.str, ‹_›, q _ _ (.same (.str _) fun _ => rfl)⟩
      · cases hf
    case tup.tup xs ys =>
      split at hf
      · cases hf
        rename_i hz
        obtain ⟨a, vs, rfl, ha, ra⟩ := hd.tup
        obtain ⟨b, ws, rfl, hb, rb⟩ := he.tup
        refine op_catA pins s σ H _ _ v u Q I rx ry ⟨a, b, vs, ws, rfl, rfl, ha, hb, by rw [ra.length, rb.length]; exact hz, fun z => ?_, fun z z2 => ?_, fun _ _ p hp => q _ _ (.tup hp (ra.append rb))⟩
        · subst z
          cases ra
          exact q _ _ (.same (.tup hb rb) fun _ => rfl)
        · subst z2
          cases rb
          rw [List.append_nil] at q
          exact q _ _ (.same (.tup ha ra) fun _ => rfl)
      · cases hf
    case lst.lst xs ys =>
      split at hf
      · cases hf
        rename_i hz
        obtain ⟨a, vs, rfl, ha, ra⟩ := hd.lst
        obtain ⟨b, ws, rfl, hb, rb⟩ := he.lst
        exact op_cat pins s σ H _ _ v u Q I rx ry ⟨a, b, vs, ws, rfl, rfl, ha, hb, by rw [ra.length, rb.length]; exact hz, fun p hp => q _ _ (.lst hp (ra.append rb))⟩
      · cases hf
  | .Sub => by
    intro pins s σ H x y v u Q I rx ry h
    obtain ⟨A, d, e, f, hd, he, hf, q⟩ := h
    cases d <;> cases e <;> simp only [dbin] at hf <;> try cases hf
    case int.int i j => exact op_sub pins s σ H x y v u Q I rx ry ⟨i, j, hd.int, he.int, q _ _ (.same (.int _) fun _ => rfl)⟩
  | .Mult => by
    intro pins s σ H x y v u Q I rx ry h
    obtain ⟨A, d, e, f, hd, he, hf, q⟩ := h
    cases d <;> cases e <;> simp only [dbin] at hf <;> try cases hf
    case int.int i j =>
      split at hf
      · cases hf
        rename_i hz
        refine op_mul pins s σ H x y v u Q I rx ry ⟨i, j, hd.int, he.int, ?_, q _ _ (.same (.int _) fun _ => rfl)⟩
        simp only [small, Bool.or_eq_true, Bool.and_eq_true, decide_eq_true_eq] at hz
        exact hz
      · cases hf
    case lst.int xs k =>
      split at hf
      · cases hf
        rename_i hz
        obtain ⟨a, vs, rfl, ha, ra⟩ := hd.lst
        exact op_rep pins s σ H _ y v u Q I rx ry ⟨a, k, vs, rfl, he.int, ha, hz.1, hz.2.1, by rw [ra.length]; exact hz.2.2, fun p hp => q _ _ (.lst hp (ra.rep _))⟩
      · cases hf
  | .FloorDiv => by
    intro pins s σ H x y v u Q I rx ry h
    obtain ⟨A, d, e, f, hd, he, hf, q⟩ := h
    cases d <;> cases e <;> simp only [dbin] at hf <;> try cases hf
    case int.int i j =>
      split at hf
      · cases hf; exact op_fdivN pins s σ H x y v u Q I rx ry ⟨i, j, hd.int, he.int, ‹_›, q _ _ (.same (.int _) fun _ => rfl)⟩
      · cases hf
  | .Mod => by
    intro pins s σ H x y v u Q I rx ry h
    obtain ⟨A, d, e, f, hd, he, hf, q⟩ := h
    cases d <;> cases e <;> simp only [dbin] at hf <;> try cases hf
    case int.int i j =>
      split at hf
      · cases hf; exact op_modN pins s σ H x y v u Q I rx ry ⟨i, j, hd.int, he.int, ‹_›, q _ _ (.same (.int _) fun _ => rfl)⟩
      · cases hf
  | .Pow => by
    intro pins s σ H x y v u Q I rx ry h
    obtain ⟨A, d, e, f, hd, he, hf, q⟩ := h
    cases d <;> cases e <;> simp only [dbin] at hf <;> try cases hf
    case int.int i j =>
      split at hf
      · cases hf; exact op_pow pins s σ H x y v u Q I rx ry ⟨i, j, hd.int, he.int, ‹_›, q _ _ (.same (.int _) fun _ => rfl)⟩
      · cases hf
  | .MatMult | .Div | .LShift | .RShift | .BitOr | .BitXor | .BitAnd => by
    intro pins s σ H x y v u Q I rx ry h
    obtain ⟨A, d, e, f, hd, he, hf, q⟩ := h
    cases d <;> cases e <;> simp only [dbin] at hf <;> cases hf

/-! ### in -/
theorem in_seq {neg : Bool} {A : Addr → Prop} {pins : List (Addr × Obj)} {s : Shared} {σ : St} {H : Hp} {x y : V} {v u : Value} {Q : VK} {d : D} {ys : List D} (hu : X.A.units + 66 < cLine) (I : Inv X pins σ H s) (rx : RelV x v) (ry : RelV y u)
    (hd : Vw A X.K H x d) (ok : inOk d ys = true) (he : Vw A X.K H y (.lst ys) ∨ Vw A X.K H y (.tup ys)) (q : Q (.bl (if neg then !(ys.any fun z => eqv z d) else ys.any fun z => eqv z d)) H) :
    wpAny (model X.prog X.w) X.A (compareOp (if neg then .NotIn else .In) v u) (EP X pins σ Q) X.xe s := by
  unfold inOk at ok
  simp only [Bool.and_eq_true, Bool.or_eq_true, decide_eq_true_eq] at ok
  obtain ⟨⟨o1, o2⟩, o3⟩ := ok
  obtain ⟨as, r1⟩ := Dp.reads I _ x v (hd.dp o1) rx
  have hr : X.A.units + 1 + min (PyData.depthAll (pys ys)) (py d).depth < cLine := by rw [py_depth, pys_depth]; omega
  have l2 : (PyData.list (pys ys)).canLay0 = true := py_lay (.lst ys) (by simpa [okD] using o2)
  have l3 : (PyData.tuple (pys ys)).canLay0 = true := py_lay (.tup ys) (by simpa [okD] using o2)
  have e := pys_any ys d o2 o1
  rcases he with he | he
  · obtain ⟨bs, r2⟩ := Dp.reads I _ y u (he.dp (by simpa [okD] using o2)) ry
    simp only [py] at r2
    cases neg with
    | true => exact SeqAt.notIn_list_reads r2 r1 l2 (py_lay _ o1) hr (fin_bl I q (by rw [e]; rfl))
    | false => exact SeqAt.in_list_reads r2 r1 l2 (py_lay _ o1) hr (fin_bl I q (by rw [e]; rfl))
  · obtain ⟨bs, r2⟩ := Dp.reads I _ y u (he.dp (by simpa [okD] using o2)) ry
    simp only [py] at r2
    cases neg with
    | true => exact SeqAt.notIn_tuple_reads r2 r1 l3 (py_lay _ o1) hr (fin_bl I q (by rw [e]; rfl))
    | false => exact SeqAt.in_tuple_reads r2 r1 l3 (py_lay _ o1) hr (fin_bl I q (by rw [e]; rfl))
end
end Fw
/-! Fw: the order of data. -/
namespace Fw
open PySem L2

mutual
theorem eqv_symm : ∀ d e : D, eqv d e = eqv e d
  | .tup xs, .tup ys => by simp only [eqv]; exact eqvs_symm xs ys
  | .lst xs, .lst ys => by simp only [eqv]; exact eqvs_symm xs ys
  | .bl a, .bl b => by simp only [eqv]; exact Bool.beq_comm
  | .bl a, .int b => by simp only [eqv]; exact BEq.comm
  | .int a, .bl b => by simp only [eqv]; exact BEq.comm
  | .int a, .int b => by simp only [eqv]; exact BEq.comm
  | .str a, .str b => by simp only [eqv]; exact BEq.comm
  | .non, e => by cases e <;> simp [eqv]
  | .dic _, e => by cases e <;> simp [eqv]
  | .set _, e => by cases e <;> simp [eqv]
  | .scr _, e => by cases e <;> simp [eqv]
  | .bl _, .non => by simp [eqv] | .bl _, .str _ => by simp [eqv] | .bl _, .tup _ => by simp [eqv] | .bl _, .lst _ => by simp [eqv] | .bl _, .dic _ => by simp [eqv] | .bl _, .set _ => by simp [eqv] | .bl _, .scr _ => by simp [eqv]
  | .int _, .non => by simp [eqv] | .int _, .str _ => by simp [eqv] | .int _, .tup _ => by simp [eqv] | .int _, .lst _ => by simp [eqv] | .int _, .dic _ => by simp [eqv] | .int _, .set _ => by simp [eqv] | .int _, .scr _ => by simp [eqv]
  | .str _, .non => by simp [eqv] | .str _, .bl _ => by simp [eqv] | .str _, .int _ => by simp [eqv] | .str _, .tup _ => by simp [eqv] | .str _, .lst _ => by simp [eqv] | .str _, .dic _ => by simp [eqv] | .str _, .set _ => by simp [eqv] | .str _, .scr _ => by simp [eqv]
  | .tup _, .non => by simp [eqv] | .tup _, .bl _ => by simp [eqv] | .tup _, .int _ => by simp [eqv] | .tup _, .str _ => by simp [eqv] | .tup _, .lst _ => by simp [eqv] | .tup _, .dic _ => by simp [eqv] | .tup _, .set _ => by simp [eqv] | .tup _, .scr _ => by simp [eqv]
  | .lst _, .non => by simp [eqv] | .lst _, .bl _ => by simp [eqv] | .lst _, .int _ => by simp [eqv] | .lst _, .str _ => by simp [eqv] | .lst _, .tup _ => by simp [eqv] | .lst _, .dic _ => by simp [eqv] | .lst _, .set _ => by simp [eqv] | .lst _, .scr _ => by simp [eqv]
theorem eqvs_symm : ∀ d e : List D, eqvs d e = eqvs e d
  | [], [] => rfl | [], _ :: _ => rfl | _ :: _, [] => rfl
  | x :: xs, y :: ys => by simp only [eqvs, eqv_symm x y, eqvs_symm xs ys]
end

def opN : CmpOp → Nat → Nat → Bool
  | .Lt, n, m => decide (n < m)
  | .Gt, n, m => decide (n > m)
  | .LtE, n, m => decide (n ≤ m)
  | .GtE, n, m => decide (n ≥ m)
  | _, _, _ => false
def isOrd : CmpOp → Bool
  | .Lt => true | .Gt => true | .LtE => true | .GtE => true | _ => false

theorem lexAt_shift (e r : Nat → Bool) (z : Bool) : ∀ k i, Ob.lexAt e r z (i + 1) k = Ob.lexAt (fun j => e (j + 1)) (fun j => r (j + 1)) z i k
  | 0, _ => rfl
  | k + 1, i => by rw [Ob.lexAt_succ, Ob.lexAt_succ, lexAt_shift e r z k (i + 1)]
theorem lexAt_congr {e e' r r' : Nat → Bool} {z z' : Bool} (hz : z = z') : ∀ k i, (∀ j, i ≤ j → j < i + k → e j = e' j ∧ (e j = false → r j = r' j)) → Ob.lexAt e r z i k = Ob.lexAt e' r' z' i k
  | 0, _, _ => hz
  | k + 1, i, h => by
    obtain ⟨h1, h2⟩ := h i (Nat.le_refl _) (by omega)
    rw [Ob.lexAt_succ, Ob.lexAt_succ, ← h1]
    cases q : e i with
    | true => simp only [if_true]; exact lexAt_congr hz k (i + 1) fun j a b => h j (by omega) (by omega)
    | false => simp only [Bool.false_eq_true, if_false]; exact h2 q
theorem opN_succ (op : CmpOp) (n m : Nat) : opN op (n + 1) (m + 1) = opN op n m := by
  cases op <;> simp [opN]
theorem lex_opD {op : CmpOp} (ho : isOrd op = true) : ∀ xs ys : List D,
    Ob.lexAt (fun j => eqv (xs.getD j .non) (ys.getD j .non)) (fun j => opD op (xs.getD j .non) (ys.getD j .non)) (opN op xs.length ys.length) 0 (min xs.length ys.length) = opD op (.tup xs) (.tup ys)
  | [], [] => by cases op <;> simp_all [isOrd, opD, opN, ltD, ltsD, Ob.lexAt]
  | [], _ :: _ => by cases op <;> simp_all [isOrd, opD, opN, ltD, ltsD, Ob.lexAt]
  | _ :: _, [] => by cases op <;> simp_all [isOrd, opD, opN, ltD, ltsD, Ob.lexAt]
  | x :: xs, y :: ys => by
    have ih := lex_opD ho xs ys
    rw [show min (x :: xs).length (y :: ys).length = min xs.length ys.length + 1 by simp only [List.length_cons]; omega, Ob.lexAt_succ, lexAt_shift]
    simp only [List.length_cons, opN_succ, List.getD_cons_zero, List.getD_cons_succ]
    rw [ih]
    cases op <;> simp only [isOrd, Bool.false_eq_true] at ho <;> simp only [opD, ltD, ltsD, eqv_symm y x] <;> split <;> rfl
theorem pairEq_pys : ∀ (xs ys : List D) (j : Nat), j < xs.length → j < ys.length → oksD xs = true → oksD ys = true → SeqAt.pairEq (pys xs) (pys ys) j = eqv (xs.getD j .non) (ys.getD j .non)
  | x :: xs, y :: ys, 0, _, _, h, k => by
    simp only [oksD, Bool.and_eq_true] at h k
    simp only [pys, List.getD_cons_zero]
    exact py_eqv x y h.1 k.1
  | x :: xs, y :: ys, j + 1, a, b, h, k => by
    simp only [oksD, Bool.and_eq_true] at h k
    simp only [pys, List.getD_cons_succ]
    exact pairEq_pys xs ys j (by simpa using a) (by simpa using b) h.2 k.2
mutual
theorem ord_ok : ∀ d : D, ordD d = true → okD d = true
  | .int _, _ => rfl
  | .str _, h => by simpa [ordD, okD] using h
  | .tup ds, h => by simp only [okD]; exact ords_ok ds (by simpa [ordD] using h)
  | .non, h => by simp [ordD] at h | .bl _, h => by simp [ordD] at h | .lst _, h => by simp [ordD] at h
  | .dic _, h => by simp [ordD] at h | .set _, h => by simp [ordD] at h | .scr _, h => by simp [ordD] at h
theorem ords_ok : ∀ d : List D, ordsD d = true → oksD d = true
  | [], _ => rfl
  | d :: ds, h => by
    simp only [ordsD, Bool.and_eq_true] at h
    simp only [oksD, ord_ok d h.1, ords_ok ds h.2, Bool.and_self]
end
theorem pys_length : ∀ xs : List D, (pys xs).length = xs.length
  | [] => rfl
  | _ :: xs => by simp [pys, pys_length xs]
theorem readsAll_length {h : Heap} : ∀ {vs : List Value} {xs : List PyData} {as : List Addr}, ReadsAll h vs xs as → vs.length = xs.length
  | _, _, _, .nil => rfl
  | _, _, _, .cons _ r => by simp [readsAll_length r]
mutual
theorem rcD {op : CmpOp} (ho : isOrd op = true) : ∀ (d e : D) (A : Around) (s : Shared) (u v : Value) (as bs : List Addr), Reads s.heap u (py d) as → Reads s.heap v (py e) bs → ordD d = true → ordD e = true → cmpD d e = true →
    A.units + min (dpt d) (dpt e) < cLine → Ob.RcOp op A s u v (opD op d e)
  | .int i, .int j, A, s, u, v, as, bs, ru, rv, _, _, _, hu => by
    cases ru; cases rv
    cases op <;> simp only [isOrd, Bool.false_eq_true] at ho <;> simp only [opD, ltD]
    · exact Ob.RcOp.lt_int _ _ _ _
    · have := Ob.RcOp.le_int (A := A) (s := s) i j; intro prog w E Q h; refine this _ _ prog w E Q ?_; have e : (!decide (j < i)) = decide (i ≤ j) := by rw [← decide_not]; exact decide_eq_decide.mpr (by omega)
      rw [← e]; exact h
    · exact Ob.RcOp.gt_int _ _ _ _
    · have := Ob.RcOp.ge_int (A := A) (s := s) i j; intro prog w E Q h; refine this _ _ prog w E Q ?_; have e : (!decide (i < j)) = decide (j ≤ i) := by rw [← decide_not]; exact decide_eq_decide.mpr (by omega)
      rw [← e]; exact h
  | .str i, .str j, A, s, u, v, as, bs, ru, rv, _, _, _, hu => by
    cases ru; cases rv
    cases op <;> simp only [isOrd, Bool.false_eq_true] at ho <;> simp only [opD, ltD]
    · exact fun prog w E Q h => PyProof.Rows.lt_str h
    · exact fun prog w E Q h => P.le_str h
    · exact fun prog w E Q h => P.gt_str h
    · exact fun prog w E Q h => P.ge_str h
  | .tup xs, .tup ys, A, s, u, v, as, bs, ru, rv, h1, h2, h3, hu => by
    simp only [py] at ru rv
    simp only [ordD] at h1 h2
    simp only [cmpD] at h3
    simp only [dpt] at hu
    cases ru with
    | tuple e1 c1 d1 r1 =>
      rename_i a o items n
      cases rv with
      | tuple e2 c2 d2 r2 =>
        rename_i b o2 items2 n2
        have l1 : items.size = xs.length := by have := readsAll_length r1; rw [pys_length] at this; simpa using this
        have l2 : items2.size = ys.length := by have := readsAll_length r2; rw [pys_length] at this; simpa using this
        have hl : s.heap.IsTuple a items := ⟨o, e1, c1, n, d1⟩
        have hb : s.heap.IsTuple b items2 := ⟨o2, e2, c2, n2, d2⟩
        have he : ∀ j (k1 : j < items.size) (k2 : j < items2.size), SeqAt.EqAt A.in1 s items[j] items2[j] (eqv (xs.getD j .non) (ys.getD j .non)) := fun j k1 k2 => by
          rw [← pairEq_pys xs ys j (by omega) (by omega) (ords_ok _ h1) (ords_ok _ h2)]
          exact SeqAt.eqAt_readsAll _ _ A.in1 s items.toList items2.toList _ _ r1 r2 (pys_lay _ (ords_ok _ h1)) (pys_lay _ (ords_ok _ h2)) (by rw [pys_depth, pys_depth]; show A.units + 1 + _ < _; omega) j (by simpa using k1) (by simpa using k2)
        have hr : ∀ j (k1 : j < items.size) (k2 : j < items2.size), eqv (xs.getD j .non) (ys.getD j .non) = false → Ob.RcOp op A.in1 s items[j] items2[j] (opD op (xs.getD j .non) (ys.getD j .non)) := fun j k1 k2 q =>
          rcDs ho xs ys A.in1 s items.toList items2.toList _ _ r1 r2 h1 h2 h3 (by show A.units + 1 + _ < _; omega) j (by simpa using k1) (by simpa using k2) q
        have z := lex_opD ho xs ys
        rw [← l1, ← l2] at z
        rw [← z]
        cases op <;> simp only [isOrd, Bool.false_eq_true] at ho
        · exact Ob.RcOp.tuples_lt hl hb (by omega) he hr
        · exact Ob.RcOp.tuples_le hl hb (by omega) he hr
        · exact Ob.RcOp.tuples_gt hl hb (by omega) he hr
        · exact Ob.RcOp.tuples_ge hl hb (by omega) he hr
  | .int _, .str _, _, _, _, _, _, _, _, _, _, _, h, _ => by simp [cmpD] at h
  | .int _, .tup _, _, _, _, _, _, _, _, _, _, _, h, _ => by simp [cmpD] at h
  | .str _, .int _, _, _, _, _, _, _, _, _, _, _, h, _ => by simp [cmpD] at h
  | .str _, .tup _, _, _, _, _, _, _, _, _, _, _, h, _ => by simp [cmpD] at h
  | .tup _, .int _, _, _, _, _, _, _, _, _, _, _, h, _ => by simp [cmpD] at h
  | .tup _, .str _, _, _, _, _, _, _, _, _, _, _, h, _ => by simp [cmpD] at h
  | .non, _, _, _, _, _, _, _, _, _, h, _, _, _ => by simp [ordD] at h
  | .bl _, _, _, _, _, _, _, _, _, _, h, _, _, _ => by simp [ordD] at h
  | .lst _, _, _, _, _, _, _, _, _, _, h, _, _, _ => by simp [ordD] at h
  | .dic _, _, _, _, _, _, _, _, _, _, h, _, _, _ => by simp [ordD] at h
  | .set _, _, _, _, _, _, _, _, _, _, h, _, _, _ => by simp [ordD] at h
  | .scr _, _, _, _, _, _, _, _, _, _, h, _, _, _ => by simp [ordD] at h
  | _, .non, _, _, _, _, _, _, _, _, _, h, _, _ => by simp [ordD] at h
  | _, .bl _, _, _, _, _, _, _, _, _, _, h, _, _ => by simp [ordD] at h
  | _, .lst _, _, _, _, _, _, _, _, _, _, h, _, _ => by simp [ordD] at h
  | _, .dic _, _, _, _, _, _, _, _, _, _, h, _, _ => by simp [ordD] at h
  | _, .set _, _, _, _, _, _, _, _, _, _, h, _, _ => by simp [ordD] at h
  | _, .scr _, _, _, _, _, _, _, _, _, _, h, _, _ => by simp [ordD] at h
theorem rcDs {op : CmpOp} (ho : isOrd op = true) : ∀ (xs ys : List D) (A : Around) (s : Shared) (us vs : List Value) (as bs : List Addr), ReadsAll s.heap us (pys xs) as → ReadsAll s.heap vs (pys ys) bs → ordsD xs = true → ordsD ys = true → cmpsD xs ys = true →
    A.units + min (dpts xs) (dpts ys) < cLine → ∀ j (k1 : j < us.length) (k2 : j < vs.length), eqv (xs.getD j .non) (ys.getD j .non) = false → Ob.RcOp op A s us[j] vs[j] (opD op (xs.getD j .non) (ys.getD j .non))
  | [], _, A, s, us, vs, as, bs, ru, rv, _, _, _, _, j, k1, _, _ => by simp only [pys] at ru; cases ru; exact absurd k1 (Nat.not_lt_zero _)
  | _ :: _, [], A, s, us, vs, as, bs, ru, rv, _, _, _, _, j, _, k2, _ => by simp only [pys] at rv; cases rv; exact absurd k2 (Nat.not_lt_zero _)
  | x :: xs, y :: ys, A, s, us, vs, as, bs, ru, rv, h1, h2, h3, hu, j, k1, k2, q => by
    simp only [pys] at ru rv
    simp only [ordsD, Bool.and_eq_true] at h1 h2
    simp only [cmpsD, Bool.and_eq_true, Bool.or_eq_true] at h3
    simp only [dpts] at hu
    cases ru with
    | cons a1 r1 =>
      cases rv with
      | cons a2 r2 =>
        cases j with
        | zero =>
          simp only [List.getD_cons_zero] at q ⊢
          exact rcD ho x y A s _ _ _ _ a1 a2 h1.1 h2.1 (h3.1.elim (fun z => by rw [q] at z; cases z) id) (by omega)
        | succ j =>
          simp only [List.getD_cons_succ] at q ⊢
          exact rcDs ho xs ys A s _ _ _ _ r1 r2 h1.2 h2.2 h3.2 (by omega) j (by simpa using k1) (by simpa using k2) q
end
end Fw
namespace Fw
open PySem L2
section
variable {A : Addr → Prop} {K : PySem.W.Frag} {H : Hp}
/-! ### dicts -/
theorem RepKs.look : ∀ {kv : List (Key × V)} {ks : List (Key × D)} (k : Key), RepKs A K H kv ks →
    (valV kv k = none ∧ Fw.look ks k = none) ∨ ∃ v d, valV kv k = some v ∧ Fw.look ks k = some d ∧ Rep A K H v d
  | _, _, k, .nil => .inl ⟨rfl, rfl⟩
  | _, _, k, .cons (k := k') (v := v) (vs := vs) (d := d) (ds := ds) h r => by
    by_cases e : k' = k
    · refine .inr ⟨v, d, valV_pos (p := (k', v)) e, ?_, h⟩
      simp [Fw.look, e]
    · have e1 : valV ((k', v) :: vs) k = valV vs k := valV_neg (p := (k', v)) e
      have e2 : Fw.look ((k', d) :: ds) k = Fw.look ds k := by simp [Fw.look, e]
      rw [e1, e2]
      exact RepKs.look k r
theorem RepKs.length : ∀ {kv : List (Key × V)} {ks : List (Key × D)}, RepKs A K H kv ks → kv.length = ks.length
  | _, _, .nil => rfl
  | _, _, .cons _ r => by simp [RepKs.length r]
theorem RepKs.any (k : Key) : ∀ {kv : List (Key × V)} {ks : List (Key × D)}, RepKs A K H kv ks → (kv.any fun p => decide (p.1 = k)) = ks.any fun p => decide (p.1 = k)
  | _, _, .nil => rfl
  | _, _, .cons _ r => by simp only [List.any_cons, RepKs.any k r]
theorem RepKs.repl {v : V} {d : D} (k : Key) (h : Rep A K H v d) : ∀ {kv : List (Key × V)} {ks : List (Key × D)}, RepKs A K H kv ks →
    RepKs A K H (kv.map fun p => if p.1 = k then (p.1, v) else p) (ks.map fun p => if p.1 = k then (p.1, d) else p)
  | _, _, .nil => .nil
  | _, _, .cons (k := k') h' r => by
    simp only [List.map_cons]
    by_cases e : k' = k
    · simp only [e, if_true]
      exact .cons h (RepKs.repl k h r)
    · simp only [e, if_false]
      exact .cons h' (RepKs.repl k h r)
theorem RepKs.append : ∀ {vs ws : List (Key × V)} {ds es : List (Key × D)}, RepKs A K H vs ds → RepKs A K H ws es → RepKs A K H (vs ++ ws) (ds ++ es)
  | _, _, _, _, .nil, s => s
  | _, _, _, _, .cons h r, s => .cons h (RepKs.append r s)
theorem RepKs.put {v : V} {d : D} (k : Key) (h : Rep A K H v d) {kv : List (Key × V)} {ks : List (Key × D)} (r : RepKs A K H kv ks) : RepKs A K H (putK kv k v) (putD ks k d) := by
  unfold putK putD
  rw [r.any k]
  split
  · exact r.repl k h
  · exact r.append (.cons h .nil)
theorem keyOf_kV {v : V} {d : D} {k : Key} (h : Vw A K H v d) (e : keyOf d = some k) : v = kV k := by
  cases d <;> simp only [keyOf] at e <;> cases e
  · exact h.int
  · exact h.str
end

section
variable {X : Cx}
/-! ### comparisons -/
def rCmp (K : PySem.W.Frag) (op : CmpOp) : R2 := fun x y H Q => ∃ (A : Addr → Prop) (d e : D) (b : Bool), Vw A K H x d ∧ Vw A K H y e ∧ dcmp op d e = some b ∧ Q (.bl b) H
theorem cmp_ord {op : CmpOp} (ho : isOrd op = true) (hu : X.A.units + 66 < cLine) {pins : List (Addr × Obj)} {s : Shared} {σ : St} {H : Hp} {x y : V} {v u : Value} {Q : VK} (I : Inv X pins σ H s) (rx : RelV x v) (ry : RelV y u)
    {A : Addr → Prop} {d e : D} {b : Bool} (hd : Vw A X.K H x d) (he : Vw A X.K H y e) (h : dord op d e = some b) (q : Q (.bl b) H) : wpAny (model X.prog X.w) X.A (compareOp op v u) (EP X pins σ Q) X.xe s := by
  unfold dord at h
  split at h
  case isFalse => cases h
  case isTrue ok =>
    cases h
    simp only [ltOk, Bool.and_eq_true, Bool.or_eq_true, decide_eq_true_eq] at ok
    obtain ⟨⟨⟨o1, o2⟩, o3⟩, o4⟩ := ok
    obtain ⟨as, r1⟩ := Dp.reads I _ x v (hd.dp (ord_ok _ o1)) rx
    obtain ⟨bs, r2⟩ := Dp.reads I _ y u (he.dp (ord_ok _ o2)) ry
    have z := rcD ho d e X.A s v u _ _ r1 r2 o1 o2 o3 (by omega)
    cases op <;> simp only [isOrd, Bool.false_eq_true] at ho <;> exact z _ _ _ _ (fin_bl I q rfl)
theorem int_ltOk (i j : Int) : ltOk (.int i) (.int j) = true := rfl
theorem op_is_any : OpR X (compareOp .Is) (fun x y H Q => y = .non ∧ Q (.bl (decide (x = .non))) H) := op_isN
theorem dec_non {A : Addr → Prop} {K : PySem.W.Frag} {H : Hp} {v : V} {d : D} (h : Vw A K H v d) : decide (v = .non) = (match d with | .non => true | _ => false) := by
  cases h with
  | rep h => cases h <;> simp
  | own h => cases h <;> simp
theorem op_cmpF (hu : X.A.units + 66 < cLine) : ∀ op, OpR X (compareOp op) (rCmp X.K op)
  | .Eq => fun pins s σ H x y v u Q I rx ry ⟨A, d, e, b, hd, he, h, q⟩ => op_eqF (A := A) (by omega) pins s σ H x y v u Q I rx ry ⟨d, e, b, hd, he, h, q⟩
  | .NotEq => fun pins s σ H x y v u Q I rx ry ⟨A, d, e, b, hd, he, h, q⟩ => by
    simp only [dcmp] at h
    cases z : deq d e with
    | none => rw [z] at h; cases h
    | some c =>
      rw [z] at h
      cases h
      exact op_neF (A := A) (by omega) pins s σ H x y v u Q I rx ry ⟨d, e, c, hd, he, z, q⟩
  | .Lt => fun pins s σ H x y v u Q I rx ry ⟨A, d, e, b, hd, he, h, q⟩ => by
    refine cmp_ord (op := .Lt) rfl hu I rx ry hd he ?_ q
    cases d <;> cases e <;> simp only [dcmp] at h <;> first | exact h | (cases h; rfl)
  | .Gt => fun pins s σ H x y v u Q I rx ry ⟨A, d, e, b, hd, he, h, q⟩ => by
    refine cmp_ord (op := .Gt) rfl hu I rx ry hd he ?_ q
    cases d <;> cases e <;> simp only [dcmp] at h <;> first | exact h | (cases h; rfl)
  | .LtE => fun pins s σ H x y v u Q I rx ry ⟨A, d, e, b, hd, he, h, q⟩ => by
    refine cmp_ord (op := .LtE) rfl hu I rx ry hd he ?_ q
    cases d <;> cases e <;> simp only [dcmp] at h <;> first | exact h | (cases h; simp only [dord, int_ltOk, if_true, opD, ltD]; congr 1; rw [← decide_not]; exact decide_eq_decide.mpr (by omega))
  | .GtE => fun pins s σ H x y v u Q I rx ry ⟨A, d, e, b, hd, he, h, q⟩ => by
    refine cmp_ord (op := .GtE) rfl hu I rx ry hd he ?_ q
    cases d <;> cases e <;> simp only [dcmp] at h <;> first | exact h | (cases h; simp only [dord, int_ltOk, if_true, opD, ltD]; congr 1; rw [← decide_not]; exact decide_eq_decide.mpr (by omega))
  | .Is => fun pins s σ H x y v u Q I rx ry ⟨A, d, e, b, hd, he, h, q⟩ => by
    cases e
    case non =>
      refine op_isN pins s σ H x y v u Q I rx ry ⟨he.non, ?_⟩
      rw [dec_non hd]
      cases d <;> simp only [dcmp] at h <;> cases h <;> exact q
    case bl c =>
      cases d <;> simp only [dcmp] at h <;> try cases h
      case bl a => exact op_is_bl pins s σ H x y v u Q I rx ry ⟨a, c, hd.bl, he.bl, by cases a <;> cases c <;> exact q⟩
    all_goals (cases d <;> simp only [dcmp] at h <;> cases h)
  | .IsNot => fun pins s σ H x y v u Q I rx ry ⟨A, d, e, b, hd, he, h, q⟩ => by
    cases e
    case non =>
      refine op_notN pins s σ H x y v u Q I rx ry ⟨he.non, ?_⟩
      rw [dec_non hd]
      cases d <;> simp only [dcmp] at h <;> cases h <;> exact q
    case bl c =>
      cases d <;> simp only [dcmp] at h <;> try cases h
      case bl a => exact op_isnot_bl pins s σ H x y v u Q I rx ry ⟨a, c, hd.bl, he.bl, by cases a <;> cases c <;> exact q⟩
    all_goals (cases d <;> simp only [dcmp] at h <;> cases h)
  | .In => fun pins s σ H x y v u Q I rx ry ⟨A, d, e, b, hd, he, h, q⟩ => by
    cases e
    case lst ys =>
      simp only [dcmp] at h
      split at h
      · cases h; exact in_seq (neg := false) hu I rx ry hd ‹_› (.inl he) q
      · cases h
    case tup ys =>
      simp only [dcmp] at h
      split at h
      · cases h; exact in_seq (neg := false) hu I rx ry hd ‹_› (.inr he) q
      · cases h
    case dic ks =>
      simp only [dcmp] at h
      obtain ⟨a, kv, rfl, ha, r⟩ := he.dic
      cases z : keyOf d with
      | none => rw [z] at h; cases h
      | some k =>
        rw [z] at h
        cases h
        cases keyOf_kV hd z
        cases ry
        refine d_in (o := valV kv k) (by omega) I (DGet.k ha) rx fun s' I' => ⟨.bl _, H, I', rfl, ?_⟩
        rcases r.look k with ⟨h1, h2⟩ | ⟨w, f, h1, h2, _⟩
        · rw [h1]; dsimp only at q; rw [h2] at q; exact q
        · rw [h1]; dsimp only at q; rw [h2] at q; exact q
    all_goals (simp only [dcmp] at h; cases h)
  | .NotIn => fun pins s σ H x y v u Q I rx ry ⟨A, d, e, b, hd, he, h, q⟩ => by
    cases e
    case lst ys =>
      simp only [dcmp] at h
      split at h
      · cases h; exact in_seq (neg := true) hu I rx ry hd ‹_› (.inl he) q
      · cases h
    case tup ys =>
      simp only [dcmp] at h
      split at h
      · cases h; exact in_seq (neg := true) hu I rx ry hd ‹_› (.inr he) q
      · cases h
    case dic ks =>
      simp only [dcmp] at h
      obtain ⟨a, kv, rfl, ha, r⟩ := he.dic
      cases z : keyOf d with
      | none => rw [z] at h; cases h
      | some k =>
        rw [z] at h
        cases h
        cases keyOf_kV hd z
        cases ry
        refine d_notIn (o := valV kv k) (by omega) I (DGet.k ha) rx fun s' I' => ⟨.bl _, H, I', rfl, ?_⟩
        rcases r.look k with ⟨h1, h2⟩ | ⟨w, f, h1, h2, _⟩
        · rw [h1]; dsimp only at q; rw [h2] at q; exact q
        · rw [h1]; dsimp only at q; rw [h2] at q; exact q
    all_goals (simp only [dcmp] at h; cases h)
end
end Fw
namespace Fw
open PySem L2
theorem Scr.toL {K : PySem.W.Frag} {H : Hp} {a : Addr} {xs : List V} (h : Scr K H a xs) : SqL K H a xs := h.sql
theorem atI_map {α β : Type} (f : α → β) (xs : List α) (i : Int) : atI (xs.map f) i = (atI xs i).map f := by
  unfold atI
  rw [List.length_map]
  cases ixN xs.length i with
  | none => rfl
  | some j => simp
section
variable {A : Addr → Prop} {K : PySem.W.Frag} {H : Hp}
theorem Reps.atI {vs : List V} {ds : List D} {i : Int} {d : D} (r : Reps A K H vs ds) (h : L2.atI ds i = some d) : ∃ v, L2.atI vs i = some v ∧ Rep A K H v d := by
  unfold L2.atI at h ⊢
  rw [r.length]
  cases q : ixN ds.length i with
  | none => rw [q] at h; cases h
  | some j =>
    rw [q] at h
    exact r.get' h
end
section
variable {X : Cx}
/-! ### x[i] -/
def rIdx (K : PySem.W.Frag) : R2 := fun x y H Q => ∃ (A : Addr → Prop) (d e f : D), Vw A K H x d ∧ Vw A K H y e ∧ didx d e = some f ∧ ∀ v H', Res A K H false v H' f → Q v H'
theorem ix_F (hu : X.A.units + 1 < cLine) : IxR X (rIdx X.K) := by
  intro value slice pins s σ H x y v u Q I rx ry h hs
  obtain ⟨A, d, e, f, hd, he, hf, q⟩ := h
  cases d <;> simp only [didx] at hf <;> try cases hf
  case tup ds =>
    cases e <;> simp only [didx] at hf <;> try cases hf
    obtain ⟨a, vs, rfl, ha, r⟩ := hd.tup
    obtain ⟨w, hw, rw'⟩ := r.atI hf
    exact ix_tup value slice pins s σ H _ y v u Q I rx ry ⟨a, vs, _, w, rfl, he.int, ha, hw, q _ _ (.same rw' fun z => nomatch z)⟩ hs
  case lst ds =>
    cases e <;> simp only [didx] at hf <;> try cases hf
    obtain ⟨a, vs, rfl, ha, r⟩ := hd.lst
    obtain ⟨w, hw, rw'⟩ := r.atI hf
    exact ix_list value slice pins s σ H _ y v u Q I rx ry ⟨a, vs, _, w, rfl, he.int, SqL.of ha, hw, q _ _ (.same rw' fun z => nomatch z)⟩ hs
  case scr ds =>
    cases e <;> simp only [didx] at hf <;> try cases hf
    obtain ⟨a, vs, rfl, ha, r⟩ := hd.scr
    obtain ⟨w, hw, rw'⟩ := r.atI hf
    exact ix_list value slice pins s σ H _ y v u Q I rx ry ⟨a, vs, _, w, rfl, he.int, ha.sql, hw, q _ _ (.same rw' fun z => nomatch z)⟩ hs
  case str z =>
    cases e <;> simp only [didx] at hf <;> try cases hf
    split at hf
    · rename_i i hz
      cases k : atI z.cps.toList i with
      | none => rw [k] at hf; cases hf
      | some c =>
        rw [k] at hf
        cases hf
        exact ix_str value slice pins s σ H x y v u Q I rx ry ⟨z, i, c, hd.str, he.int, hz, k, q _ _ (.same (.str _) fun z => nomatch z)⟩ hs
    · cases hf
  case dic ks =>
    cases z : keyOf e with
    | none => rw [z] at hf; cases hf
    | some k =>
      rw [z] at hf
      simp only [Option.bind_some] at hf
      obtain ⟨a, kv, rfl, ha, r⟩ := hd.dic
      cases keyOf_kV he z
      cases rx
      rcases r.look k with ⟨h1, h2⟩ | ⟨w, g, h1, h2, h3⟩
      · rw [h2] at hf; cases hf
      · rw [h2] at hf
        cases hf
        have g0 : DGet H a (kV k) (some w) := by rw [← h1]; exact DGet.k ha
        exact PyProof.Rows.tail_any (dict_typeIs I g0) PySem.F.slot_dict_getitem.lookup (d_getItem hu I g0 ry fun w' s' I' rw' => ⟨w, H, I', rw', q _ _ (.same h3 fun z => nomatch z)⟩) hs

/-! ### slices -/
def rSl (K : PySem.W.Frag) : V → Option Int → Option Int → Hp → VK → Prop := fun x lo hi H Q => ∃ (A : Addr → Prop) (d f : D), Vw A K H x d ∧ dsl d lo hi = some f ∧ ∀ v H', Res A K H true v H' f → Q v H'
theorem Reps.cut {A : Addr → Prop} {K : PySem.W.Frag} {H : Hp} {vs : List V} {ds : List D} (r : Reps A K H vs ds) (lo hi : Option Int) : Reps A K H (cutV vs lo hi) (cutD ds lo hi) := by
  unfold cutV cutD
  rw [r.length]
  exact (r.drop _).take _
theorem sl_F : SlR X (rSl X.K) := by
  intro pins s σ H x v vl vu lo hi sl Q I rx hs pl pu h
  obtain ⟨A, d, f, hd, hf, q⟩ := h
  cases d <;> simp only [dsl] at hf <;> cases hf
  case tup ds =>
    obtain ⟨a, vs, rfl, ha, r⟩ := hd.tup
    refine sl_tupA pins s σ H _ v vl vu lo hi sl Q I rx hs pl pu ⟨a, vs, rfl, ha, fun z => ?_, fun z p hp => q _ _ (.tup hp (r.cut lo hi))⟩
    have e : cutD ds lo hi = ds := by
      unfold cutD
      rw [r.length] at z
      rw [z.1, z.2]
      simp
    rw [e] at q
    exact q _ _ (.same (.tup ha r) fun _ => rfl)
  case lst ds =>
    obtain ⟨a, vs, rfl, ha, r⟩ := hd.lst
    exact sl_list pins s σ H _ v vl vu lo hi sl Q I rx hs pl pu ⟨a, vs, rfl, SqL.of ha, fun p hp => q _ _ (.lst hp (r.cut lo hi))⟩
  case scr ds =>
    obtain ⟨a, vs, rfl, ha, r⟩ := hd.scr
    exact sl_list pins s σ H _ v vl vu lo hi sl Q I rx hs pl pu ⟨a, vs, rfl, ha.sql, fun p hp => q _ _ (.lst hp (r.cut lo hi))⟩

/-! ### built-ins of one argument -/
/-- a call rule by values -/
def rB1 (K : PySem.W.Frag) (b : B1) : List V → Hp → VK → Prop := fun vs H Q => ∃ (A : Addr → Prop) (x : V) (d f : D), vs = [x] ∧ Vw A K H x d ∧ b1 b d = some f ∧ ∀ v H', Res A K H b.fr v H' f → Q v H'
theorem maxI_spec : ∀ {ns : List Int} {m : Int}, maxI ns = some m → m ∈ ns ∧ ∀ y ∈ ns, y ≤ m
  | [], _, h => by cases h
  | [i], m, h => by simp only [maxI, Option.some.injEq] at h; subst h; simp
  | i :: j :: r, m, h => by
    simp only [maxI] at h
    cases q : maxI (j :: r) with
    | none => rw [q] at h; cases h
    | some k =>
      rw [q] at h
      simp only [Option.map_some, Option.some.injEq] at h
      obtain ⟨h1, h2⟩ := maxI_spec q
      subst h
      refine ⟨?_, fun y hy => ?_⟩
      · by_cases e : i ≤ k
        · rw [show max i k = k by omega]; exact List.mem_cons_of_mem _ h1
        · rw [show max i k = i by omega]; exact List.mem_cons_self
      · rcases List.mem_cons.mp hy with rfl | hy
        · omega
        · have := h2 y hy; omega
theorem minI_spec : ∀ {ns : List Int} {m : Int}, minI ns = some m → m ∈ ns ∧ ∀ y ∈ ns, m ≤ y
  | [], _, h => by cases h
  | [i], m, h => by simp only [minI, Option.some.injEq] at h; subst h; simp
  | i :: j :: r, m, h => by
    simp only [minI] at h
    cases q : minI (j :: r) with
    | none => rw [q] at h; cases h
    | some k =>
      rw [q] at h
      simp only [Option.map_some, Option.some.injEq] at h
      obtain ⟨h1, h2⟩ := minI_spec q
      subst h
      refine ⟨?_, fun y hy => ?_⟩
      · by_cases e : k ≤ i
        · rw [show min i k = k by omega]; exact List.mem_cons_of_mem _ h1
        · rw [show min i k = i by omega]; exact List.mem_cons_self
      · rcases List.mem_cons.mp hy with rfl | hy
        · omega
        · have := h2 y hy; omega
theorem maxI_none : ∀ {ns : List Int}, maxI ns = none → ns = []
  | [], _ => rfl
  | [i], h => by cases h
  | i :: j :: r, h => by
    simp only [maxI] at h
    cases q : maxI (j :: r) with
    | none => exact absurd (maxI_none q) (by simp)
    | some k => rw [q] at h; cases h
theorem minI_none : ∀ {ns : List Int}, minI ns = none → ns = []
  | [], _ => rfl
  | [i], h => by cases h
  | i :: j :: r, h => by
    simp only [minI] at h
    cases q : minI (j :: r) with
    | none => exact absurd (minI_none q) (by simp)
    | some k => rw [q] at h; cases h
/-- what is known of a built-in's name -/
def B1.id : B1 → Value
  | .len => .builtin "len" | .int => .type "int" | .bool => .type "bool" | .abs => .builtin "abs" | .sum => .builtin "sum" | .sorted => .builtin "sorted"
  | .list => .type "list" | .tuple => .type "tuple" | .all => .builtin "all" | .any => .builtin "any" | .min => .builtin "min" | .max => .builtin "max" | .sortedset => .builtin "sorted"
theorem b1_len : CallR X (.builtin "len") (rB1 X.K .len) := by
  intro pins s σ H vs us Q I r h
  obtain ⟨A, x, d, f, rfl, hd, hf, q⟩ := h
  simp only [b1] at hf
  cases d <;> simp only [dlen] at hf <;> try cases hf
  case str z =>
    split at hf
    · cases hf
      exact call_len_str pins s σ H _ us Q I r ⟨z, by rw [hd.str], ‹_›, q _ _ (.same (.int _) fun z => nomatch z)⟩
    · cases hf
  case tup ds =>
    obtain ⟨a, ws, rfl, ha, rr⟩ := hd.tup
    exact call_len_seq pins s σ H _ us Q I r ⟨a, ws, rfl, .inr ha, by rw [rr.length]; exact q _ _ (.same (.int _) fun z => nomatch z)⟩
  case lst ds =>
    obtain ⟨a, ws, rfl, ha, rr⟩ := hd.lst
    exact call_len_seq pins s σ H _ us Q I r ⟨a, ws, rfl, .inl (SqL.of ha), by rw [rr.length]; exact q _ _ (.same (.int _) fun z => nomatch z)⟩
  case scr ds =>
    obtain ⟨a, ws, rfl, ha, rr⟩ := hd.scr
    exact call_len_seq pins s σ H _ us Q I r ⟨a, ws, rfl, .inl ha.sql, by rw [rr.length]; exact q _ _ (.same (.int _) fun z => nomatch z)⟩
  case dic ks =>
    obtain ⟨a, kv, rfl, ha, rr⟩ := hd.dic
    obtain ⟨u, rfl, ru⟩ := vals1 r
    cases ru
    exact d_len I (.inl ha) fun t s' I' => ⟨.int kv.length, H, I', ⟨t, rfl⟩, by rw [rr.length]; exact q _ _ (.same (.int _) fun z => nomatch z)⟩
theorem b1_int : CallR X (.type "int") (rB1 X.K .int) := by
  intro pins s σ H vs us Q I r h
  obtain ⟨A, x, d, f, rfl, hd, hf, q⟩ := h
  cases d <;> simp only [b1] at hf <;> try cases hf
  · exact call_int1 pins s σ H _ us Q I r (.inr ⟨_, by rw [hd.bl], q _ _ (.same (.int _) fun z => nomatch z)⟩)
  · exact call_int1 pins s σ H _ us Q I r (.inl ⟨_, by rw [hd.int], q _ _ (.same (.int _) fun z => nomatch z)⟩)
theorem b1_bool : CallR X (.type "bool") (rB1 X.K .bool) := by
  intro pins s σ H vs us Q I r h
  obtain ⟨A, x, d, f, rfl, hd, hf, q⟩ := h
  cases d <;> simp only [b1] at hf <;> try cases hf
  · exact call_bool1 pins s σ H _ us Q I r (.inr ⟨_, by rw [hd.bl], q _ _ (.same (.bl _) fun z => nomatch z)⟩)
  · exact call_bool1 pins s σ H _ us Q I r (.inl ⟨_, by rw [hd.int], q _ _ (.same (.bl _) fun z => nomatch z)⟩)
theorem b1_abs : CallR X (.builtin "abs") (rB1 X.K .abs) := by
  intro pins s σ H vs us Q I r h
  obtain ⟨A, x, d, f, rfl, hd, hf, q⟩ := h
  cases d <;> simp only [b1] at hf <;> try cases hf
  exact call_abs pins s σ H _ us Q I r ⟨_, by rw [hd.int], q _ _ (.same (.int _) fun z => nomatch z)⟩
/-! .. of a tuple: walked by its own iterator -/
section
open PySem.Spec PyProof.Rows
variable {prog : Program} {w : World} {A : Around} {E : Value → Shared → Prop} {s : Shared} {l : Addr} {its : Array Value}
theorem tup_iter {Q : Value → Shared → Prop} (ht : s.heap.IsTuple l its)
    (k : l ≠ s.heap.objs.size → (∀ b ∈ [s.heap.objs.size, l], b < (s.heap.push { cls := .type "tuple_iterator", data := .fields #[.ref l, .int 0 0] }).objs.size) →
      ((s.heap.push { cls := .type "tuple_iterator", data := .fields #[.ref l, .int 0 0] }).IsTupleIter s.heap.objs.size l 0 ∧ (s.heap.push { cls := .type "tuple_iterator", data := .fields #[.ref l, .int 0 0] }).IsTuple l its) →
      Q (.ref s.heap.objs.size) { s with heap := s.heap.push { cls := .type "tuple_iterator", data := .fields #[.ref l, .int 0 0] } }) : wpAny (model prog w) A (pyIter (.ref l)) Q E s := by
  have hl : l < s.heap.objs.size := by
    obtain ⟨_, e, _⟩ := ht
    exact Heap.lt_size e
  refine wpAny_pyIter_tuple ht (k (Nat.ne_of_lt hl) ?_ ⟨⟨_, Heap.get?_push_size _ rfl, rfl, rfl⟩, ht.push _⟩)
  intro b hb
  simp only [List.mem_cons, List.not_mem_nil, or_false] at hb
  rw [Heap.size_push]
  rcases hb with rfl | rfl
  · exact Nat.lt_succ_self _
  · exact Nat.lt_succ_of_lt hl
theorem tup_old {h' : Heap} (hk : ∀ b o, b ∉ [s.heap.objs.size] → (s.heap.push { cls := .type "tuple_iterator", data := .fields #[.ref l, .int 0 0] }).get? b = some o → h'.get? b = some o) {b : Addr} {o : Obj} (e : s.heap.get? b = some o) : h'.get? b = some o :=
  hk b o (fun m => by
    simp only [List.mem_cons, List.not_mem_nil, or_false] at m
    exact absurd (Heap.lt_size e) (by rw [m]; exact Nat.lt_irrefl _)) (Heap.get?_push_of_some _ e)
theorem sum_tup {ns : List Int} {vs : List Value} {Q : Value → Shared → Prop} (hh : A.handled = none) (ht : s.heap.IsTuple l vs.toArray) (hi : IntsAre vs ns)
    (h : ∀ h' tk t', (∀ b o, s.heap.get? b = some o → h'.get? b = some o) → Q (.int ns.sum t') { s with heap := h', toks := tk }) : wpAny (model prog w) A (call (.builtin "sum") [.ref l]) Q E s := by
  obtain ⟨xs, e⟩ := hi.allInts.items
  have hn : numsOf (intItems xs).toList = ns := by rw [← e]; exact hi.numsOf
  rw [nums_intItems] at hn
  rw [e] at ht
  refine call_sum_walkG (tup_iter ht fun n fp st => ?_)
  refine ⟨_, _, _, _, _, _, numAt xs, rfl, Walks.tuple (A := A.in1) hh _ l n (intItems xs), st, fp, fun _ _ => intItems_at, fun h' tk t' hk => ?_⟩
  have q := h h' tk t' fun b o eb => tup_old hk eb
  have sz : (intItems xs).size = xs.size := by simp [intItems]
  rw [sz, preSum_eq, List.take_of_length_le (by simp), hn]
  exact q
theorem max_tup {ns : List Int} {vs : List Value} {Q : Value → Shared → Prop} (hh : A.handled = none) (ht : s.heap.IsTuple l vs.toArray) (hi : IntsAre vs ns) (hne : 0 < ns.length)
    (h : ∀ h' tk M t', (∀ b o, s.heap.get? b = some o → h'.get? b = some o) → M ∈ ns → (∀ a, a ∈ ns → a ≤ M) → Q (.int M t') { s with heap := h', toks := tk }) : wpAny (model prog w) A (call (.builtin "max") [.ref l]) Q E s := by
  obtain ⟨xs, e⟩ := hi.allInts.items
  have hn : numsOf (intItems xs).toList = ns := by rw [← e]; exact hi.numsOf
  rw [nums_intItems] at hn
  subst hn
  rw [e] at ht
  have hsz : 0 < xs.size := by simpa using hne
  have sz : (intItems xs).size = xs.size := by simp [intItems]
  refine call_max_walk (tup_iter ht fun n fp st => ?_)
  refine ⟨_, _, _, _, _, _, _, rfl, Walks.tuple (A := A.in1) hh _ l n (intItems xs), st, fp, by rw [sz]; exact hsz, CmpOf.ints_gt (numAt xs) (fun _ _ => intItems_at), fun v h' tk hP hk => ?_⟩
  rw [sz] at hP
  obtain ⟨t, rfl⟩ := intItems_at hP
  obtain ⟨h1, h2⟩ := argBest_gt (numAt xs) (xs.size - 1)
  refine h h' tk _ t (fun b o eb => tup_old hk eb) ?_ fun a ha => ?_
  · rw [numAt_eq]; exact PySem.getD_mem (by rw [List.length_map, Array.length_toList]; omega)
  · obtain ⟨j, hj, rfl⟩ := mem_getD ha
    rw [List.length_map, Array.length_toList] at hj
    rw [← numAt_eq]; exact h2 j (by omega)
theorem min_tup {ns : List Int} {vs : List Value} {Q : Value → Shared → Prop} (hh : A.handled = none) (ht : s.heap.IsTuple l vs.toArray) (hi : IntsAre vs ns) (hne : 0 < ns.length)
    (h : ∀ h' tk M t', (∀ b o, s.heap.get? b = some o → h'.get? b = some o) → M ∈ ns → (∀ a, a ∈ ns → M ≤ a) → Q (.int M t') { s with heap := h', toks := tk }) : wpAny (model prog w) A (call (.builtin "min") [.ref l]) Q E s := by
  obtain ⟨xs, e⟩ := hi.allInts.items
  have hn : numsOf (intItems xs).toList = ns := by rw [← e]; exact hi.numsOf
  rw [nums_intItems] at hn
  subst hn
  rw [e] at ht
  have hsz : 0 < xs.size := by simpa using hne
  have sz : (intItems xs).size = xs.size := by simp [intItems]
  refine call_min_walk (tup_iter ht fun n fp st => ?_)
  refine ⟨_, _, _, _, _, _, _, rfl, Walks.tuple (A := A.in1) hh _ l n (intItems xs), st, fp, by rw [sz]; exact hsz, CmpOf.ints_lt (numAt xs) (fun _ _ => intItems_at), fun v h' tk hP hk => ?_⟩
  rw [sz] at hP
  obtain ⟨t, rfl⟩ := intItems_at hP
  obtain ⟨h1, h2⟩ := argBest_lt (numAt xs) (xs.size - 1)
  refine h h' tk _ t (fun b o eb => tup_old hk eb) ?_ fun a ha => ?_
  · rw [numAt_eq]; exact PySem.getD_mem (by rw [List.length_map, Array.length_toList]; omega)
  · obtain ⟨j, hj, rfl⟩ := mem_getD ha
    rw [List.length_map, Array.length_toList] at hj
    rw [← numAt_eq]; exact h2 j (by omega)
end
theorem b1_sum (hc : X.calm = true) : CallR X (.builtin "sum") (rB1 X.K .sum) := by
  intro pins s σ H vs us Q I r h
  obtain ⟨A, x, d, f, rfl, hd, hf, q⟩ := h
  cases d <;> simp only [b1] at hf <;> try cases hf
  case lst ds =>
    cases k : intsD ds with
    | none => rw [k] at hf; cases hf
    | some ns =>
      rw [k] at hf
      cases hf
      obtain ⟨a, ws, rfl, ha, rr⟩ := hd.lst
      obtain ⟨h1, h2⟩ := rr.intsD k
      subst h1
      exact cr_sum hc pins s σ H _ us Q I r ⟨a, ns, rfl, SqL.of ha, q _ _ (.same (.int _) fun z => nomatch z)⟩
  case tup ds =>
    cases k : intsD ds with
    | none => rw [k] at hf; cases hf
    | some ns =>
      rw [k] at hf
      cases hf
      obtain ⟨a, ws, rfl, ha, rr⟩ := hd.tup
      obtain ⟨h1, h2⟩ := rr.intsD k
      subst h1
      obtain ⟨its, rv, hl, _⟩ := I.tuple ha
      rw [Vals.ref1 r]
      exact sum_tup (I.ok.hd hc) hl rv.ints fun h' tk t' hk => ⟨.int _, H, I.kept hk, ⟨_, rfl⟩, q _ _ (.same (.int _) fun z => nomatch z)⟩
theorem b1_all (hc : X.calm = true) : CallR X (.builtin "all") (rB1 X.K .all) := by
  intro pins s σ H vs us Q I r h
  obtain ⟨A, x, d, f, rfl, hd, hf, q⟩ := h
  cases d <;> simp only [b1] at hf <;> try cases hf
  case lst ds =>
    cases k : blsD ds with
    | none => rw [k] at hf; cases hf
    | some ns =>
      rw [k] at hf
      cases hf
      obtain ⟨a, ws, rfl, ha, rr⟩ := hd.lst
      obtain ⟨h1, h2⟩ := rr.blsD k
      subst h1
      exact cr_all hc pins s σ H _ us Q I r ⟨a, ns, rfl, SqL.of ha, q _ _ (.same (.bl _) fun z => nomatch z)⟩
theorem b1_any (hc : X.calm = true) : CallR X (.builtin "any") (rB1 X.K .any) := by
  intro pins s σ H vs us Q I r h
  obtain ⟨A, x, d, f, rfl, hd, hf, q⟩ := h
  cases d <;> simp only [b1] at hf <;> try cases hf
  case lst ds =>
    cases k : blsD ds with
    | none => rw [k] at hf; cases hf
    | some ns =>
      rw [k] at hf
      cases hf
      obtain ⟨a, ws, rfl, ha, rr⟩ := hd.lst
      obtain ⟨h1, h2⟩ := rr.blsD k
      subst h1
      exact cr_any hc pins s σ H _ us Q I r ⟨a, ns, rfl, SqL.of ha, q _ _ (.same (.bl _) fun z => nomatch z)⟩
theorem b1_max (hc : X.calm = true) : CallR X (.builtin "max") (rB1 X.K .max) := by
  intro pins s σ H vs us Q I r h
  obtain ⟨A, x, d, f, rfl, hd, hf, q⟩ := h
  cases d <;> simp only [b1] at hf <;> try cases hf
  case lst ds =>
    cases k : intsD ds with
    | none => rw [k] at hf; cases hf
    | some ns =>
      rw [k] at hf
      simp only [Option.bind_some] at hf
      cases k2 : maxI ns with
      | none => rw [k2] at hf; cases hf
      | some m =>
        rw [k2] at hf
        cases hf
        obtain ⟨a, ws, rfl, ha, rr⟩ := hd.lst
        obtain ⟨h1, h2⟩ := rr.intsD k
        subst h1
        obtain ⟨m1, m2⟩ := maxI_spec k2
        refine cr_max hc pins s σ H _ us Q I r ⟨a, ns, rfl, SqL.of ha, List.length_pos_of_mem m1, fun m' g1 g2 => ?_⟩
        have e : m' = m := Int.le_antisymm (m2 _ g1) (g2 _ m1)
        subst e
        exact q _ _ (.same (.int _) fun z => nomatch z)
  case tup ds =>
    cases k : intsD ds with
    | none => rw [k] at hf; cases hf
    | some ns =>
      rw [k] at hf
      simp only [Option.bind_some] at hf
      cases k2 : maxI ns with
      | none => rw [k2] at hf; cases hf
      | some m =>
        rw [k2] at hf
        cases hf
        obtain ⟨a, ws, rfl, ha, rr⟩ := hd.tup
        obtain ⟨h1, h2⟩ := rr.intsD k
        subst h1
        obtain ⟨m1, m2⟩ := maxI_spec k2
        obtain ⟨its, rv, hl, _⟩ := I.tuple ha
        rw [Vals.ref1 r]
        refine max_tup (I.ok.hd hc) hl rv.ints (List.length_pos_of_mem m1) fun h' tk m' t' hk g1 g2 => ?_
        have e : m' = m := Int.le_antisymm (m2 _ g1) (g2 _ m1)
        subst e
        exact ⟨.int _, H, I.kept hk, ⟨_, rfl⟩, q _ _ (.same (.int _) fun z => nomatch z)⟩
theorem b1_min (hc : X.calm = true) : CallR X (.builtin "min") (rB1 X.K .min) := by
  intro pins s σ H vs us Q I r h
  obtain ⟨A, x, d, f, rfl, hd, hf, q⟩ := h
  cases d <;> simp only [b1] at hf <;> try cases hf
  case lst ds =>
    cases k : intsD ds with
    | none => rw [k] at hf; cases hf
    | some ns =>
      rw [k] at hf
      simp only [Option.bind_some] at hf
      cases k2 : minI ns with
      | none => rw [k2] at hf; cases hf
      | some m =>
        rw [k2] at hf
        cases hf
        obtain ⟨a, ws, rfl, ha, rr⟩ := hd.lst
        obtain ⟨h1, h2⟩ := rr.intsD k
        subst h1
        obtain ⟨m1, m2⟩ := minI_spec k2
        refine cr_min hc pins s σ H _ us Q I r ⟨a, ns, rfl, SqL.of ha, List.length_pos_of_mem m1, fun m' g1 g2 => ?_⟩
        have e : m' = m := Int.le_antisymm (g2 _ m1) (m2 _ g1)
        subst e
        exact q _ _ (.same (.int _) fun z => nomatch z)
  case tup ds =>
    cases k : intsD ds with
    | none => rw [k] at hf; cases hf
    | some ns =>
      rw [k] at hf
      simp only [Option.bind_some] at hf
      cases k2 : minI ns with
      | none => rw [k2] at hf; cases hf
      | some m =>
        rw [k2] at hf
        cases hf
        obtain ⟨a, ws, rfl, ha, rr⟩ := hd.tup
        obtain ⟨h1, h2⟩ := rr.intsD k
        subst h1
        obtain ⟨m1, m2⟩ := minI_spec k2
        obtain ⟨its, rv, hl, _⟩ := I.tuple ha
        rw [Vals.ref1 r]
        refine min_tup (I.ok.hd hc) hl rv.ints (List.length_pos_of_mem m1) fun h' tk m' t' hk g1 g2 => ?_
        have e : m' = m := Int.le_antisymm (g2 _ m1) (m2 _ g1)
        subst e
        exact ⟨.int _, H, I.kept hk, ⟨_, rfl⟩, q _ _ (.same (.int _) fun z => nomatch z)⟩
theorem b1_list : CallR X (.type "list") (rB1 X.K .list) := by
  intro pins s σ H vs us Q I r h
  obtain ⟨A, x, d, f, rfl, hd, hf, q⟩ := h
  cases d <;> simp only [b1] at hf <;> try cases hf
  case tup ds =>
    obtain ⟨a, ws, rfl, ha, rr⟩ := hd.tup
    exact call_list_of pins s σ H _ us Q I r ⟨a, ws, rfl, .inr ha, fun l hl => q _ _ (.lst hl rr)⟩
  case lst ds =>
    obtain ⟨a, ws, rfl, ha, rr⟩ := hd.lst
    exact call_list_of pins s σ H _ us Q I r ⟨a, ws, rfl, .inl (SqL.of ha), fun l hl => q _ _ (.lst hl rr)⟩
  case scr ds =>
    obtain ⟨a, ws, rfl, ha, rr⟩ := hd.scr
    exact call_list_of pins s σ H _ us Q I r ⟨a, ws, rfl, .inl ha.sql, fun l hl => q _ _ (.lst hl rr)⟩
theorem b1_tuple : CallR X (.type "tuple") (rB1 X.K .tuple) := by
  intro pins s σ H vs us Q I r h
  obtain ⟨A, x, d, f, rfl, hd, hf, q⟩ := h
  cases d <;> simp only [b1] at hf <;> try cases hf
  case tup ds =>
    obtain ⟨a, ws, rfl, ha, rr⟩ := hd.tup
    exact call_tuple_of pins s σ H _ us Q I r ⟨a, ws, rfl, .inr ⟨ha, q _ _ (.same (.tup ha rr) fun z => nomatch z)⟩⟩
  case lst ds =>
    obtain ⟨a, ws, rfl, ha, rr⟩ := hd.lst
    exact call_tuple_of pins s σ H _ us Q I r ⟨a, ws, rfl, .inl ⟨SqL.of ha, fun l hl => q _ _ (.tup hl rr)⟩⟩
/-! ### of two arguments -/
def rB2 (K : PySem.W.Frag) (b : B2) : List V → Hp → VK → Prop := fun vs H Q => ∃ (A : Addr → Prop) (x y : V) (d e f : D), vs = [x, y] ∧ Vw A K H x d ∧ Vw A K H y e ∧ b2 b d e = some f ∧ ∀ v H', Res A K H false v H' f → Q v H'
theorem b2_max (hc : X.calm = true) : CallR X (.builtin "max") (rB2 X.K .max) := by
  intro pins s σ H vs us Q I r h
  obtain ⟨A, x, y, d, e, f, rfl, hd, he, hf, q⟩ := h
  cases d <;> cases e <;> simp only [b2] at hf <;> try cases hf
  exact call_max2 hc pins s σ H _ us Q I r ⟨_, _, by rw [hd.int, he.int], q _ _ (.same (.int _) fun z => nomatch z)⟩
theorem b2_min (hc : X.calm = true) : CallR X (.builtin "min") (rB2 X.K .min) := by
  intro pins s σ H vs us Q I r h
  obtain ⟨A, x, y, d, e, f, rfl, hd, he, hf, q⟩ := h
  cases d <;> cases e <;> simp only [b2] at hf <;> try cases hf
  exact call_min2 hc pins s σ H _ us Q I r ⟨_, _, by rw [hd.int, he.int], q _ _ (.same (.int _) fun z => nomatch z)⟩
/-! ### truth -/
def rTru (K : PySem.W.Frag) : V → Hp → (Bool → Hp → Prop) → Prop := fun x H Q => ∃ (A : Addr → Prop) (d : D) (b : Bool), Vw A K H x d ∧ tru d = some b ∧ Q b H
theorem truV_of {A : Addr → Prop} {K : PySem.W.Frag} {H : Hp} {x : V} {d : D} {b : Bool} (hd : Vw A K H x d) (hb : tru d = some b) : TruV K x H b := by
  cases d <;> simp only [tru] at hb <;> try cases hb
  · rw [hd.non]; rfl
  · rw [hd.bl]; rfl
  · rw [hd.int]; rfl
  case str z =>
    split at hb
    · cases hb; rw [hd.str]; exact ⟨‹_›, rfl⟩
    · cases hb
  case tup ds =>
    obtain ⟨a, ws, rfl, ha, rr⟩ := hd.tup
    exact .inr (.inl ⟨ws, ha, by cases rr <;> rfl⟩)
  case lst ds =>
    obtain ⟨a, ws, rfl, ha, rr⟩ := hd.lst
    exact .inl ⟨ws, SqL.of ha, by cases rr <;> rfl⟩
  case dic ks =>
    obtain ⟨a, kv, rfl, ha, rr⟩ := hd.dic
    exact .inr (.inr ⟨kv, ha, by cases rr <;> rfl⟩)
theorem tru_F : TruR X (rTru X.K) := by
  intro pins s σ H x v Q I rx h
  obtain ⟨A, d, b, hd, hb, q⟩ := h
  exact tru_ok pins s σ H x v Q I rx ⟨b, truV_of hd hb, q⟩
/-! ### isinstance -/
def tyN : Ty → String
  | .tint => "int" | .tbool => "bool" | .tstr => "str" | .ttuple => "tuple" | .tlist => "list" | .tdict => "dict"
def rIsF (K : PySem.W.Frag) (t : Ty) : List V → Hp → VK → Prop := fun vs H Q => ∃ (A : Addr → Prop) (x : V) (d : D) (b : Bool), vs = [x, .ty (tyN t)] ∧ Vw A K H x d ∧ isT t d = some b ∧ Q (.bl b) H
theorem kit_dec : (∀ a ∈ (["NoneType", "bool", "int", "str", "tuple", "list", "dict"] : List String), ∀ t, (kitB a (tyN t)).isSome = true) := by
  intro a ha t
  simp only [List.mem_cons, List.not_mem_nil, or_false] at ha
  rcases ha with rfl | rfl | rfl | rfl | rfl | rfl | rfl <;> cases t <;> decide +kernel
theorem isi_F (t : Ty) : CallR X (.builtin "isinstance") (rIsF X.K t) := by
  intro pins s σ H vs us Q I r h
  obtain ⟨A, x, d, b, rfl, hd, hb, q⟩ := h
  have go : ∀ (n : String), TyX X.K H x (.type n) → kitB n (tyN t) = some b → wpAny (model X.prog X.w) X.A (call (.builtin "isinstance") us) (EP X pins σ Q) X.xe s := fun n h1 h2 =>
    call_isi pins s σ H _ us Q I r ⟨x, .ty (tyN t), .type n, .type (tyN t), b, rfl, .ty _, h1, kit_ty h2, q⟩
  cases d
  case non => cases t <;> simp only [isT] at hb <;> cases hb <;> exact go "NoneType" (by rw [hd.non]; exact .base .non) (by decide +kernel)
  case bl => cases t <;> simp only [isT] at hb <;> cases hb <;> exact go "bool" (by rw [hd.bl]; exact .base (.bl _)) (by decide +kernel)
  case int => cases t <;> simp only [isT] at hb <;> cases hb <;> exact go "int" (by rw [hd.int]; exact .base (.int _)) (by decide +kernel)
  case str => cases t <;> simp only [isT] at hb <;> cases hb <;> exact go "str" (by rw [hd.str]; exact .base (.str _)) (by decide +kernel)
  case tup ds =>
    obtain ⟨a, ws, rfl, ha, rr⟩ := hd.tup
    have ty : TyX X.K H (.ref a) (.type "tuple") := by
      rcases ha with (h | ⟨o, h⟩) | ⟨o, its, n, h, hc, _⟩
      · exact .base (.tup h)
      · exact .fTuple h
      · exact .kTuple h hc
    cases t <;> simp only [isT] at hb <;> cases hb <;> exact go "tuple" ty (by decide +kernel)
  case lst ds =>
    obtain ⟨a, ws, rfl, ha, rr⟩ := hd.lst
    cases t <;> simp only [isT] at hb <;> cases hb <;> exact go "list" (.base (.lst ha)) (by decide +kernel)
  case dic ks =>
    obtain ⟨a, kv, rfl, ha, rr⟩ := hd.dic
    cases t <;> simp only [isT] at hb <;> cases hb <;> exact go "dict" (.base (.dK ha)) (by decide +kernel)
  all_goals (cases t <;> simp only [isT] at hb <;> cases hb)
end
end Fw
/-! Fw: what an expression's meaning says of the machine. -/
namespace Fw
open PySem L2
section
variable {K : PySem.W.Frag} {ks : List Kd} {O O' : Addr → Prop} {ow : Nat → Addr} {g : St} {H H0 H1 H2 H' : Hp} {r r0 r1 r2 : Env}
theorem SR.weakO (s : SR K ks O' ow g H r) (h : ∀ a, O a → O' a) : SR K ks O ow g H r :=
  have hA : ∀ a, H a ≠ none → Av ks O ow r a → Av ks O' ow r a := fun a _ z => z.elim (fun z => .inl (h a z)) .inr
  ⟨s.len, fun i d e k => let ⟨v, hv, hr⟩ := s.val i d e k; ⟨v, hv, hr.weak hA⟩, fun i d e k => let ⟨h1, h2, h3⟩ := s.own i d e k; ⟨h1, fun z => h2 (h _ z), h3.weak hA⟩, s.inj, fun a z => s.odom a (h a z)⟩

/-- how a value stands behind an expression -/
inductive Form (K : PySem.W.Frag) (ks : List Kd) (O : Addr → Prop) (ow : Nat → Addr) (g : St) (H0 : Hp) (r0 : Env) : Option Nat → Bool → D → Env → V → Hp → Prop
  | bor {j : Nat} {fr : Bool} {d : D} {r : Env} {H : Hp} : SR K ks O ow g H r → r[j]? = some (some d) → kd ks j ≠ .val → Form K ks O ow g H0 r0 (some j) fr d r (.ref (ow j)) H
  | val {fr : Bool} {d : D} {r : Env} {v : V} {H : Hp} : SR K ks O ow g H r → Rep (Av ks O ow r) K H v d → (fr = true → isC d = false) → Form K ks O ow g H0 r0 none fr d r v H
  | own {fr : Bool} {d : D} {r : Env} {a : Addr} {H : Hp} : ¬ Av ks O ow r a → (OLn ks ow r0 a ∨ H0 a = none) → SR K ks (fun b => O b ∨ b = a) ow g H r → Own (Av ks (fun b => O b ∨ b = a) ow r) K H a d → Form K ks O ow g H0 r0 none fr d r (.ref a) H
variable {b : Option Nat} {fr : Bool} {d : D} {v : V}
theorem Form.sr (f : Form K ks O ow g H0 r0 b fr d r v H) : SR K ks O ow g H r := by
  cases f with
  | bor s _ _ => exact s
  | val s _ _ => exact s
  | own _ _ s _ => exact s.weakO fun _ z => .inl z
theorem Form.rep (f : Form K ks O ow g H0 r0 none fr d r v H) : Rep (Av ks O ow r) K H v d := by
  cases f with
  | val _ h _ => exact h
  | own n _ s o => exact (o.weak fun a _ z => z.elim (fun z => .inl (.inl z)) .inr).rep n
theorem Form.vw (f : Form K ks O ow g H0 r0 b fr d r v H) : Vw (Av ks O ow r) K H v d := by
  cases f with
  | bor s e k => exact .own (s.own _ _ e k).2.2
  | val _ h _ => exact .rep h
  | own n h s o => exact .rep ((o.weak fun a _ z => z.elim (fun z => .inl (.inl z)) .inr).rep n)
/-- a borrowed place stands -/
def stbO : Option Nat → Env → Env → Prop
  | some j, r, r' => r'[j]? = r[j]?
  | none, _, _ => True
theorem Form.later (f : Form K ks O ow g H0 r0 b fr d r v H) (s : Stp ks ow r H ow r2 H2) (s2 : SR K ks O ow g H2 r2) (h : stbO b r r2) : Vw (Av ks O ow r2) K H2 v d := by
  cases f with
  | bor _ e k =>
    have e2 : r2[_]? = some (some d) := (show r2[_]? = r[_]? from h).trans e
    exact .own (s2.own _ _ e2 k).2.2
  | val s1 h1 _ => exact .rep (h1.step s)
  | own n hh s1 o => exact .rep (((o.weak fun a _ z => z.elim (fun z => .inl (.inl z)) .inr).rep n).step s)
/-- what an operation gives, behind the frame -/
theorem Res.form {fr : Bool} (q : Res (Av ks O ow r) K H fr v H' d) (s : SR K ks O ow g H r) (st : Stp ks ow r0 H0 ow r H) : Form K ks O ow g H0 r0 none fr d r v H' ∧ Stp ks ow r0 H0 ow r H' := by
  have nn : ∀ {p : Addr}, H p = none → ¬ Av ks O ow r p := fun hp z => s.avdom z hp
  have back : ∀ {p : Addr}, H p = none → H0 p = none := fun {p} hp => by
    cases q0 : H0 p with
    | none => rfl
    | some o => exact absurd hp (st.kp.dom p (by rw [q0]; exact fun z => nomatch z))
  have ext : ∀ {p : Addr} {o : HO}, H p = none → ∀ b u, H b = some u → upd H p o b = some u := fun {p o} hp b u e => by rw [upd_ne (ne_of_none e hp)]; exact e
  have hA : ∀ {p : Addr}, H p = none → ∀ a, H a ≠ none → Av ks (fun b => O b ∨ b = p) ow r a → Av ks O ow r a := fun hp a n z => by
    rcases z with (z | z) | z
    · exact .inl z
    · subst z; exact absurd hp n
    · exact .inr z
  have srx : ∀ {p : Addr} {o : HO}, H p = none → SR K ks (fun b => O b ∨ b = p) ow g (upd H p o) r := fun {p o} hp =>
    s.ext (ext hp) (fun a z => z.elim .inl fun z => .inr (z ▸ hp)) fun a z => by
      rcases z with z | z
      · have n := s.odom a z
        have e : a ≠ p := fun e => n (e ▸ hp)
        rw [upd_ne e]; exact n
      · subst z; rw [upd_same]; exact fun z => nomatch z
  cases q with
  | same h n => exact ⟨.val s h n, st⟩
  | tup hp rr =>
    refine ⟨.val ((srx hp).weakO fun _ z => .inl z) (.tup (SqT.of upd_same) (rr.keep (kp_ext (P := fun _ => False) (ext hp)) (fun _ z => z.elim) fun _ _ z => z)) fun _ => rfl, st.trans (Stp.ext (ext hp))⟩
  | lst hp rr =>
    refine ⟨.own (nn hp) (.inr (back hp)) (srx hp) (.lst upd_same (rr.keep (kp_ext (P := fun _ => False) (ext hp)) (fun _ z => z.elim) (hA hp))), st.trans (Stp.ext (ext hp))⟩
  | dic hp rr =>
    refine ⟨.own (nn hp) (.inr (back hp)) (srx hp) (.dic upd_same (rr.keep (kp_ext (P := fun _ => False) (ext hp)) (fun _ z => z.elim) (hA hp))), st.trans (Stp.ext (ext hp))⟩
/-- a value, seen from ahead of a step -/
theorem Form.back (f : Form K ks O ow g H1 r1 b fr d r v H) (st : Stp ks ow r0 H0 ow r1 H1) : Form K ks O ow g H0 r0 b fr d r v H := by
  cases f with
  | bor s e k => exact .bor s e k
  | val s h n => exact .val s h n
  | own n h s o =>
    refine .own n ?_ s o
    rcases h with ⟨j, dj, ej, kj, rfl⟩ | h
    · rcases st.base j dj ej (by rw [kj]; exact fun z => nomatch z) with h | ⟨hk, _⟩ | h
      · exact .inl h
      · rw [kj] at hk; cases hk
      · exact .inr h
    · cases q0 : H0 _ with
      | none => exact .inr rfl
      | some o => exact absurd h (st.kp.dom _ (by rw [q0]; exact fun z => nomatch z))
end

/-- which expression borrows -/
def bo : E → Option Nat
  | .bor i => some i
  | _ => none
theorem stb_bo (e : E) (r r' : Env) : stb e r r' = stbO (bo e) r r' := by
  cases e <;> rfl
/-- which gives a new container -/
def frs (T : List Fd) : E → Bool
  | .mv _ => true
  | .non => true
  | .bl _ => true
  | .int _ => true
  | .str _ => true
  | .glo _ _ => true
  | .tup _ => true
  | .lst _ => true
  | .dic0 => true
  | .bin _ _ _ => true
  | .sl _ _ _ => true
  | .call f _ => match T[f]? with | some d => d.fr | none => false
  | .b1 b _ => b.fr
  | .lc _ _ _ _ _ => true
  | _ => false

section
/-- behind an expression -/
def Post (K : PySem.W.Frag) (ks : List Kd) (O : Addr → Prop) (ow : Nat → Addr) (g : St) (H0 : Hp) (r0 : Env) (b : Option Nat) (fr : Bool) (d : D) (r : Env) (v : V) (H : Hp) : Prop :=
  Stp ks ow r0 H0 ow r H ∧ Form K ks O ow g H0 r0 b fr d r v H
/-- the expression's text does what its meaning says -/
def RE (X : Cx) (ks : List Kd) (b : Option Nat) (fr : Bool) (m : Env → Option (D × Env)) (ex : Expr) : Prop := ∃ t, PE X ex t ∧ ∀ O ow g H r d r', SR X.K ks O ow g H r → m r = some (d, r') →
  ∀ Q : VK, (∀ v H', Post X.K ks O ow g H r b fr d r' v H' → Q v H') → t g H Q
def RT (X : Cx) (ks : List Kd) (m : Env → Option (Bool × Env)) (ex : Expr) : Prop := ∃ t, PT X ex t ∧ ∀ O ow g H r d r', SR X.K ks O ow g H r → m r = some (d, r') →
  ∀ Q : Bool → Hp → Prop, (∀ H', SR X.K ks O ow g H' r' → Stp ks ow r H ow r' H' → Q d H') → t g H Q
def RW (X : Cx) (ks : List Kd) (m : Env → Option (Bool × Env)) (ex : Expr) : Prop := ∃ t, PW X ex t ∧ ∀ O ow g H r d r', SR X.K ks O ow g H r → m r = some (d, r') →
  ∀ Q : Bool → Hp → Prop, (∀ H', SR X.K ks O ow g H' r' → Stp ks ow r H ow r' H' → Q d H') → t g H Q
/-- an argument list; the borrowed places among them -/
inductive Forms (K : PySem.W.Frag) (ks : List Kd) (O : Addr → Prop) (ow : Nat → Addr) (H : Hp) (r : Env) : List E → List D → List V → Prop
  | nil : Forms K ks O ow H r [] [] []
  | val {e : E} {es : List E} {d : D} {ds : List D} {v : V} {vs : List V} : bo e = none → Rep (Av ks O ow r) K H v d → Forms K ks O ow H r es ds vs → Forms K ks O ow H r (e :: es) (d :: ds) (v :: vs)
  | bor {i : Nat} {es : List E} {d : D} {ds : List D} {vs : List V} : kd ks i ≠ .val → Forms K ks O ow H r es ds vs → Forms K ks O ow H r (.bor i :: es) (d :: ds) (.ref (ow i) :: vs)
def RA (X : Cx) (ks : List Kd) (es : List E) (m : Env → Option (List D × Env)) (xs : List Expr) : Prop := ∃ t, PA X xs t ∧ ∀ O ow g H r ds r', SR X.K ks O ow g H r → m r = some (ds, r') →
  ∀ Q : List V → Hp → Prop, (∀ vs H', SR X.K ks O ow g H' r' → Stp ks ow r H ow r' H' → Forms X.K ks O ow H' r' es ds vs → Q vs H') → t g H Q
theorem Forms.step {K : PySem.W.Frag} {ks : List Kd} {O : Addr → Prop} {ow : Nat → Addr} {H H1 : Hp} {r r1 : Env} (s : Stp ks ow r H ow r1 H1) : ∀ {es : List E} {ds : List D} {vs : List V}, Forms K ks O ow H r es ds vs → Forms K ks O ow H1 r1 es ds vs
  | _, _, _, .nil => .nil
  | _, _, _, .val b h f => .val b (h.step s) (Forms.step s f)
  | _, _, _, .bor k f => .bor k (Forms.step s f)
theorem Forms.reps {K : PySem.W.Frag} {ks : List Kd} {O : Addr → Prop} {ow : Nat → Addr} {H : Hp} {r : Env} : ∀ {es : List E} {ds : List D} {vs : List V}, Forms K ks O ow H r es ds vs → (∀ e ∈ es, bo e = none) → Reps (Av ks O ow r) K H vs ds
  | _, _, _, .nil, _ => .nil
  | _, _, _, .val b h f, n => .cons h (Forms.reps f fun e he => n e (List.mem_cons_of_mem _ he))
  | _, _, _, .bor (i := i) k f, n => absurd (n (.bor i) List.mem_cons_self) (by simp [bo])
end

/-! ### the machine's context -/
def bltNames : List Str := ["len", "int", "bool", "abs", "sum", "sorted", "list", "tuple", "all", "any", "min", "max", "isinstance", "range", "zip", "set", "str", "dict", "enumerate", "reversed", "repr", "divmod"]
def spF (K : PySem.W.Frag) (d : Fd) (m : List D → Option (D × List D)) : Sp := fun vs H Q _ => ∃ (O : Addr → Prop) (ow : Nat → Addr) (ds : List D) (x : D) (os : List D), vs.length = d.P.length ∧ ds.length = d.P.length ∧
  (∀ i, i < d.P.length → kd d.ks i ≠ .own) ∧ SR K d.ks O ow (start d.N vs) H (startE d.N ds) ∧ m ds = some (x, os) ∧
  ∀ v H' r' A, backs (d.ks.take d.P.length) 0 r' = some os → Kp (OL d.ks ow (startE d.N ds)) H H' →
    (∀ a, A a ↔ O a ∨ (∃ i, i < d.P.length ∧ kd d.ks i = .io ∧ a = ow i) ∨ (d.fr = true ∧ isC x = true ∧ v = .ref a)) →
    (∀ i, i < d.P.length → kd d.ks i = .io → ∃ e, slot r' i = some e ∧ Own A K H' (ow i) e) →
    (if d.fr = true ∧ isC x = true then ∃ a, v = .ref a ∧ H a = none ∧ Own A K H' a x else Rep A K H' v x) → Q v H'
structure Gd (X : Cx) (T : List Fd) (F : Fns) (G : List (Str × D)) (k : Nat) : Prop where
  calm : X.calm = true
  nd : X.N.Nodup
  room : Room k X.A
  xe : X.xe = fun _ _ => False
  blt : ∀ x ∈ bltNames, X.mg x = none
  fns : ∀ i d, T[i]? = some d → ∃ f fd, X.mg d.name = some (.ref f) ∧ PySem.W.keepIn X.K (.ref f) = true ∧ Binds X.K fd d.P [] ∧ FnOk X.prog X.w X.K X.mg X.base CX0 k f fd d.P (spF X.K d (F i))
  glo : ∀ x d, (x, d) ∈ G → ∃ u v, X.mg x = some u ∧ RelV v u ∧ ∀ A H, Rep A X.K H v d
end Fw
/-! Fw: the look that holds the small language against the given text. -/
namespace Fw
open PySem L2

mutual
def beqD : D → D → Bool
  | .non, .non => true
  | .bl a, .bl b => a == b
  | .int a, .int b => decide (a = b)
  | .str a, .str b => decide (a = b)
  | .tup a, .tup b => beqDs a b
  | _, _ => false
def beqDs : List D → List D → Bool
  | [], [] => true
  | a :: as, b :: bs => beqD a b && beqDs as bs
  | _, _ => false
end
mutual
theorem beqD_eq : ∀ {a b : D}, beqD a b = true → a = b
  | .non, b, h => by cases b <;> simp_all [beqD]
  | .bl _, b, h => by cases b <;> simp_all [beqD]
  | .int _, b, h => by cases b <;> simp_all [beqD]
  | .str _, b, h => by cases b <;> simp_all [beqD]
  | .tup xs, b, h => by
    cases b <;> simp [beqD] at h
    case tup ys => rw [beqDs_eq h]
  | .lst _, b, h => by simp [beqD] at h
  | .dic _, b, h => by simp [beqD] at h
  | .set _, b, h => by simp [beqD] at h
  | .scr _, b, h => by simp [beqD] at h
theorem beqDs_eq : ∀ {a b : List D}, beqDs a b = true → a = b
  | [], [], _ => rfl
  | [], _ :: _, h => by simp [beqDs] at h
  | _ :: _, [], h => by simp [beqDs] at h
  | x :: xs, y :: ys, h => by
    simp only [beqDs, Bool.and_eq_true] at h
    rw [beqD_eq h.1, beqDs_eq h.2]
end

structure Sx where
  N : List Str
  ks : List Kd
  T : List Fd
  G : List (Str × D)

def visB (sc : Scope) (x : Str) : Bool := match sc.names.lookup x with
  | some .local => true | some .cell => true | some .free => true | _ => false
def locB (sc : Scope) (x : Str) : Bool := match sc.names.lookup x with
  | some .local => true | some .cell => true | _ => false
def glB (sc : Scope) (x : Str) : Bool := match sc.names.lookup x with
  | some .globalImplicit => true | _ => false
def okN (x : Str) : Bool := !(x == ("__debug__" : Str)) && !(x == ("__classdict__" : Str))
/-- a name of the frame, read -/
def ckVar (Z : Sx) (sc : Scope) (i : Nat) (x : Str) : Bool := decide (Z.N[i]? = some x) && visB sc x && okN x
def ckBlt (sc : Scope) (x : Str) (n : Str) : Bool := decide (x = n) && glB sc x && decide (x ∈ bltNames) && okN x
def b1Name : B1 → Str
  | .len => "len" | .int => "int" | .bool => "bool" | .abs => "abs" | .sum => "sum" | .sorted => "sorted" | .list => "list" | .tuple => "tuple" | .all => "all" | .any => "any" | .min => "min" | .max => "max" | .sortedset => "sorted"
def b2Name : B2 → Str
  | .min => "min" | .max => "max"
def tyS (t : Ty) : Str := Str.ofString (tyN t)
def isSlice : Expr → Bool
  | .Slice _ _ _ _ => true
  | _ => false
def ckOwn (Z : Sx) (own : List Nat) : List (Str × Nat) := own.filterMap fun i => (Z.N[i]?).map fun x => (x, i)
/-- the arguments that are the callee's own -/
def ckArgs : List Kd → List E → Bool
  | [], [] => true
  | .io :: ks, .bor _ :: es => ckArgs ks es
  | .val :: ks, e :: es => (bo e).isNone && ckArgs ks es
  | _, _ => false
def bors : List E → List Nat
  | [] => []
  | .bor i :: es => i :: bors es
  | _ :: es => bors es

def stoB (sc : Scope) (fn : Str → Bool) (x : Str) : Bool := locB sc x && (fn x || decide (sc.names.lookup x = some .local))
mutual
def ckT (Z : Sx) (sc : Scope) (fn : Str → Bool) : Tg → Expr → Bool
  | .nm i, ex => (match ex with | .Name x _ => decide (Z.N[i]? = some x) && stoB sc fn x && decide (kd Z.ks i = .val) | _ => false)
  | .tp ts, ex => (match ex with | .Tuple es _ _ => ckTs Z sc fn ts es | _ => false)
def ckTs (Z : Sx) (sc : Scope) (fn : Str → Bool) : List Tg → List Expr → Bool
  | [], es => (match es with | [] => true | _ => false)
  | t :: ts, es => (match es with | e :: es => ckT Z sc fn t e && ckTs Z sc fn ts es | _ => false)
end
def blkFn (scope : Scope) (x : Str) : Bool := scope.names.lookup x == some .cell
def m1Name : M1 → Str
  | .append => "append" | .extend => "extend" | .pop => "pop"
mutual
def tgsH : Tg → List Nat
  | .nm i => [i]
  | .tp ts => tgssH ts
def tgssH : List Tg → List Nat
  | [] => []
  | t :: ts => tgsH t ++ tgssH ts
end
def bosItH : It → List Nat
  | .seq a => (bo a).toList
  | .zip a b => (bo a).toList ++ (bo b).toList
  | _ => []
def objX : Expr → Bool
  | .Name _ _ => true
  | .Call (.Name _ _) (_ :: _) [] _ => true
  | _ => false
def isNon : E → Bool
  | .non => true
  | _ => false
def isSet : Expr → Bool
  | .Set _ _ _ => true
  | _ => false
def isStar : Expr → Bool
  | .Starred _ _ => true
  | _ => false

mutual
def ckE (Z : Sx) (sc : Scope) : E → Expr → Bool
  | .var i, ex => (match ex with | .Name x _ => ckVar Z sc i x && decide (kd Z.ks i = .val) | _ => false)
  | .bor i, ex => (match ex with | .Name x _ => ckVar Z sc i x && decide (kd Z.ks i ≠ .val) | _ => false)
  | .mv i, ex => (match ex with | .Name x _ => ckVar Z sc i x && decide (kd Z.ks i = .own) | _ => false)
  | .non, ex => (match ex with | .Constant .none _ _ => true | _ => false)
  | .bl b, ex => (match ex with | .Constant (.bool c) _ _ => decide (b = c) | _ => false)
  | .int i, ex => (match ex with | .Constant (.int j) _ _ => decide (i = j) | _ => false)
  | .str x, ex => (match ex with | .Constant (.str y) _ _ => decide (x = y) | _ => false)
  | .glo x d, ex => (match ex with | .Name y _ => decide (x = y) && glB sc y && okN y && !isC d && (Z.G.any fun p => decide (p.1 = x) && beqD p.2 d) | _ => false)
  | .tup es, ex => (match ex with | .Tuple xs _ _ => ckEs Z sc es xs && es.all fun e => (bo e).isNone | _ => false)
  | .lst es, ex => (match ex with | .List xs _ => ckEs Z sc es xs && es.all fun e => (bo e).isNone | _ => false)
  | .dic0, ex => (match ex with | .Dict [] [] _ => true | _ => false)
  | .bin op a b, ex => (match ex with | .BinOp x op' y _ => decide (op = op') && ckE Z sc a x && ckE Z sc b y | _ => false)
  | .neg a, ex => (match ex with | .UnaryOp .USub x _ => ckE Z sc a x | _ => false)
  | .cmp op a b, ex => (match ex with | .Compare x [op'] [y] _ => decide (op = op') && ckE Z sc a x && ckE Z sc b y | _ => false)
  | .chain op1 op2 a b c, ex => (match ex with | .Compare x [op1', op2'] [y, z] _ => decide (op1 = op1') && decide (op2 = op2') && ckE Z sc a x && ckE Z sc b y && ckE Z sc c z && (bo a).isNone && (bo b).isNone | _ => false)
  | .and a b, ex => (match ex with | .BoolOp .And (x :: y :: rest) pos => ckE Z sc a x && (bo a).isNone && (bo b).isNone && (match rest with | [] => ckE Z sc b y | _ :: _ => ckE Z sc b (.BoolOp .And (y :: rest) pos)) | _ => false)
  | .or a b, ex => (match ex with | .BoolOp .Or (x :: y :: rest) pos => ckE Z sc a x && (bo a).isNone && (bo b).isNone && (match rest with | [] => ckE Z sc b y | _ :: _ => ckE Z sc b (.BoolOp .Or (y :: rest) pos)) | _ => false)
  | .not a, ex => (match ex with | .UnaryOp .Not x _ => ckE Z sc a x | _ => false)
  | .ite c a b, ex => (match ex with | .IfExp x y z _ => ckE Z sc c x && ckE Z sc a y && ckE Z sc b z && (bo a).isNone && (bo b).isNone | _ => false)
  | .idx a b, ex => (match ex with | .Subscript x y _ => ckE Z sc a x && ckE Z sc b y && !isSlice y | _ => false)
  | .sl a lo hi, ex => (match ex with
      | .Subscript x (.Slice l h none _) _ => ckE Z sc a x && (match l with | none => isNon lo | some y => !isNon lo && ckE Z sc lo y && (bo lo).isNone) && (match h with | none => isNon hi | some y => !isNon hi && ckE Z sc hi y && (bo hi).isNone)
      | _ => false)
  | .call f es, ex => (match ex with
      | .Call (.Name x _) xs [] _ => (match Z.T[f]? with
        | some d => decide (d.name = x) && glB sc x && okN x && ckEs Z sc es xs && decide (es.length = d.P.length) && ckArgs (d.ks.take d.P.length) es && decide (bors es).Nodup
        | none => false)
      | _ => false)
  | .b1 b a, ex => (match ex with
      | .Call (.Name x _) [y] [] _ => ckBlt sc x (b1Name b) && (match b with
        | .sortedset => false
        | .sorted => false
        | _ => ckE Z sc a y)
      | _ => false)
  | .b2 b a c, ex => (match ex with | .Call (.Name x _) [y, z] [] _ => ckBlt sc x (b2Name b) && ckE Z sc a y && ckE Z sc c z && (bo a).isNone && (bo c).isNone | _ => false)
  | .isi a t, ex => (match ex with | .Call (.Name x _) [y, .Name z _] [] _ => ckBlt sc x "isinstance" && ckE Z sc a y && (bo a).isNone && ckBlt sc z (tyS t) | _ => false)
  | .pop i, ex => (match ex with | .Call (.Attribute (.Name x _) n apos) [] [] pos => ckVar Z sc i x && decide (kd Z.ks i ≠ .val) && decide (n = "pop") && (apos.endLine == pos.line) | _ => false)
  | .mth m i a, ex => (match ex with | .Call (.Attribute (.Name x _) n apos) [y] [] pos => ckVar Z sc i x && decide (kd Z.ks i ≠ .val) && decide (n = m1Name m) && (apos.endLine == pos.line) && ckE Z sc a y && (decide (m ≠ .append) || (bo a).isNone) | _ => false)
  | .get a b, ex => (match ex with | .Call (.Attribute x n apos) [y] [] pos => decide (n = "get") && (apos.endLine == pos.line) && ckE Z sc a x && ckE Z sc b y && objX x | _ => false)
  | .get2 _ _ _, _ => false
  | .lc el tg it ifs own, ex => (match ex with
      | .ListComp elt [⟨tgx, iter, ifsx, 0⟩] scope _ => ckIt Z sc it iter && !isSet iter && ckT Z (relS scope sc) (blkFn scope) tg tgx && ckIf Z (relS scope sc) ifs ifsx && ckE Z (relS scope sc) el elt && (bo el).isNone &&
        blkC Z.N sc scope (ckOwn Z own) && decide ((ckOwn Z own).map (·.2) = own) && own.all (fun i => decide (kd Z.ks i = .val)) && (tgsH tg).all (fun i => decide (i ∈ own)) && (bosItH it).all (fun i => decide (i ∉ own))
      | _ => false)
def ckEs (Z : Sx) (sc : Scope) : List E → List Expr → Bool
  | [], xs => (match xs with | [] => true | _ => false)
  | e :: es, xs => (match xs with | x :: xs => ckE Z sc e x && ckEs Z sc es xs | _ => false)
def ckIf (Z : Sx) (sc : Scope) : List E → List Expr → Bool
  | [], xs => (match xs with | [] => true | _ => false)
  | e :: es, xs => (match xs with | [x] => ckE Z sc e x && es.isEmpty | _ => false)
def ckIt (Z : Sx) (sc : Scope) : It → Expr → Bool
  | .seq a, x => ckE Z sc a x
  | .rng1 a, ex => (match ex with | .Call (.Name x _) [y] [] _ => ckBlt sc x "range" && ckE Z sc a y && (bo a).isNone | _ => false)
  | .rng2 a b, ex => (match ex with | .Call (.Name x _) [y, z] [] _ => ckBlt sc x "range" && ckE Z sc a y && ckE Z sc b z && (bo a).isNone && (bo b).isNone | _ => false)
  | .zip _ _, _ => false
end
/-- no star -/
theorem ck_star {Z : Sx} {sc : Scope} {e : E} {x : Expr} (h : ckE Z sc e x = true) : isStar x = false := by
  cases x <;> try rfl
  cases e <;> simp [ckE] at h
theorem ck_set {Z : Sx} {sc : Scope} {e : E} {x : Expr} (h : ckE Z sc e x = true) : isSet x = false := by
  cases x <;> try rfl
  cases e <;> simp [ckE] at h
end Fw
namespace Fw
open PySem L2
theorem slot_some {r : Env} {i : Nat} {d : D} (h : slot r i = some d) : r[i]? = some (some d) := by
  unfold slot at h
  cases q : r[i]? with
  | none => rw [q] at h; cases h
  | some o => rw [q] at h; simp only [Option.bind_some, id] at h; rw [h]
theorem slot_of {r : Env} {i : Nat} {d : D} (h : r[i]? = some (some d)) : slot r i = some d := by
  unfold slot; rw [h]; rfl
theorem bindS {α β : Type} {x : Option α} {f : α → Option β} {y : β} (h : x.bind f = some y) : ∃ a, x = some a ∧ f a = some y := Option.bind_eq_some_iff.mp h
theorem mapS {α β : Type} {x : Option α} {f : α → β} {y : β} (h : x.map f = some y) : ∃ a, x = some a ∧ f a = y := Option.map_eq_some_iff.mp h
section
variable {X : Cx} {ks : List Kd} {pos : Pos}
theorem re_imp {b : Option Nat} {fr : Bool} {m m' : Env → Option (D × Env)} {ex : Expr} (h : RE X ks b fr m ex) (e : ∀ r, m' r = m r) : RE X ks b fr m' ex := by
  obtain ⟨t, p, q⟩ := h
  exact ⟨t, p, fun O ow g H r d r' s hm => q O ow g H r d r' s ((e r).symm.trans hm)⟩
/-- an expression that leaves the environment, its value scalar -/
theorem re_flat {v : V} {d : D} {ex : Expr} (h : PE X ex (tC v)) (hr : ∀ A H, Rep A X.K H v d) {fr : Bool} (hf : isC d = false) : RE X ks none fr (fun r => some (d, r)) ex :=
  ⟨_, h, fun O ow g H r d' r' s e Q q => by
    cases e
    exact q _ _ ⟨Stp.refl, .val s (hr _ _) fun _ => hf⟩⟩
theorem re_var {i : Nat} {x : Str} (hN : X.N[i]? = some x) (hv : Vis X.env.scope x) (h1 : (x == ("__debug__" : Str)) = false) (h2 : (x == ("__classdict__" : Str)) = false) (hk : kd ks i = .val) :
    RE X ks none false (fun r => (slot r i).map fun d => (d, r)) (.Name x pos) :=
  ⟨_, pe_var hN hv h1 h2, fun O ow g H r d r' s e Q q => by
    obtain ⟨a, ha, e⟩ := mapS e
    cases e
    obtain ⟨v, hv, hr⟩ := s.val i _ (slot_some ha) hk
    exact ⟨v, hv, q _ _ ⟨Stp.refl, .val s hr fun z => nomatch z⟩⟩⟩
theorem re_bor {i : Nat} {x : Str} {fr : Bool} (hN : X.N[i]? = some x) (hv : Vis X.env.scope x) (h1 : (x == ("__debug__" : Str)) = false) (h2 : (x == ("__classdict__" : Str)) = false) (hk : kd ks i ≠ .val) :
    RE X ks (some i) fr (fun r => (slot r i).map fun d => (d, r)) (.Name x pos) :=
  ⟨_, pe_var hN hv h1 h2, fun O ow g H r d r' s e Q q => by
    obtain ⟨a, ha, e⟩ := mapS e
    cases e
    obtain ⟨hv, _, hr⟩ := s.own i _ (slot_some ha) hk
    exact ⟨_, hv, q _ _ ⟨Stp.refl, .bor s (slot_some ha) hk⟩⟩⟩
theorem SR.drop {K : PySem.W.Frag} {O : Addr → Prop} {ow : Nat → Addr} {g : St} {H : Hp} {r : Env} (s : SR K ks O ow g H r) {i : Nat} {d : D} (hi : r[i]? = some (some d)) (hk : kd ks i = .own) : SR K ks (fun b => O b ∨ b = ow i) ow g H (r.set i none) := by
  have hk' : kd ks i ≠ .val := by rw [hk]; exact fun z => nomatch z
  have get : ∀ j e, (r.set i none)[j]? = some (some e) → j ≠ i ∧ r[j]? = some (some e) := fun j e h => by
    rw [List.getElem?_set] at h
    split at h
    · split at h <;> cases h
    · exact ⟨fun z => ‹¬ i = j› z.symm, h⟩
  have hA : ∀ a, H a ≠ none → Av ks (fun b => O b ∨ b = ow i) ow (r.set i none) a → Av ks O ow r a := fun a _ z => by
    rcases z with (z | z) | ⟨j, e, h, k, z⟩
    · exact .inl z
    · exact .inr ⟨i, d, hi, hk', z⟩
    · exact .inr ⟨j, e, (get j e h).2, k, z⟩
  refine ⟨by rw [List.length_set]; exact s.len, fun j e h k => ?_, fun j e h k => ?_, fun j l e f h1 h2 => s.inj j l e f (get _ _ h1).2 (get _ _ h2).2, fun a z => ?_⟩
  · obtain ⟨v, hv, hr⟩ := s.val j e (get j e h).2 k
    exact ⟨v, hv, hr.weak hA⟩
  · obtain ⟨h1, h2, h3⟩ := s.own j e (get j e h).2 k
    refine ⟨h1, fun z => z.elim h2 fun z => ?_, h3.weak hA⟩
    exact s.inj j i e d (get j e h).2 hi k hk' (get j e h).1 z
  · rcases z with z | z
    · exact s.odom a z
    · subst z; exact (s.own i d hi hk').2.2.there
theorem re_mv {i : Nat} {x : Str} (hN : X.N[i]? = some x) (hv : Vis X.env.scope x) (h1 : (x == ("__debug__" : Str)) = false) (h2 : (x == ("__classdict__" : Str)) = false) (hk : kd ks i = .own) :
    RE X ks none true (fun r => (slot r i).map fun d => (d, r.set i none)) (.Name x pos) :=
  ⟨_, pe_var hN hv h1 h2, fun O ow g H r d r' s e Q q => by
    have hk' : kd ks i ≠ .val := by rw [hk]; exact fun z => nomatch z
    obtain ⟨a, ha, e⟩ := mapS e
    cases e
    have hi := slot_some ha
    obtain ⟨hv, ho, hr⟩ := s.own i _ hi hk'
    have get : ∀ j e, (r.set i none)[j]? = some (some e) → j ≠ i ∧ r[j]? = some (some e) := fun j e h => by
      rw [List.getElem?_set] at h
      split at h
      · split at h <;> cases h
      · exact ⟨fun z => ‹¬ i = j› z.symm, h⟩
    refine ⟨_, hv, q _ _ ⟨⟨Kp.refl _ _, fun j e h k => ?_, fun _ _ => rfl⟩, .own ?_ (.inl ⟨i, _, hi, hk, rfl⟩) (s.drop hi hk) (hr.weak fun a _ z => ?_)⟩⟩
    · have hj := (get j e h).2
      cases kk : kd ks j with
      | val => exact absurd kk k
      | own => exact .inl ⟨j, e, hj, kk, rfl⟩
      | io => exact .inr (.inl ⟨rfl, rfl, e, hj⟩)
    · rintro (z | ⟨j, e, h, k, z⟩)
      · exact ho z
      · exact s.inj i j _ e hi (get j e h).2 hk' k (fun z => (get j e h).1 z.symm) z
    · rcases z with (z | z) | ⟨j, e, h, k, z⟩
      · exact .inl z
      · exact .inr ⟨i, _, hi, hk', z⟩
      · exact .inr ⟨j, e, (get j e h).2, k, z⟩⟩
/-- two operands, then an operation by values -/
theorem re_two {ba bb : Option Nat} {fa fb fr : Bool} {ma mb : Env → Option (D × Env)} {xa xb ex : Expr} {op : D → D → Option D} {R : R2} (ha : RE X ks ba fa ma xa) (hb : RE X ks bb fb mb xb)
    (hp : ∀ ta tb, PE X xa ta → PE X xb tb → PE X ex (tOp R ta tb))
    (hR : ∀ (A : Addr → Prop) (H : Hp) (x y : V) (d e f : D) (Q : VK), Vw A X.K H x d → Vw A X.K H y e → op d e = some f → (∀ v H', Res A X.K H fr v H' f → Q v H') → R x y H Q) :
    RE X ks none fr (fun r => (ma r).bind fun p => (mb p.2).bind fun q => gd (stbO ba p.2 q.2) ((op p.1 q.1).map fun d => (d, q.2))) ex := by
  obtain ⟨ta, pa, qa⟩ := ha
  obtain ⟨tb, pb, qb⟩ := hb
  refine ⟨_, hp ta tb pa pb, fun O ow g H r d r' s e Q q => ?_⟩
  obtain ⟨⟨d1, r1⟩, e1, e⟩ := bindS e
  obtain ⟨⟨d2, r2⟩, e2, e⟩ := bindS e
  obtain ⟨st, e⟩ := gd_some e
  obtain ⟨f, ef, e⟩ := mapS e
  cases e
  refine qa O ow g H r d1 r1 s e1 _ fun x H1 ⟨s1, f1⟩ => ?_
  refine qb O ow g H1 r1 d2 r2 f1.sr e2 _ fun y H2 ⟨s2, f2⟩ => ?_
  refine hR (Av ks O ow r2) H2 x y d1 d2 _ Q (f1.later s2 f2.sr st) f2.vw ef fun v H' z => ?_
  obtain ⟨z1, z2⟩ := z.form f2.sr (s1.trans s2)
  exact q _ _ ⟨z2, z1⟩
theorem re_bin {ba bb : Option Nat} {fa fb : Bool} {ma mb : Env → Option (D × Env)} {xa xb : Expr} {op : Operator} (ha : RE X ks ba fa ma xa) (hb : RE X ks bb fb mb xb) :
    RE X ks none true (fun r => (ma r).bind fun p => (mb p.2).bind fun q => gd (stbO ba p.2 q.2) ((dbin op p.1 q.1).map fun d => (d, q.2))) (.BinOp xa op xb pos) :=
  re_two (R := rBin X.K op) ha hb (fun _ _ pa pb => pe_op (op_binF op) pa pb) fun A H x y d e f Q h1 h2 h3 h4 => ⟨A, d, e, f, h1, h2, h3, h4⟩
theorem re_cmp {ba bb : Option Nat} {fa fb : Bool} {ma mb : Env → Option (D × Env)} {xa xb : Expr} {op : CmpOp} (hu : X.A.units + 66 < cLine) (hm : behindInMarks op xb = false) (ha : RE X ks ba fa ma xa) (hb : RE X ks bb fb mb xb) :
    RE X ks none false (fun r => (ma r).bind fun p => (mb p.2).bind fun q => gd (stbO ba p.2 q.2) ((dcmp op p.1 q.1).map fun d => (.bl d, q.2))) (.Compare xa [op] [xb] pos) :=
  re_imp (re_two (R := rCmp X.K op) (op := fun d e => (dcmp op d e).map .bl) (fr := false) ha hb (fun _ _ pa pb => pe_cmpR (op_cmpF hu op) pa pb hm) fun A H x y d e f Q h1 h2 h3 h4 => by
    obtain ⟨b, hb, e'⟩ := mapS h3
    subst e'
    exact ⟨A, d, e, b, h1, h2, hb, h4 _ _ (.same (.bl _) fun z => nomatch z)⟩) fun r => by simp only [Option.map_map, Function.comp_def]
theorem re_idx {ba bb : Option Nat} {fa fb : Bool} {ma mb : Env → Option (D × Env)} {xa xb : Expr} (hu : X.A.units + 1 < cLine) (hs : PlainIx xb) (ha : RE X ks ba fa ma xa) (hb : RE X ks bb fb mb xb) :
    RE X ks none false (fun r => (ma r).bind fun p => (mb p.2).bind fun q => gd (stbO ba p.2 q.2) ((didx p.1 q.1).map fun d => (d, q.2))) (.Subscript xa xb pos) :=
  re_two (R := rIdx X.K) (fr := false) ha hb (fun _ _ pa pb => pe_ix (ix_F hu) pa pb hs) fun A H x y d e f Q h1 h2 h3 h4 => ⟨A, d, e, f, h1, h2, h3, h4⟩
theorem re_neg {fa : Bool} {b : Option Nat} {ma : Env → Option (D × Env)} {xa : Expr} (ha : RE X ks b fa ma xa) :
    RE X ks none false (fun r => (ma r).bind fun p => match p.1 with | .int i => some (.int (-i), p.2) | _ => none) (.UnaryOp .USub xa pos) := by
  obtain ⟨ta, pa, qa⟩ := ha
  refine ⟨_, pe_un un_neg pa, fun O ow g H r d r' s e Q q => ?_⟩
  obtain ⟨⟨d1, r1⟩, e1, e⟩ := bindS e
  cases d1 <;> simp only at e <;> cases e
  refine qa O ow g H r _ _ s e1 _ fun x H1 ⟨s1, f1⟩ => ?_
  exact ⟨_, f1.vw.int, q _ _ ⟨s1, .val f1.sr (.int _) fun z => nomatch z⟩⟩
theorem re_chain {ba bb bc : Option Nat} {fa fb fc : Bool} {ma mb mc : Env → Option (D × Env)} {xa xb xc : Expr} {op op' : CmpOp} (hu : X.A.units + 66 < cLine) (hm : lastMarks [op, op'] [xb, xc] = false)
    (ha : RE X ks none fa ma xa) (hb : RE X ks none fb mb xb) (hc : RE X ks bc fc mc xc) :
    RE X ks none false (fun r => (ma r).bind fun p => (mb p.2).bind fun q => (dcmp op p.1 q.1).bind fun k => if k = true then (mc q.2).bind fun t => (dcmp op' q.1 t.1).map fun d => (.bl d, t.2) else some (.bl false, q.2)) (.Compare xa [op, op'] [xb, xc] pos) := by
  obtain ⟨ta, pa, qa⟩ := ha
  obtain ⟨tb, pb, qb⟩ := hb
  obtain ⟨tc, pc, qc⟩ := hc
  refine ⟨_, pe_chain (op_cmpF hu op) (op_cmpF hu op') pa pb pc hm, fun O ow g H r d r' s e Q q => ?_⟩
  obtain ⟨⟨d1, r1⟩, e1, e⟩ := bindS e
  obtain ⟨⟨d2, r2⟩, e2, e⟩ := bindS e
  obtain ⟨k, e3, e⟩ := bindS e
  refine qa O ow g H r d1 r1 s e1 _ fun x H1 ⟨s1, f1⟩ => ?_
  refine qb O ow g H1 r1 d2 r2 f1.sr e2 _ fun y H2 ⟨s2, f2⟩ => ?_
  refine ⟨Av ks O ow r2, d1, d2, k, f1.later s2 f2.sr trivial, f2.vw, e3, k, rfl, ?_⟩
  cases k with
  | false =>
    cases e
    exact iteF (q _ _ ⟨s1.trans s2, .val f2.sr (.bl _) fun z => nomatch z⟩)
  | true =>
    simp only [if_true] at e
    obtain ⟨⟨d3, r3⟩, e4, e⟩ := bindS e
    obtain ⟨k2, e5, e⟩ := mapS e
    cases e
    refine iteT (qc O ow g H2 r2 d3 r3 f2.sr e4 _ fun z H3 ⟨s3, f3⟩ => ?_)
    exact ⟨Av ks O ow r3, d2, d3, k2, f2.later s3 f3.sr trivial, f3.vw, e5, q _ _ ⟨(s1.trans s2).trans s3, .val f3.sr (.bl _) fun z => nomatch z⟩⟩
end
end Fw
namespace Fw
open PySem L2
section
variable {X : Cx} {ks : List Kd} {pos : Pos}
/-- the test of a value -/
def tstM (m : Env → Option (D × Env)) : Env → Option (Bool × Env) := fun r => (m r).bind fun p => (tru p.1).map fun k => (k, p.2)
theorem pt_truR {ex : Expr} {ta : TE} (h : PE X ex ta) (he : ∀ whole, isTrue ex X.env whole = (do let v ← whole; standAt ex.pos; holding [v] (truthy v))) : PT X ex (fun σ H Q => ta σ H fun x H1 => rTru X.K x H1 Q) := by
  refine ⟨fun pins s σ H Q I hw => ?_⟩
  rw [he]
  exact wpAny_bind (thn (h.run pins s σ H _ I hw) fun v s1 ⟨x, H1, I1, rx, q⟩ => wpAny_bind (wpAny_standAt (wpAny_holding (tru_F pins s1 σ H1 x v Q I1 rx q))))
theorem rt_of {b : Option Nat} {fr : Bool} {m : Env → Option (D × Env)} {ex : Expr} (h : RE X ks b fr m ex) (he : ∀ whole, isTrue ex X.env whole = (do let v ← whole; standAt ex.pos; holding [v] (truthy v))) : RT X ks (tstM m) ex := by
  obtain ⟨t, p, q⟩ := h
  refine ⟨_, pt_truR p he, fun O ow g H r k r' s e Q hQ => ?_⟩
  obtain ⟨⟨d, r1⟩, e1, e⟩ := bindS e
  obtain ⟨k', e2, e⟩ := mapS e
  cases e
  exact q O ow g H r d _ s e1 _ fun v H' ⟨s1, f1⟩ => ⟨_, d, _, f1.vw, e2, hQ _ f1.sr s1⟩
/-- a comparison as a test: its value is a bool -/
theorem rt_cmp {ba bb : Option Nat} {fa fb : Bool} {ma mb : Env → Option (D × Env)} {xa xb : Expr} {op : CmpOp} (hu : X.A.units + 66 < cLine) (hm : behindInMarks op xb = false) (ha : RE X ks ba fa ma xa) (hb : RE X ks bb fb mb xb) :
    RT X ks (tstM fun r => (ma r).bind fun p => (mb p.2).bind fun q => gd (stbO ba p.2 q.2) ((dcmp op p.1 q.1).map fun d => (.bl d, q.2))) (.Compare xa [op] [xb] pos) := by
  obtain ⟨ta, pa, qa⟩ := ha
  obtain ⟨tb, pb, qb⟩ := hb
  refine ⟨_, pt_cmpR (op_cmpF hu op) pa pb hm, fun O ow g H r d r' s e Q q => ?_⟩
  obtain ⟨⟨d0, r0⟩, e, e0⟩ := bindS e
  obtain ⟨⟨d1, r1⟩, e1, e⟩ := bindS e
  obtain ⟨⟨d2, r2⟩, e2, e⟩ := bindS e
  obtain ⟨st, e⟩ := gd_some e
  obtain ⟨f, ef, e⟩ := mapS e
  cases e
  simp only [tru, Option.map_some, Option.some.injEq, Prod.mk.injEq] at e0
  obtain ⟨rfl, rfl⟩ := e0
  refine qa O ow g H r d1 r1 s e1 _ fun x H1 ⟨s1, f1⟩ => ?_
  refine qb O ow g H1 r1 d2 _ f1.sr e2 _ fun y H2 ⟨s2, f2⟩ => ?_
  exact ⟨_, d1, d2, f, f1.later s2 f2.sr st, f2.vw, ef, f, rfl, q _ f2.sr (s1.trans s2)⟩
theorem rt_chain {ba bb bc : Option Nat} {fa fb fc : Bool} {ma mb mc : Env → Option (D × Env)} {xa xb xc : Expr} {op op' : CmpOp} (hu : X.A.units + 66 < cLine) (hm : lastMarks [op, op'] [xb, xc] = false)
    (ha : RE X ks none fa ma xa) (hb : RE X ks none fb mb xb) (hc : RE X ks bc fc mc xc) :
    RT X ks (tstM fun r => (ma r).bind fun p => (mb p.2).bind fun q => (dcmp op p.1 q.1).bind fun k => if k = true then (mc q.2).bind fun t => (dcmp op' q.1 t.1).map fun d => (.bl d, t.2) else some (.bl false, q.2)) (.Compare xa [op, op'] [xb, xc] pos) := by
  obtain ⟨ta, pa, qa⟩ := ha
  obtain ⟨tb, pb, qb⟩ := hb
  obtain ⟨tc, pc, qc⟩ := hc
  refine ⟨_, pt_chain (op_cmpF hu op) (op_cmpF hu op') pa pb pc hm, fun O ow g H r d r' s e Q q => ?_⟩
  obtain ⟨⟨d0, r0⟩, e, e0⟩ := bindS e
  obtain ⟨⟨d1, r1⟩, e1, e⟩ := bindS e
  obtain ⟨⟨d2, r2⟩, e2, e⟩ := bindS e
  obtain ⟨k, e3, e⟩ := bindS e
  refine qa O ow g H r d1 r1 s e1 _ fun x H1 ⟨s1, f1⟩ => ?_
  refine qb O ow g H1 r1 d2 r2 f1.sr e2 _ fun y H2 ⟨s2, f2⟩ => ?_
  refine ⟨Av ks O ow r2, d1, d2, k, f1.later s2 f2.sr trivial, f2.vw, e3, k, rfl, ?_⟩
  cases k with
  | false =>
    cases e
    simp only [tru, Option.map_some, Option.some.injEq, Prod.mk.injEq] at e0
    obtain ⟨rfl, rfl⟩ := e0
    exact iteF ⟨false, rfl, q _ f2.sr (s1.trans s2)⟩
  | true =>
    simp only [if_true] at e
    obtain ⟨⟨d3, r3⟩, e4, e⟩ := bindS e
    obtain ⟨k2, e5, e⟩ := mapS e
    cases e
    simp only [tru, Option.map_some, Option.some.injEq, Prod.mk.injEq] at e0
    obtain ⟨rfl, rfl⟩ := e0
    refine iteT (qc O ow g H2 r2 d3 _ f2.sr e4 _ fun z H3 ⟨s3, f3⟩ => ?_)
    exact ⟨_, d2, d3, k2, f2.later s3 f3.sr trivial, f3.vw, e5, k2, rfl, q _ f3.sr ((s1.trans s2).trans s3)⟩
/-! ### and, or, not, .. if .. else .. -/
def andM (ma mb : Env → Option (D × Env)) : Env → Option (D × Env) := fun r => (ma r).bind fun p => match p.1 with | .bl true => mb p.2 | .bl false => some (.bl false, p.2) | _ => none
def orM (ma mb : Env → Option (D × Env)) : Env → Option (D × Env) := fun r => (ma r).bind fun p => match p.1 with | .bl true => some (.bl true, p.2) | .bl false => mb p.2 | _ => none
theorem andS {ma mb : Env → Option (D × Env)} {r r' : Env} {d : D} (h : andM ma mb r = some (d, r')) : ∃ r1, (ma r = some (.bl true, r1) ∧ mb r1 = some (d, r')) ∨ (ma r = some (.bl false, r1) ∧ d = .bl false ∧ r' = r1) := by
  obtain ⟨⟨d1, r1⟩, e1, e⟩ := bindS h
  cases d1 <;> simp only at e <;> try cases e
  case bl b =>
    cases b <;> simp only at e
    · cases e; exact ⟨_, .inr ⟨e1, rfl, rfl⟩⟩
    · exact ⟨r1, .inl ⟨e1, e⟩⟩
theorem orS {ma mb : Env → Option (D × Env)} {r r' : Env} {d : D} (h : orM ma mb r = some (d, r')) : ∃ r1, (ma r = some (.bl false, r1) ∧ mb r1 = some (d, r')) ∨ (ma r = some (.bl true, r1) ∧ d = .bl true ∧ r' = r1) := by
  obtain ⟨⟨d1, r1⟩, e1, e⟩ := bindS h
  cases d1 <;> simp only at e <;> try cases e
  case bl b =>
    cases b <;> simp only at e
    · exact ⟨r1, .inl ⟨e1, e⟩⟩
    · cases e; exact ⟨_, .inr ⟨e1, rfl, rfl⟩⟩
theorem Post.chain {K : PySem.W.Frag} {O : Addr → Prop} {ow : Nat → Addr} {g : St} {H H1 H2 : Hp} {r r1 r2 : Env} {b : Option Nat} {fr : Bool} {d : D} {v : V} (s1 : Stp ks ow r H ow r1 H1) (p : Post K ks O ow g H1 r1 b fr d r2 v H2) : Post K ks O ow g H r b fr d r2 v H2 :=
  ⟨s1.trans p.1, p.2.back s1⟩
theorem Post.weak {K : PySem.W.Frag} {O : Addr → Prop} {ow : Nat → Addr} {g : St} {H H2 : Hp} {r r2 : Env} {fr : Bool} {d : D} {v : V} (p : Post K ks O ow g H r none fr d r2 v H2) : Post K ks O ow g H r none false d r2 v H2 :=
  ⟨p.1, match p.2 with | .val s h _ => .val s h fun z => nomatch z | .own n h s o => .own n h s o⟩
theorem re_weak {fr : Bool} {m : Env → Option (D × Env)} {ex : Expr} (h : RE X ks none fr m ex) : RE X ks none false m ex := by
  obtain ⟨t, p, q⟩ := h
  exact ⟨t, p, fun O ow g H r d r' s e Q hQ => q O ow g H r d r' s e Q fun v H' z => hQ v H' z.weak⟩
theorem re_and {fa fb : Bool} {ma mb : Env → Option (D × Env)} {xa xb : Expr} {rest : List Expr} (ha : RE X ks none fa ma xa) (hb : RE X ks none fb mb (.BoolOp .And (xb :: rest) pos)) :
    RE X ks none false (andM ma mb) (.BoolOp .And (xa :: xb :: rest) pos) := by
  obtain ⟨ta, pa, qa⟩ := ha
  obtain ⟨tb, pb, qb⟩ := re_weak hb
  refine ⟨_, pe_and pa pb, fun O ow g H r d r' s e Q q => ?_⟩
  obtain ⟨r1, h | h⟩ := andS e
  · refine qa O ow g H r _ r1 s h.1 _ fun x H1 ⟨s1, f1⟩ => ⟨true, f1.vw.bl, iteT ?_⟩
    exact qb O ow g H1 r1 d r' f1.sr h.2 _ fun v H2 p => q _ _ (p.chain s1)
  · obtain ⟨h1, rfl, rfl⟩ := h
    exact qa O ow g H r _ _ s h1 _ fun x H1 ⟨s1, f1⟩ => ⟨false, f1.vw.bl, iteF (q _ _ ⟨s1, .val f1.sr (.bl _) fun z => nomatch z⟩)⟩
theorem re_or {fa fb : Bool} {ma mb : Env → Option (D × Env)} {xa xb : Expr} {rest : List Expr} (ha : RE X ks none fa ma xa) (hb : RE X ks none fb mb (.BoolOp .Or (xb :: rest) pos)) :
    RE X ks none false (orM ma mb) (.BoolOp .Or (xa :: xb :: rest) pos) := by
  obtain ⟨ta, pa, qa⟩ := ha
  obtain ⟨tb, pb, qb⟩ := re_weak hb
  refine ⟨_, pe_or pa pb, fun O ow g H r d r' s e Q q => ?_⟩
  obtain ⟨r1, h | h⟩ := orS e
  · refine qa O ow g H r _ r1 s h.1 _ fun x H1 ⟨s1, f1⟩ => ⟨false, f1.vw.bl, iteF ?_⟩
    exact qb O ow g H1 r1 d r' f1.sr h.2 _ fun v H2 p => q _ _ (p.chain s1)
  · obtain ⟨h1, rfl, rfl⟩ := h
    exact qa O ow g H r _ _ s h1 _ fun x H1 ⟨s1, f1⟩ => ⟨true, f1.vw.bl, iteT (q _ _ ⟨s1, .val f1.sr (.bl _) fun z => nomatch z⟩)⟩
theorem re_one {op : BoolOp} {b : Option Nat} {fr : Bool} {m : Env → Option (D × Env)} {xa : Expr} (h : RE X ks b fr m xa) : RE X ks b fr m (.BoolOp op [xa] pos) := by
  obtain ⟨t, p, q⟩ := h
  exact ⟨t, pe_one p, q⟩
theorem rw_and1 {m : Env → Option (Bool × Env)} {xa : Expr} (h : RT X ks m xa) : RW X ks m (.BoolOp .And [xa] pos) := by
  obtain ⟨t, p, q⟩ := h
  exact ⟨t, pw_and1 p, q⟩
theorem rw_or1 {m : Env → Option (Bool × Env)} {xa : Expr} (h : RT X ks m xa) : RW X ks m (.BoolOp .Or [xa] pos) := by
  obtain ⟨t, p, q⟩ := h
  exact ⟨t, pw_or1 p, q⟩
theorem rw_rt {m : Env → Option (Bool × Env)} {xa : Expr} (h : RW X ks m xa) : RT X ks m xa := by
  obtain ⟨t, p, q⟩ := h
  exact ⟨t, p.pt, q⟩
theorem rw_and {ma mb : Env → Option (D × Env)} {xa xb : Expr} {rest : List Expr} (ha : RT X ks (tstM ma) xa) (hb : RW X ks (tstM mb) (.BoolOp .And (xb :: rest) pos)) :
    RW X ks (tstM (andM ma mb)) (.BoolOp .And (xa :: xb :: rest) pos) := by
  obtain ⟨ta, pa, qa⟩ := ha
  obtain ⟨tb, pb, qb⟩ := hb
  refine ⟨_, pw_and pa pb, fun O ow g H r k r' s e Q q => ?_⟩
  obtain ⟨⟨d, r0⟩, e9, e0⟩ := bindS e
  obtain ⟨k', e2, e0⟩ := mapS e0
  cases e0
  obtain ⟨r1, h | h⟩ := andS e9
  · refine qa O ow g H r true r1 s (by unfold tstM; rw [h.1]; rfl) _ fun H1 s1 st1 => iteT ?_
    exact qb O ow g H1 r1 k _ s1 (by unfold tstM; rw [h.2]; simp [e2]) _ fun H2 s2 st2 => q _ s2 (st1.trans st2)
  · obtain ⟨h1, rfl, rfl⟩ := h
    simp only [tru, Option.some.injEq] at e2
    subst e2
    exact qa O ow g H r false _ s (by unfold tstM; rw [h1]; rfl) _ fun H1 s1 st1 => iteF (q _ s1 st1)
theorem rw_or {ma mb : Env → Option (D × Env)} {xa xb : Expr} {rest : List Expr} (ha : RT X ks (tstM ma) xa) (hb : RW X ks (tstM mb) (.BoolOp .Or (xb :: rest) pos)) :
    RW X ks (tstM (orM ma mb)) (.BoolOp .Or (xa :: xb :: rest) pos) := by
  obtain ⟨ta, pa, qa⟩ := ha
  obtain ⟨tb, pb, qb⟩ := hb
  refine ⟨_, pw_or pa pb, fun O ow g H r k r' s e Q q => ?_⟩
  obtain ⟨⟨d, r0⟩, e9, e0⟩ := bindS e
  obtain ⟨k', e2, e0⟩ := mapS e0
  cases e0
  obtain ⟨r1, h | h⟩ := orS e9
  · refine qa O ow g H r false r1 s (by unfold tstM; rw [h.1]; rfl) _ fun H1 s1 st1 => iteF ?_
    exact qb O ow g H1 r1 k _ s1 (by unfold tstM; rw [h.2]; simp [e2]) _ fun H2 s2 st2 => q _ s2 (st1.trans st2)
  · obtain ⟨h1, rfl, rfl⟩ := h
    simp only [tru, Option.some.injEq] at e2
    subst e2
    exact qa O ow g H r true _ s (by unfold tstM; rw [h1]; rfl) _ fun H1 s1 st1 => iteT (q _ s1 st1)
/-- not -/
def notM (ma : Env → Option (D × Env)) : Env → Option (D × Env) := fun r => (ma r).bind fun p => (tru p.1).map fun b => (.bl (!b), p.2)
theorem re_not {b : Option Nat} {fa : Bool} {ma : Env → Option (D × Env)} {xa : Expr} (ha : RE X ks b fa ma xa) : RE X ks none false (notM ma) (.UnaryOp .Not xa pos) := by
  obtain ⟨ta, pa, qa⟩ := ha
  refine ⟨_, pe_notT pa, fun O ow g H r d r' s e Q q => ?_⟩
  obtain ⟨⟨d1, r1⟩, e1, e⟩ := bindS e
  obtain ⟨k, e2, e⟩ := mapS e
  cases e
  exact qa O ow g H r d1 _ s e1 _ fun v H' ⟨s1, f1⟩ => ⟨k, truV_of f1.vw e2, q _ _ ⟨s1, .val f1.sr (.bl _) fun z => nomatch z⟩⟩
theorem rt_not {ma : Env → Option (D × Env)} {xa : Expr} (ha : RT X ks (tstM ma) xa) : RT X ks (tstM (notM ma)) (.UnaryOp .Not xa pos) := by
  obtain ⟨ta, pa, qa⟩ := ha
  refine ⟨_, pt_not pa, fun O ow g H r k r' s e Q q => ?_⟩
  obtain ⟨⟨d, r0⟩, e9, e0⟩ := bindS e
  obtain ⟨⟨d1, r1⟩, e1, e9⟩ := bindS e9
  obtain ⟨k1, e2, e9⟩ := mapS e9
  cases e9
  simp only [tru, Option.map_some, Option.some.injEq, Prod.mk.injEq] at e0
  obtain ⟨rfl, rfl⟩ := e0
  exact qa O ow g H r k1 _ s (by unfold tstM; rw [e1]; simp [e2]) _ fun H1 s1 st1 => q _ s1 st1
def iteM (mc : Env → Option (Bool × Env)) (ma mb : Env → Option (D × Env)) : Env → Option (D × Env) := fun r => (mc r).bind fun p => if p.1 = true then ma p.2 else mb p.2
theorem re_ite {fa fb : Bool} {mc : Env → Option (Bool × Env)} {ma mb : Env → Option (D × Env)} {xc xa xb : Expr} (hc : RT X ks mc xc) (ha : RE X ks none fa ma xa) (hb : RE X ks none fb mb xb) :
    RE X ks none false (iteM mc ma mb) (.IfExp xc xa xb pos) := by
  obtain ⟨tc, pc, qc⟩ := hc
  obtain ⟨ta, pa, qa⟩ := re_weak ha
  obtain ⟨tb, pb, qb⟩ := re_weak hb
  refine ⟨_, pe_ifExp pc pa pb, fun O ow g H r d r' s e Q q => ?_⟩
  obtain ⟨⟨k, r1⟩, e1, e⟩ := bindS e
  refine qc O ow g H r k r1 s e1 _ fun H1 s1 st1 => ?_
  cases k with
  | true => exact iteT (qa O ow g H1 r1 d r' s1 e _ fun v H2 p => q _ _ (p.chain st1))
  | false => exact iteF (qb O ow g H1 r1 d r' s1 e _ fun v H2 p => q _ _ (p.chain st1))
/-! ### argument lists, displays, calls -/
theorem ra_nil : RA X ks [] (fun r => some ([], r)) [] := ⟨_, pa_nil, fun O ow g H r ds r' s e Q q => by cases e; exact q _ _ s Stp.refl .nil⟩
theorem ra_cons {i : E} {is : List E} {fa : Bool} {ma : Env → Option (D × Env)} {mr : Env → Option (List D × Env)} {xa : Expr} {xs : List Expr} (hs : starEach (xa :: xs) X.env = (false, eval xa X.env) :: starEach xs X.env)
    (ha : RE X ks (bo i) fa ma xa) (hr : RA X ks is mr xs) : RA X ks (i :: is) (fun r => (ma r).bind fun p => (mr p.2).map fun q => (p.1 :: q.1, q.2)) (xa :: xs) := by
  obtain ⟨ta, pa, qa⟩ := ha
  obtain ⟨tr, pr, qr⟩ := hr
  refine ⟨_, pa_cons pa pr hs, fun O ow g H r ds r' s e Q q => ?_⟩
  obtain ⟨⟨d1, r1⟩, e1, e⟩ := bindS e
  obtain ⟨⟨d2, r2⟩, e2, e⟩ := mapS e
  cases e
  refine qa O ow g H r d1 r1 s e1 _ fun x H1 ⟨s1, f1⟩ => ?_
  refine qr O ow g H1 r1 d2 _ f1.sr e2 _ fun vs H2 sr2 s2 f2 => q _ _ sr2 (s1.trans s2) ?_
  cases i with
  | bor j =>
    cases f1 with
    | bor s0 e0 k0 => exact .bor k0 f2
  | _ => exact .val rfl (f1.rep.step s2) f2
theorem re_tup {is : List E} {m : Env → Option (List D × Env)} {xs : List Expr} {k : Nat} {fr : Bool} (h : RA X ks is m xs) (hb : ∀ e ∈ is, bo e = none) :
    RE X ks none fr (fun r => (m r).bind fun p => gd (p.1.length ≤ sizeLine) (some (.tup p.1, p.2))) (.Tuple xs k pos) := by
  obtain ⟨t, p, q⟩ := h
  refine ⟨_, pe_tup p, fun O ow g H r d r' s e Q hQ => ?_⟩
  obtain ⟨⟨ds, r1⟩, e1, e⟩ := bindS e
  obtain ⟨hz, e⟩ := gd_some e
  cases e
  refine q O ow g H r ds _ s e1 _ fun vs H1 sr st f => ?_
  have rr := f.reps hb
  refine ⟨by rw [rr.length]; exact hz, fun a ha => ?_⟩
  obtain ⟨z1, z2⟩ := (Res.tup (fr := fr) ha rr).form sr st
  exact hQ _ _ ⟨z2, z1⟩
theorem re_lst {is : List E} {m : Env → Option (List D × Env)} {xs : List Expr} (h : RA X ks is m xs) (hb : ∀ e ∈ is, bo e = none) :
    RE X ks none true (fun r => (m r).bind fun p => gd (p.1.length ≤ sizeLine) (some (.lst p.1, p.2))) (.List xs pos) := by
  obtain ⟨t, p, q⟩ := h
  refine ⟨_, pe_lst p, fun O ow g H r d r' s e Q hQ => ?_⟩
  obtain ⟨⟨ds, r1⟩, e1, e⟩ := bindS e
  obtain ⟨hz, e⟩ := gd_some e
  cases e
  refine q O ow g H r ds _ s e1 _ fun vs H1 sr st f => ?_
  have rr := f.reps hb
  refine ⟨by rw [rr.length]; exact hz, fun a ha => ?_⟩
  obtain ⟨z1, z2⟩ := (Res.lst (fr := true) ha rr).form sr st
  exact hQ _ _ ⟨z2, z1⟩
theorem re_dic0 : RE X ks none true (fun r => some (.dic [], r)) (.Dict [] [] pos) :=
  ⟨_, pe_dnewK, fun O ow g H r d r' s e Q hQ a ha => by
    cases e
    obtain ⟨z1, z2⟩ := (Res.dic (fr := true) (kv := []) (ks := []) ha .nil).form s Stp.refl
    exact hQ _ _ ⟨z2, z1⟩⟩
/-- a built-in of one argument, whatever its kind -/
theorem re_b1 {b : B1} {bb : Option Nat} {fa : Bool} {ma : Env → Option (D × Env)} {xa ex : Expr} (ha : RE X ks bb fa ma xa) (hp : ∀ t, PA X [xa] t → PE X ex (tCB (rB1 X.K b) t)) (hs : starEach [xa] X.env = (false, eval xa X.env) :: starEach [] X.env) :
    RE X ks none b.fr (fun r => (ma r).bind fun p => (b1 b p.1).map fun d => (d, p.2)) ex := by
  obtain ⟨ta, pa, qa⟩ := ha
  refine ⟨_, hp _ (pa_cons pa pa_nil hs), fun O ow g H r d r' s e Q q => ?_⟩
  obtain ⟨⟨d1, r1⟩, e1, e⟩ := bindS e
  obtain ⟨f, ef, e⟩ := mapS e
  cases e
  refine qa O ow g H r d1 _ s e1 _ fun x H1 ⟨s1, f1⟩ => ?_
  refine ⟨_, x, d1, _, rfl, f1.vw, ef, fun v H' z => ?_⟩
  obtain ⟨z1, z2⟩ := z.form f1.sr s1
  exact q _ _ ⟨z2, z1⟩
theorem re_b2 {b : B2} {fa fb : Bool} {ma mb : Env → Option (D × Env)} {xa xb ex : Expr} (ha : RE X ks none fa ma xa) (hb : RE X ks none fb mb xb) (hp : ∀ t, PA X [xa, xb] t → PE X ex (tCB (rB2 X.K b) t))
    (hs : starEach [xa, xb] X.env = (false, eval xa X.env) :: starEach [xb] X.env) (hs2 : starEach [xb] X.env = (false, eval xb X.env) :: starEach [] X.env) :
    RE X ks none false (fun r => (ma r).bind fun p => (mb p.2).bind fun q => (b2 b p.1 q.1).map fun d => (d, q.2)) ex := by
  obtain ⟨ta, pa, qa⟩ := ha
  obtain ⟨tb, pb, qb⟩ := hb
  refine ⟨_, hp _ (pa_cons pa (pa_cons pb pa_nil hs2) hs), fun O ow g H r d r' s e Q q => ?_⟩
  obtain ⟨⟨d1, r1⟩, e1, e⟩ := bindS e
  obtain ⟨⟨d2, r2⟩, e2, e⟩ := bindS e
  obtain ⟨f, ef, e⟩ := mapS e
  cases e
  refine qa O ow g H r d1 r1 s e1 _ fun x H1 ⟨s1, f1⟩ => ?_
  refine qb O ow g H1 r1 d2 _ f1.sr e2 _ fun y H2 ⟨s2, f2⟩ => ?_
  refine ⟨_, x, y, d1, d2, _, rfl, f1.later s2 f2.sr trivial, f2.vw, ef, fun v H' z => ?_⟩
  obtain ⟨z1, z2⟩ := z.form f2.sr (s1.trans s2)
  exact q _ _ ⟨z2, z1⟩
theorem re_isi {t : Ty} {fa : Bool} {ma : Env → Option (D × Env)} {xa xt ex : Expr} (ha : RE X ks none fa ma xa) (ht : PE X xt (tC (.ty (tyN t)))) (hp : ∀ u, PA X [xa, xt] u → PE X ex (tCB (rIsF X.K t) u))
    (hs : starEach [xa, xt] X.env = (false, eval xa X.env) :: starEach [xt] X.env) (hs2 : starEach [xt] X.env = (false, eval xt X.env) :: starEach [] X.env) :
    RE X ks none false (fun r => (ma r).bind fun p => (isT t p.1).map fun d => (.bl d, p.2)) ex := by
  obtain ⟨ta, pa, qa⟩ := ha
  refine ⟨_, hp _ (pa_cons pa (pa_cons ht pa_nil hs2) hs), fun O ow g H r d r' s e Q q => ?_⟩
  obtain ⟨⟨d1, r1⟩, e1, e⟩ := bindS e
  obtain ⟨f, ef, e⟩ := mapS e
  cases e
  refine qa O ow g H r d1 _ s e1 _ fun x H1 ⟨s1, f1⟩ => ?_
  exact ⟨_, x, d1, f, rfl, f1.vw, ef, q _ _ ⟨s1, .val f1.sr (.bl _) fun z => nomatch z⟩⟩
/-- a slice's part -/
def RP (X : Cx) (ks : List Kd) (i : E) (m : Env → Option (D × Env)) (ex : Option Expr) : Prop := ∃ t, PO X ex t ∧ ∀ O ow g H r d r' o, SR X.K ks O ow g H r → m r = some (d, r') → partOf i d = some o →
  ∀ Q : Option Int → Hp → Prop, (∀ H', SR X.K ks O ow g H' r' → Stp ks ow r H ow r' H' → Q o H') → t g H Q
theorem rp_none : RP X ks .non (fun r => some (.non, r)) none := ⟨_, po_none, fun O ow g H r d r' o s e h Q q => by
  cases e
  simp only [partOf] at h
  cases h
  exact q _ s Stp.refl⟩
theorem rp_some {i : E} {fr : Bool} {m : Env → Option (D × Env)} {ex : Expr} (hi : ∀ d o, partOf i d = some o → ∃ k, d = .int k ∧ o = some k) (h : RE X ks none fr m ex) : RP X ks i m (some ex) := by
  obtain ⟨t, p, q⟩ := h
  refine ⟨_, po_some p, fun O ow g H r d r' o s e h Q hQ => ?_⟩
  obtain ⟨k, rfl, rfl⟩ := hi d o h
  exact q O ow g H r _ r' s e _ fun v H' ⟨s1, f1⟩ => ⟨k, f1.vw.int, hQ _ f1.sr s1⟩
theorem partOf_int {i : E} (h : i ≠ .non) : ∀ d o, partOf i d = some o → ∃ k, d = .int k ∧ o = some k := by
  intro d o e
  cases i <;> first | exact absurd rfl h | skip
  all_goals (cases d <;> simp only [partOf] at e <;> cases e; exact ⟨_, rfl, rfl⟩)
theorem re_sl {ba : Option Nat} {fa : Bool} {ma ml mh : Env → Option (D × Env)} {lo hi : E} {xa : Expr} {l h : Option Expr} {p2 : Pos} (ha : RE X ks ba fa ma xa) (hl : RP X ks lo ml l) (hh : RP X ks hi mh h) :
    RE X ks none true (fun r => (ma r).bind fun p => (ml p.2).bind fun q => (mh q.2).bind fun t => gd (stbO ba p.2 t.2) ((partOf lo q.1).bind fun l => (partOf hi t.1).bind fun h => (dsl p.1 l h).map fun d => (d, t.2))) (.Subscript xa (.Slice l h none p2) pos) := by
  obtain ⟨ta, pa, qa⟩ := ha
  obtain ⟨tl, pl, ql⟩ := hl
  obtain ⟨th, ph, qh⟩ := hh
  refine ⟨_, pe_slice sl_F pa pl ph, fun O ow g H r d r' s e Q q => ?_⟩
  obtain ⟨⟨d1, r1⟩, e1, e⟩ := bindS e
  obtain ⟨⟨d2, r2⟩, e2, e⟩ := bindS e
  obtain ⟨⟨d3, r3⟩, e3, e⟩ := bindS e
  obtain ⟨st, e⟩ := gd_some e
  obtain ⟨o2, p2, e⟩ := bindS e
  obtain ⟨o3, p3, e⟩ := bindS e
  obtain ⟨f, ef, e⟩ := mapS e
  cases e
  refine qa O ow g H r d1 r1 s e1 _ fun x H1 ⟨s1, f1⟩ => ?_
  refine ql O ow g H1 r1 d2 r2 o2 f1.sr e2 p2 _ fun H2 sr2 s2 => ?_
  refine qh O ow g H2 r2 d3 _ o3 sr2 e3 p3 _ fun H3 sr3 s3 => ?_
  refine ⟨_, d1, _, f1.later (s2.trans s3) sr3 st, ef, fun v H' z => ?_⟩
  obtain ⟨z1, z2⟩ := z.form sr3 (s1.trans (s2.trans s3))
  exact q _ _ ⟨z2, z1⟩
end
end Fw
namespace Fw
open PySem L2
section
variable {X : Cx} {ks : List Kd} {pos : Pos}
/-- arguments with what the borrowed places hold now -/
inductive Fill (K : PySem.W.Frag) (ks : List Kd) (O : Addr → Prop) (ow : Nat → Addr) (H : Hp) (r : Env) : List E → List D → List V → Prop
  | nil : Fill K ks O ow H r [] [] []
  | val {e : E} {es : List E} {d : D} {ds : List D} {v : V} {vs : List V} : bo e = none → Rep (Av ks O ow r) K H v d → Fill K ks O ow H r es ds vs → Fill K ks O ow H r (e :: es) (d :: ds) (v :: vs)
  | bor {i : Nat} {es : List E} {d : D} {ds : List D} {vs : List V} : kd ks i ≠ .val → r[i]? = some (some d) → Fill K ks O ow H r es ds vs → Fill K ks O ow H r (.bor i :: es) (d :: ds) (.ref (ow i) :: vs)
theorem fill_val {e : E} {es : List E} {d : D} {ds : List D} {r : Env} (h : bo e = none) : fill (e :: es) (d :: ds) r = (fill es ds r).map (d :: ·) := by
  cases e <;> first | rfl | simp [bo] at h
theorem Forms.fill {K : PySem.W.Frag} {O : Addr → Prop} {ow : Nat → Addr} {H : Hp} {r : Env} : ∀ {es : List E} {ds : List D} {vs : List V} {ds' : List D}, Forms K ks O ow H r es ds vs → Fw.fill es ds r = some ds' → Fill K ks O ow H r es ds' vs
  | _, _, _, _, .nil, e => by simp only [Fw.fill, Option.some.injEq] at e; subst e; exact .nil
  | _, _, _, _, .val b h f, e => by
    rw [fill_val b] at e
    obtain ⟨w, hw, e⟩ := mapS e
    subst e
    exact .val b h (Forms.fill f hw)
  | _, _, _, _, .bor k f, e => by
    simp only [Fw.fill] at e
    obtain ⟨d, hd, e⟩ := bindS e
    obtain ⟨w, hw, e⟩ := mapS e
    subst e
    exact .bor k (slot_some hd) (Forms.fill f hw)
theorem Fill.get {K : PySem.W.Frag} {O : Addr → Prop} {ow : Nat → Addr} {H : Hp} {r : Env} : ∀ {es : List E} {ds : List D} {vs : List V}, Fill K ks O ow H r es ds vs → ∀ (p : Nat) (e : E), es[p]? = some e →
    ∃ d v, ds[p]? = some d ∧ vs[p]? = some v ∧ ((bo e = none ∧ Rep (Av ks O ow r) K H v d) ∨ ∃ j, e = .bor j ∧ kd ks j ≠ .val ∧ r[j]? = some (some d) ∧ v = .ref (ow j))
  | _, _, _, .nil, p, e, h => by simp at h
  | _, _, _, .val b h f, 0, e, k => by simp at k; subst k; exact ⟨_, _, rfl, rfl, .inl ⟨b, h⟩⟩
  | _, _, _, .bor a b f, 0, e, k => by simp at k; subst k; exact ⟨_, _, rfl, rfl, .inr ⟨_, rfl, a, b, rfl⟩⟩
  | _, _, _, .val b h f, p + 1, e, k => by simp at k; simpa using Fill.get f p e k
  | _, _, _, .bor a b f, p + 1, e, k => by simp at k; simpa using Fill.get f p e k
theorem Fill.len {K : PySem.W.Frag} {O : Addr → Prop} {ow : Nat → Addr} {H : Hp} {r : Env} : ∀ {es : List E} {ds : List D} {vs : List V}, Fill K ks O ow H r es ds vs → ds.length = es.length ∧ vs.length = es.length
  | _, _, _, .nil => ⟨rfl, rfl⟩
  | _, _, _, .val b h f => by obtain ⟨a, b⟩ := Fill.len f; simp [a, b]
  | _, _, _, .bor a b f => by obtain ⟨a, b⟩ := Fill.len f; simp [a, b]
theorem ckArgs_get : ∀ {kp : List Kd} {es : List E}, ckArgs kp es = true → ∀ (p : Nat) (e : E), es[p]? = some e → (kp[p]? = some .io ∧ ∃ j, e = .bor j) ∨ (kp[p]? = some .val ∧ bo e = none)
  | [], [], _, p, e, h => by simp at h
  | [], _ :: _, h, _, _, _ => by simp [ckArgs] at h
  | .own :: _, _, h, _, _, _ => by simp [ckArgs] at h
  | .io :: _, [], h, _, _, _ => by simp [ckArgs] at h
  | .val :: _, [], h, _, _, _ => by simp [ckArgs] at h
  | .io :: kp, e0 :: es, h, p, e, k => by
    cases e0 <;> simp [ckArgs] at h
    case bor i =>
      cases p with
      | zero => simp at k; subst k; exact .inl ⟨rfl, _, rfl⟩
      | succ p => simp at k; simpa using ckArgs_get h p e k
  | .val :: kp, e0 :: es, h, p, e, k => by
    simp [ckArgs] at h
    cases p with
    | zero => simp at k; subst k; exact .inr ⟨rfl, h.1⟩
    | succ p => simp at k; simpa using ckArgs_get h.2 p e k
theorem bors_val {e : E} {es : List E} (h : bo e = none) : bors (e :: es) = bors es := by
  cases e <;> first | rfl | simp [bo] at h
theorem bors_mem : ∀ {es : List E} {p j : Nat}, es[p]? = some (.bor j) → j ∈ bors es
  | [], _, _, h => by simp at h
  | e :: es, 0, j, h => by simp at h; subst h; exact List.mem_cons_self
  | e :: es, p + 1, j, h => by
    simp at h
    have := bors_mem h
    cases e <;> first | exact this | exact List.mem_cons_of_mem _ this
theorem bors_at : ∀ {es : List E} {j : Nat}, j ∈ bors es → ∃ p : Nat, es[p]? = some (.bor j)
  | [], j, h => by simp [bors] at h
  | e :: es, j, h => by
    have go : j ∈ bors es → ∃ p : Nat, (e :: es)[p]? = some (.bor j) := fun h => let ⟨p, hp⟩ := bors_at h; ⟨p + 1, by simpa using hp⟩
    cases e
    case bor i =>
      simp only [bors, List.mem_cons] at h
      rcases h with rfl | h
      · exact ⟨0, rfl⟩
      · exact go h
    all_goals exact go h
theorem bors_inj : ∀ {es : List E} {p q j : Nat}, (bors es).Nodup → es[p]? = some (.bor j) → es[q]? = some (.bor j) → p = q
  | [], _, _, _, _, h, _ => by simp at h
  | e :: es, 0, 0, _, _, _, _ => rfl
  | e :: es, 0, q + 1, j, nd, h1, h2 => by
    simp at h1 h2
    subst h1
    simp only [bors, List.nodup_cons] at nd
    exact absurd (bors_mem h2) nd.1
  | e :: es, p + 1, 0, j, nd, h1, h2 => by
    simp at h1 h2
    subst h2
    simp only [bors, List.nodup_cons] at nd
    exact absurd (bors_mem h1) nd.1
  | e :: es, p + 1, q + 1, j, nd, h1, h2 => by
    simp at h1 h2
    have nd' : (bors es).Nodup := by
      cases e
      case bor i => simp only [bors, List.nodup_cons] at nd; exact nd.2
      all_goals exact nd
    rw [bors_inj nd' h1 h2]
theorem outs_val {e : E} {es : List E} {ds : List D} {r : Env} (h : bo e = none) : outs (e :: es) ds r = outs es ds r := by
  cases e <;> first | rfl | simp [bo] at h
theorem outs_get : ∀ {kp : List Kd} {es : List E} {os : List D} {r1 r3 rc : Env} {i0 : Nat}, ckArgs kp es = true → backs kp i0 rc = some os → outs es os r1 = some r3 → (bors es).Nodup →
    r3.length = r1.length ∧ (∀ j, j ∉ bors es → r3[j]? = r1[j]?) ∧ ∀ (p j : Nat), es[p]? = some (.bor j) → j < r1.length → ∃ e, slot rc (i0 + p) = some e ∧ r3[j]? = some (some e)
  | [], [], os, r1, r3, rc, i0, _, h1, h2, _ => by
    simp only [backs, Option.some.injEq] at h1
    subst h1
    simp only [outs, Option.some.injEq] at h2
    subst h2
    exact ⟨rfl, fun _ _ => rfl, fun p j h => by simp at h⟩
  | [], _ :: _, _, _, _, _, _, h, _, _, _ => by simp [ckArgs] at h
  | .own :: _, _, _, _, _, _, _, h, _, _, _ => by simp [ckArgs] at h
  | .io :: _, [], _, _, _, _, _, h, _, _, _ => by simp [ckArgs] at h
  | .val :: _, [], _, _, _, _, _, h, _, _, _ => by simp [ckArgs] at h
  | .io :: kp, e0 :: es, os, r1, r3, rc, i0, h, h1, h2, nd => by
    cases e0 <;> simp [ckArgs] at h
    case bor i =>
      simp only [bors, List.nodup_cons] at nd
      simp only [backs] at h1
      obtain ⟨d, hd, h1⟩ := bindS h1
      obtain ⟨os', ho, h1⟩ := mapS h1
      subst h1
      simp only [outs] at h2
      obtain ⟨l, a, b⟩ := outs_get h ho h2 nd.2
      rw [List.length_set] at l b
      refine ⟨l, fun j hj => ?_, fun p j hp hl => ?_⟩
      · simp only [bors, List.mem_cons, not_or] at hj
        rw [a j hj.2, List.getElem?_set_ne (fun z => hj.1 z.symm)]
      · cases p with
        | zero =>
          simp at hp
          subst hp
          refine ⟨d, hd, ?_⟩
          rw [a _ nd.1, List.getElem?_set_self hl]
        | succ p =>
          simp at hp
          obtain ⟨e, h3, h4⟩ := b p j hp hl
          exact ⟨e, by rw [show i0 + (p + 1) = i0 + 1 + p by omega]; exact h3, h4⟩
  | .val :: kp, e0 :: es, os, r1, r3, rc, i0, h, h1, h2, nd => by
    simp [ckArgs] at h
    rw [bors_val h.1] at nd ⊢
    rw [outs_val h.1] at h2
    simp only [backs] at h1
    obtain ⟨l, a, b⟩ := outs_get h.2 h1 h2 nd
    refine ⟨l, a, fun p j hp hl => ?_⟩
    cases p with
    | zero =>
      simp at hp
      subst hp
      simp [bo] at h
    | succ p =>
      simp at hp
      obtain ⟨e, h3, h4⟩ := b p j hp hl
      exact ⟨e, by rw [show i0 + (p + 1) = i0 + 1 + p by omega]; exact h3, h4⟩

theorem start_get {N : List Str} {vs : List V} {p : Nat} {v : V} (h : vs[p]? = some v) : (start N vs)[p]? = some (some v) := by
  unfold L2.start
  have hl : p < (vs.map some).length := by rw [List.length_map]; exact (List.getElem?_eq_some_iff.mp h).1
  rw [List.getElem?_append_left hl, List.getElem?_map, h] <;> rfl
theorem startE_some {N : List Str} {ds : List D} {p : Nat} {d : D} (h : (startE N ds)[p]? = some (some d)) : ds[p]? = some d := by
  unfold startE at h
  by_cases hl : p < (ds.map some).length
  · rw [List.getElem?_append_left hl, List.getElem?_map] at h
    cases q : ds[p]? with
    | none => rw [q] at h; cases h
    | some e => rw [q] at h; simpa using h
  · rw [List.getElem?_append_right (by omega)] at h
    have := List.mem_of_getElem? h
    simp at this
theorem kd_take {ks : List Kd} {n p : Nat} {k : Kd} (h : (ks.take n)[p]? = some k) : kd ks p = k := by
  rw [List.getElem?_take] at h
  split at h
  · unfold kd; rw [List.getD_eq_getElem?_getD, h] <;> rfl
  · cases h
/-- a call of a def of the text -/
theorem re_call {is : List E} {m : Env → Option (List D × Env)} {ex : Expr} {d : Fd} {F : List D → Option (D × List D)}
    (h : ∃ t, PE X ex (tCall (spF X.K d F) [] E0 t) ∧ ∀ O ow g H r ds r', SR X.K ks O ow g H r → m r = some (ds, r') → ∀ Q : List V → Hp → Prop, (∀ vs H', SR X.K ks O ow g H' r' → Stp ks ow r H ow r' H' → Forms X.K ks O ow H' r' is ds vs → Q vs H') → t g H Q)
    (hk : ckArgs (d.ks.take d.P.length) is = true) (nd : (bors is).Nodup) (hlen : is.length = d.P.length) :
    RE X ks none d.fr (fun r => (m r).bind fun p => (fill is p.1 p.2).bind fun ds => (F ds).bind fun q => (outs is q.2 p.2).map fun r' => (q.1, r')) ex := by
  obtain ⟨t, pt, qt⟩ := h
  refine ⟨_, pt, fun O ow g H r x r' s e Q q => ?_⟩
  obtain ⟨⟨ds0, r1⟩, e1, e⟩ := bindS e
  obtain ⟨ds, e2, e⟩ := bindS e
  obtain ⟨⟨x', os⟩, e3, e⟩ := bindS e
  obtain ⟨r3, e4, e⟩ := mapS e
  cases e
  refine qt O ow g H r ds0 r1 s e1 _ fun vs H1 sr st fo => ?_
  have fi := fo.fill e2
  obtain ⟨l1, l2⟩ := fi.len
  rw [List.append_nil]
  -- the callee's places
  have live : ∀ j, j ∈ bors is → ∃ p d0, is[p]? = some (.bor j) ∧ ds[p]? = some d0 ∧ kd ks j ≠ .val ∧ r1[j]? = some (some d0) ∧ p < d.P.length ∧ kd d.ks p = .io := fun j hj => by
    obtain ⟨p, hp⟩ := bors_at hj
    obtain ⟨d0, v, h1, h2, h3⟩ := fi.get p _ hp
    rcases h3 with ⟨h3, _⟩ | ⟨j', h3, h4, h5, h6⟩
    · simp [bo] at h3
    · cases h3
      have hpl : p < d.P.length := by rw [← hlen]; exact (List.getElem?_eq_some_iff.mp hp).1
      rcases ckArgs_get hk p _ hp with ⟨h7, _⟩ | ⟨_, h7⟩
      · exact ⟨p, d0, hp, h1, h4, h5, hpl, kd_take h7⟩
      · simp [bo] at h7
  refine ⟨fun a => Av ks O ow r1 a ∧ ¬ ∃ j, j ∈ bors is ∧ a = ow j, fun p => match is[p]? with | some (.bor j) => ow j | _ => 0, ds, x', os, by rw [l2, hlen], by rw [l1, hlen], fun p hp => ?_, ?_, e3, ?_⟩
  · have hpl : p < is.length := by rw [hlen]; exact hp
    rcases ckArgs_get hk p _ (List.getElem?_eq_getElem hpl) with ⟨h7, _⟩ | ⟨h7, _⟩ <;> rw [kd_take h7] <;> exact fun z => nomatch z
  · have pos : ∀ p d0, (startE d.N ds)[p]? = some (some d0) → ∃ e0, is[p]? = some e0 ∧ ds[p]? = some d0 := fun p d0 hp => by
      have h1 := startE_some hp
      have hpl : p < is.length := by rw [← l1]; exact (List.getElem?_eq_some_iff.mp h1).1
      exact ⟨_, List.getElem?_eq_getElem hpl, h1⟩
    have own : ∀ p d0, (startE d.N ds)[p]? = some (some d0) → kd d.ks p ≠ .val → ∃ j, is[p]? = some (.bor j) ∧ kd ks j ≠ .val ∧ r1[j]? = some (some d0) ∧ vs[p]? = some (.ref (ow j)) := fun p d0 hp hkd => by
      obtain ⟨e0, h1, h2⟩ := pos p d0 hp
      obtain ⟨d1, v, h3, h4, h5⟩ := fi.get p _ h1
      rw [h2] at h3
      cases h3
      rcases h5 with ⟨h5, _⟩ | ⟨j, h5, h6, h7, h8⟩
      · rcases ckArgs_get hk p _ h1 with ⟨_, j, h7⟩ | ⟨h7, _⟩
        · rw [h7] at h5; simp [bo] at h5
        · exact absurd (kd_take h7) hkd
      · subst h5 h8
        exact ⟨j, h1, h6, h7, h4⟩
    have hA : ∀ a, H1 a ≠ none → Av d.ks (fun a => Av ks O ow r1 a ∧ ¬ ∃ j, j ∈ bors is ∧ a = ow j) (fun p => match is[p]? with | some (.bor j) => ow j | _ => 0) (startE d.N ds) a → Av ks O ow r1 a := fun a _ z => by
      rcases z with z | ⟨p, d0, hp, hkd, z⟩
      · exact z.1
      · obtain ⟨j, h1, h2, h3, _⟩ := own p d0 hp hkd
        dsimp only at z
        rw [h1] at z
        exact .inr ⟨j, d0, h3, h2, z⟩
    refine ⟨?_, fun p d0 hp hkd => ?_, fun p d0 hp hkd => ?_, fun p p' d0 d1 hp hp' hkd hkd' ne => ?_, fun a z => sr.avdom z.1⟩
    · simp [startE, L2.start, l1, l2]
    · obtain ⟨e0, h1, h2⟩ := pos p d0 hp
      obtain ⟨d1, v, h3, h4, h5⟩ := fi.get p _ h1
      rw [h2] at h3
      cases h3
      rcases h5 with ⟨h5, h6⟩ | ⟨j, h5, _⟩
      · exact ⟨v, start_get h4, h6.weak hA⟩
      · subst h5
        rcases ckArgs_get hk p _ h1 with ⟨h7, _⟩ | ⟨_, h7⟩
        · rw [kd_take h7] at hkd; cases hkd
        · simp [bo] at h7
    · obtain ⟨j, h1, h2, h3, h4⟩ := own p d0 hp hkd
      obtain ⟨_, _, h7⟩ := sr.own j d0 h3 h2
      simp only [h1]
      exact ⟨start_get h4, fun z => z.2 ⟨j, bors_mem h1, rfl⟩, h7.weak hA⟩
    · obtain ⟨j, h1, h2, h3, _⟩ := own p d0 hp hkd
      obtain ⟨j', h1', h2', h3', _⟩ := own p' d1 hp' hkd'
      simp only [h1, h1']
      refine sr.inj j j' d0 d1 h3 h3' h2 h2' fun z => ?_
      subst z
      exact ne (bors_inj nd h1 h1')
  · intro v H' rc A hb kp hA hio hres
    have olc : ∀ a, OL d.ks (fun p => match is[p]? with | some (.bor j) => ow j | _ => 0) (startE d.N ds) a → ∃ j, j ∈ bors is ∧ a = ow j := fun a ⟨p, d0, hp, hkd, z⟩ => by
      have h1 := startE_some hp
      have hpl : p < is.length := by rw [← l1]; exact (List.getElem?_eq_some_iff.mp h1).1
      rcases ckArgs_get hk p _ (List.getElem?_eq_getElem hpl) with ⟨_, j, h7⟩ | ⟨h7, _⟩
      · have h8 : is[p]? = some (.bor j) := by rw [List.getElem?_eq_getElem hpl, h7]
        dsimp only at z
        rw [h8] at z
        exact ⟨j, bors_mem h8, z⟩
      · exact absurd (kd_take h7) hkd
    have olr : ∀ j, j ∈ bors is → OL ks ow r1 (ow j) := fun j hj => by
      obtain ⟨p, d0, _, _, h3, h4, _, _⟩ := live j hj
      exact ⟨j, d0, h4, h3, rfl⟩
    obtain ⟨o1, o2, o3⟩ := outs_get hk hb e4 nd
    have r3s : ∀ i e, r'[i]? = some (some e) → (i ∉ bors is ∧ r1[i]? = some (some e)) ∨ (i ∈ bors is ∧ kd ks i ≠ .val ∧ (∃ e0, r1[i]? = some (some e0)) ∧ Own A X.K H' (ow i) e) := fun i e hi => by
      by_cases hb' : i ∈ bors is
      · obtain ⟨p, d0, h1, h2, h3, h4, h5, h6⟩ := live i hb'
        obtain ⟨e', h7, h8⟩ := o3 p i h1 (List.getElem?_eq_some_iff.mp h4).1
        rw [hi] at h8
        cases h8
        obtain ⟨e2, h9, h10⟩ := hio p h5 h6
        rw [Nat.zero_add] at h7
        rw [h7] at h9
        cases h9
        simp only [h1] at h10
        exact .inr ⟨hb', h3, ⟨d0, h4⟩, h10⟩
      · rw [o2 i hb'] at hi
        exact .inl ⟨hb', hi⟩
    have live3 : ∀ i e, r'[i]? = some (some e) → ∃ e0, r1[i]? = some (some e0) := fun i e hi => (r3s i e hi).elim (fun z => ⟨e, z.2⟩) fun z => z.2.2.1
    have ol3 : ∀ a, OL ks ow r' a → OL ks ow r1 a := fun a ⟨i, e, hi, hk', z⟩ => let ⟨e0, h0⟩ := live3 i e hi; ⟨i, e0, h0, hk', z⟩
    have kp1 : Kp (OL ks ow r1) H1 H' := ⟨fun b o e n => kp.keep b o e fun z => by obtain ⟨j, hj, z⟩ := olc b z; exact n (z ▸ olr j hj), kp.dom, kp.tups, kp.frzs⟩
    have st3 : Stp ks ow r1 H1 ow r' H' := ⟨kp1, fun i e hi hk' => by
      obtain ⟨e0, h0⟩ := live3 i e hi
      cases kk : kd ks i with
      | val => exact absurd kk hk'
      | own => exact .inl ⟨i, e0, h0, kk, rfl⟩
      | io => exact .inr (.inl ⟨rfl, rfl, e0, h0⟩), fun _ _ => rfl⟩
    have isA : ∀ a, Av ks O ow r1 a → A a := fun a z => (hA a).mpr (by
      by_cases hb' : ∃ j, j ∈ bors is ∧ a = ow j
      · obtain ⟨j, hj, z'⟩ := hb'
        obtain ⟨p, d0, h1, h2, h3, h4, h5, h6⟩ := live j hj
        exact .inr (.inl ⟨p, h5, h6, by simp only [h1]; exact z'⟩)
      · exact .inl ⟨z, hb'⟩)
    have mk : ∀ (O2 : Addr → Prop), (∀ a, O2 a → A a ∧ (O a ∨ H1 a = none)) → (∀ a, O2 a → H' a ≠ none) → SR X.K ks O2 ow g H' r' := fun O2 hO hd => by
      have w1 : ∀ a, H1 a ≠ none → Av ks O2 ow r' a → Av ks O ow r1 a := fun a n z => by
        rcases z with z | z
        · exact (hO a z).2.elim .inl fun z => absurd z n
        · exact .inr (ol3 a z)
      have w2 : ∀ a, H' a ≠ none → Av ks O2 ow r' a → A a := fun a _ z => by
        rcases z with z | z
        · exact (hO a z).1
        · exact isA a (.inr (ol3 a z))
      refine ⟨o1.trans sr.len, fun i e hi hk' => ?_, fun i e hi hk' => ?_, fun i j a b h1 h2 k1 k2 ne => ?_, hd⟩
      · rcases r3s i e hi with ⟨_, h⟩ | ⟨_, h, _⟩
        · obtain ⟨u, hu, hr⟩ := sr.val i e h hk'
          exact ⟨u, hu, hr.keep kp1 (fun a z => .inr z) w1⟩
        · exact absurd hk' h
      · rcases r3s i e hi with ⟨hn, h⟩ | ⟨_, _, ⟨e0, h0⟩, h⟩
        · obtain ⟨a1, a2, a3⟩ := sr.own i e h hk'
          refine ⟨a1, fun z => (hO _ z).2.elim a2 a3.there, a3.keep (P := fun a => ∃ j, j ∈ bors is ∧ a = ow j) ⟨fun b o e n => kp.keep b o e fun z => n (olc b z), kp.dom, kp.tups, kp.frzs⟩ (fun a ⟨j, hj, z⟩ => z ▸ .inr (olr j hj)) w1 fun ⟨j, hj, z⟩ => ?_⟩
          obtain ⟨p, d0, _, _, h3, h4, _, _⟩ := live j hj
          exact sr.inj i j e d0 h h4 hk' h3 (fun z => hn (z ▸ hj)) z
        · obtain ⟨a1, a2, a3⟩ := sr.own i e0 h0 hk'
          exact ⟨a1, fun z => (hO _ z).2.elim a2 a3.there, h.weak w2⟩
      · obtain ⟨a0, h1'⟩ := live3 i a h1
        obtain ⟨b0, h2'⟩ := live3 j b h2
        exact sr.inj i j a0 b0 h1' h2' k1 k2 ne
    split at hres
    · rename_i hf
      obtain ⟨a, rfl, ha, ho⟩ := hres
      have hA' : A a := (hA a).mpr (.inr (.inr ⟨hf.1, hf.2, rfl⟩))
      have s2 := mk (fun b => O b ∨ b = a) (fun b z => z.elim (fun z => ⟨isA b (.inl z), .inl z⟩) fun z => by subst z; exact ⟨hA', .inr ha⟩)
        (fun b z => z.elim (fun z => kp.dom b (sr.odom b z)) fun z => by subst z; exact ho.there)
      refine q _ _ ⟨st.trans st3, (Form.own (fr := d.fr) (d := x') (r := r') (a := a) (H := H') (r0 := r1) (H0 := H1) ?_ (.inr ha) s2 (ho.weak fun b _ z => ?_)).back st⟩
      · rintro (z | z)
        · exact sr.odom a z ha
        · exact sr.avdom (.inr (ol3 a z)) ha
      · rcases z with (z | z) | z
        · exact isA b (.inl z)
        · subst z; exact hA'
        · exact isA b (.inr (ol3 b z))
    · rename_i hf
      have s2 := mk O (fun b z => ⟨isA b (.inl z), .inl z⟩) fun b z => kp.dom b (sr.odom b z)
      refine q _ _ ⟨st.trans st3, .val s2 (hres.weak fun b _ z => ?_) fun z => ?_⟩
      · rcases z with z | z
        · exact isA b (.inl z)
        · exact isA b (.inr (ol3 b z))
      · cases qq : isC x' with
        | false => rfl
        | true => exact absurd ⟨z, qq⟩ hf
end
end Fw
/-! Fw: targets, what is walked, list comprehensions. -/
namespace Fw
open PySem L2
/-! ### forgetting slots -/
theorem wipeE_len (own : List Nat) : ∀ r : Env, (wipeE r own).length = r.length := by
  unfold wipeE
  induction own with
  | nil => intro r; rfl
  | cons i own ih => intro r; rw [List.foldl_cons, ih, List.length_set]
theorem wipeE_get (own : List Nat) : ∀ (r : Env) (i : Nat) (d : D), (wipeE r own)[i]? = some (some d) ↔ i ∉ own ∧ r[i]? = some (some d) := by
  unfold wipeE
  induction own with
  | nil => intro r i d; simp
  | cons j own ih =>
    intro r i d
    rw [List.foldl_cons, ih]
    by_cases e : i = j
    · subst e
      constructor
      · rintro ⟨_, h⟩
        rw [List.getElem?_set] at h
        simp only [if_true] at h
        split at h <;> cases h
      · rintro ⟨h, _⟩; exact absurd List.mem_cons_self h
    · rw [List.getElem?_set_ne (Ne.symm e)]
      simp only [List.mem_cons, e, false_or]
theorem backE_len (r0 : Env) (own : List Nat) : ∀ r : Env, (backE r0 r own).length = r.length := by
  unfold backE
  induction own with
  | nil => intro r; rfl
  | cons i own ih => intro r; rw [List.foldl_cons, ih, List.length_set]
theorem backE_out (r0 : Env) (own : List Nat) : ∀ (r : Env) (i : Nat), i ∉ own → (backE r0 r own)[i]? = r[i]? := by
  unfold backE
  induction own with
  | nil => intro r i _; rfl
  | cons j own ih =>
    intro r i h
    simp only [List.mem_cons, not_or] at h
    rw [List.foldl_cons, ih _ _ h.2, List.getElem?_set_ne (Ne.symm h.1)]
theorem backE_in (r0 : Env) (own : List Nat) : ∀ (r : Env) (i : Nat), i ∈ own → i < r.length → (backE r0 r own)[i]? = some (slot r0 i) := by
  unfold backE
  induction own with
  | nil => intro r i h; cases h
  | cons j own ih =>
    intro r i h hl
    rw [List.foldl_cons]
    by_cases m : i ∈ own
    · exact ih _ _ m (by rw [List.length_set]; exact hl)
    · have e : i = j := by
        rcases List.mem_cons.mp h with e | h
        · exact e
        · exact absurd h m
      subst e
      have z := backE_out r0 own (r.set i (slot r0 i)) i m
      unfold backE at z
      rw [z, List.getElem?_set_self hl]
theorem wipe_in {g : St} {i : Nat} : ∀ {vs : List Nat}, i ∉ vs → (wipe g vs)[i]? = g[i]? := fun h => wipe_out h

section
variable {K : PySem.W.Frag} {ks : List Kd} {O O2 : Addr → Prop} {ow ow2 : Nat → Addr} {g g2 : St} {H H1 H2 : Hp} {r r0 r1 r2 : Env}
/-- fewer live slots, the values' slots kept -/
theorem SR.fewer (s : SR K ks O ow g H r) (hl : r1.length = g2.length) (h : ∀ (i : Nat) (d : D), r1[i]? = some (some d) → r[i]? = some (some d) ∧ g2[i]? = g[i]?) : SR K ks O ow g2 H r1 := by
  have hA : ∀ a, H a ≠ none → Av ks O ow r1 a → Av ks O ow r a := fun a _ z => z.elim .inl fun ⟨i, d, e, k, z⟩ => .inr ⟨i, d, (h i d e).1, k, z⟩
  refine ⟨hl, fun i d e k => ?_, fun i d e k => ?_, fun i j d e h1 h2 => s.inj i j d e (h _ _ h1).1 (h _ _ h2).1, s.odom⟩
  · obtain ⟨v, hv, hr⟩ := s.val i d (h i d e).1 k
    exact ⟨v, by rw [(h i d e).2]; exact hv, hr.weak hA⟩
  · obtain ⟨h1, h2, h3⟩ := s.own i d (h i d e).1 k
    exact ⟨by rw [(h i d e).2]; exact h1, h2, h3.weak hA⟩
theorem SR.wiped (s : SR K ks O ow g H r) (own : List Nat) : SR K ks O ow (wipe g own) H (wipeE r own) :=
  s.fewer (by rw [wipeE_len, wipe_length]; exact s.len) fun i d e => by
    obtain ⟨h1, h2⟩ := (wipeE_get own r i d).mp e
    exact ⟨h2, wipe_out h1⟩
theorem Stp.fewer (s : Stp ks ow r H ow2 r1 H1) (h : ∀ (i : Nat) (d : D), kd ks i ≠ .val → r2[i]? = some (some d) → ∃ e, r1[i]? = some (some e)) : Stp ks ow r H ow2 r2 H1 :=
  ⟨s.kp, fun i d e k => let ⟨e', he⟩ := h i d k e; s.base i e' he k, s.io⟩
theorem Stp.from (s : Stp ks ow r H ow2 r1 H1) (h : ∀ (i : Nat) (d : D), kd ks i ≠ .val → r[i]? = some (some d) → ∃ e, r0[i]? = some (some e)) : Stp ks ow r0 H ow2 r1 H1 :=
  have ol : ∀ a, OL ks ow r a → OL ks ow r0 a := fun a ⟨i, d, e, k, z⟩ => let ⟨e', he⟩ := h i d k e; ⟨i, e', he, k, z⟩
  ⟨⟨fun b o e n => s.kp.keep b o e fun z => n (ol b z), s.kp.dom, s.kp.tups, s.kp.frzs⟩, fun i d e k => by
    rcases s.base i d e k with ⟨j, dj, ej, kj, z⟩ | ⟨h1, h2, e', he⟩ | z
    · obtain ⟨e', he⟩ := h j dj (by rw [kj]; exact fun z => nomatch z) ej
      exact .inl ⟨j, e', he, kj, z⟩
    · obtain ⟨e2, he2⟩ := h i e' k he
      exact .inr (.inl ⟨h1, h2, e2, he2⟩)
    · exact .inr (.inr z), s.io⟩
/-- a value is put into a slot -/
theorem SR.put (s : SR K ks O ow g H r) {i : Nat} {v : V} {d : D} (hk : kd ks i = .val) (hr : Rep (Av ks O ow r) K H v d) : SR K ks O ow (g.set i (some v)) H (r.set i (some d)) := by
  have get : ∀ j e, (r.set i (some d))[j]? = some (some e) → (j = i ∧ e = d ∧ i < r.length) ∨ (j ≠ i ∧ r[j]? = some (some e)) := fun j e h => by
    rw [List.getElem?_set] at h
    split at h
    · rename_i e1
      split at h
      · simp only [Option.some.injEq] at h
        exact .inl ⟨e1.symm, h.symm, by omega⟩
      · cases h
    · exact .inr ⟨fun z => ‹¬ i = j› z.symm, h⟩
  have hA : ∀ a, H a ≠ none → Av ks O ow (r.set i (some d)) a → Av ks O ow r a := fun a _ z => by
    rcases z with z | ⟨j, e, h, k, z⟩
    · exact .inl z
    · rcases get j e h with ⟨rfl, _⟩ | ⟨_, h⟩
      · exact absurd hk k
      · exact .inr ⟨j, e, h, k, z⟩
  refine ⟨by rw [List.length_set, List.length_set]; exact s.len, fun j e h k => ?_, fun j e h k => ?_, fun j l a b h1 h2 k1 k2 => ?_, s.odom⟩
  · rcases get j e h with ⟨rfl, rfl, hl⟩ | ⟨n, h⟩
    · exact ⟨v, List.getElem?_set_self (by rw [← s.len]; exact hl), hr.weak hA⟩
    · obtain ⟨w, hw, hr'⟩ := s.val j e h k
      exact ⟨w, by rw [List.getElem?_set_ne (Ne.symm n)]; exact hw, hr'.weak hA⟩
  · rcases get j e h with ⟨rfl, _⟩ | ⟨n, h⟩
    · exact absurd hk k
    · obtain ⟨h1, h2, h3⟩ := s.own j e h k
      exact ⟨by rw [List.getElem?_set_ne (Ne.symm n)]; exact h1, h2, h3.weak hA⟩
  · rcases get j a h1 with ⟨rfl, _⟩ | ⟨_, h1⟩
    · exact absurd hk k1
    · rcases get l b h2 with ⟨rfl, _⟩ | ⟨_, h2⟩
      · exact absurd hk k2
      · exact s.inj j l a b h1 h2 k1 k2
/-- one of the containers that the frame is away from is changed -/
theorem SR.other (s : SR K ks O ow g H r) {a : Addr} {xs ys : List V} (hO : O a) (ha : H a = some (.lst xs)) : SR K ks O ow g (upd H a (.lst ys)) r := by
  have kp : Kp (fun b => b = a) H (upd H a (.lst ys)) := ⟨fun b o e n => by rw [upd_ne n]; exact e, fun b e => by
    by_cases q : b = a
    · subst q; rw [upd_same]; exact fun z => nomatch z
    · rw [upd_ne q]; exact e, fun b xs e => by
    have q : b ≠ a := fun q => by subst q; rw [ha] at e; cases e
    rw [upd_ne q]; exact e, fun b o u e => by
    have q : b ≠ a := fun q => by subst q; rw [ha] at e; cases e
    rw [upd_ne q]; exact e⟩
  refine ⟨s.len, fun i d e k => ?_, fun i d e k => ?_, s.inj, fun b z => kp.dom b (s.odom b z)⟩
  · obtain ⟨v, hv, hr⟩ := s.val i d e k
    exact ⟨v, hv, hr.keep kp (fun b z => by subst z; exact .inl hO) fun _ _ z => z⟩
  · obtain ⟨h1, h2, h3⟩ := s.own i d e k
    exact ⟨h1, h2, h3.keep kp (fun b z => by subst z; exact .inl hO) (fun _ _ z => z) fun z => h2 (z ▸ hO)⟩
theorem kp_upd {a : Addr} {xs ys : List V} (ha : H a = some (.lst xs)) : Kp (fun b => b = a) H (upd H a (.lst ys)) := ⟨fun b o e n => by rw [upd_ne n]; exact e, fun b e => by
    by_cases q : b = a
    · subst q; rw [upd_same]; exact fun z => nomatch z
    · rw [upd_ne q]; exact e, fun b xs e => by
    have q : b ≠ a := fun q => by subst q; rw [ha] at e; cases e
    rw [upd_ne q]; exact e, fun b o u e => by
    have q : b ≠ a := fun q => by subst q; rw [ha] at e; cases e
    rw [upd_ne q]; exact e⟩
end

/-! ### targets -/
abbrev tgs := tgsH
abbrev tgss := tgssH
section
variable {X : Cx} {ks : List Kd} {pos : Pos}
/-- behind a target's assignment -/
structure Put (K : PySem.W.Frag) (ks : List Kd) (O : Addr → Prop) (ow : Nat → Addr) (H : Hp) (is : List Nat) (g : St) (r : Env) (g' : St) (r' : Env) : Prop where
  sr : SR K ks O ow g' H r'
  st : Stp ks ow r H ow r' H
  av : ∀ a, Av ks O ow r' a → Av ks O ow r a
  gout : ∀ i, i ∉ is → g'[i]? = g[i]?
  rout : ∀ i, i ∉ is → r'[i]? = r[i]?
  glen : g'.length = g.length
def RG (X : Cx) (ks : List Kd) (tg : Tg) (ex : Expr) : Prop := ∃ t, PG X ex t ∧ ∀ O ow g H r d v r', SR X.K ks O ow g H r → Rep (Av ks O ow r) X.K H v d → put tg d r = some r' →
  ∀ Q : St → Hp → Prop, (∀ g', Put X.K ks O ow H (tgs tg) g r g' r' → Q g' H) → t v g H Q
def RGs (X : Cx) (ks : List Kd) (tg : List Tg) (ex : List Expr) : Prop := ∃ t, PGs X ex t ∧ ∀ O ow g H r ds vs r', SR X.K ks O ow g H r → Reps (Av ks O ow r) X.K H vs ds → puts tg ds r = some r' →
  ∀ Q : St → Hp → Prop, (∀ g', Put X.K ks O ow H (tgss tg) g r g' r' → Q g' H) → t vs g H Q
theorem rg_nm {i : Nat} {x : Str} (hN : X.N.Nodup) (hi : X.N[i]? = some x) (hx : Loc X.env.scope x) (hf : X.fn x = true ∨ X.env.scope.names.lookup x = some .local) (hk : kd ks i = .val) : RG X ks (.nm i) (.Name x pos) :=
  ⟨_, pg_name hN hi hx hf, fun O ow g H r d v r' s hr e Q q => by
    simp only [put, Option.some.injEq] at e
    subst e
    refine q _ ⟨s.put hk hr, (Stp.refl (H := H)).fewer fun j e kj h => ?_, fun a z => ?_, fun j h => ?_, fun j h => ?_, List.length_set⟩
    · rw [List.getElem?_set] at h
      split at h
      · rename_i e1; subst e1; exact absurd hk kj
      · exact ⟨e, h⟩
    · rcases z with z | ⟨j, e, h, k, z⟩
      · exact .inl z
      · rw [List.getElem?_set] at h
        split at h
        · rename_i e1; subst e1; exact absurd hk k
        · exact .inr ⟨j, e, h, k, z⟩
    · rw [List.getElem?_set_ne]; simp [tgsH] at h; exact fun z => h z.symm
    · rw [List.getElem?_set_ne]; simp [tgsH] at h; exact fun z => h z.symm⟩
theorem rgs_nil : RGs X ks [] [] := ⟨_, pgs_nil, fun O ow g H r ds vs r' s hr e Q q => by
  cases hr with
  | nil =>
    simp only [puts, Option.some.injEq] at e
    subst e
    exact ⟨rfl, q _ ⟨s, Stp.refl, fun _ z => z, fun _ _ => rfl, fun _ _ => rfl, rfl⟩⟩
  | cons _ _ => simp [puts] at e⟩
theorem rgs_cons {t : Tg} {ts : List Tg} {e : Expr} {es : List Expr} (hs : (assignEach (e :: es) X.env).map (·.2) = assign e X.env :: (assignEach es X.env).map (·.2)) (h : RG X ks t e) (h2 : RGs X ks ts es) : RGs X ks (t :: ts) (e :: es) := by
  obtain ⟨t1, p1, q1⟩ := h
  obtain ⟨t2, p2, q2⟩ := h2
  refine ⟨_, pgs_cons p1 p2 hs, fun O ow g H r ds vs r' s hr e Q q => ?_⟩
  cases hr with
  | nil => simp [puts] at e
  | cons a b =>
    simp only [puts] at e
    obtain ⟨r1, e1, e⟩ := bindS e
    refine ⟨_, _, rfl, q1 O ow g H r _ _ r1 s a e1 _ fun g1 P1 => ?_⟩
    refine q2 O ow g1 H r1 _ _ r' P1.sr (b.weak fun c _ z => P1.av c z) e _ fun g2 P2 => q _ ?_
    refine ⟨P2.sr, P1.st.trans P2.st, fun c z => P1.av c (P2.av c z), fun j h => ?_, fun j h => ?_, P2.glen.trans P1.glen⟩
    · simp only [tgss, tgssH, List.mem_append, not_or] at h
      exact (P2.gout j h.2).trans (P1.gout j h.1)
    · simp only [tgss, tgssH, List.mem_append, not_or] at h
      exact (P2.rout j h.2).trans (P1.rout j h.1)
theorem rg_tp {ts : List Tg} {es : List Expr} {k : Nat} (hc : X.calm = true) (h : RGs X ks ts es) (hn : (assignEach es X.env).length = ts.length) (hst : (assignEach es X.env).findIdx? (·.1) = none) : RG X ks (.tp ts) (.Tuple es k pos) := by
  obtain ⟨t, p, q⟩ := h
  refine ⟨_, pg_tup hc p hn hst, fun O ow g H r d v r' s hr e Q hQ => ?_⟩
  cases hr <;> simp only [put] at e <;> try cases e
  case tup a vs ds ha rr =>
    refine ⟨a, vs, rfl, ha, ?_, q O ow g H r ds vs r' s rr e Q hQ⟩
    have l : ∀ (ts : List Tg) (ds : List D) (r r' : Env), puts ts ds r = some r' → ds.length = ts.length := by
      intro ts
      induction ts with
      | nil => intro ds r r' h; cases ds <;> simp [puts] at h ⊢
      | cons t ts ih =>
        intro ds r r' h
        cases ds with
        | nil => simp [puts] at h
        | cons d ds =>
          simp only [puts] at h
          obtain ⟨r1, _, h⟩ := bindS h
          simp [ih ds r1 r' h]
    rw [rr.length]
    exact l ts ds r r' e

/-! ### what is walked -/
abbrev bosIt := bosItH
/-- the walk over ds from (r', H') on -/
structure Wk (K : PySem.W.Frag) (ks : List Kd) (O : Addr → Prop) (ow : Nat → Addr) (it : It) (ds : List D) (r : Env) (H : Hp) (J : L2.It) : Prop where
  walk : ∃ (G : Hp → Prop) (Y : Nat → Hp → V → Hp → Prop), Walk J ds.length G Y ∧
    ∀ (O2 : Addr → Prop) ow2 g2 H2 r2, (∀ a, O2 a → O a ∨ H a = none) → SR K ks O2 ow2 g2 H2 r2 → Stp ks ow r H ow2 r2 H2 → stbIt it r r2 → (∀ i ∈ bosIt it, ow2 i = ow i) →
      G H2 ∧ ∀ i x H3 d, ds[i]? = some d → Y i H2 x H3 → (∀ b o, H2 b = some o → H3 b = some o) ∧ Rep (Av ks O2 ow2 r2) K H3 x d
def RI (X : Cx) (ks : List Kd) (it : It) (m : Env → Option (List D × Env)) (tg ex : Expr) : Prop := ∃ t, PI X tg ex t ∧ ∀ O ow g H r ds r', SR X.K ks O ow g H r → m r = some (ds, r') →
  ∀ R : L2.It → Hp → Prop, (∀ J H', SR X.K ks O ow g H' r' → Stp ks ow r H ow r' H' → Wk X.K ks O ow it ds r' H' J → R J H') → t g H R
end
end Fw
namespace Fw
open PySem L2
section
variable {X : Cx} {ks : List Kd} {pos : Pos}
theorem pi_or {tg e : Expr} {w1 w2 : TI} (h1 : PI X tg e w1) (h2 : PI X tg e w2) : PI X tg e (fun σ H R => w1 σ H R ∨ w2 σ H R) :=
  ⟨fun pins s σ H R I h => h.elim (h1.run pins s σ H R I) (h2.run pins s σ H R I)⟩
theorem wkL {K : PySem.W.Frag} {a : Addr} {n : Nat} : Walk (Itl K a) n (fun H => ∃ vs, SqL K H a vs ∧ vs.length = n) (fun i H x H' => H' = H ∧ ∀ vs, SqL K H a vs → vs[i]? = some x) where
  goes := fun i H hi ⟨vs, h, l⟩ => ⟨vs, _, h, List.getElem?_eq_getElem (by omega)⟩
  stops := fun H ⟨vs, h, l⟩ => ⟨vs, h, by omega⟩
  yields := fun i H x H' hi _ y => y
theorem wkT {K : PySem.W.Frag} {a : Addr} {n : Nat} : Walk (Itt K a) n (fun H => ∃ vs, SqT K H a vs ∧ vs.length = n) (fun i H x H' => H' = H ∧ ∀ vs, SqT K H a vs → vs[i]? = some x) where
  goes := fun i H hi ⟨vs, h, l⟩ => ⟨vs, _, h, List.getElem?_eq_getElem (by omega)⟩
  stops := fun H ⟨vs, h, l⟩ => ⟨vs, h, by omega⟩
  yields := fun i H x H' hi _ y => y
/-- a list seen later -/
theorem seq_later {K : PySem.W.Frag} {O O2 : Addr → Prop} {ow ow2 : Nat → Addr} {g g2 : St} {H H0 H2 : Hp} {r r0 r2 : Env} {b : Option Nat} {fr : Bool} {ds : List D} {v : V} (f : Form K ks O ow g H0 r0 b fr (.lst ds) r v H)
    (hO : ∀ a, O2 a → O a ∨ H a = none) (s2 : SR K ks O2 ow2 g2 H2 r2) (st : Stp ks ow r H ow2 r2 H2) (hs : stbO b r r2) (ho : ∀ i ∈ b.toList, ow2 i = ow i) : ∃ vs, (∃ a, v = .ref a ∧ H2 a = some (.lst vs)) ∧ Reps (Av ks O2 ow2 r2) K H2 vs ds := by
  have hA : ∀ a, H a ≠ none → Av ks O2 ow2 r2 a → Av ks O ow r a := fun a n z => by
    rcases z with z | z
    · exact (hO a z).elim .inl fun z => absurd z n
    · exact (st.olback z).elim .inr fun z => absurd z n
  cases b with
  | some j =>
    cases f with
    | bor s e k =>
      have e2 : r2[j]? = some (some (.lst ds)) := (show r2[j]? = r[j]? from hs).trans e
      obtain ⟨_, _, h3⟩ := s2.own j _ e2 k
      cases h3 with
      | lst h r => exact ⟨_, ⟨_, by rw [ho j (by simp)], h⟩, r⟩
  | none =>
    cases f.rep with
    | lst n e rr => exact ⟨_, ⟨_, rfl, st.kp.keep _ _ e fun z => n (.inr z)⟩, rr.keep st.kp (fun a z => .inr z) hA⟩
theorem tup_later {K : PySem.W.Frag} {O O2 : Addr → Prop} {ow ow2 : Nat → Addr} {g : St} {H H0 H2 : Hp} {r r0 r2 : Env} {b : Option Nat} {fr : Bool} {ds : List D} {v : V} (f : Form K ks O ow g H0 r0 b fr (.tup ds) r v H)
    (hO : ∀ a, O2 a → O a ∨ H a = none) (st : Stp ks ow r H ow2 r2 H2) : ∃ vs, (∃ a, v = .ref a ∧ SqT K H2 a vs) ∧ Reps (Av ks O2 ow2 r2) K H2 vs ds := by
  have hA : ∀ a, H a ≠ none → Av ks O2 ow2 r2 a → Av ks O ow r a := fun a n z => by
    rcases z with z | z
    · exact (hO a z).elim .inl fun z => absurd z n
    · exact (st.olback z).elim .inr fun z => absurd z n
  have h := f.vw
  obtain ⟨a, vs, rfl, e, rr⟩ := h.tup
  exact ⟨vs, ⟨a, rfl, st.kp.sqt e⟩, rr.keep st.kp (fun a z => .inr z) hA⟩
theorem scr_later {K : PySem.W.Frag} {O O2 : Addr → Prop} {ow ow2 : Nat → Addr} {g : St} {H H0 H2 : Hp} {r r0 r2 : Env} {b : Option Nat} {fr : Bool} {ds : List D} {v : V} (f : Form K ks O ow g H0 r0 b fr (.scr ds) r v H)
    (hO : ∀ a, O2 a → O a ∨ H a = none) (st : Stp ks ow r H ow2 r2 H2) : ∃ vs, (∃ a, v = .ref a ∧ Scr K H2 a vs) ∧ Reps (Av ks O2 ow2 r2) K H2 vs ds := by
  have hA : ∀ a, H a ≠ none → Av ks O2 ow2 r2 a → Av ks O ow r a := fun a n z => by
    rcases z with z | z
    · exact (hO a z).elim .inl fun z => absurd z n
    · exact (st.olback z).elim .inr fun z => absurd z n
  have h := f.vw
  obtain ⟨a, vs, rfl, e, rr⟩ := h.scr
  exact ⟨vs, ⟨a, rfl, st.kp.scr e⟩, rr.keep st.kp (fun a z => .inr z) hA⟩
theorem ri_seq {tg ex : Expr} {a : E} {fr : Bool} {m : Env → Option (D × Env)} (h : RE X ks (bo a) fr m ex) : RI X ks (.seq a) (fun r => (m r).bind fun p => (elems p.1).map fun ds => (ds, p.2)) tg ex := by
  obtain ⟨t, p, q⟩ := h
  refine ⟨_, pi_or (pi_list p) (pi_tup p), fun O ow g H r ds r' s e R hR => ?_⟩
  obtain ⟨⟨d, r1⟩, e1, e⟩ := bindS e
  obtain ⟨ds', e2, e⟩ := mapS e
  cases e
  cases d <;> simp only [elems] at e2 <;> try (cases e2; done)
  case tup ds0 =>
    simp only [Option.some.injEq] at e2
    subst e2
    refine .inr (q O ow g H r _ _ s e1 _ fun v H1 ⟨s1, f1⟩ => ?_)
    obtain ⟨a, vs, rfl, ha, rr⟩ := f1.vw.tup
    refine ⟨a, rfl, ⟨vs, ha⟩, hR _ _ f1.sr s1 ⟨_, _, wkT, fun O2 ow2 g2 H2 r2 hO s2 st hs ho => ?_⟩⟩
    obtain ⟨ws, ⟨a', ea, hw⟩, rw⟩ := tup_later f1 hO st
    cases ea
    refine ⟨⟨ws, hw, rw.length⟩, fun i x H3 d hd y => ?_⟩
    obtain ⟨rfl, hx⟩ := y
    obtain ⟨d', hd', hr⟩ := rw.get (hx ws hw)
    rw [hd] at hd'
    cases hd'
    exact ⟨fun _ _ z => z, hr⟩
  case lst ds0 =>
    simp only [Option.some.injEq] at e2
    subst e2
    refine .inl (q O ow g H r _ _ s e1 _ fun v H1 ⟨s1, f1⟩ => ?_)
    obtain ⟨a, vs, rfl, ha, rr⟩ := f1.vw.lst
    refine ⟨a, rfl, ⟨vs, SqL.of ha⟩, hR _ _ f1.sr s1 ⟨_, _, wkL, fun O2 ow2 g2 H2 r2 hO s2 st hs ho => ?_⟩⟩
    obtain ⟨ws, ⟨a', ea, hw⟩, rw⟩ := seq_later f1 hO s2 st (by rw [← stb_bo]; exact hs) ho
    cases ea
    refine ⟨⟨ws, SqL.of hw, rw.length⟩, fun i x H3 d hd y => ?_⟩
    obtain ⟨rfl, hx⟩ := y
    obtain ⟨d', hd', hr⟩ := rw.get (hx ws (SqL.of hw))
    rw [hd] at hd'
    cases hd'
    exact ⟨fun _ _ z => z, hr⟩
  case scr ds0 =>
    simp only [Option.some.injEq] at e2
    subst e2
    refine .inl (q O ow g H r _ _ s e1 _ fun v H1 ⟨s1, f1⟩ => ?_)
    obtain ⟨a, vs, rfl, ha, rr⟩ := f1.vw.scr
    refine ⟨a, rfl, ⟨vs, ha.sql⟩, hR _ _ f1.sr s1 ⟨_, _, wkL, fun O2 ow2 g2 H2 r2 hO s2 st hs ho => ?_⟩⟩
    obtain ⟨ws, ⟨a', ea, hw⟩, rw⟩ := scr_later f1 hO st
    cases ea
    refine ⟨⟨ws, hw.sql, rw.length⟩, fun i x H3 d hd y => ?_⟩
    obtain ⟨rfl, hx⟩ := y
    obtain ⟨d', hd', hr⟩ := rw.get (hx ws hw.sql)
    rw [hd] at hd'
    cases hd'
    exact ⟨fun _ _ z => z, hr⟩
theorem rng_get (lo hi : Int) (i : Nat) (d : D) (h : (rngD lo hi)[i]? = some d) : d = .int (lo + (i : Nat)) := by
  unfold rngD at h
  rw [List.getElem?_map] at h
  cases q : (List.range (hi - lo).toNat)[i]? with
  | none => rw [q] at h; cases h
  | some k =>
    rw [q] at h
    have hk := List.getElem?_eq_some_iff.mp q
    obtain ⟨h1, h2⟩ := hk
    rw [List.getElem_range] at h2
    subst h2
    simp only [Option.map_some, Option.some.injEq] at h
    exact h.symm
theorem rng_len (lo hi : Int) : (rngD lo hi).length = (hi - lo).toNat := by simp [rngD]
theorem wk_rng {K : PySem.W.Frag} {O : Addr → Prop} {ow : Nat → Addr} {it : It} {r : Env} {H : Hp} (lo hi : Int) : Wk K ks O ow it (rngD lo hi) r H (Itr lo (hi - lo).toNat) := by
  refine ⟨_, _, by rw [rng_len]; exact walk_range, fun O2 ow2 g2 H2 r2 hO s2 st hs ho => ⟨trivial, fun i x H3 d hd y => ?_⟩⟩
  obtain ⟨rfl, rfl⟩ := y
  cases rng_get lo hi i d hd
  exact ⟨fun _ _ z => z, .int _⟩
theorem ri_rng1 {tg xa : Expr} {p : Pos} {a : E} {fr : Bool} {m : Env → Option (D × Env)} (hg : Gl X "range") (hm : X.mg "range" = none) (h : RE X ks none fr m xa) (hs : starEach [xa] X.env = [(false, eval xa X.env)]) :
    RI X ks (.rng1 a) (fun r => (m r).bind fun p => match p.1 with | .int i => gd (mid i = true) (some (rngD 0 i, p.2)) | _ => none) tg (.Call (.Name "range" p) [xa] [] pos) := by
  obtain ⟨t, pt, q⟩ := h
  refine ⟨_, pi_range1 hg hm (pa_cons pt pa_nil hs) hs, fun O ow g H r ds r' s e R hR => ?_⟩
  obtain ⟨⟨d, r1⟩, e1, e⟩ := bindS e
  cases d <;> simp only at e <;> try (cases e; done)
  rename_i i
  obtain ⟨hb, e⟩ := gd_some e
  simp only [mid, Bool.and_eq_true, decide_eq_true_eq] at hb
  cases e
  refine q O ow g H r _ _ s e1 _ fun v H1 ⟨s1, f1⟩ => ?_
  refine ⟨i, by rw [f1.vw.int], hb.1, hb.2, hR _ _ f1.sr s1 ?_⟩
  have z := wk_rng (K := X.K) (ks := ks) (O := O) (ow := ow) (it := .rng1 a) (r := r') (H := H1) 0 i
  rw [Int.sub_zero] at z
  exact z
theorem ri_rng2 {tg xa xb : Expr} {p : Pos} {a b : E} {fa fb : Bool} {ma mb : Env → Option (D × Env)} (hg : Gl X "range") (hm : X.mg "range" = none) (ha : RE X ks none fa ma xa) (hb : RE X ks none fb mb xb)
    (hs : starEach [xa, xb] X.env = [(false, eval xa X.env), (false, eval xb X.env)]) (hs2 : starEach [xb] X.env = [(false, eval xb X.env)]) :
    RI X ks (.rng2 a b) (fun r => (ma r).bind fun p => (mb p.2).bind fun q => match p.1, q.1 with | .int i, .int j => gd (mid i = true ∧ mid j = true) (some (rngD i j, q.2)) | _, _ => none) tg (.Call (.Name "range" p) [xa, xb] [] pos) := by
  obtain ⟨ta, pa, qa⟩ := ha
  obtain ⟨tb, pb, qb⟩ := hb
  refine ⟨_, pi_range2 hg hm (pa_cons pa (pa_cons pb pa_nil hs2) (by rw [hs, hs2])) hs hs2, fun O ow g H r ds r' s e R hR => ?_⟩
  obtain ⟨⟨d1, r1⟩, e1, e⟩ := bindS e
  obtain ⟨⟨d2, r2⟩, e2, e⟩ := bindS e
  cases d1 <;> cases d2 <;> simp only at e <;> try (cases e; done)
  obtain ⟨hb, e⟩ := gd_some e
  simp only [mid, Bool.and_eq_true, decide_eq_true_eq] at hb
  cases e
  refine qa O ow g H r _ r1 s e1 _ fun x H1 ⟨s1, f1⟩ => ?_
  refine qb O ow g H1 r1 _ _ f1.sr e2 _ fun y H2 ⟨s2, f2⟩ => ?_
  exact ⟨_, _, by rw [f1.vw.int, f2.vw.int], ⟨hb.1.1, hb.1.2, hb.2.1, hb.2.2⟩, hR _ _ f2.sr (s1.trans s2) (wk_rng _ _)⟩
end
end Fw
/-! Fw: a list comprehension. -/
namespace Fw
open PySem L2
/-! ### readings that don't hang on the block -/
def cE (K : PySem.W.Frag) (ks : List Kd) (b : Option Nat) (fr : Bool) (m : Env → Option (D × Env)) : TE := fun g H Q => ∃ O ow r d r', SR K ks O ow g H r ∧ m r = some (d, r') ∧ ∀ v H', Post K ks O ow g H r b fr d r' v H' → Q v H'
def cT (K : PySem.W.Frag) (ks : List Kd) (m : Env → Option (Bool × Env)) : TT := fun g H Q => ∃ O ow r d r', SR K ks O ow g H r ∧ m r = some (d, r') ∧ ∀ H', SR K ks O ow g H' r' → Stp ks ow r H ow r' H' → Q d H'
def cG (K : PySem.W.Frag) (ks : List Kd) (tg : Tg) : TG := fun v g H Q => ∃ O ow r d r', SR K ks O ow g H r ∧ Rep (Av ks O ow r) K H v d ∧ put tg d r = some r' ∧ ∀ g', Put K ks O ow H (tgs tg) g r g' r' → Q g' H
section
variable {X : Cx} {ks : List Kd}
theorem RE.can {b : Option Nat} {fr : Bool} {m : Env → Option (D × Env)} {ex : Expr} (h : RE X ks b fr m ex) : PE X ex (cE X.K ks b fr m) := by
  obtain ⟨t, p, q⟩ := h
  exact ⟨fun pins s σ H Q I ⟨O, ow, r, d, r', h1, h2, h3⟩ => p.run pins s σ H Q I (q O ow σ H r d r' h1 h2 Q h3)⟩
theorem RT.can {m : Env → Option (Bool × Env)} {ex : Expr} (h : RT X ks m ex) : PT X ex (cT X.K ks m) := by
  obtain ⟨t, p, q⟩ := h
  exact ⟨fun pins s σ H Q I ⟨O, ow, r, d, r', h1, h2, h3⟩ => p.run pins s σ H Q I (q O ow σ H r d r' h1 h2 Q h3)⟩
theorem RG.can {tg : Tg} {ex : Expr} (h : RG X ks tg ex) : PG X ex (cG X.K ks tg) := by
  obtain ⟨t, p, q⟩ := h
  exact ⟨fun pins s σ H v u Q I rv ⟨O, ow, r, d, r', h1, h2, h3, h4⟩ => p.run pins s σ H v u Q I rv (q O ow σ H r d v r' h1 h2 h3 Q h4)⟩
/-- the tests of a comprehension: none or one -/
def RTs (X : Cx) (ks : List Kd) (m : Env → Option (Bool × Env)) (ifs : List Expr) : Prop := PTs X ifs (cT X.K ks m)
theorem rts_nil : RTs X ks (fun r => some (true, r)) [] :=
  ⟨fun pins s σ H Q I ⟨O, ow, r, d, r', h1, h2, h3⟩ => (pts_nil (X := X)).run pins s σ H Q I (by cases h2; exact h3 _ h1 Stp.refl)⟩
theorem rts_one {m : Env → Option (Bool × Env)} {ex : Expr} (h : RT X ks m ex) : RTs X ks m [ex] := pts_one h.can
end

/-- one turn, over data -/
noncomputable def lcTurn (me : Env → Option (D × Env)) (mi : Env → Option (Bool × Env)) (tg : Tg) (it : It) (own : List Nat) (rb : Env) (d : D) (r' : Env) : Option (Option D × Env) :=
  (put tg d (wipeE r' own)).bind fun r1 => (mi r1).bind fun q => if q.1 = true then (me q.2).bind fun t => gd (stbIt it rb t.2) (some (some t.1, t.2)) else gd (stbIt it rb q.2) (some (none, q.2))
theorem stbIt_refl (it : It) (r : Env) : stbIt it r r := by
  cases it <;> simp [stbIt, stb_bo]
  · cases bo _ <;> simp [stbO]
  · constructor <;> (cases bo _ <;> simp [stbO])
theorem stbIt_wipe {ks : List Kd} {it : It} {r r' : Env} {own : List Nat} (hk : ∀ i ∈ bosIt it, i ∉ own) (h : stbIt it r r') (hl : r'.length = r.length) : stbIt it r (wipeE r' own) := by
  have one : ∀ i : Nat, i ∉ own → r'[i]? = r[i]? → (wipeE r' own)[i]? = r[i]? := fun i hi e => by
    have w := wipeE_get own r' i
    have wl := wipeE_len own r'
    cases q : r[i]? with
    | none =>
      rw [List.getElem?_eq_none_iff] at q ⊢
      omega
    | some o =>
      cases o with
      | some d => exact (w d).mpr ⟨hi, by rw [e, q]⟩
      | none =>
        have hlt : i < (wipeE r' own).length := by rw [wl, hl]; exact (List.getElem?_eq_some_iff.mp q).1
        rw [List.getElem?_eq_getElem hlt]
        cases z : (wipeE r' own)[i] with
        | none => rfl
        | some d =>
          have := ((w d).mp (by rw [List.getElem?_eq_getElem hlt, z])).2
          rw [e, q] at this
          cases this
  have go : ∀ a : E, (∀ i ∈ (bo a).toList, i ∉ own) → stb a r r' → stb a r (wipeE r' own) := fun a ha h => by
    rw [stb_bo] at h ⊢
    cases q : bo a with
    | none => trivial
    | some j =>
      rw [q] at h ha
      exact one j (ha j (by simp)) h
  cases it with
  | seq a => exact go a hk h
  | rng1 a => trivial
  | rng2 a b => trivial
  | zip a b => exact ⟨go a (fun i hi => hk i (List.mem_append_left _ hi)) h.1, go b (fun i hi => hk i (List.mem_append_right _ hi)) h.2⟩
theorem lcS {f : D → Env → Option (Option D × Env)} {d : D} {ds : List D} {r rE : Env} {xs : List D} (h : lcLoop f (d :: ds) r = some (xs, rE)) : ∃ o r' rest, f d r = some (o, r') ∧ lcLoop f ds r' = some (rest, rE) ∧ xs = (match o with | some x => x :: rest | none => rest) := by
  simp only [lcLoop] at h
  obtain ⟨⟨o, ra⟩, t1, h⟩ := bindS h
  obtain ⟨⟨rest, rz⟩, t2, h⟩ := bindS h
  have e := Option.some.inj h
  have e1 := congrArg Prod.fst e
  have e2 := congrArg Prod.snd e
  simp only at e1 e2
  subst e2
  exact ⟨o, ra, rest, t1, t2, e1.symm⟩
theorem wipe_at {σ : St} {i : Nat} : ∀ {vs : List Nat}, i ∈ vs → i < σ.length → (wipe σ vs)[i]? = some none
  | [], h, _ => by cases h
  | v :: vs, h, hl => by
    show ((wipe σ vs).set v none)[i]? = some none
    by_cases e : v = i
    · subst e
      rw [List.getElem?_set_self (by rw [wipe_length]; exact hl)]
    · rw [List.getElem?_set_ne e]
      rcases List.mem_cons.mp h with h | h
      · exact absurd h.symm e
      · exact wipe_at h hl
theorem wipe_congr {σ τ : St} {vs : List Nat} (hl : σ.length = τ.length) (h : ∀ i, i ∉ vs → σ[i]? = τ[i]?) : wipe σ vs = wipe τ vs := by
  apply List.ext_getElem?
  intro i
  by_cases m : i ∈ vs
  · by_cases k : i < σ.length
    · rw [wipe_at m k, wipe_at m (by omega)]
    · rw [List.getElem?_eq_none (by rw [wipe_length]; omega), List.getElem?_eq_none (by rw [wipe_length]; omega)]
  · rw [wipe_out m, wipe_out m, h i m]
section
variable {K : PySem.W.Frag} {ks : List Kd} {O : Addr → Prop} {ow ow1 : Nat → Addr} {g : St} {H H0 H1 : Hp} {r r0 r1 rE : Env}
theorem Stp.fresh (s : Stp ks ow r0 H0 ow1 r H) {a : Addr} {xs ys : List V} (h0 : H0 a = none) (ha : H a = some (.lst xs)) : Stp ks ow r0 H0 ow1 r (upd H a (.lst ys)) := by
  have k := kp_upd (ys := ys) ha
  refine ⟨⟨fun b o e n => ?_, fun b e => k.dom b (s.kp.dom b e), fun b xs e => k.tups b xs (s.kp.tups b xs e), fun b o u e => k.frzs b o u (s.kp.frzs b o u e)⟩, s.base, s.io⟩
  have nb : b ≠ a := fun z => by subst z; rw [e] at h0; cases h0
  rw [upd_ne nb]
  exact s.kp.keep b o e n
theorem SR.backE {Dd : Addr} {own : List Nat} (s1 : SR K ks O ow g H1 r1) (hD : H1 Dd = none) (sw : SR K ks (fun b => O b ∨ b = Dd) ow (wipe g own) H (wipeE rE own)) (st : Stp ks ow r1 H1 ow (wipeE rE own) H) (hk : ∀ i ∈ own, kd ks i = .val) (hl : rE.length = r1.length) :
    SR K ks (fun b => O b ∨ b = Dd) ow g H (backE r1 rE own) := by
  have cases' : ∀ i d, (Fw.backE r1 rE own)[i]? = some (some d) → (i ∈ own ∧ r1[i]? = some (some d)) ∨ (i ∉ own ∧ (wipeE rE own)[i]? = some (some d)) := fun i d h => by
    by_cases m : i ∈ own
    · have hlt : i < rE.length := by rw [← backE_len r1 own rE]; exact (List.getElem?_eq_some_iff.mp h).1
      rw [backE_in r1 own rE i m hlt, Option.some.injEq] at h
      exact .inl ⟨m, slot_some h⟩
    · rw [backE_out r1 own rE i m] at h
      exact .inr ⟨m, (wipeE_get own rE i d).mpr ⟨m, h⟩⟩
  have ol : ∀ a, OL ks ow (Fw.backE r1 rE own) a → OL ks ow (wipeE rE own) a := fun a ⟨i, d, h, k, z⟩ => by
    rcases cases' i d h with ⟨m, _⟩ | ⟨_, h⟩
    · exact absurd (hk i m) k
    · exact ⟨i, d, h, k, z⟩
  have hA2 : ∀ a, H a ≠ none → Av ks (fun b => O b ∨ b = Dd) ow (Fw.backE r1 rE own) a → Av ks (fun b => O b ∨ b = Dd) ow (wipeE rE own) a := fun a _ z => z.elim .inl fun z => .inr (ol a z)
  refine ⟨by rw [backE_len, hl]; exact s1.len, fun i d h k => ?_, fun i d h k => ?_, fun i j a b h1 h2 k1 k2 => ?_, sw.odom⟩
  · rcases cases' i d h with ⟨m, h⟩ | ⟨m, h⟩
    · obtain ⟨v, hv, hr⟩ := s1.val i d h k
      refine ⟨v, hv, hr.keep st.kp (fun a z => .inr z) fun a n z => ?_⟩
      rcases z with (z | z) | z
      · exact .inl z
      · subst z; exact absurd hD n
      · exact (st.olback (ol a z)).elim .inr fun z => absurd z n
    · obtain ⟨v, hv, hr⟩ := sw.val i d h k
      rw [wipe_out m] at hv
      exact ⟨v, hv, hr.weak hA2⟩
  · rcases cases' i d h with ⟨m, h⟩ | ⟨m, h⟩
    · exact absurd (hk i m) k
    · obtain ⟨h1, h2, h3⟩ := sw.own i d h k
      rw [wipe_out m] at h1
      exact ⟨h1, h2, h3.weak hA2⟩
  · rcases cases' i a h1 with ⟨m, _⟩ | ⟨_, h1⟩
    · exact absurd (hk i m) k1
    · rcases cases' j b h2 with ⟨m, _⟩ | ⟨_, h2⟩
      · exact absurd (hk j m) k2
      · exact sw.inj i j a b h1 h2 k1 k2
end
section
variable {X : Cx} {ks : List Kd} {pos : Pos}
theorem lc_read {me : Env → Option (D × Env)} {mi : Env → Option (Bool × Env)} {mt : Env → Option (List D × Env)} {tg : Tg} {it : It} {fe : Bool} {own : List Nat} {wi : TI}
    (hk : ∀ i ∈ own, kd ks i = .val) (ht : ∀ i ∈ tgs tg, i ∈ own) (hb : ∀ i ∈ bosIt it, i ∉ own)
    (hw : ∀ O ow g H r ds r', SR X.K ks O ow g H r → mt r = some (ds, r') → ∀ R : L2.It → Hp → Prop, (∀ J H', SR X.K ks O ow g H' r' → Stp ks ow r H ow r' H' → Wk X.K ks O ow it ds r' H' J → R J H') → wi g H R) :
    ∀ O ow g H r d r', SR X.K ks O ow g H r → (mt r).bind (fun p => (lcLoop (lcTurn me mi tg it own p.2) p.1 p.2).bind fun q => gd (q.1.length ≤ sizeLine) (some (.lst q.1, backE p.2 q.2 own))) = some (d, r') →
      ∀ Q : VK, (∀ v H', Post X.K ks O ow g H r none true d r' v H' → Q v H') → tLc wi (cG X.K ks tg) (cT X.K ks mi) (cE X.K ks none fe me) own g H Q := by
  intro O ow g H r d r' s e Q q
  obtain ⟨⟨ds, r1⟩, e1, e⟩ := bindS e
  obtain ⟨⟨xs, rE⟩, e2, e⟩ := bindS e
  obtain ⟨hz, e⟩ := gd_some e
  cases e
  refine hw O ow g H r ds r1 s e1 _ fun J H1 s1 st1 wk => ?_
  intro Dd hD
  obtain ⟨G, Y, w, hY⟩ := wk.walk
  have nav : ¬ Av ks O ow r1 Dd := fun z => s1.avdom z hD
  have ext0 : ∀ b u, H1 b = some u → upd H1 Dd (.lst []) b = some u := fun b u e => by rw [upd_ne (ne_of_none e hD)]; exact e
  have sD : SR X.K ks (fun b => O b ∨ b = Dd) ow g (upd H1 Dd (.lst [])) r1 :=
    s1.ext ext0 (fun a z => z.elim .inl fun z => .inr (by rw [z]; exact hD)) fun a z => by
      rcases z with z | z
      · have n := s1.odom a z
        rw [upd_ne fun e => n (by rw [e]; exact hD)]; exact n
      · subst z; rw [upd_same]; exact fun z => nomatch z
  have live : ∀ (ra : Env) i d, kd ks i ≠ .val → ra[i]? = some (some d) → ∃ e, (wipeE ra own)[i]? = some (some e) := fun ra i d k h =>
    ⟨d, (wipeE_get own ra i d).mpr ⟨fun z => k (hk i z), h⟩⟩
  have hO : ∀ a, (O a ∨ a = Dd) → O a ∨ H1 a = none := fun a z => z.elim .inl fun z => .inr (by rw [z]; exact hD)
  have ww : wipe (wipe g own) own = wipe g own := wipe_congr (wipe_length _ _) fun i h => wipe_out h
  refine lc_it w (fun i H' => ∃ ri acc vs rest, SR X.K ks (fun b => O b ∨ b = Dd) ow (wipe g own) H' (wipeE ri own) ∧ Stp ks ow r1 H1 ow (wipeE ri own) H' ∧ stbIt it r1 (wipeE ri own) ∧
      H' Dd = some (.lst vs) ∧ Reps (Av ks (fun b => O b ∨ b = Dd) ow (wipeE ri own)) X.K H' vs acc ∧ lcLoop (lcTurn me mi tg it own r1) (ds.drop i) ri = some (rest, rE) ∧ acc ++ rest = xs ∧ ri.length = r1.length) ?_ ?_ ?_ ?_
  · refine ⟨r1, [], [], xs, sD.wiped own, ((Stp.ext ext0).fewer fun i d k h => ⟨d, ((wipeE_get own r1 i d).mp h).2⟩), stbIt_wipe (ks := ks) hb (stbIt_refl it r1) rfl, upd_same, .nil, by rw [List.drop_zero]; exact e2, rfl, rfl⟩
  · rintro i H2 hi ⟨ri, acc, vs, rest, h1, h2, h3, h4, h5, h6, h7, h8⟩
    exact (hY _ ow _ H2 _ hO h1 h2 h3 fun _ _ => rfl).1
  · rintro i x H2 H3 hi ⟨ri, acc, vs, rest, h1, h2, h3, h4, h5, h6, h7, h8⟩ hy
    have hdi : ds[i]? = some ds[i] := List.getElem?_eq_getElem hi
    rw [List.drop_eq_getElem_cons hi] at h6
    obtain ⟨o, ra, rest', t1, t2, h9⟩ := lcS h6
    obtain ⟨rp, t3, t4⟩ := bindS t1
    obtain ⟨⟨k, rb⟩, t5, t4⟩ := bindS t4
    obtain ⟨ex, hx⟩ := (hY _ ow _ H2 _ hO h1 h2 h3 fun _ _ => rfl).2 i x H3 _ hdi hy
    have s3 : SR X.K ks (fun b => O b ∨ b = Dd) ow (wipe g own) H3 (wipeE ri own) := h1.ext ex (fun a z => .inl z) fun a z => by
      have n := h1.odom a z
      cases qq : H2 a with
      | none => exact absurd qq n
      | some u => rw [ex a u qq]; exact fun z => nomatch z
    have st3 : Stp ks ow r1 H1 ow (wipeE ri own) H3 := h2.trans (Stp.ext ex)
    have hD3 : H3 Dd = some (.lst vs) := ex _ _ h4
    have hr3 : Reps (Av ks (fun b => O b ∨ b = Dd) ow (wipeE ri own)) X.K H3 vs acc := h5.keep (kp_ext (P := fun _ => False) ex) (fun _ z => z.elim) fun _ _ z => z
    refine ⟨_, ow, _, _, rp, s3, hx, t3, fun g' P => ⟨?_, ?_⟩⟩
    · rw [← ww]
      exact wipe_congr P.glen fun j hj => P.gout j fun z => hj (ht j z)
    · have wg : wipe g' own = wipe g own := by
        rw [← ww]
        exact wipe_congr P.glen fun j hj => P.gout j fun z => hj (ht j z)
      have gl : g'.length = g.length := P.glen.trans (wipe_length _ _)
      refine ⟨_, ow, rp, k, rb, P.sr, t5, fun H4 s4 st4 => ?_⟩
      have st4' : Stp ks ow r1 H1 ow rb H4 := (st3.trans P.st).trans st4
      have stp : Stp ks ow (wipeE ri own) H3 ow rb H4 := P.st.trans st4
      have keepD : ∀ {rz : Env} {Hz : Hp}, Stp ks ow (wipeE ri own) H3 ow rz Hz → Hz Dd = some (.lst vs) := fun z => z.kp.keep _ _ hD3 fun ⟨j, dj, ej, kj, z⟩ => (s3.own j dj ej kj).2.1 (.inr z.symm)
      cases k with
      | true =>
        simp only [if_true] at t4
        obtain ⟨⟨y, rc⟩, t6, t4⟩ := bindS t4
        obtain ⟨t7, t4⟩ := gd_some t4
        simp only [Option.some.injEq, Prod.mk.injEq] at t4
        obtain ⟨rfl, rfl⟩ := t4
        refine iteT ⟨_, ow, rb, y, rc, s4, t6, fun v H5 ⟨st5, f5⟩ => ?_⟩
        have stc : Stp ks ow (wipeE ri own) H3 ow rc H5 := stp.trans st5
        have hD5 := keepD stc
        have r5 := hr3.step stc
        have hlen : vs.length < sizeLine := by
          have := r5.length
          rw [← h7, h9] at hz
          simp only [List.length_append, List.length_cons] at hz
          omega
        refine ⟨vs, hD5, hlen, rc, acc ++ [y], vs ++ [v], rest', ?_, ?_, ?_, upd_same, ?_, t2, ?_, ?_⟩
        · have z := (f5.sr.other (ys := vs ++ [v]) (.inr rfl) hD5).wiped own
          rw [wg] at z
          exact z
        · exact (((st3.trans P.st).trans (st4.trans st5)).fresh hD hD5).fewer fun j d kj h => ⟨d, ((wipeE_get own rc j d).mp h).2⟩
        · exact stbIt_wipe (ks := ks) hb t7 (by rw [f5.sr.len, gl, s1.len])
        · have z : Reps (Av ks (fun b => O b ∨ b = Dd) ow rc) X.K H5 (vs ++ [v]) (acc ++ [y]) := r5.append (.one f5.rep)
          refine (z.keep (kp_upd hD5) (fun b e => by subst e; exact .inl (.inr rfl)) fun b _ z => ?_)
          rcases z with z | ⟨j, d, h, kj, z⟩
          · exact .inl z
          · exact .inr ⟨j, d, ((wipeE_get own rc j d).mp h).2, kj, z⟩
        · rw [← h7, h9, List.append_assoc] <;> rfl
        · rw [f5.sr.len, gl, s1.len]
      | false =>
        simp only [Bool.false_eq_true, if_false] at t4
        obtain ⟨t7, t4⟩ := gd_some t4
        simp only [Option.some.injEq, Prod.mk.injEq] at t4
        obtain ⟨rfl, rfl⟩ := t4
        have hD4 := keepD stp
        have r4 := hr3.step stp
        refine iteF ⟨rb, acc, vs, rest', ?_, ?_, ?_, hD4, ?_, t2, ?_, ?_⟩
        · have z := s4.wiped own
          rw [wg] at z
          exact z
        · exact st4'.fewer fun j d kj h => ⟨d, ((wipeE_get own rb j d).mp h).2⟩
        · exact stbIt_wipe (ks := ks) hb t7 (by rw [s4.len, gl, s1.len])
        · refine r4.weak fun b _ z => ?_
          rcases z with z | ⟨j, d, h, kj, z⟩
          · exact .inl z
          · exact .inr ⟨j, d, ((wipeE_get own rb j d).mp h).2, kj, z⟩
        · rw [← h7, h9]
        · rw [s4.len, gl, s1.len]
  · rintro H2 ⟨ri, acc, vs, rest, h1, h2, h3, h4, h5, h6, h7, h8⟩
    rw [List.drop_length] at h6
    simp only [lcLoop, Option.some.injEq, Prod.mk.injEq] at h6
    obtain ⟨rfl, rfl⟩ := h6
    rw [List.append_nil] at h7
    subst h7
    have ol : ∀ a, OL ks ow (backE r1 ri own) a → OL ks ow (wipeE ri own) a := fun a ⟨i, d, h, k, z⟩ => by
      have m : i ∉ own := fun m => k (hk i m)
      rw [backE_out r1 own ri i m] at h
      exact ⟨i, d, (wipeE_get own ri i d).mpr ⟨m, h⟩, k, z⟩
    have back : H Dd = none := by
      cases qq : H Dd with
      | none => rfl
      | some u => exact absurd hD (st1.kp.dom Dd (by rw [qq]; exact fun z => nomatch z))
    refine q _ _ ⟨st1.trans (h2.fewer fun i d k h => ?_), .own ?_ (.inr back) (s1.backE hD h1 h2 hk h8) (.lst h4 (h5.weak fun a _ z => z.elim .inl fun z => .inr (ol a z)))⟩
    · have m : i ∉ own := fun m => k (hk i m)
      rw [backE_out r1 own ri i m] at h
      exact ⟨d, (wipeE_get own ri i d).mpr ⟨m, h⟩⟩
    · rintro (z | z)
      · exact s1.odom Dd z hD
      · obtain ⟨j, dj, ej, kj, z2⟩ := ol Dd z
        exact (h1.own j dj ej kj).2.1 (.inr z2.symm)
theorem re_lcT {me : Env → Option (D × Env)} {mi : Env → Option (Bool × Env)} {mt : Env → Option (List D × Env)} {tg : Tg} {it : It} {fe : Bool} {own : List Nat} {ex : Expr} {wi : TI}
    (hk : ∀ i ∈ own, kd ks i = .val) (ht : ∀ i ∈ tgs tg, i ∈ own) (hb : ∀ i ∈ bosIt it, i ∉ own)
    (hw : ∀ O ow g H r ds r', SR X.K ks O ow g H r → mt r = some (ds, r') → ∀ R : L2.It → Hp → Prop, (∀ J H', SR X.K ks O ow g H' r' → Stp ks ow r H ow r' H' → Wk X.K ks O ow it ds r' H' J → R J H') → wi g H R)
    (hp : PE X ex (tLc wi (cG X.K ks tg) (cT X.K ks mi) (cE X.K ks none fe me) own)) :
    RE X ks none true (fun r => (mt r).bind fun p => (lcLoop (lcTurn me mi tg it own p.2) p.1 p.2).bind fun q => gd (q.1.length ≤ sizeLine) (some (.lst q.1, backE p.2 q.2 own))) ex :=
  ⟨_, hp, lc_read hk ht hb hw⟩
end
end Fw
/-! Fw: own containers written. -/
namespace Fw
open PySem L2
section
variable {K : PySem.W.Frag} {ks : List Kd} {A A' O : Addr → Prop} {ow : Nat → Addr} {g : St} {H H' : Hp} {r : Env}
/-- what an object holds -/
inductive Ct (A : Addr → Prop) (K : PySem.W.Frag) (H : Hp) : HO → D → Prop
  | lst {vs : List V} {ds : List D} : Reps A K H vs ds → Ct A K H (.lst vs) (.lst ds)
  | dic {kv : List (Key × V)} {ks : List (Key × D)} : RepKs A K H kv ks → Ct A K H (.dK kv) (.dic ks)
theorem Ct.own {P : Addr → Prop} {a : Addr} {o : HO} {d : D} (c : Ct A K H o d) (h : H' a = some o) (k : Kp P H H') (hp : ∀ a, P a → A a) (hA : ∀ a, H a ≠ none → A' a → A a) : Own A' K H' a d := by
  cases c with
  | lst r => exact .lst h (r.keep k hp hA)
  | dic r => exact .dic h (r.keep k hp hA)
theorem Own.ct {a : Addr} {d : D} (h : Own A K H a d) : ∃ o, H a = some o ∧ Ct A K H o d := by
  cases h with
  | lst e r => exact ⟨_, e, .lst r⟩
  | dic e r => exact ⟨_, e, .dic r⟩
theorem kp_mut {a : Addr} {o : HO} (m : Mut (H a)) : Kp (fun b => b = a) H (upd H a o) := ⟨fun b o e n => by rw [upd_ne n]; exact e, fun b e => by
    by_cases q : b = a
    · subst q; rw [upd_same]; exact fun z => nomatch z
    · rw [upd_ne q]; exact e, fun b xs e => by
    have q : b ≠ a := fun q => by subst q; rw [e] at m; exact m
    rw [upd_ne q]; exact e, fun b o u e => by
    have q : b ≠ a := fun q => by subst q; rw [e] at m; exact m
    rw [upd_ne q]; exact e⟩
theorem SR.wr (s : SR K ks O ow g H r) {i : Nat} {d0 d : D} {o : HO} (hi : r[i]? = some (some d0)) (hk : kd ks i ≠ .val) (c : Ct (Av ks O ow r) K H o d) :
    SR K ks O ow g (upd H (ow i) o) (r.set i (some d)) ∧ Stp ks ow r H ow (r.set i (some d)) (upd H (ow i) o) := by
  obtain ⟨g1, g2, g3⟩ := s.own i d0 hi hk
  have kp := kp_mut (o := o) g3.mut
  have hl : i < r.length := (List.getElem?_eq_some_iff.mp hi).1
  have get : ∀ j e, (r.set i (some d))[j]? = some (some e) → (j = i ∧ e = d) ∨ (j ≠ i ∧ r[j]? = some (some e)) := fun j e h => by
    rw [List.getElem?_set] at h
    split at h
    · rename_i e1
      simp only [hl, if_true, Option.some.injEq] at h
      exact .inl ⟨e1.symm, h.symm⟩
    · exact .inr ⟨fun z => ‹¬ i = j› z.symm, h⟩
  have live : ∀ j e, (r.set i (some d))[j]? = some (some e) → ∃ e0, r[j]? = some (some e0) := fun j e h => (get j e h).elim (fun z => ⟨d0, z.1 ▸ hi⟩) fun z => ⟨e, z.2⟩
  have ol : ∀ a, OL ks ow (r.set i (some d)) a → OL ks ow r a := fun a ⟨j, e, h, k, z⟩ => let ⟨e0, h0⟩ := live j e h; ⟨j, e0, h0, k, z⟩
  have hA : ∀ a, H a ≠ none → Av ks O ow (r.set i (some d)) a → Av ks O ow r a := fun a _ z => z.elim .inl fun z => .inr (ol a z)
  have hP : ∀ a, a = ow i → Av ks O ow r a := fun a z => .inr ⟨i, d0, hi, hk, z⟩
  refine ⟨⟨by rw [List.length_set]; exact s.len, fun j e h k => ?_, fun j e h k => ?_, fun j l a b h1 h2 k1 k2 ne => ?_, fun a z => kp.dom a (s.odom a z)⟩, ⟨fun b u e n => kp.keep b u e fun z => n ⟨i, d0, hi, hk, z⟩, kp.dom, kp.tups, kp.frzs⟩, fun j e h k => ?_, fun _ _ => rfl⟩
  · rcases get j e h with ⟨rfl, _⟩ | ⟨n, h⟩
    · exact absurd k hk
    · obtain ⟨v, hv, hr⟩ := s.val j e h k
      exact ⟨v, hv, hr.keep kp hP hA⟩
  · rcases get j e h with ⟨rfl, rfl⟩ | ⟨n, h⟩
    · exact ⟨g1, g2, c.own upd_same kp hP hA⟩
    · obtain ⟨h1, h2, h3⟩ := s.own j e h k
      exact ⟨h1, h2, h3.keep kp hP hA fun z => s.inj j i e d0 h hi k hk n z⟩
  · obtain ⟨a0, h1⟩ := live j a h1
    obtain ⟨b0, h2⟩ := live l b h2
    exact s.inj j l a0 b0 h1 h2 k1 k2 ne
  · obtain ⟨e0, h0⟩ := live j e h
    cases kk : kd ks j with
    | val => exact absurd kk k
    | own => exact .inl ⟨j, e0, h0, kk, rfl⟩
    | io => exact .inr (.inl ⟨rfl, rfl, e0, h0⟩)
/-- a value kept over a write -/
theorem Rep.wr {v : V} {x : D} (h : Rep (Av ks O ow r) K H v x) (s : SR K ks O ow g H r) {i : Nat} {d0 d : D} {o : HO} (hi : r[i]? = some (some d0)) (hk : kd ks i ≠ .val) (c : Ct (Av ks O ow r) K H o d) : Rep (Av ks O ow (r.set i (some d))) K (upd H (ow i) o) v x :=
  h.step (s.wr hi hk c).2
end
section
variable {X : Cx} {ks : List Kd} {pos apos p1 : Pos}
theorem attr_name {x : Str} {p : Pos} {m : Str} {env : PySem.Env} : attributeBase (.Name x p) m env (eval (.Name x p) env) = eval (.Name x p) env := rfl
theorem re_pop {i : Nat} {x : Str} (hN : X.N[i]? = some x) (hv : Vis X.env.scope x) (h1 : (x == ("__debug__" : Str)) = false) (h2 : (x == ("__classdict__" : Str)) = false) (hk : kd ks i ≠ .val) (hl : (apos.endLine == pos.line) = true) :
    RE X ks none false (fun r => match slot r i with | some (.lst ds) => (ds[ds.length - 1]?).map fun d => (d, r.set i (some (.lst ds.dropLast))) | _ => none) (.Call (.Attribute (.Name x p1) "pop" apos) [] [] pos) := by
  refine ⟨_, pe_bm0 PySem.F.plainAttrs_list PySem.F.slot_list_pop PySem.F.type_list_pop mt_pop (pe_var hN hv h1 h2) attr_name hl, fun O ow g H r d r' s e Q q => ?_⟩
  cases hs : slot r i with
  | none => simp only [hs] at e; cases e
  | some z =>
    simp only [hs] at e
    cases z <;> simp only at e <;> try (cases e; done)
    rename_i ds
    obtain ⟨y, hy, e⟩ := mapS e
    cases e
    have hi := slot_some hs
    obtain ⟨g1, g2, g3⟩ := s.own i _ hi hk
    cases g3 with
    | lst hh rr =>
      rename_i vs
      obtain ⟨w, hw, hr⟩ := rr.get' hy
      rw [← rr.length] at hw
      have c : Ct (Av ks O ow r) X.K H (.lst vs.dropLast) (.lst ds.dropLast) := .lst rr.dropLast
      obtain ⟨s2, st2⟩ := s.wr hi hk c
      exact ⟨_, g1, .inl ⟨rfl, vs, SqL.of hh⟩, ow i, vs, w, rfl, rfl, hh, hw, q _ _ ⟨st2, .val s2 (hr.step st2) fun z => nomatch z⟩⟩
/-- a method of a list, of one argument -/
theorem re_mth {m : M1} {i : Nat} {x id : Str} {bid : String} {fa : Bool} {b : Option Nat} {ma : Env → Option (D × Env)} {xa : Expr} {R : V → List V → Hp → VK → Prop} (hN : X.N[i]? = some x) (hv : Vis X.env.scope x) (h1 : (x == ("__debug__" : Str)) = false) (h2 : (x == ("__classdict__" : Str)) = false) (hk : kd ks i ≠ .val)
    (ha : RE X ks b fa ma xa) (hp : ∀ to t, PE X (.Name x p1) to → PA X [xa] t → PE X (.Call (.Attribute (.Name x p1) id apos) [xa] [] pos) (tBM X.K "list" R to t)) (hs : starEach [xa] X.env = (false, eval xa X.env) :: starEach [] X.env)
    (hR : ∀ (A : Addr → Prop) (H : Hp) (a : Addr) (vs : List V) (ds : List D) (v : V) (d y : D) (ds' : List D) (Q : VK), H a = some (.lst vs) → Reps A X.K H vs ds → Vw A X.K H v d → (b = none → Rep A X.K H v d) → m1 m ds d = some (y, ds') →
      (∀ vs' w, Reps A X.K H vs' ds' → Rep A X.K H w y → Q w (upd H a (.lst vs'))) → R (.ref a) [v] H Q) :
    RE X ks none false (fun r => (slot r i).bind fun d0 => gd (isL d0 = true) ((ma r).bind fun p => match slot p.2 i with
      | some (.lst ds) => (m1 m ds p.1).map fun q => (q.1, p.2.set i (some (.lst q.2)))
      | _ => none)) (.Call (.Attribute (.Name x p1) id apos) [xa] [] pos) := by
  obtain ⟨ta, pa, qa⟩ := ha
  refine ⟨_, hp _ _ (pe_var hN hv h1 h2) (pa_cons pa pa_nil hs), fun O ow g H r d r' s e Q q => ?_⟩
  obtain ⟨d0, e0, e⟩ := bindS e
  obtain ⟨hl, e⟩ := gd_some e
  obtain ⟨⟨d1, r1⟩, e1, e⟩ := bindS e
  cases hs1 : slot r1 i with
  | none => simp only [hs1] at e; cases e
  | some z =>
    simp only [hs1] at e
    cases z <;> simp only at e <;> try (cases e; done)
    rename_i ds
    obtain ⟨⟨y, ds'⟩, hy, e⟩ := mapS e
    cases e
    obtain ⟨g1, g2, g3⟩ := s.own i _ (slot_some e0) hk
    refine ⟨_, g1, ?_, ?_⟩
    · cases g3 with
      | lst hh rr => exact .inl ⟨rfl, _, SqL.of hh⟩
      | dic hh rr => simp [isL] at hl
    · refine qa O ow g H r d1 r1 s e1 _ fun v H1 ⟨s1, f1⟩ => ?_
      have hi := slot_some hs1
      obtain ⟨g1', g2', g3'⟩ := f1.sr.own i _ hi hk
      cases g3' with
      | lst hh rr =>
        refine hR (Av ks O ow r1) H1 (ow i) _ ds v d1 y ds' Q hh rr f1.vw (fun hb => by subst hb; exact f1.rep) hy fun vs' w rr' hw => ?_
        obtain ⟨s2, st2⟩ := f1.sr.wr hi hk (.lst rr')
        exact q _ _ ⟨s1.trans st2, .val s2 (hw.step st2) fun z => nomatch z⟩
theorem m1_append {A : Addr → Prop} {K : PySem.W.Frag} {H : Hp} {a : Addr} {vs : List V} {ds : List D} {v : V} {d y : D} {ds' : List D} {Q : VK} (h : H a = some (.lst vs)) (rr : Reps A K H vs ds) (hr : Rep A K H v d) (e : m1 .append ds d = some (y, ds'))
    (q : ∀ vs' w, Reps A K H vs' ds' → Rep A K H w y → Q w (upd H a (.lst vs'))) : rAppend (.ref a) [v] H Q := by
  simp only [m1] at e
  split at e
  · cases e
    exact ⟨a, vs, v, rfl, rfl, h, by rw [rr.length]; assumption, q _ _ (rr.append (.one hr)) .non⟩
  · cases e
theorem m1_extend {A : Addr → Prop} {K : PySem.W.Frag} {H : Hp} {a : Addr} {vs : List V} {ds : List D} {v : V} {d y : D} {ds' : List D} {Q : VK} (h : H a = some (.lst vs)) (rr : Reps A K H vs ds) (hr : Vw A K H v d) (e : m1 .extend ds d = some (y, ds'))
    (q : ∀ vs' w, Reps A K H vs' ds' → Rep A K H w y → Q w (upd H a (.lst vs'))) : rExtend (.ref a) [v] H Q := by
  cases d <;> simp only [m1] at e <;> try (cases e; done)
  split at e
  · cases e
    obtain ⟨b, ws, rfl, hb, r2⟩ := hr.lst
    exact ⟨a, b, vs, ws, rfl, rfl, h, hb, by rw [rr.length, r2.length]; assumption, q _ _ (rr.append r2) .non⟩
  · cases e
theorem m1_pop {A : Addr → Prop} {K : PySem.W.Frag} {H : Hp} {a : Addr} {vs : List V} {ds : List D} {v : V} {d y : D} {ds' : List D} {Q : VK} (h : H a = some (.lst vs)) (rr : Reps A K H vs ds) (hr : Vw A K H v d) (e : m1 .pop ds d = some (y, ds'))
    (q : ∀ vs' w, Reps A K H vs' ds' → Rep A K H w y → Q w (upd H a (.lst vs'))) : rPopAt (.ref a) [v] H Q := by
  cases d <;> simp only [m1] at e <;> try (cases e; done)
  split at e
  · rename_i hb
    obtain ⟨j, ej, e⟩ := bindS e
    obtain ⟨d, hd, e⟩ := mapS e
    cases e
    obtain ⟨w, hw, hr2⟩ := rr.get' hd
    exact ⟨a, vs, _, j, w, rfl, by rw [hr.int], h, hb.1, hb.2, by rw [rr.length]; exact ej, hw, q _ _ (rr.eraseIdx j) hr2⟩
  · cases e
/-! ### d.get -/
theorem re_get {ba bb : Option Nat} {fa fb : Bool} {ma mb : Env → Option (D × Env)} {xa xb : Expr} (hu : X.A.units + 1 < cLine) (m : L2.M1 X xa "get" apos xb pos) (ha : RE X ks ba fa ma xa) (hb : RE X ks bb fb mb xb) :
    RE X ks none false (fun r => (ma r).bind fun p => (mb p.2).bind fun q => gd (stbO ba p.2 q.2) (match p.1 with | .dic ks => (keyOf q.1).map fun k => ((look ks k).getD .non, q.2) | _ => none)) (.Call (.Attribute xa "get" apos) [xb] [] pos) := by
  obtain ⟨ta, pa, qa⟩ := ha
  obtain ⟨tb, pb, qb⟩ := hb
  refine ⟨_, pe_dget1 hu pa pb m, fun O ow g H r d r' s e Q q => ?_⟩
  obtain ⟨⟨d1, r1⟩, e1, e⟩ := bindS e
  obtain ⟨⟨d2, r2⟩, e2, e⟩ := bindS e
  obtain ⟨st, e⟩ := gd_some e
  cases d1 <;> simp only at e <;> try (cases e; done)
  obtain ⟨k, hk, e⟩ := mapS e
  cases e
  refine qa O ow g H r _ r1 s e1 _ fun x H1 ⟨s1, f1⟩ => ?_
  obtain ⟨a, kv, rfl, hda, _⟩ := f1.vw.dic
  refine ⟨a, rfl, .inl ⟨kv, .inl hda⟩, qb O ow g H1 r1 d2 _ f1.sr e2 _ fun y H2 ⟨s2, f2⟩ => ?_⟩
  obtain ⟨a2, kv2, ea, hda2, rr⟩ := (f1.later s2 f2.sr st).dic
  cases ea
  cases keyOf_kV f2.vw hk
  refine ⟨valV kv2 k, DGet.k hda2, ?_⟩
  rcases rr.look k with ⟨h1, h2⟩ | ⟨w, f, h1, h2, h3⟩
  · rw [h1]; exact q _ _ ⟨s1.trans s2, .val f2.sr (by rw [h2]; exact .non) fun z => nomatch z⟩
  · rw [h1]; exact q _ _ ⟨s1.trans s2, .val f2.sr (by rw [h2]; exact h3) fun z => nomatch z⟩
end
end Fw
/-! Fw: the look's facts, and the theorem on expressions. -/
namespace Fw
open PySem L2
/-! ### what the text's form gives -/
theorem star_cons {e : Expr} {es : List Expr} {env : PySem.Env} (h : isStar e = false) : starEach (e :: es) env = (false, eval e env) :: starEach es env := by
  cases e <;> first | rfl | cases h
theorem star_plain {pos : Pos} {env : PySem.Env} : ∀ {es : List Expr}, (∀ e ∈ es, isStar e = false) → (backTo pos (starEach es env)).any (·.1) = false
  | [], _ => rfl
  | e :: es, h => by
    rw [star_cons (h e List.mem_cons_self)]
    have := star_plain (pos := pos) (env := env) fun e he => h e (List.mem_cons_of_mem _ he)
    simp only [backTo, List.map_cons, List.any_cons, Bool.false_or] at this ⊢
    exact this
theorem star_few {pos : Pos} {env : PySem.Env} {e : Expr} (h : isStar e = false) : ((backTo pos (starEach [e] env)).all (fun x => !x.1) && (backToKw pos (keywordEach [] env)).all (fun x => x.1.isSome)
    && decide (([e] : List Expr).length + ([] : List Keyword).length + (if ([] : List Keyword).isEmpty then 0 else 1) < 30)) = true := by
  rw [star_cons h]; rfl
theorem star_trees {pos : Pos} {env : PySem.Env} {e : Expr} (h : isStar e = false) : backTo pos (starEach [e] env) = [(false, eval e env)] := by
  rw [star_cons h]; rfl
theorem mark_no {op : CmpOp} {e : Expr} (h : isSet e = false) : behindInMarks op e = false := by
  cases e <;> first | rfl | cases h
theorem last_no {o1 o2 : CmpOp} {a b : Expr} (h : isSet b = false) : lastMarks [o1, o2] [a, b] = false := by
  show behindInMarks o2 b = false
  exact mark_no h
theorem fold_no {e : Expr} {env : PySem.Env} (h : isSet e = false) (x : Value) : foldedSetIterable e env x = pure x := by
  cases e <;> first | rfl | cases h
theorem plain_ix {e : Expr} (h : isSlice e = false) : PlainIx e := by
  intro o i
  cases e <;> first | rfl | cases h
theorem attr_obj {x : Expr} {m : Str} {env : PySem.Env} (h : objX x = true) : attributeBase x m env (eval x env) = eval x env := by
  unfold objX at h
  split at h
  · rfl
  · rfl
  · cases h
/-- heads whose test is their value's truth -/
def plainX : Expr → Bool
  | .BoolOp _ _ _ => false
  | .UnaryOp .Not _ _ => false
  | .IfExp _ _ _ _ => false
  | .Compare _ _ _ _ => false
  | _ => true
theorem plain_is {e : Expr} {env : PySem.Env} (h : plainX e = true) (whole : Sem Value) : isTrue e env whole = (do let v ← whole; standAt e.pos; holding [v] (truthy v)) := by
  cases e <;> first | rfl | (cases h; done) | skip
  rename_i op x p
  cases op <;> first | rfl | cases h
/-! ### names -/
section
variable {X : Cx} {Z : Sx} {sc : Scope} {x n : Str} {i : Nat}
theorem okN_1 (h : okN x = true) : (x == ("__debug__" : Str)) = false := by
  simp only [okN, Bool.and_eq_true, Bool.not_eq_true'] at h; exact h.1
theorem okN_2 (h : okN x = true) : (x == ("__classdict__" : Str)) = false := by
  simp only [okN, Bool.and_eq_true, Bool.not_eq_true'] at h; exact h.2
theorem vis_of (h : visB sc x = true) : Vis sc x := by
  unfold visB at h
  split at h <;> first | (cases h; done) | skip
  · exact .inl ‹_›
  · exact .inr (.inl ‹_›)
  · exact .inr (.inr ‹_›)
theorem loc_of (h : locB sc x = true) : Loc sc x := by
  unfold locB at h
  split at h <;> first | (cases h; done) | skip
  · exact .inl ‹_›
  · exact .inr ‹_›
theorem gl_of (h : glB X.env.scope x = true) : Gl X x := by
  unfold glB at h
  split at h
  · rename_i e; exact e
  · cases h
theorem var_of (h : ckVar Z sc i x = true) : Z.N[i]? = some x ∧ Vis sc x ∧ (x == ("__debug__" : Str)) = false ∧ (x == ("__classdict__" : Str)) = false := by
  simp only [ckVar, Bool.and_eq_true, decide_eq_true_eq] at h
  exact ⟨h.1.1, vis_of h.1.2, okN_1 h.2, okN_2 h.2⟩
theorem blt_of (h : ckBlt X.env.scope x n = true) : x = n ∧ Gl X x ∧ x ∈ bltNames ∧ (x == ("__debug__" : Str)) = false := by
  simp only [ckBlt, Bool.and_eq_true, decide_eq_true_eq] at h
  exact ⟨h.1.1.1, gl_of h.1.1.2, h.1.2, okN_1 h.2⟩
end
theorem bltNames_nn : ∀ x ∈ bltNames, x ≠ "__name__" := by decide +kernel
theorem boot_all : ∀ p ∈ ([("len", .builtin "len"), ("int", .type "int"), ("bool", .type "bool"), ("abs", .builtin "abs"), ("sum", .builtin "sum"), ("sorted", .builtin "sorted"), ("list", .type "list"), ("tuple", .type "tuple"), ("all", .builtin "all"), ("any", .builtin "any"), ("min", .builtin "min"), ("max", .builtin "max"), ("isinstance", .builtin "isinstance"), ("set", .type "set"), ("str", .type "str"), ("dict", .type "dict")] : List (Str × Value)), bootBuiltins p.1 = some p.2 := by decide +kernel
theorem boot {x : Str} {v : Value} (h : (x, v) ∈ ([("len", .builtin "len"), ("int", .type "int"), ("bool", .type "bool"), ("abs", .builtin "abs"), ("sum", .builtin "sum"), ("sorted", .builtin "sorted"), ("list", .type "list"), ("tuple", .type "tuple"), ("all", .builtin "all"), ("any", .builtin "any"), ("min", .builtin "min"), ("max", .builtin "max"), ("isinstance", .builtin "isinstance"), ("set", .type "set"), ("str", .type "str"), ("dict", .type "dict")] : List (Str × Value))) : bootBuiltins x = some v := boot_all _ h
theorem rt_ite {X : Cx} {ks : List Kd} {pos : Pos} {mc : Env → Option (Bool × Env)} {ma mb : Env → Option (D × Env)} {xc xa xb : Expr} (hc : RT X ks mc xc) (ha : RT X ks (tstM ma) xa) (hb : RT X ks (tstM mb) xb) :
    RT X ks (tstM (iteM mc ma mb)) (.IfExp xc xa xb pos) := by
  obtain ⟨tc, pc, qc⟩ := hc
  obtain ⟨ta, pa, qa⟩ := ha
  obtain ⟨tb, pb, qb⟩ := hb
  refine ⟨fun σ H Q => tc σ H fun c H1 => if c = true then ta σ H1 Q else tb σ H1 Q, ⟨fun pins s σ H Q I h => ?_⟩, fun O ow g H r d r' s e Q q => ?_⟩
  · refine PyProof.Rows.isTrue_IfExp (wpAny_mono (pc.run pins s σ H _ I h) (fun c s' ⟨H1, I1, h1⟩ => ?_) fun _ _ z => z)
    cases c with
    | true => exact pa.run pins s' σ H1 Q I1 h1
    | false => exact pb.run pins s' σ H1 Q I1 h1
  · obtain ⟨⟨d1, r1⟩, e1, e⟩ := bindS e
    obtain ⟨⟨k, r2⟩, e2, e1⟩ := bindS e1
    have e' : tstM (if k = true then ma else mb) r2 = some (d, r') := by
      cases k <;> (simp only [tstM]; exact Option.bind_eq_some_iff.mpr ⟨_, e1, e⟩)
    refine qc O ow g H r k r2 s e2 _ fun H1 s1 st1 => ?_
    cases k with
    | true => exact iteT (qa O ow g H1 r2 d r' s1 e' _ fun H2 s2 st2 => q _ s2 (st1.trans st2))
    | false => exact iteF (qb O ow g H1 r2 d r' s1 e' _ fun H2 s2 st2 => q _ s2 (st1.trans st2))
end Fw
/-! Fw: what the small language says of an expression, the machine does. -/
namespace Fw
open PySem L2
structure Okx (X : Cx) (Z : Sx) (F : Fns) (k : Nat) : Prop where
  gd : Gd X Z.T F Z.G k
  N : X.N = Z.N
def Snd (X : Cx) (Z : Sx) (F : Fns) (i : E) (ex : Expr) : Prop :=
  RE X Z.ks (bo i) (frs Z.T i) (ev F i) ex ∧ RT X Z.ks (tstM (ev F i)) ex ∧ ∀ op xs pos, ex = .BoolOp op xs pos → RW X Z.ks (tstM (ev F i)) ex
section
variable {X : Cx} {Z : Sx} {F : Fns} {k : Nat} {i : E} {ex : Expr}
theorem snd_plain (hp : plainX ex = true) (h : RE X Z.ks (bo i) (frs Z.T i) (ev F i) ex) : Snd X Z F i ex :=
  ⟨h, rt_of h (plain_is hp), fun op xs pos e => by subst e; cases hp⟩
theorem snd_rt (hp : ∀ op xs pos, ex ≠ .BoolOp op xs pos) (h : RE X Z.ks (bo i) (frs Z.T i) (ev F i) ex) (h2 : RT X Z.ks (tstM (ev F i)) ex) : Snd X Z F i ex :=
  ⟨h, h2, fun op xs pos e => absurd e (hp op xs pos)⟩
theorem Okx.u1 (o : Okx X Z F k) : X.A.units + 1 < cLine := by have := o.gd.room.un; omega
theorem Okx.u66 (o : Okx X Z F k) : X.A.units + 66 < cLine := by have := o.gd.room.un; omega
theorem Okx.blt (o : Okx X Z F k) {x : Str} (h : x ∈ bltNames) : X.mg x = none := o.gd.blt x h
theorem Okx.blk (o : Okx X Z F k) (s : Shared) (H : Hp) (scope : Scope) (cenv : PySem.Env) (fp : List Addr) : Okx (X.blk s H scope cenv fp) Z F k :=
  ⟨⟨o.gd.calm, o.gd.nd, o.gd.room, rfl, o.gd.blt, o.gd.fns, o.gd.glo⟩, o.N⟩
theorem isNone_of {b : Option Nat} (h : b.isNone = true) : b = none := by cases b <;> first | rfl | cases h
theorem snd_none (h : (bo i).isNone = true) (q : Snd X Z F i ex) : RE X Z.ks none (frs Z.T i) (ev F i) ex := by
  have := q.1
  rw [isNone_of h] at this
  exact this
end
/-! targets -/
mutual
theorem sT {X : Cx} {Z : Sx} {fn : Str → Bool} (hc : X.calm = true) (nd : X.N.Nodup) (hN : X.N = Z.N) (hf : ∀ x, fn x = true → X.fn x = true) : ∀ (t : Tg) (ex : Expr), ckT Z X.env.scope fn t ex = true → RG X Z.ks t ex ∧ isStar ex = false
  | .nm i, ex, h => by
    unfold ckT at h
    split at h
    · simp only [Bool.and_eq_true, decide_eq_true_eq, stoB, Bool.or_eq_true] at h
      obtain ⟨⟨h1, h2, h3⟩, h4⟩ := h
      exact ⟨rg_nm nd (hN ▸ h1) (loc_of h2) (h3.imp (hf _) id) h4, rfl⟩
    · cases h
  | .tp ts, ex, h => by
    unfold ckT at h
    split at h
    · obtain ⟨h1, h2, h3⟩ := sTs hc nd hN hf ts _ h
      exact ⟨rg_tp hc h1 h2 h3, rfl⟩
    · cases h
theorem sTs {X : Cx} {Z : Sx} {fn : Str → Bool} (hc : X.calm = true) (nd : X.N.Nodup) (hN : X.N = Z.N) (hf : ∀ x, fn x = true → X.fn x = true) : ∀ (t : List Tg) (ex : List Expr), ckTs Z X.env.scope fn t ex = true →
    RGs X Z.ks t ex ∧ (assignEach ex X.env).length = t.length ∧ (assignEach ex X.env).findIdx? (·.1) = none
  | [], ex, h => by
    cases ex with
    | nil => exact ⟨rgs_nil, rfl, rfl⟩
    | cons e es => cases h
  | t :: ts, ex, h => by
    cases ex with
    | nil => cases h
    | cons e es =>
      unfold ckTs at h
      simp only [Bool.and_eq_true] at h
      obtain ⟨h1, h1s⟩ := sT hc nd hN hf t e h.1
      obtain ⟨h2, h3, h4⟩ := sTs hc nd hN hf ts es h.2
      have ha : assignEach (e :: es) X.env = (false, assign e X.env) :: assignEach es X.env := by
        cases e <;> first | rfl | cases h1s
      refine ⟨rgs_cons (by rw [ha]; rfl) h1 h2, by rw [ha]; simp [h3], ?_⟩
      rw [ha, List.findIdx?_cons]
      simp [h4]
end
end Fw
/-! Fw: the theorem on expressions. -/
namespace Fw
open PySem L2
section
variable {X : Cx} {Z : Sx} {F : Fns} {k : Nat}
theorem pass0 : Passes CX0 X E0 := fun _ _ _ _ _ _ _ h => h.elim
theorem noBool {ex : Expr} (h : plainX ex = true) : ∀ op xs pos, ex ≠ .BoolOp op xs pos := fun op xs pos e => by subst e; cases h
theorem all_none {es : List E} (h : (es.all fun e => (bo e).isNone) = true) : ∀ e ∈ es, bo e = none := fun e he => isNone_of (List.all_eq_true.mp h e he)
theorem ckArgs_nil {kp : List Kd} (h : ckArgs kp [] = true) : kp = [] := by
  cases kp with
  | nil => rfl
  | cons a b => cases a <;> cases h
mutual
theorem sE {F : Fns} {k : Nat} (Z : Sx) : ∀ (i : E) (X : Cx) (ex : Expr), Okx X Z F k → ckE Z X.env.scope i ex = true → Snd X Z F i ex
  | .var i, X, ex, o, h => by
    unfold ckE at h
    split at h
    · simp only [Bool.and_eq_true, decide_eq_true_eq] at h
      obtain ⟨h1, h2, h3, h4⟩ := var_of h.1
      exact snd_plain rfl (re_imp (re_var (o.N ▸ h1) h2 h3 h4 h.2) fun r => by simp only [ev])
    · cases h
  | .bor i, X, ex, o, h => by
    unfold ckE at h
    split at h
    · simp only [Bool.and_eq_true, decide_eq_true_eq] at h
      obtain ⟨h1, h2, h3, h4⟩ := var_of h.1
      exact snd_plain rfl (re_imp (re_bor (o.N ▸ h1) h2 h3 h4 h.2) fun r => by simp only [ev])
    · cases h
  | .mv i, X, ex, o, h => by
    unfold ckE at h
    split at h
    · simp only [Bool.and_eq_true, decide_eq_true_eq] at h
      obtain ⟨h1, h2, h3, h4⟩ := var_of h.1
      exact snd_plain rfl (re_imp (re_mv (o.N ▸ h1) h2 h3 h4 h.2) fun r => by simp only [ev])
    · cases h
  | .non, X, ex, o, h => by
    unfold ckE at h
    split at h
    · exact snd_plain rfl (re_imp (re_flat pe_non (fun _ _ => .non) rfl) fun r => by simp only [ev])
    · cases h
  | .bl b, X, ex, o, h => by
    unfold ckE at h
    split at h
    · simp only [decide_eq_true_eq] at h
      subst h
      exact snd_plain rfl (re_imp (re_flat pe_bl (fun _ _ => .bl _) rfl) fun r => by simp only [ev])
    · cases h
  | .int i, X, ex, o, h => by
    unfold ckE at h
    split at h
    · simp only [decide_eq_true_eq] at h
      subst h
      exact snd_plain rfl (re_imp (re_flat pe_int (fun _ _ => .int _) rfl) fun r => by simp only [ev])
    · cases h
  | .str i, X, ex, o, h => by
    unfold ckE at h
    split at h
    · simp only [decide_eq_true_eq] at h
      subst h
      exact snd_plain rfl (re_imp (re_flat pe_str (fun _ _ => .str _) rfl) fun r => by simp only [ev])
    · cases h
  | .glo x d, X, ex, o, h => by
    unfold ckE at h
    split at h
    · simp only [Bool.and_eq_true, decide_eq_true_eq, Bool.not_eq_true', List.any_eq_true] at h
      obtain ⟨⟨⟨⟨h1, h2⟩, h3⟩, h4⟩, ⟨y, d'⟩, hm, h5, h6⟩ := h
      subst h1
      simp only at h5
      subst h5
      cases beqD_eq h6
      obtain ⟨u, v, g1, g2, g3⟩ := o.gd.glo _ _ hm
      exact snd_plain rfl (re_imp (re_flat (pe_glob (gl_of h2) g1 g2 (okN_1 h3)) g3 h4) fun r => by simp only [ev])
    · cases h
  | .tup es, X, ex, o, h => by
    unfold ckE at h
    split at h
    · simp only [Bool.and_eq_true] at h
      exact snd_plain rfl (re_imp (re_tup (sEs Z es X _ o h.1).1 (all_none h.2)) fun r => by simp only [ev])
    · cases h
  | .lst es, X, ex, o, h => by
    unfold ckE at h
    split at h
    · simp only [Bool.and_eq_true] at h
      exact snd_plain rfl (re_imp (re_lst (sEs Z es X _ o h.1).1 (all_none h.2)) fun r => by simp only [ev])
    · cases h
  | .dic0, X, ex, o, h => by
    unfold ckE at h
    split at h
    · exact snd_plain rfl (re_imp re_dic0 fun r => by simp only [ev])
    · cases h
  | .bin op a b, X, ex, o, h => by
    unfold ckE at h
    split at h
    · simp only [Bool.and_eq_true, decide_eq_true_eq] at h
      obtain ⟨⟨h0, h1⟩, h2⟩ := h
      subst h0
      exact snd_plain rfl (re_imp (re_bin (sE Z a X _ o h1).1 (sE Z b X _ o h2).1) fun r => by simp only [ev, stb_bo])
    · cases h
  | .neg a, X, ex, o, h => by
    unfold ckE at h
    split at h
    · exact snd_plain rfl (re_imp (re_neg (sE Z a X _ o h).1) fun r => by simp only [ev] <;> rfl)
    · cases h
  | .cmp op a b, X, ex, o, h => by
    unfold ckE at h
    split at h
    · simp only [Bool.and_eq_true, decide_eq_true_eq] at h
      obtain ⟨⟨h0, h1⟩, h2⟩ := h
      subst h0
      have e : ev F (.cmp op a b) = fun r => (ev F a r).bind fun p => (ev F b p.2).bind fun q => gd (stbO (bo a) p.2 q.2) ((dcmp op p.1 q.1).map fun d => (.bl d, q.2)) := by
        funext r; simp only [ev, stb_bo]
      refine snd_rt (fun _ _ _ z => nomatch z) ?_ ?_
      · rw [e]; exact re_cmp o.u66 (mark_no (ck_set h2)) (sE Z a X _ o h1).1 (sE Z b X _ o h2).1
      · rw [e]; exact rt_cmp o.u66 (mark_no (ck_set h2)) (sE Z a X _ o h1).1 (sE Z b X _ o h2).1
    · cases h
  | .chain op op' a b c, X, ex, o, h => by
    unfold ckE at h
    split at h
    · simp only [Bool.and_eq_true, decide_eq_true_eq] at h
      obtain ⟨⟨⟨⟨⟨⟨h0, h00⟩, h1⟩, h2⟩, h3⟩, n1⟩, n2⟩ := h
      subst h0 h00
      have e : ev F (.chain op op' a b c) = fun r => (ev F a r).bind fun p => (ev F b p.2).bind fun q => (dcmp op p.1 q.1).bind fun k => if k = true then (ev F c q.2).bind fun t => (dcmp op' q.1 t.1).map fun d => (.bl d, t.2) else some (.bl false, q.2) := by
        funext r; simp only [ev]
      refine snd_rt (fun _ _ _ z => nomatch z) ?_ ?_
      · rw [e]; exact re_chain (ba := none) (bb := none) o.u66 (last_no (ck_set h3)) (snd_none n1 (sE Z a X _ o h1)) (snd_none n2 (sE Z b X _ o h2)) (sE Z c X _ o h3).1
      · rw [e]; exact rt_chain (ba := none) (bb := none) o.u66 (last_no (ck_set h3)) (snd_none n1 (sE Z a X _ o h1)) (snd_none n2 (sE Z b X _ o h2)) (sE Z c X _ o h3).1
    · cases h
  | .and a b, X, ex, o, h => by
    unfold ckE at h
    split at h
    · rename_i x y rest pos
      simp only [Bool.and_eq_true] at h
      obtain ⟨⟨⟨h1, n1⟩, n2⟩, h2⟩ := h
      have e : ev F (.and a b) = andM (ev F a) (ev F b) := by funext r; simp only [ev, andM] <;> rfl
      have sa := sE Z a X _ o h1
      have sb : RE X Z.ks none (frs Z.T b) (ev F b) (.BoolOp .And (y :: rest) pos) ∧ RW X Z.ks (tstM (ev F b)) (.BoolOp .And (y :: rest) pos) := by
        cases rest with
        | nil => exact ⟨re_one (snd_none n2 (sE Z b X _ o h2)), rw_and1 (sE Z b X _ o h2).2.1⟩
        | cons z zs => exact ⟨snd_none n2 (sE Z b X _ o h2), (sE Z b X _ o h2).2.2 _ _ _ rfl⟩
      have w := rw_and sa.2.1 sb.2
      refine ⟨?_, ?_, fun _ _ _ _ => ?_⟩
      · rw [e]; exact re_and (snd_none n1 sa) sb.1
      · rw [e]; exact rw_rt w
      · rw [e]; exact w
    · cases h
  | .or a b, X, ex, o, h => by
    unfold ckE at h
    split at h
    · rename_i x y rest pos
      simp only [Bool.and_eq_true] at h
      obtain ⟨⟨⟨h1, n1⟩, n2⟩, h2⟩ := h
      have e : ev F (.or a b) = orM (ev F a) (ev F b) := by funext r; simp only [ev, orM] <;> rfl
      have sa := sE Z a X _ o h1
      have sb : RE X Z.ks none (frs Z.T b) (ev F b) (.BoolOp .Or (y :: rest) pos) ∧ RW X Z.ks (tstM (ev F b)) (.BoolOp .Or (y :: rest) pos) := by
        cases rest with
        | nil => exact ⟨re_one (snd_none n2 (sE Z b X _ o h2)), rw_or1 (sE Z b X _ o h2).2.1⟩
        | cons z zs => exact ⟨snd_none n2 (sE Z b X _ o h2), (sE Z b X _ o h2).2.2 _ _ _ rfl⟩
      have w := rw_or sa.2.1 sb.2
      refine ⟨?_, ?_, fun _ _ _ _ => ?_⟩
      · rw [e]; exact re_or (snd_none n1 sa) sb.1
      · rw [e]; exact rw_rt w
      · rw [e]; exact w
    · cases h
  | .not a, X, ex, o, h => by
    unfold ckE at h
    split at h
    · have e : ev F (.not a) = notM (ev F a) := by funext r; simp only [ev, notM]
      refine snd_rt (fun _ _ _ z => nomatch z) ?_ ?_
      · rw [e]; exact re_not (sE Z a X _ o h).1
      · rw [e]; exact rt_not (sE Z a X _ o h).2.1
    · cases h
  | .ite c a b, X, ex, o, h => by
    unfold ckE at h
    split at h
    · simp only [Bool.and_eq_true] at h
      obtain ⟨⟨⟨⟨h0, h1⟩, h2⟩, n1⟩, n2⟩ := h
      have e : ev F (.ite c a b) = iteM (tstM (ev F c)) (ev F a) (ev F b) := by
        funext r; simp only [ev, iteM, tstM]
        cases ev F c r with
        | none => rfl
        | some p => simp only [Option.bind_some]; cases tru p.1 <;> rfl
      refine snd_rt (fun _ _ _ z => nomatch z) ?_ ?_
      · rw [e]; exact re_ite (sE Z c X _ o h0).2.1 (snd_none n1 (sE Z a X _ o h1)) (snd_none n2 (sE Z b X _ o h2))
      · rw [e]; exact rt_ite (sE Z c X _ o h0).2.1 (sE Z a X _ o h1).2.1 (sE Z b X _ o h2).2.1
    · cases h
  | .idx a b, X, ex, o, h => by
    unfold ckE at h
    split at h
    · simp only [Bool.and_eq_true, Bool.not_eq_true'] at h
      obtain ⟨⟨h1, h2⟩, h3⟩ := h
      exact snd_plain rfl (re_imp (re_idx o.u1 (plain_ix h3) (sE Z a X _ o h1).1 (sE Z b X _ o h2).1) fun r => by simp only [ev, stb_bo])
    · cases h
  | .sl a lo hi, X, ex, o, h => by
    unfold ckE at h
    split at h
    · rename_i x l hh p1 p2
      simp only [Bool.and_eq_true] at h
      obtain ⟨⟨h1, h2⟩, h3⟩ := h
      have part : ∀ (y : Option Expr) (j : E), (∀ e, ckE Z X.env.scope j e = true → Snd X Z F j e) → (match y with | none => isNon j | some y => !isNon j && ckE Z X.env.scope j y && (bo j).isNone) = true → RP X Z.ks j (ev F j) y := fun y j ih hj => by
        cases y with
        | none => cases j <;> first | (cases hj; done) | exact (by simpa only [ev] using (rp_none : RP X Z.ks .non (fun r => some (.non, r)) none))
        | some y =>
          simp only [Bool.and_eq_true, Bool.not_eq_true'] at hj
          exact rp_some (partOf_int fun z => by rw [z] at hj; exact absurd hj.1.1 (by decide)) (snd_none hj.2 (ih y hj.1.2))
      exact snd_plain rfl (re_imp (re_sl (sE Z a X _ o h1).1 (part _ _ (fun e he => sE Z lo X e o he) h2) (part _ _ (fun e he => sE Z hi X e o he) h3)) fun r => by simp only [ev, stb_bo])
    · cases h
  | .call f es, X, ex, o, h => by
    unfold ckE at h
    split at h
    · rename_i x p xs pos
      split at h
      · rename_i d hd
        simp only [Bool.and_eq_true, decide_eq_true_eq] at h
        obtain ⟨⟨⟨⟨⟨⟨h0, h1⟩, h2⟩, h3⟩, h4⟩, h5⟩, h6⟩ := h
        subst h0
        obtain ⟨f', fd, m1, m2, m3, m4⟩ := o.gd.fns f d hd
        obtain ⟨ra, st⟩ := sEs Z es X _ o h3
        have efr : frs Z.T (.call f es) = d.fr := by simp only [frs, hd]
        refine snd_plain rfl (re_imp ?_ fun r => by simp only [ev] <;> rfl)
        rw [efr]
        refine re_call (d := d) (F := F f) ?_ h5 h6 h4
        obtain ⟨t, pt, qt⟩ := ra
        cases xs with
        | cons e xs =>
          exact ⟨t, pe_call m4 o.gd.room (gl_of h1) m1 m2 m3 .nil pass0 pt (okN_1 h2) (star_cons (st e List.mem_cons_self)) (star_plain fun e he => st e (List.mem_cons_of_mem _ he)), qt⟩
        | nil =>
          cases es with
          | cons e es => unfold ckEs at h3; cases h3
          | nil =>
            refine ⟨_, pe_call0 m4 o.gd.room (gl_of h1) m1 m2 m3 .nil pass0 (okN_1 h2), fun O ow g H r ds r' s e Q q => ?_⟩
            simp only [evs] at e
            cases e
            exact q _ _ s Stp.refl .nil
      · cases h
    · cases h
  | .b1 b a, X, ex, o, h => by
    unfold ckE at h
    split at h
    · rename_i x p y pos
      simp only [Bool.and_eq_true] at h
      obtain ⟨h0, h1⟩ := h
      obtain ⟨rfl, hg, hm, hd⟩ := blt_of h0
      have hn := bltNames_nn _ hm
      have hmg := o.blt hm
      have hc := o.gd.calm
      have go : ckE Z X.env.scope a y = true → (∀ t, PA X [y] t → isStar y = false → PE X (.Call (.Name (b1Name b) p) [y] [] pos) (tCB (rB1 X.K b) t)) → Snd X Z F (.b1 b a) (.Call (.Name (b1Name b) p) [y] [] pos) := fun h1 hp =>
        snd_plain rfl (re_imp (re_b1 (sE Z a X _ o h1).1 (fun t pt => hp t pt (ck_star h1)) (star_cons (ck_star h1))) fun r => by simp only [ev])
      cases b with
      | len => exact go h1 fun t pt st => pe_callB b1_len hg hmg (boot (by simp [b1Name])) pt hn hd (star_cons st) rfl
      | int => exact go h1 fun t pt st => pe_callTy b1_int hg hmg (boot (by simp [b1Name])) pt hn hd (star_cons st) rfl
      | bool => exact go h1 fun t pt st => pe_callTy b1_bool hg hmg (boot (by simp [b1Name])) pt hn hd (star_cons st) rfl
      | abs => exact go h1 fun t pt st => pe_callB b1_abs hg hmg (boot (by simp [b1Name])) pt hn hd (star_cons st) rfl
      | sum => exact go h1 fun t pt st => pe_callB (b1_sum hc) hg hmg (boot (by simp [b1Name])) pt hn hd (star_cons st) rfl
      | list => exact go h1 fun t pt st => pe_callTy b1_list hg hmg (boot (by simp [b1Name])) pt hn hd (star_cons st) rfl
      | tuple => exact go h1 fun t pt st => pe_callTy b1_tuple hg hmg (boot (by simp [b1Name])) pt hn hd (star_cons st) rfl
      | all => exact go h1 fun t pt st => pe_callB (b1_all hc) hg hmg (boot (by simp [b1Name])) pt hn hd (star_cons st) rfl
      | any => exact go h1 fun t pt st => pe_callB (b1_any hc) hg hmg (boot (by simp [b1Name])) pt hn hd (star_cons st) rfl
      | min => exact go h1 fun t pt st => pe_callB (b1_min hc) hg hmg (boot (by simp [b1Name])) pt hn hd (star_cons st) rfl
      | max => exact go h1 fun t pt st => pe_callB (b1_max hc) hg hmg (boot (by simp [b1Name])) pt hn hd (star_cons st) rfl
      | sorted => cases h1
      | sortedset => cases h1
    · cases h
  | .b2 b a c, X, ex, o, h => by
    unfold ckE at h
    split at h
    · rename_i x p y z pos
      simp only [Bool.and_eq_true] at h
      obtain ⟨⟨⟨⟨h0, h1⟩, h2⟩, n1⟩, n2⟩ := h
      obtain ⟨rfl, hg, hm, hd⟩ := blt_of h0
      have hn := bltNames_nn _ hm
      have hmg := o.blt hm
      have hc := o.gd.calm
      have s1 := ck_star h1
      have s2 := ck_star h2
      have pl : (backTo pos (starEach [z] X.env)).any (·.1) = false := star_plain fun e he => by simp at he; subst he; exact s2
      refine snd_plain rfl (re_imp (re_b2 (b := b) (snd_none n1 (sE Z a X _ o h1)) (snd_none n2 (sE Z c X _ o h2)) (fun t pt => ?_) (star_cons s1) (star_cons s2)) fun r => by simp only [ev])
      cases b with
      | min => exact pe_callB (b2_min hc) hg hmg (boot (by simp [b2Name])) pt hn hd (star_cons s1) pl
      | max => exact pe_callB (b2_max hc) hg hmg (boot (by simp [b2Name])) pt hn hd (star_cons s1) pl
    · cases h
  | .isi a t, X, ex, o, h => by
    unfold ckE at h
    split at h
    · rename_i x p y z pz pos
      simp only [Bool.and_eq_true] at h
      obtain ⟨⟨⟨h0, h1⟩, n1⟩, h2⟩ := h
      obtain ⟨rfl, hg, hm, hd⟩ := blt_of h0
      obtain ⟨rfl, hg2, hm2, hd2⟩ := blt_of h2
      have hn := bltNames_nn _ hm
      have s1 := ck_star h1
      have ht : PE X (.Name (tyS t) pz) (tC (.ty (tyN t))) := pe_bltn hg2 (o.blt hm2) (u := .type (tyN t)) (by cases t <;> exact boot (by simp [tyS, tyN])) rfl (bltNames_nn _ hm2) hd2
      exact snd_plain rfl (re_imp (re_isi (snd_none n1 (sE Z a X _ o h1)) ht (fun u pu => pe_callB (isi_F t) hg (o.blt hm) (boot (by simp)) pu hn hd (star_cons s1) rfl) (star_cons s1) rfl) fun r => by simp only [ev])
    · cases h
  | .pop i, X, ex, o, h => by
    unfold ckE at h
    split at h
    · simp only [Bool.and_eq_true, decide_eq_true_eq] at h
      obtain ⟨⟨⟨h1, h2⟩, rfl⟩, h3⟩ := h
      obtain ⟨v1, v2, v3, v4⟩ := var_of h1
      exact snd_plain rfl (re_imp (re_pop (o.N ▸ v1) v2 v3 v4 h2 h3) fun r => by simp only [ev] <;> rfl)
    · cases h
  | .mth m i a, X, ex, o, h => by
    unfold ckE at h
    split at h
    · simp only [Bool.and_eq_true, decide_eq_true_eq] at h
      obtain ⟨⟨⟨⟨⟨h1, h2⟩, rfl⟩, h3⟩, h4⟩, h5⟩ := h
      obtain ⟨v1, v2, v3, v4⟩ := var_of h1
      have s1 := ck_star h4
      refine snd_plain rfl ?_
      cases m with
      | append =>
        have hb : bo a = none := isNone_of (by simpa using h5)
        refine re_imp (re_mth (bid := "list.append") (R := rAppend) (m := .append) (o.N ▸ v1) v2 v3 v4 h2 (sE Z a X _ o h4).1 (fun to t po pt => pe_bm PySem.F.plainAttrs_list PySem.F.slot_list_append PySem.F.type_list_append mt_append po pt attr_name (star_few s1) h3 (star_cons s1) rfl) (star_cons s1)
          fun A H a vs ds v d y ds' Q g1 g2 g3 g4 g5 g6 => m1_append g1 g2 (g4 hb) g5 g6) fun r => by simp only [ev] <;> rfl
      | extend =>
        refine re_imp (re_mth (bid := "list.extend") (R := rExtend) (m := .extend) (o.N ▸ v1) v2 v3 v4 h2 (sE Z a X _ o h4).1 (fun to t po pt => pe_bm PySem.F.plainAttrs_list PySem.F.slot_list_extend PySem.F.type_list_extend mt_extend po pt attr_name (star_few s1) h3 (star_cons s1) rfl) (star_cons s1)
          fun A H a vs ds v d y ds' Q g1 g2 g3 g4 g5 g6 => m1_extend g1 g2 g3 g5 g6) fun r => by simp only [ev] <;> rfl
      | pop =>
        refine re_imp (re_mth (bid := "list.pop") (R := rPopAt) (m := .pop) (o.N ▸ v1) v2 v3 v4 h2 (sE Z a X _ o h4).1 (fun to t po pt => pe_bm PySem.F.plainAttrs_list PySem.F.slot_list_pop PySem.F.type_list_pop mt_popAt po pt attr_name (star_few s1) h3 (star_cons s1) rfl) (star_cons s1)
          fun A H a vs ds v d y ds' Q g1 g2 g3 g4 g5 g6 => m1_pop g1 g2 g3 g5 g6) fun r => by simp only [ev] <;> rfl
    · cases h
  | .get a b, X, ex, o, h => by
    unfold ckE at h
    split at h
    · simp only [Bool.and_eq_true, decide_eq_true_eq] at h
      obtain ⟨⟨⟨⟨rfl, h1⟩, h2⟩, h3⟩, h4⟩ := h
      have s1 := ck_star h3
      exact snd_plain rfl (re_imp (re_get o.u1 ⟨attr_obj h4, star_few s1, h1, star_trees s1⟩ (sE Z a X _ o h2).1 (sE Z b X _ o h3).1) fun r => by simp only [ev, stb_bo] <;> rfl)
    · cases h
  | .get2 _ _ _, X, ex, o, h => by unfold ckE at h; cases h
  | .lc el tg it ifs own, X, ex, o, h => by
    unfold ckE at h
    split at h
    · rename_i elt tgx iter ifsx scope pos
      simp only [Bool.and_eq_true, decide_eq_true_eq, Bool.not_eq_true', List.all_eq_true] at h
      obtain ⟨⟨⟨⟨⟨⟨⟨⟨⟨⟨h1, h2⟩, h3⟩, h4⟩, h5⟩, h6⟩, h7⟩, h8⟩, h9⟩, h10⟩, h11⟩ := h
      have ri := sIt Z it X iter tgx o h1
      obtain ⟨wi, pwi, hw⟩ := ri
      have bk := blkOk_by h7
      rw [← o.N] at bk
      refine snd_plain rfl (re_imp (re_lcT (me := ev F el) (mi := evIfs F ifs) (mt := evIt F it) (fe := frs Z.T el) (tg := tg) (it := it) h9 h10 h11 hw ?_) fun r => by simp only [ev] <;> rfl)
      rw [← h8]
      refine pe_lc o.gd.calm o.gd.nd pwi bk (fun s H C cl fp => ?_) (fun s H C cl fp => ?_) (fun s H C cl fp => ?_) (fold_no h2)
      · have := (sT (X := X.blk s H scope (compEnvC scope cl C X.env) fp) (Z := Z) (fn := blkFn scope) o.gd.calm o.gd.nd o.N (fun x hx => hx) tg tgx h3).1.can
        exact this
      · exact sIf Z ifs (X.blk s H scope (compEnvC scope cl C X.env) fp) ifsx (o.blk s H scope _ fp) h4
      · exact (snd_none h6 (sE Z el (X.blk s H scope (compEnvC scope cl C X.env) fp) elt (o.blk s H scope _ fp) h5)).can
    · cases h
theorem sEs {F : Fns} {k : Nat} (Z : Sx) : ∀ (is : List E) (X : Cx) (xs : List Expr), Okx X Z F k → ckEs Z X.env.scope is xs = true → RA X Z.ks is (evs F is) xs ∧ ∀ x ∈ xs, isStar x = false
  | [], X, xs, o, h => by
    cases xs with
    | nil => exact ⟨by simpa only [evs] using (ra_nil : RA X Z.ks [] (fun r => some ([], r)) []), fun x hx => by cases hx⟩
    | cons x xs => unfold ckEs at h; cases h
  | i :: is, X, xs, o, h => by
    cases xs with
    | nil => unfold ckEs at h; cases h
    | cons x xs =>
      unfold ckEs at h
      simp only [Bool.and_eq_true] at h
      obtain ⟨h1, h2⟩ := sEs Z is X xs o h.2
      have s1 := ck_star h.1
      refine ⟨?_, fun y hy => ?_⟩
      · have := ra_cons (star_cons s1) (sE Z i X x o h.1).1 h1
        have e : evs F (i :: is) = fun r => (ev F i r).bind fun p => (evs F is p.2).map fun q => (p.1 :: q.1, q.2) := by funext r; simp only [evs]
        rw [e]; exact this
      · rcases List.mem_cons.mp hy with rfl | hy
        · exact s1
        · exact h2 y hy
theorem sIf {F : Fns} {k : Nat} (Z : Sx) : ∀ (is : List E) (X : Cx) (xs : List Expr), Okx X Z F k → ckIf Z X.env.scope is xs = true → RTs X Z.ks (evIfs F is) xs
  | [], X, xs, o, h => by
    cases xs with
    | nil => simpa only [evIfs] using (rts_nil : RTs X Z.ks (fun r => some (true, r)) [])
    | cons x xs => unfold ckIf at h; cases h
  | i :: is, X, xs, o, h => by
    unfold ckIf at h
    split at h
    · simp only [Bool.and_eq_true, List.isEmpty_iff] at h
      obtain ⟨h1, rfl⟩ := h
      have e : evIfs F [i] = tstM (ev F i) := by
        funext r; simp only [evIfs, tstM]
        cases ev F i r with
        | none => rfl
        | some p =>
          simp only [Option.bind_some]
          cases tru p.1 with
          | none => rfl
          | some b => cases b <;> rfl
      rw [e]
      exact rts_one (sE Z i X _ o h1).2.1
    · cases h
theorem sIt {F : Fns} {k : Nat} (Z : Sx) : ∀ (it : It) (X : Cx) (ex tg : Expr), Okx X Z F k → ckIt Z X.env.scope it ex = true → RI X Z.ks it (evIt F it) tg ex
  | .seq a, X, ex, tg, o, h => by
    unfold ckIt at h
    have e : evIt F (.seq a) = fun r => (ev F a r).bind fun p => (elems p.1).map fun ds => (ds, p.2) := by funext r; simp only [evIt]
    rw [e]; exact ri_seq (sE Z a X _ o h).1
  | .rng1 a, X, ex, tg, o, h => by
    unfold ckIt at h
    split at h
    · simp only [Bool.and_eq_true] at h
      obtain ⟨⟨h0, h1⟩, n1⟩ := h
      obtain ⟨rfl, hg, hm, hd⟩ := blt_of h0
      have e : evIt F (.rng1 a) = fun r => (ev F a r).bind fun p => match p.1 with | .int i => gd (mid i = true) (some (rngD 0 i, p.2)) | _ => none := by funext r; simp only [evIt] <;> rfl
      rw [e]; exact ri_rng1 hg (o.blt hm) (snd_none n1 (sE Z a X _ o h1)) (star_cons (ck_star h1))
    · cases h
  | .rng2 a b, X, ex, tg, o, h => by
    unfold ckIt at h
    split at h
    · simp only [Bool.and_eq_true] at h
      obtain ⟨⟨⟨⟨h0, h1⟩, h2⟩, n1⟩, n2⟩ := h
      obtain ⟨rfl, hg, hm, hd⟩ := blt_of h0
      have e : evIt F (.rng2 a b) = fun r => (ev F a r).bind fun p => (ev F b p.2).bind fun q => match p.1, q.1 with | .int i, .int j => gd (mid i = true ∧ mid j = true) (some (rngD i j, q.2)) | _, _ => none := by funext r; simp only [evIt] <;> rfl
      rw [e]; exact ri_rng2 hg (o.blt hm) (snd_none n1 (sE Z a X _ o h1)) (snd_none n2 (sE Z b X _ o h2)) (by rw [star_cons (ck_star h1), star_cons (ck_star h2)]; rfl) (star_cons (ck_star h2))
    · cases h
  | .zip _ _, X, ex, tg, o, h => by unfold ckIt at h; cases h
end
end
end Fw
/-! Fw: statements. -/
namespace Fw
open PySem L2
/-! ### what a statement leaves -/
structure Ft (K : PySem.W.Frag) (ks : List Kd) (O : Addr → Prop) (al : List Nat) (ow : Nat → Addr) (r : Env) (H : Hp) (ow' : Nat → Addr) (g' : St) (r' : Env) (H' : Hp) : Prop where
  sr : SR K ks O ow' g' H' r'
  st : Stp ks ow r H ow' r' H'
  ow : ∀ i, i ∉ al → ow' i = ow i
/-- a value that a def gives back -/
inductive Rv (K : PySem.W.Frag) (ks : List Kd) (O : Addr → Prop) (ow : Nat → Addr) (r : Env) (H : Hp) (fr : Bool) (d : D) (ow' : Nat → Addr) (g' : St) (r' : Env) : V → Hp → Prop
  | val {v : V} {H' : Hp} : SR K ks O ow' g' H' r' → Rep (Av ks O ow' r') K H' v d → (fr = true → isC d = false) → Rv K ks O ow r H fr d ow' g' r' v H'
  | own {a : Addr} {H' : Hp} : ¬ Av ks O ow' r' a → (OLn ks ow r a ∨ H a = none) → SR K ks (fun b => O b ∨ b = a) ow' g' H' r' → Own (Av ks (fun b => O b ∨ b = a) ow' r') K H' a d → Rv K ks O ow r H fr d ow' g' r' (.ref a) H'
def Wp (K : PySem.W.Frag) (ks : List Kd) (O : Addr → Prop) (fr : Bool) (al : List Nat) (ow : Nat → Addr) (r : Env) (H : Hp) (o : Out) (Dn : Ends) : Prop := match o with
  | .nx r' => ∀ ow' g' H', Ft K ks O al ow r H ow' g' r' H' → Dn.nx g' H'
  | .bk r' => ∀ ow' g' H', Ft K ks O al ow r H ow' g' r' H' → Dn.bk g' H'
  | .ct r' => ∀ ow' g' H', Ft K ks O al ow r H ow' g' r' H' → Dn.ct g' H'
  | .rt d r' => ∀ ow' g' v H', Stp ks ow r H ow' r' H' → Rv K ks O ow r H fr d ow' g' r' v H' → Dn.rt v H'
section
variable {K : PySem.W.Frag} {ks : List Kd} {O : Addr → Prop} {fr : Bool} {al al2 : List Nat} {ow ow1 ow2 : Nat → Addr} {g g1 g2 : St} {H H1 H2 : Hp} {r r1 r2 : Env} {o : Out} {Dn : Ends}
theorem Ft.refl (s : SR K ks O ow g H r) : Ft K ks O al ow r H ow g r H := ⟨s, Stp.refl, fun _ _ => rfl⟩
theorem Ft.trans (a : Ft K ks O al ow r H ow1 g1 r1 H1) (b : Ft K ks O al ow1 r1 H1 ow2 g2 r2 H2) : Ft K ks O al ow r H ow2 g2 r2 H2 := ⟨b.sr, a.st.trans b.st, fun i h => (b.ow i h).trans (a.ow i h)⟩
theorem Ft.more (a : Ft K ks O al ow r H ow1 g1 r1 H1) (h : ∀ i ∈ al, i ∈ al2) : Ft K ks O al2 ow r H ow1 g1 r1 H1 := ⟨a.sr, a.st, fun i n => a.ow i fun z => n (h i z)⟩
theorem OLn.back {a : Addr} (s : Stp ks ow r H ow1 r1 H1) (h : OLn ks ow1 r1 a ∨ H1 a = none) : OLn ks ow r a ∨ H a = none := by
  rcases h with ⟨j, dj, ej, kj, rfl⟩ | h
  · rcases s.base j dj ej (by rw [kj]; exact fun z => nomatch z) with h | ⟨hk, _⟩ | h
    · exact .inl h
    · rw [kj] at hk; cases hk
    · exact .inr h
  · cases q0 : H a with
    | none => exact .inr rfl
    | some o => exact absurd h (s.kp.dom _ (by rw [q0]; exact fun z => nomatch z))
theorem Rv.back {d : D} {v : V} (s : Stp ks ow r H ow1 r1 H1) (h : Rv K ks O ow1 r1 H1 fr d ow2 g2 r2 v H2) : Rv K ks O ow r H fr d ow2 g2 r2 v H2 := by
  cases h with
  | val a b c => exact .val a b c
  | own a b c e => exact .own a (OLn.back s b) c e
theorem Wp.chain (a : Ft K ks O al ow r H ow1 g1 r1 H1) (w : Wp K ks O fr al ow r H o Dn) : Wp K ks O fr al ow1 r1 H1 o Dn := by
  cases o with
  | nx r' => exact fun ow' g' H' f => w ow' g' H' (a.trans f)
  | bk r' => exact fun ow' g' H' f => w ow' g' H' (a.trans f)
  | ct r' => exact fun ow' g' H' f => w ow' g' H' (a.trans f)
  | rt d r' => exact fun ow' g' v H' f q => w ow' g' v H' (a.st.trans f) (q.back a.st)
theorem Wp.less (h : ∀ i ∈ al, i ∈ al2) (w : Wp K ks O fr al2 ow r H o Dn) : Wp K ks O fr al ow r H o Dn := by
  cases o with
  | nx r' => exact fun ow' g' H' f => w ow' g' H' (f.more h)
  | bk r' => exact fun ow' g' H' f => w ow' g' H' (f.more h)
  | ct r' => exact fun ow' g' H' f => w ow' g' H' (f.more h)
  | rt d r' => exact w
theorem Form.rv {d : D} {v : V} (f : Form K ks O ow g1 H r none fr d r1 v H1) : Rv K ks O ow r H fr d ow g1 r1 v H1 := by
  cases f with
  | val a b c => exact .val a b c
  | own a b c e => exact .own a b c e
theorem Rv.weak {d : D} {v : V} {fa : Bool} (f : Rv K ks O ow r H fa d ow1 g1 r1 v H1) (h : fr = true → fa = true) : Rv K ks O ow r H fr d ow1 g1 r1 v H1 := by
  cases f with
  | val a b c => exact .val a b fun z => c (h z)
  | own a b c e => exact .own a b c e
end
/-- the statement's text does what its meaning says -/
def RS (X : Cx) (ks : List Kd) (fr : Bool) (al : List Nat) (m : Env → Option Out) (st : Stmt) : Prop := ∃ t, PS X st t ∧ ∀ O ow g H r o, SR X.K ks O ow g H r → m r = some o → ∀ Dn, Wp X.K ks O fr al ow r H o Dn → t Dn g H
def RSs (X : Cx) (ks : List Kd) (fr : Bool) (al : List Nat) (m : Env → Option Out) (st : List Stmt) : Prop := ∃ t, PSs X st t ∧ ∀ O ow g H r o, SR X.K ks O ow g H r → m r = some o → ∀ Dn, Wp X.K ks O fr al ow r H o Dn → t Dn g H
section
variable {X : Cx} {ks : List Kd} {fr : Bool} {al al2 : List Nat} {pos : Pos}
theorem RS.more {m : Env → Option Out} {st : Stmt} (h : RS X ks fr al m st) (ha : ∀ i ∈ al, i ∈ al2) : RS X ks fr al2 m st := by
  obtain ⟨t, p, q⟩ := h
  exact ⟨t, p, fun O ow g H r o s e Dn w => q O ow g H r o s e Dn (w.less ha)⟩
theorem RSs.more {m : Env → Option Out} {st : List Stmt} (h : RSs X ks fr al m st) (ha : ∀ i ∈ al, i ∈ al2) : RSs X ks fr al2 m st := by
  obtain ⟨t, p, q⟩ := h
  exact ⟨t, p, fun O ow g H r o s e Dn w => q O ow g H r o s e Dn (w.less ha)⟩
theorem rs_imp {m m' : Env → Option Out} {st : Stmt} (h : RS X ks fr al m st) (e : ∀ r, m' r = m r) : RS X ks fr al m' st := by
  have : m' = m := funext e
  rw [this]; exact h
theorem rss_nil : RSs X ks fr al (fun r => some (.nx r)) [] := ⟨_, pss_nil, fun O ow g H r o s e Dn w => by cases e; exact w ow g H (.refl s)⟩
theorem rss_cons {m : Env → Option Out} {ms : Env → Option Out} {st : Stmt} {sts : List Stmt} (h : RS X ks fr al m st) (h2 : RSs X ks fr al ms sts) :
    RSs X ks fr al (fun r => (m r).bind fun o => match o with | .nx r' => ms r' | o => some o) (st :: sts) := by
  obtain ⟨t, p, q⟩ := h
  obtain ⟨u, p2, q2⟩ := h2
  refine ⟨_, pss_cons p p2, fun O ow g H r o s e Dn w => ?_⟩
  obtain ⟨o1, e1, e⟩ := bindS e
  refine q O ow g H r o1 s e1 _ ?_
  cases o1 with
  | nx r' => exact fun ow' g' H' f => q2 O ow' g' H' r' o f.sr e Dn (w.chain f)
  | bk r' => cases e; exact w
  | ct r' => cases e; exact w
  | rt d r' => cases e; exact w
theorem rs_pass : RS X ks fr al (fun r => some (.nx r)) (.Pass pos) := ⟨_, ps_pass, fun O ow g H r o s e Dn w => by cases e; exact w ow g H (.refl s)⟩
theorem rs_break : RS X ks fr al (fun r => some (.bk r)) (.Break pos) := ⟨_, ps_break, fun O ow g H r o s e Dn w => by cases e; exact w ow g H (.refl s)⟩
theorem rs_cont : RS X ks fr al (fun r => some (.ct r)) (.Continue pos) := ⟨_, ps_continue, fun O ow g H r o s e Dn w => by cases e; exact w ow g H (.refl s)⟩
theorem rs_doc {x : Str} {j : Nat} {p : Pos} : RS X ks fr al (fun r => some (.nx r)) (.Expr (.Constant (.str x) j p) pos) := ⟨_, ps_doc, fun O ow g H r o s e Dn w => by cases e; exact w ow g H (.refl s)⟩
theorem rs_retn (hf : fr = false) : RS X ks fr al (fun r => some (.rt .non r)) (.Return none pos) :=
  ⟨_, ps_retN, fun O ow g H r o s e Dn w => by cases e; exact w ow g _ H Stp.refl (.val s .non fun z => by rw [hf] at z; cases z)⟩
theorem rs_ret {fa : Bool} {m : Env → Option (D × Env)} {ex : Expr} (h : RE X ks none fa m ex) (hf : fr = true → fa = true) : RS X ks fr al (fun r => (m r).map fun p => .rt p.1 p.2) (.Return (some ex) pos) := by
  obtain ⟨t, p, q⟩ := h
  refine ⟨_, ps_ret p, fun O ow g H r o s e Dn w => ?_⟩
  obtain ⟨⟨d, r'⟩, e1, e⟩ := mapS e
  cases e
  exact q O ow g H r d r' s e1 _ fun v H' ⟨s1, f1⟩ => w ow g v H' s1 (f1.rv.weak hf)
theorem rs_expr {fa : Bool} {b : Option Nat} {m : Env → Option (D × Env)} {ex : Expr} (h : RE X ks b fa m ex) (hs : swapsWith ex none pos.line X.env = pure false) : RS X ks fr al (fun r => (m r).map fun p => .nx p.2) (.Expr ex pos) := by
  obtain ⟨t, p, q⟩ := h
  refine ⟨_, ps_expr p hs, fun O ow g H r o s e Dn w => ?_⟩
  obtain ⟨⟨d, r'⟩, e1, e⟩ := mapS e
  cases e
  exact q O ow g H r d r' s e1 _ fun v H' ⟨s1, f1⟩ => w ow g H' ⟨f1.sr, s1, fun _ _ => rfl⟩
theorem rs_if {c : Expr} {a b : List Stmt} {mc : Env → Option (Bool × Env)} {ma mb : Env → Option Out} (hc : RT X ks mc c) (ha : RSs X ks fr al ma a) (hb : RSs X ks fr al mb b) :
    RS X ks fr al (fun r => (mc r).bind fun p => if p.1 = true then ma p.2 else mb p.2) (.If c a b pos) := by
  obtain ⟨tc, pc, qc⟩ := hc
  obtain ⟨ta, pa, qa⟩ := ha
  obtain ⟨tb, pb, qb⟩ := hb
  refine ⟨_, ps_if pc pa pb, fun O ow g H r o s e Dn w => ?_⟩
  obtain ⟨⟨k, r1⟩, e1, e⟩ := bindS e
  refine qc O ow g H r k r1 s e1 _ fun H1 s1 st1 => ?_
  have f : Ft X.K ks O al ow r H ow g r1 H1 := ⟨s1, st1, fun _ _ => rfl⟩
  cases k with
  | true => exact iteT (qa O ow g H1 r1 o s1 e Dn (w.chain f))
  | false => exact iteF (qb O ow g H1 r1 o s1 e Dn (w.chain f))
/-- an assignment to a name, before the store -/
def RAs (X : Cx) (ks : List Kd) (b : Option Nat) (fr : Bool) (m : Env → Option (D × Env)) (i : Nat) (st : Stmt) : Prop := ∃ t, PS X st (tAsg t (gName i)) ∧ ∀ O ow g H r d r', SR X.K ks O ow g H r → m r = some (d, r') →
  ∀ Q : VK, (∀ v H', Post X.K ks O ow g H r b fr d r' v H' → Q v H') → t g H Q
theorem rs_asg {i : Nat} {fa : Bool} {m : Env → Option (D × Env)} {st : Stmt} (h : RAs X ks none fa m i st) (hk : kd ks i = .val) : RS X ks fr al (fun r => (m r).map fun p => .nx (p.2.set i (some p.1))) st := by
  obtain ⟨t, p, q⟩ := h
  refine ⟨_, p, fun O ow g H r o s e Dn w => ?_⟩
  obtain ⟨⟨d, r'⟩, e1, e⟩ := mapS e
  cases e
  refine q O ow g H r d r' s e1 _ fun v H' ⟨s1, f1⟩ => ?_
  refine w ow _ H' ⟨f1.sr.put hk f1.rep, s1.fewer fun j e hj h => ?_, fun _ _ => rfl⟩
  rw [List.getElem?_set] at h
  split at h
  · rename_i ej; subst ej; exact absurd hk hj
  · exact ⟨_, h⟩
theorem rs_own {i : Nat} {m : Env → Option (D × Env)} {st : Stmt} (h : RAs X ks none true m i st) (hk : kd ks i = .own) (hi : i ∈ al) :
    RS X ks fr al (fun r => (m r).bind fun p => match p.1 with
    | .lst ds => some (.nx (p.2.set i (some (.lst ds))))
    | .dic ds => some (.nx (p.2.set i (some (.dic ds))))
    | _ => none) st := by
  obtain ⟨t, p, q⟩ := h
  refine ⟨_, p, fun O ow g H r o s e Dn w => ?_⟩
  obtain ⟨⟨d, r'⟩, e1, e⟩ := bindS e
  have hc : isC d = true ∧ o = .nx (r'.set i (some d)) := by
    cases d <;> simp only at e <;> first | (cases e; exact ⟨rfl, rfl⟩) | cases e
  obtain ⟨hc, rfl⟩ := hc
  refine q O ow g H r d r' s e1 _ fun v H' ⟨s1, f1⟩ => ?_
  have hk' : kd ks i ≠ .val := by rw [hk]; exact fun z => nomatch z
  cases f1 with
  | val a b c => rw [c rfl] at hc; cases hc
  | own na hb sr ow1 =>
    rename_i a _pp
    let ow' : Nat → Addr := fun j => if j = i then a else ow j
    have owi : ow' i = a := if_pos rfl
    have own' : ∀ j, j ≠ i → ow' j = ow j := fun j h => if_neg h
    have get : ∀ j e, (r'.set i (some d))[j]? = some (some e) → (j = i ∧ e = d) ∨ (j ≠ i ∧ r'[j]? = some (some e)) := fun j e h => by
      rw [List.getElem?_set] at h
      split at h
      · rename_i ej
        split at h
        · cases h; exact .inl ⟨ej.symm, rfl⟩
        · cases h
      · rename_i ej; exact .inr ⟨fun z => ej z.symm, h⟩
    have hA : ∀ b, H' b ≠ none → Av ks O ow' (r'.set i (some d)) b → Av ks (fun b => O b ∨ b = a) ow r' b := fun b _ z => by
      rcases z with z | ⟨j, e, h, k, z⟩
      · exact .inl (.inl z)
      · rcases get j e h with ⟨rfl, _⟩ | ⟨n, h⟩
        · exact .inl (.inr (z.trans owi))
        · exact .inr ⟨j, e, h, k, z.trans (own' j n)⟩
    have nol : ∀ j e, r'[j]? = some (some e) → kd ks j ≠ .val → ow j ≠ a := fun j e h k z => na (.inr ⟨j, e, h, k, z.symm⟩)
    refine w ow' (g.set i (some (.ref a))) H' ⟨⟨?_, fun j e h k => ?_, fun j e h k => ?_, fun j l e f h1 h2 k1 k2 n => ?_, fun b z => sr.odom b (.inl z)⟩, ⟨s1.kp, fun j e h k => ?_, fun j k => ?_⟩, fun j n => own' j fun z => n (z ▸ hi)⟩
    · rw [List.length_set, List.length_set]; exact sr.len
    · rcases get j e h with ⟨rfl, _⟩ | ⟨n, h⟩
      · exact absurd k hk'
      · obtain ⟨v, hv, hr⟩ := sr.val j e h k
        exact ⟨v, by rw [List.getElem?_set_ne (Ne.symm n)]; exact hv, hr.weak hA⟩
    · rcases get j e h with ⟨rfl, rfl⟩ | ⟨n, h0⟩
      · rw [owi]
        refine ⟨?_, fun z => na (.inl z), ow1.weak hA⟩
        have hl : j < r'.length := by
          rcases Nat.lt_or_ge j r'.length with q | q
          · exact q
          · rw [List.getElem?_eq_none (by rw [List.length_set]; exact q)] at h; cases h
        rw [List.getElem?_set_self (by rw [← sr.len]; exact hl)]
      · rw [own' j n, List.getElem?_set_ne (Ne.symm n)]
        obtain ⟨h1, h2, h3⟩ := sr.own j e h0 k
        exact ⟨h1, fun z => h2 (.inl z), h3.weak hA⟩
    · rcases get j e h1 with ⟨rfl, _⟩ | ⟨n1, g1⟩ <;> rcases get l f h2 with ⟨rfl, _⟩ | ⟨n2, g2⟩
      · exact absurd rfl n
      · rw [owi, own' l n2]; exact Ne.symm (nol l _ g2 k2)
      · rw [owi, own' j n1]; exact nol j _ g1 k1
      · rw [own' j n1, own' l n2]; exact sr.inj j l _ _ g1 g2 k1 k2 n
    · rcases get j e h with ⟨rfl, _⟩ | ⟨n, h⟩
      · rw [owi]
        rcases hb with hb | hb
        · exact .inl hb
        · exact .inr (.inr hb)
      · rw [own' j n]; exact s1.base j e h k
    · exact (own' j fun z => by rw [z, hk] at k; cases k).trans (s1.io j k)
end
end Fw
/-! Fw: stores, loops. -/
namespace Fw
open PySem L2
section
variable {X : Cx} {ks : List Kd} {fr : Bool} {al : List Nat} {pos : Pos}
theorem ps_or {st : Stmt} {t u : TS} (h : PS X st t) (h2 : PS X st u) : PS X st (fun Dn σ H => t Dn σ H ∨ u Dn σ H) :=
  ⟨fun pins s σ H Dn I w => w.elim (h.run pins s σ H Dn I) (h2.run pins s σ H Dn I)⟩
theorem Rep.vals {K : PySem.W.Frag} {O : Addr → Prop} {ow : Nat → Addr} {H : Hp} {r : Env} {v : V} {d e : D} {i : Nat} (hk : kd ks i = .val) (h : Rep (Av ks O ow r) K H v d) : Rep (Av ks O ow (r.set i (some e))) K H v d :=
  h.weak fun a _ z => by
    rcases z with z | ⟨j, f, hj, k, z⟩
    · exact .inl z
    · rw [List.getElem?_set] at hj
      split at hj
      · rename_i ej; subst ej; exact absurd hk k
      · exact .inr ⟨j, f, hj, k, z⟩
theorem Stp.vals {ow ow1 : Nat → Addr} {r r1 : Env} {H H1 : Hp} {e : D} {i : Nat} (hk : kd ks i = .val) (s : Stp ks ow r H ow1 r1 H1) : Stp ks ow r H ow1 (r1.set i (some e)) H1 :=
  s.fewer fun j f k h => by
    rw [List.getElem?_set] at h
    split at h
    · rename_i ej; subst ej; exact absurd hk k
    · exact ⟨f, h⟩
theorem rs_unp {tg : Tg} {fa : Bool} {m : Env → Option (D × Env)} {tx ex : Expr} (h : RE X ks none fa m ex) (hg : RG X ks tg tx) (hs : swapsWithSole [tx] ex pos.line X.env = pure false) (hw : swappedStores [tx] ex X.env = pure none) (h1 : (assignEach [tx] X.env).map (·.2) = [assign tx X.env]) :
    RS X ks fr al (fun r => (m r).bind fun p => (put tg p.1 p.2).map .nx) (.Assign [tx] ex pos) := by
  obtain ⟨t, p, q⟩ := h
  obtain ⟨u, pu, qu⟩ := hg
  refine ⟨_, ps_asg p pu hs hw h1, fun O ow g H r o s e Dn w => ?_⟩
  obtain ⟨⟨d, r1⟩, e1, e⟩ := bindS e
  obtain ⟨r2, e2, e⟩ := mapS e
  cases e
  refine q O ow g H r d r1 s e1 _ fun v H1 ⟨s1, f1⟩ => ?_
  refine qu O ow g H1 r1 d v r2 f1.sr f1.rep e2 _ fun g' pt => ?_
  exact w ow g' H1 ⟨pt.sr, s1.trans pt.st, fun _ _ => rfl⟩
theorem rs_par {i j : Nat} {a b : E} {m : Env → Option (List D × Env)} {x y : Str} {px py pt pt2 : Pos} {kt k2 : Nat} {xa xb : Expr} (hc : X.calm = true) (hN : X.N.Nodup) (hi : X.N[i]? = some x) (hj : X.N[j]? = some y) (hij : i ≠ j)
    (hx : X.env.scope.names.lookup x = some .local) (hy : X.env.scope.names.lookup y = some .local) (ki : kd ks i = .val) (kj : kd ks j = .val) (ha : RA X ks [a, b] m [xa, xb]) (na : bo a = none) (nb : bo b = none)
    (hw : swappedStores [.Tuple [.Name x px, .Name y py] kt pt] (.Tuple [xa, xb] k2 pt2) X.env = pure (some [x, y])) :
    RS X ks fr al (fun r => (m r).bind fun p => match p.1 with | [d, e] => some (.nx ((p.2.set i (some d)).set j (some e))) | _ => none) (.Assign [.Tuple [.Name x px, .Name y py] kt pt] (.Tuple [xa, xb] k2 pt2) pos) := by
  obtain ⟨t, p, q⟩ := ha
  refine ⟨_, ps_par hc hN hi hj hij hx hy p hw rfl, fun O ow g H r o s e Dn w => ?_⟩
  obtain ⟨⟨ds, r1⟩, e1, e⟩ := bindS e
  refine q O ow g H r ds r1 s e1 _ fun vs H1 s1 st1 f => ?_
  have rr := f.reps fun z hz => by
    rcases List.mem_cons.mp hz with rfl | hz
    · exact na
    · rcases List.mem_cons.mp hz with rfl | hz
      · exact nb
      · cases hz
  cases rr with
  | nil => cases e
  | cons h1 rr => cases rr with
    | nil => cases e
    | cons h2 rr => cases rr with
      | cons h3 rr => cases e
      | nil =>
        cases e
        refine ⟨_, _, rfl, w ow _ H1 ⟨(s1.put ki h1).put kj (h2.vals ki), (st1.vals ki).vals kj, fun _ _ => rfl⟩⟩
/-! ### op= -/
def rAugD (op : Operator) : TIp := fun x y H Q => ∃ i j f, x = .int i ∧ y = .int j ∧ daug op (.int i) (.int j) = some f ∧ Q (.int f) H
theorem pip_aug (op : Operator) : PIp X op (rAugD op) := by
  intro pins s σ H x y v u Q I rx ry h
  obtain ⟨i, j, f, rfl, rfl, e, q⟩ := h
  cases op <;> simp only [daug] at e <;> try (cases e; done)
  · cases e; exact iop_add pins s σ H _ _ v u Q I rx ry ⟨i, j, rfl, rfl, q⟩
  · cases e; exact iop_sub pins s σ H _ _ v u Q I rx ry ⟨i, j, rfl, rfl, q⟩
  · split at e
    · rename_i hb
      cases e
      refine iop_mul pins s σ H _ _ v u Q I rx ry ⟨i, j, rfl, rfl, ?_, q⟩
      simp only [small, Bool.or_eq_true, Bool.and_eq_true, decide_eq_true_eq] at hb
      exact hb
    · cases e
theorem rs_aug {i : Nat} {x : Str} {fa : Bool} {m : Env → Option (D × Env)} {ex : Expr} {op : Operator} {pos' : Pos} (hN : X.N.Nodup) (hi : X.N[i]? = some x) (hx : Loc X.env.scope x) (hf : X.fn x = true ∨ X.env.scope.names.lookup x = some .local) (hk : kd ks i = .val) (h : RE X ks none fa m ex) :
    RS X ks fr al (fun r => (slot r i).bind fun x => (m r).bind fun p => (daug op x p.1).map fun d => .nx (p.2.set i (some (.int d)))) (.AugAssign (.Name x pos') op ex pos) := by
  obtain ⟨t, p, q⟩ := h
  refine ⟨_, ps_aug hN hi hx p (pip_aug op) hf, fun O ow g H r o s e Dn w => ?_⟩
  obtain ⟨d0, e0, e⟩ := bindS e
  obtain ⟨⟨d, r1⟩, e1, e⟩ := bindS e
  obtain ⟨f, e2, e⟩ := mapS e
  cases e
  obtain ⟨v0, hv, hr⟩ := s.val i d0 (slot_some e0) hk
  refine ⟨v0, hv, q O ow g H r d r1 s e1 _ fun v H1 ⟨s1, f1⟩ => ?_⟩
  have : ∃ a b, d0 = .int a ∧ d = .int b := by
    cases d0 <;> cases d <;> (try (simp [daug] at e2; done)) <;> exact ⟨_, _, rfl, rfl⟩
  obtain ⟨a, b, rfl, rfl⟩ := this
  cases hr
  have hv2 := f1.vw.int
  subst hv2
  exact ⟨a, b, f, rfl, rfl, e2, w ow _ H1 ⟨f1.sr.put hk (.int _), s1.vals hk, fun _ _ => rfl⟩⟩
/-! ### an item of one's own list or dict -/
theorem rs_set {i : Nat} {x : Str} {fa fb : Bool} {bk : Option Nat} {m mk : Env → Option (D × Env)} {ex kx : Expr} {p1 pos' : Pos} (hu : X.A.units + 1 < cLine) (hN : X.N[i]? = some x) (hv : Vis X.env.scope x) (h1 : (x == ("__debug__" : Str)) = false) (h2 : (x == ("__classdict__" : Str)) = false) (hk : kd ks i ≠ .val)
    (h : RE X ks none fa m ex) (hkx : RE X ks bk fb mk kx) (hsl : isSlice kx = false) (hs : swapsWith ex (some (.Subscript (.Name x p1) kx pos')) pos.line X.env = pure false) :
    RS X ks fr al (fun r => (m r).bind fun p => (slot p.2 i).bind fun _ => (mk p.2).bind fun q => match slot q.2 i with
    | some (.lst ds) => (match q.1 with | .int z => (ixN ds.length z).map fun j => .nx (q.2.set i (some (.lst (ds.set j p.1)))) | _ => none)
    | some (.dic ks) => (keyOf q.1).bind fun z => gd (ks.length < sizeLine) (some (.nx (q.2.set i (some (.dic (putD ks z p.1))))))
    | _ => none) (.Assign [.Subscript (.Name x p1) kx pos'] ex pos) := by
  obtain ⟨t, p, q⟩ := h
  obtain ⟨tk, pk, qk⟩ := hkx
  have pv : PE X (.Name x p1) (tVar i) := pe_var hN hv h1 h2
  refine ⟨_, ps_or (ps_asg p (pg_sub pv pk set_list (fun v => by cases kx <;> first | rfl | cases hsl)) hs rfl rfl) (ps_dput hu pv pk p hs), fun O ow g H r o s e Dn w => ?_⟩
  obtain ⟨⟨d, r1⟩, e1, e⟩ := bindS e
  obtain ⟨d0, e0, e⟩ := bindS e
  obtain ⟨⟨z, r2⟩, e2, e⟩ := bindS e
  cases hs2 : slot r2 i with
  | none => simp only [hs2] at e; cases e
  | some y =>
    simp only [hs2] at e
    cases y <;> simp only at e <;> try (cases e; done)
    · rename_i ds
      cases z <;> simp only at e <;> try (cases e; done)
      rename_i zi
      obtain ⟨j, ej, e⟩ := mapS e
      cases e
      refine .inl (q O ow g H r d r1 s e1 _ fun v H1 ⟨s1, f1⟩ => ?_)
      obtain ⟨g1, g2, g3⟩ := f1.sr.own i _ (slot_some e0) hk
      refine ⟨_, g1, qk O ow g H1 r1 _ r2 f1.sr e2 _ fun v2 H2 ⟨s2, f2⟩ => ?_⟩
      have hi := slot_some hs2
      obtain ⟨k1, k2, k3⟩ := f2.sr.own i _ hi hk
      cases k3 with
      | lst hh rr =>
        have hr := f1.rep.step s2
        obtain ⟨s3, st3⟩ := f2.sr.wr hi hk (.lst (rr.set hr j))
        exact ⟨_, _, _, j, rfl, f2.vw.int, hh, by rw [rr.length]; exact ej, w ow g _ ⟨s3, (s1.trans s2).trans st3, fun _ _ => rfl⟩⟩
    · rename_i kvs
      obtain ⟨k, ek, e⟩ := bindS e
      obtain ⟨hl, e⟩ := gd_some e
      cases e
      refine .inr (q O ow g H r d r1 s e1 _ fun v H1 ⟨s1, f1⟩ => ?_)
      obtain ⟨g1, g2, g3⟩ := f1.sr.own i _ (slot_some e0) hk
      refine ⟨_, g1, qk O ow g H1 r1 _ r2 f1.sr e2 _ fun v2 H2 ⟨s2, f2⟩ => ?_⟩
      have hi := slot_some hs2
      obtain ⟨k1, k2, k3⟩ := f2.sr.own i _ hi hk
      cases k3 with
      | dic hh rr =>
        have hr := f1.rep.step s2
        obtain ⟨s3, st3⟩ := f2.sr.wr hi hk (.dic (rr.put k hr))
        cases keyOf_kV f2.vw ek
        exact ⟨_, _, rfl, DPut.k hh (by rw [rr.length]; exact hl), w ow g _ ⟨s3, (s1.trans s2).trans st3, fun _ _ => rfl⟩⟩
/-! ### loops -/
noncomputable def turnM (tg : Tg) (it : It) (mb : Env → Option Out) (rb : Env) (d : D) (r' : Env) : Option Out := (put tg d r').bind fun r1 => (mb r1).bind fun o => match o with
  | .nx r2 => gd (stbIt it rb r2) (some o)
  | .ct r2 => gd (stbIt it rb r2) (some o)
  | _ => some o
theorem rs_for {tg : Tg} {it : It} {tx ix : Expr} {body : List Stmt} {mi : Env → Option (List D × Env)} {mb : Env → Option Out} {al2 : List Nat} (hp : PassesOwn (model X.prog X.w) X.A X.env X.xe) (hc : X.calm = true) (hi : RI X ks it mi tx ix) (hg : RG X ks tg tx) (hb : RSs X ks fr al2 mb body)
    (hs : ∀ x, foldedSetIterable ix X.env x = pure x) (ha : ∀ i ∈ al2, i ∈ al) (hbo : ∀ i ∈ bosIt it, i ∉ al2) : RS X ks fr al (fun r => (mi r).bind fun p => forLoop (turnM tg it mb p.2) p.1 p.2) (.For tx ix body [] pos) := by
  obtain ⟨ti, pi, qi⟩ := hi
  obtain ⟨tgx, pg, qg⟩ := hg
  obtain ⟨tb, pb, qb⟩ := hb
  refine RS.more (al := al2) ⟨_, ps_for hp hc pi pg pb hs, fun O ow g H r o s e Dn w => ?_⟩ ha
  obtain ⟨⟨ds, rb⟩, e1, e⟩ := bindS e
  refine qi O ow g H r ds rb s e1 _ fun J H1 s1 st1 wk => ?_
  obtain ⟨G, Y, wj, hY⟩ := wk.walk
  have f1 : Ft X.K ks O al2 ow r H ow g rb H1 := ⟨s1, st1, fun _ _ => rfl⟩
  refine for_it wj (fun i σ H' => ∃ ow' r', Ft X.K ks O al2 ow rb H1 ow' σ r' H' ∧ stbIt it rb r' ∧ forLoop (turnM tg it mb rb) (ds.drop i) r' = some o) ⟨ow, rb, .refl s1, stbIt_refl it rb, by rw [List.drop_zero]; exact e⟩ ?_ ?_ ?_
  · rintro i σ H' hi ⟨ow', r', f, sb, ef⟩
    exact (hY O ow' σ H' r' (fun a z => .inl z) f.sr f.st sb fun j hj => f.ow j (hbo j hj)).1
  · rintro i x σ H2 H3 hi ⟨ow', r', f, sb, ef⟩ hy
    have hd : ds[i]? = some ds[i] := List.getElem?_eq_getElem hi
    obtain ⟨hx1, hx2⟩ := (hY O ow' σ H2 r' (fun a z => .inl z) f.sr f.st sb fun j hj => f.ow j (hbo j hj)).2 i x H3 _ hd hy
    rw [List.drop_eq_getElem_cons hi] at ef
    simp only [forLoop] at ef
    obtain ⟨o1, e2, e3⟩ := bindS ef
    simp only [turnM] at e2
    obtain ⟨r1, e4, e2⟩ := bindS e2
    obtain ⟨o2, e5, e2⟩ := bindS e2
    have sx : SR X.K ks O ow' σ H3 r' := f.sr.ext hx1 (fun a z => .inl z) fun a z => by
      have n := f.sr.odom a z
      cases q : H2 a with
      | none => exact absurd q n
      | some u => rw [hx1 a u q]; exact fun z => nomatch z
    have fx : Ft X.K ks O al2 ow rb H1 ow' σ r' H3 := ⟨sx, f.st.trans (Stp.ext hx1), f.ow⟩
    refine qg O ow' σ H3 r' _ x r1 sx hx2 e4 _ fun g' pt => ?_
    have fp : Ft X.K ks O al2 ow rb H1 ow' g' r1 H3 := fx.trans ⟨pt.sr, pt.st, fun _ _ => rfl⟩
    refine qb O ow' g' H3 r1 o2 pt.sr e5 _ ?_
    cases o2 with
    | nx r2 =>
      obtain ⟨sb2, e2⟩ := gd_some e2
      cases e2
      exact fun ow2 g2 H4 f2 => ⟨ow2, r2, fp.trans f2, sb2, e3⟩
    | ct r2 =>
      obtain ⟨sb2, e2⟩ := gd_some e2
      cases e2
      exact fun ow2 g2 H4 f2 => ⟨ow2, r2, fp.trans f2, sb2, e3⟩
    | bk r2 =>
      cases e2
      cases e3
      exact fun ow2 g2 H4 f2 => w ow2 g2 H4 (f1.trans (fp.trans f2))
    | rt d r2 =>
      cases e2
      cases e3
      exact (w.chain (f1.trans fp))
  · rintro σ H' ⟨ow', r', f, sb, ef⟩
    rw [List.drop_length] at ef
    cases ef
    exact w ow' σ H' (f1.trans f)
theorem rs_while {c : Expr} {body : List Stmt} {mc : Env → Option (Bool × Env)} {mb : Env → Option Out} {n : Nat} (hp : PassesOwn (model X.prog X.w) X.A X.env X.xe) (hc : RT X ks mc c) (hb : RSs X ks fr al mb body) : RS X ks fr al (whlLoop mc mb n) (.While c body [] pos) := by
  obtain ⟨tc, pc, qc⟩ := hc
  obtain ⟨tb, pb, qb⟩ := hb
  refine ⟨_, ps_while hp pc pb, fun O ow g H r o s e Dn w => ?_⟩
  refine ⟨fun m σ H' => ∃ ow' r', Ft X.K ks O al ow r H ow' σ r' H' ∧ whlLoop mc mb m r' = some o, ⟨n, ow, r, .refl s, e⟩, ?_⟩
  rintro m σ H1 ⟨ow', r', f, ef⟩
  cases m with
  | zero => cases ef
  | succ m =>
    simp only [whlLoop] at ef
    obtain ⟨⟨k, r2⟩, e2, ef⟩ := bindS ef
    refine qc O ow' σ H1 r' k r2 f.sr e2 _ fun H2 s2 st2 => ?_
    have f2 : Ft X.K ks O al ow r H ow' σ r2 H2 := f.trans ⟨s2, st2, fun _ _ => rfl⟩
    cases k with
    | false => cases ef; exact iteF (w ow' σ H2 f2)
    | true =>
      simp only [if_true] at ef
      obtain ⟨o1, e3, ef⟩ := bindS ef
      refine iteT ⟨fun σ' H' => ∃ ow' r', Ft X.K ks O al ow r H ow' σ' r' H' ∧ whlLoop mc mb m r' = some o, fun σ' H' z => ⟨m, Nat.lt_succ_self m, z⟩, qb O ow' σ H2 r2 o1 s2 e3 _ ?_⟩
      cases o1 with
      | nx r3 => exact fun ow3 g3 H3 f3 => ⟨ow3, r3, f2.trans f3, ef⟩
      | ct r3 => exact fun ow3 g3 H3 f3 => ⟨ow3, r3, f2.trans f3, ef⟩
      | bk r3 => cases ef; exact fun ow3 g3 H3 f3 => w ow3 g3 H3 (f2.trans f3)
      | rt d r3 => cases ef; exact w.chain f2
end
end Fw
/-! Fw: the look at statements, and the theorem on them. -/
namespace Fw
open PySem L2
mutual
/-- the slots that get a new container -/
def asgd : S → List Nat
  | .own i _ => [i]
  | .ife _ a b => asgds a ++ asgds b
  | .loop _ _ b => asgds b
  | .whl _ b => asgds b
  | _ => []
def asgds : List S → List Nat
  | [] => []
  | s :: ss => asgd s ++ asgds ss
end
def isComp : Expr → Bool
  | .ListComp _ _ _ _ => true
  | .SetComp _ _ _ _ => true
  | .DictComp _ _ _ _ _ => true
  | _ => false
def isListC : Expr → Bool
  | .ListComp _ _ _ _ => true
  | _ => false
def isTup : Expr → Bool
  | .Tuple _ _ _ => true
  | _ => false
/-- does a comprehension's store go ahead of the letting go of its variables -/
def swB (sc : Scope) (y : Str) (py : Pos) : Expr → Bool
  | .ListComp _ _ scope pos => (if sc.kind.isAnnotationScope then ScopeKind.function else sc.kind) == .function && sc.names.lookup y == some .local && py.line == pos.line && !(scope.names.any fun (n, k) => n == y && (k == .local || k == .cell))
  | _ => false
theorem sw_listc {ex : Expr} {y : Str} {py : Pos} {l : Nat} {env : PySem.Env} (h : isListC ex = true) : swapsWith ex (some (.Name y py)) l env = pure (swB env.scope y py ex) := by
  cases ex <;> first | rfl | cases h
theorem sw_plain {ex : Expr} {t : Option Expr} {l : Nat} {env : PySem.Env} (h : isComp ex = false) : swapsWith ex t l env = pure false := by
  cases ex <;> first | rfl | cases h
def isName : Expr → Bool
  | .Name _ _ => true
  | _ => false
theorem sw_other {ex t : Expr} {l : Nat} {env : PySem.Env} (h : isName t = false) : swapsWith ex (some t) l env = pure false := by
  cases t <;> first | (cases h; done) | (cases ex <;> rfl)
theorem swst_no {ts : List Expr} {ex : Expr} {env : PySem.Env} (h : isTup ex = false) : swappedStores ts ex env = pure none := by
  unfold swappedStores
  cases ex <;> first | (cases h; done) | (split <;> first | rfl | (split at * <;> simp_all))
def parB (sc : Scope) (x y : Str) (px py : Pos) (a b : Expr) : Bool :=
  (if sc.kind.isAnnotationScope then ScopeKind.function else sc.kind) == .function && sc.names.lookup x == some .local && sc.names.lookup y == some .local && py.line == px.line && !(x == y) && !isStar a && !isStar b && !([a, b].all (foldedForSure 8)) && !([a, b].all (constantsAlone 8))
theorem swst_par {x y : Str} {px py pt pt2 : Pos} {kt k2 : Nat} {a b : Expr} {env : PySem.Env} (h : parB env.scope x y px py a b = true) : swappedStores [.Tuple [.Name x px, .Name y py] kt pt] (.Tuple [a, b] k2 pt2) env = pure (some [x, y]) := by
  simp only [parB, Bool.and_eq_true, Bool.not_eq_true'] at h
  obtain ⟨⟨⟨⟨⟨⟨⟨⟨h1, h2⟩, h3⟩, h4⟩, h5⟩, h6⟩, h7⟩, h8⟩, h9⟩ := h
  have k1 : (env.blockKind != .function) = false := by
    have : (env.blockKind == .function) = true := h1
    unfold bne; rw [this]; rfl
  have k2 : (env.kindOf x == some .local && px.line == px.line) = true := by
    have : (env.kindOf x == some .local) = true := h2
    rw [this]; simp
  have k3 : (env.kindOf y == some .local && py.line == px.line) = true := by
    have : (env.kindOf y == some .local) = true := h3
    rw [this, h4]; rfl
  have k4 : ([a, b].any fun | .Starred .. => true | _ => false) = false := by
    cases a <;> first | (cases h6; done) | (cases b <;> first | (cases h7; done) | rfl)
  unfold swappedStores
  simp only [List.length_cons, List.length_nil, k1, k4, List.head?_cons, Option.map_some, Option.getD_some, Expr.pos, List.filterMap_cons, List.filterMap_nil, k2, k3, if_true, h8, h9, List.eraseDups_cons, List.filter_cons, List.filter_nil, h5]
  have hyx : (!y == x) = true := by
    cases q : y == x with
    | false => rfl
    | true => rw [eq_of_beq q] at h5; simp at h5
  rw [if_pos hyx]
  refine (if_neg (by simp)).trans ((if_neg ?_).trans ?_)
  · intro z
    have : ([a, b].any fun | .Starred .. => true | _ => false) = true := z
    rw [k4] at this; cases this
  · rfl
end Fw
/-! Fw: the look at statements, and the theorem on them. -/
namespace Fw
open PySem L2
def swOk (ex : Expr) : Bool := !isComp ex || isListC ex
mutual
def ckS (Z : Sx) (sc : Scope) (fr : Bool) : S → Stmt → Bool
  | .asg i e, st => (match st with | .Assign [.Name y _] ex _ => decide (Z.N[i]? = some y) && locB sc y && decide (kd Z.ks i = .val) && ckE Z sc e ex && (bo e).isNone && swOk ex | _ => false)
  | .own i e, st => (match st with | .Assign [.Name y _] ex _ => decide (Z.N[i]? = some y) && locB sc y && decide (kd Z.ks i = .own) && ckE Z sc e ex && (bo e).isNone && swOk ex && frs Z.T e | _ => false)
  | .unp tg e, st => (match st with | .Assign [.Tuple es k p] ex _ => ckT Z sc (fun _ => true) tg (.Tuple es k p) && ckE Z sc e ex && (bo e).isNone && !isTup ex | _ => false)
  | .par i j a b, st => (match st with
      | .Assign [.Tuple [.Name x px, .Name y py] _ _] (.Tuple [xa, xb] _ _) _ => decide (Z.N[i]? = some x) && decide (Z.N[j]? = some y) && decide (i ≠ j) && decide (kd Z.ks i = .val) && decide (kd Z.ks j = .val) && ckE Z sc a xa && ckE Z sc b xb && (bo a).isNone && (bo b).isNone && parB sc x y px py xa xb
      | _ => false)
  | .aug i op e, st => (match st with | .AugAssign (.Name y _) op' ex _ => decide (Z.N[i]? = some y) && locB sc y && decide (kd Z.ks i = .val) && ckE Z sc e ex && (bo e).isNone && decide (op = op') | _ => false)
  | .set i k e, st => (match st with | .Assign [.Subscript (.Name x _) kx _] ex _ => ckVar Z sc i x && decide (kd Z.ks i ≠ .val) && ckE Z sc e ex && (bo e).isNone && ckE Z sc k kx && !isSlice kx | _ => false)
  | .expr e, st => (match st with | .Expr ex _ => ckE Z sc e ex && !isComp ex | _ => false)
  | .ife c a b, st => (match st with | .If cx ax bx _ => ckE Z sc c cx && ckSs Z sc fr a ax && ckSs Z sc fr b bx | _ => false)
  | .loop tg it b, st => (match st with | .For tx ix bx [] _ => ckT Z sc (fun _ => true) tg tx && ckIt Z sc it ix && !isSet ix && ckSs Z sc fr b bx && (bosItH it).all (fun i => decide (i ∉ asgds b)) | _ => false)
  | .whl c b, st => (match st with | .While cx bx [] _ => ckE Z sc c cx && ckSs Z sc fr b bx | _ => false)
  | .ret e, st => (match st with | .Return (some ex) _ => ckE Z sc e ex && (bo e).isNone && (!fr || frs Z.T e) | _ => false)
  | .retn, st => (match st with | .Return none _ => !fr | _ => false)
  | .brk, st => (match st with | .Break _ => true | _ => false)
  | .cnt, st => (match st with | .Continue _ => true | _ => false)
  | .pas, st => (match st with | .Pass _ => true | .Expr (.Constant (.str _) _ _) _ => true | _ => false)
def ckSs (Z : Sx) (sc : Scope) (fr : Bool) : List S → List Stmt → Bool
  | [], xs => (match xs with | [] => true | _ => false)
  | s :: ss, xs => (match xs with | x :: xs => ckS Z sc fr s x && ckSs Z sc fr ss xs | _ => false)
end
section
variable {X : Cx} {Z : Sx} {F : Fns} {k : Nat}
theorem sAs {i : Nat} {y : Str} {py spos : Pos} {e : E} {ex : Expr} (o : Okx X Z F k) (hfn : ∀ x, X.fn x = true) (hi : Z.N[i]? = some y) (hy : locB X.env.scope y = true) (h : ckE Z X.env.scope e ex = true) (hs : swOk ex = true) :
    RAs X Z.ks (bo e) (frs Z.T e) (ev F e) i (.Assign [.Name y py] ex spos) := by
  have gen : swapsWith ex (some (.Name y py)) spos.line X.env = pure false → RAs X Z.ks (bo e) (frs Z.T e) (ev F e) i (.Assign [.Name y py] ex spos) := fun sw => by
    obtain ⟨t, p, q⟩ := (sE Z e X ex o h).1
    exact ⟨t, ps_set o.gd.nd (o.N ▸ hi) (loc_of hy) p sw (.inl (hfn y)), q⟩
  cases hl : isListC ex with
  | false =>
    refine gen (sw_plain ?_)
    simpa [swOk, hl] using hs
  | true =>
    cases hb : swB X.env.scope y py ex with
    | false => exact gen (by rw [sw_listc hl, hb])
    | true =>
      have hsw : swapsWith ex (some (.Name y py)) spos.line X.env = pure true := by rw [sw_listc hl, hb]
      have hyl : X.env.scope.names.lookup y = some .local := by
        cases ex <;> first | (cases hl; done) | skip
        simp only [swB, Bool.and_eq_true, beq_iff_eq] at hb
        exact hb.1.1.2
      cases e <;> unfold ckE at h <;> (first | (cases h; done) | (split at h <;> try (cases h; done))) <;> first | (cases hl; done) | skip
      rename_i el tg it ifs own ex elt tgx iter ifsx scope pos
      simp only [Bool.and_eq_true, decide_eq_true_eq, Bool.not_eq_true', List.all_eq_true] at h
      obtain ⟨⟨⟨⟨⟨⟨⟨⟨⟨⟨h1, h2⟩, h3⟩, h4⟩, h5⟩, h6⟩, h7⟩, h8⟩, h9⟩, h10⟩, h11⟩ := h
      obtain ⟨wi, pwi, hw⟩ := sIt Z it X iter tgx o h1
      have bk := blkOk_by h7
      rw [← o.N] at bk
      have p := ps_setLc (i := i) (y := y) (py := py) (spos := spos) (pos := pos) o.gd.calm o.gd.nd (o.N ▸ hi) hyl hsw pwi bk (g := cG X.K Z.ks tg) (tt := cT X.K Z.ks (evIfs F ifs)) (te := cE X.K Z.ks none (frs Z.T el) (ev F el))
        (fun s H C cl fp => (sT (X := X.blk s H scope (compEnvC scope cl C X.env) fp) (Z := Z) (fn := blkFn scope) o.gd.calm o.gd.nd o.N (fun x hx => hx) tg tgx h3).1.can)
        (fun s H C cl fp => sIf Z ifs (X.blk s H scope (compEnvC scope cl C X.env) fp) ifsx (o.blk s H scope _ fp) h4)
        (fun s H C cl fp => (snd_none h6 (sE Z el (X.blk s H scope (compEnvC scope cl C X.env) fp) elt (o.blk s H scope _ fp) h5)).can) (fold_no h2)
      rw [h8] at p
      refine ⟨_, p, fun O ow g H r d r' s e Q q => ?_⟩
      have rd := lc_read (fe := frs Z.T el) h9 h10 h11 hw O ow g H r d r' s (me := ev F el) (mi := evIfs F ifs) (by simp only [ev] at e; exact e) Q q
      exact rd
theorem sole_other {e t : Expr} {l : Nat} {env : PySem.Env} (h : isName t = false) : swapsWithSole [t] e l env = pure false := by
  have : swapsWithSole [t] e l env = swapsWith e (some t) l env := rfl
  rw [this]; exact sw_other h
theorem mem_l {α : Type} {a : α} {l m : List α} (h : a ∈ l) : a ∈ l ++ m := List.mem_append_left _ h
theorem mem_r {α : Type} {a : α} {l m : List α} (h : a ∈ m) : a ∈ l ++ m := List.mem_append_right _ h
mutual
theorem sS {F : Fns} {k n : Nat} {fr : Bool} (Z : Sx) (X : Cx) (o : Okx X Z F k) (hp : PassesOwn (model X.prog X.w) X.A X.env X.xe) (hfn : ∀ x, X.fn x = true) : ∀ (s : S) (st : Stmt), ckS Z X.env.scope fr s st = true → RS X Z.ks fr (asgd s) (ex F n s) st
  | .asg i e, st, h => by
    unfold ckS at h
    split at h
    · simp only [Bool.and_eq_true, decide_eq_true_eq] at h
      obtain ⟨⟨⟨⟨⟨h1, h2⟩, h3⟩, h4⟩, h5⟩, h6⟩ := h
      have a := fun py spos => sAs (i := i) (py := py) (spos := spos) o hfn h1 h2 h4 h6
      rw [isNone_of h5] at a
      exact rs_imp (rs_asg (a _ _) h3) fun r => by simp only [ex]
    · cases h
  | .own i e, st, h => by
    unfold ckS at h
    split at h
    · simp only [Bool.and_eq_true, decide_eq_true_eq] at h
      obtain ⟨⟨⟨⟨⟨⟨h1, h2⟩, h3⟩, h4⟩, h5⟩, h6⟩, h7⟩ := h
      have a := fun py spos => sAs (i := i) (py := py) (spos := spos) o hfn h1 h2 h4 h6
      rw [isNone_of h5, h7] at a
      exact rs_imp (rs_own (a _ _) h3 (by simp [asgd])) fun r => by simp only [ex] <;> rfl
    · cases h
  | .unp tg e, st, h => by
    unfold ckS at h
    split at h
    · simp only [Bool.and_eq_true, Bool.not_eq_true'] at h
      obtain ⟨⟨⟨h1, h2⟩, h3⟩, h4⟩ := h
      exact rs_imp (rs_unp (snd_none h3 (sE Z e X _ o h2)) (sT (X := X) (Z := Z) o.gd.calm o.gd.nd o.N (fun x _ => hfn x) tg _ h1).1 (sole_other rfl) (swst_no h4) rfl) fun r => by simp only [ex]
    · cases h
  | .par i j a b, st, h => by
    unfold ckS at h
    split at h
    · rename_i x px y py kt pt xa xb k2 pt2 pos
      simp only [Bool.and_eq_true, decide_eq_true_eq] at h
      obtain ⟨⟨⟨⟨⟨⟨⟨⟨⟨h1, h2⟩, h3⟩, h4⟩, h5⟩, h6⟩, h7⟩, h8⟩, h9⟩, h10⟩ := h
      have pb := h10
      simp only [parB, Bool.and_eq_true, beq_iff_eq] at pb
      have ra := (sEs (F := F) Z [a, b] X [xa, xb] o (by simp only [ckEs, h6, h7]; rfl)).1
      refine rs_imp (rs_par o.gd.calm o.gd.nd (o.N ▸ h1) (o.N ▸ h2) h3 pb.1.1.1.1.1.1.1.2 pb.1.1.1.1.1.1.2 h4 h5 ra (isNone_of h8) (isNone_of h9) (swst_par h10)) fun r => ?_
      simp only [ex, evs]
      cases ev F a r with
      | none => rfl
      | some p =>
        simp only [Option.bind_some]
        cases ev F b p.2 <;> rfl
    · cases h
  | .aug i op e, st, h => by
    unfold ckS at h
    split at h
    · simp only [Bool.and_eq_true, decide_eq_true_eq] at h
      obtain ⟨⟨⟨⟨⟨h1, h2⟩, h3⟩, h4⟩, h5⟩, h6⟩ := h
      subst h6
      exact rs_imp (rs_aug o.gd.nd (o.N ▸ h1) (loc_of h2) (.inl (hfn _)) h3 (snd_none h5 (sE Z e X _ o h4))) fun r => by simp only [ex]
    · cases h
  | .set i k e, st, h => by
    unfold ckS at h
    split at h
    · simp only [Bool.and_eq_true, decide_eq_true_eq, Bool.not_eq_true'] at h
      obtain ⟨⟨⟨⟨⟨h1, h2⟩, h3⟩, h4⟩, h5⟩, h6⟩ := h
      obtain ⟨v1, v2, v3, v4⟩ := var_of h1
      exact rs_imp (rs_set o.u1 (o.N ▸ v1) v2 v3 v4 h2 (snd_none h4 (sE Z e X _ o h3)) (sE Z k X _ o h5).1 h6 (sw_other rfl)) fun r => by simp only [ex] <;> rfl
    · cases h
  | .expr e, st, h => by
    unfold ckS at h
    split at h
    · simp only [Bool.and_eq_true, Bool.not_eq_true'] at h
      exact rs_imp (rs_expr (sE Z e X _ o h.1).1 (sw_plain h.2)) fun r => by simp only [ex]
    · cases h
  | .ife c a b, st, h => by
    unfold ckS at h
    split at h
    · simp only [Bool.and_eq_true] at h
      obtain ⟨⟨h1, h2⟩, h3⟩ := h
      refine rs_imp (rs_if (sE Z c X _ o h1).2.1 ((sSs (n := n) Z X o hp hfn a _ h2).more fun i hi => ?_) ((sSs (n := n) Z X o hp hfn b _ h3).more fun i hi => ?_)) fun r => by simp only [ex] <;> rfl
      · unfold asgd; exact mem_l hi
      · unfold asgd; exact mem_r hi
    · cases h
  | .loop tg it b, st, h => by
    unfold ckS at h
    split at h
    · simp only [Bool.and_eq_true, Bool.not_eq_true', List.all_eq_true, decide_eq_true_eq] at h
      obtain ⟨⟨⟨⟨h1, h2⟩, h3⟩, h4⟩, h5⟩ := h
      refine rs_imp (rs_for (al2 := asgds b) hp o.gd.calm (sIt Z it X _ _ o h2) (sT (X := X) (Z := Z) o.gd.calm o.gd.nd o.N (fun x _ => hfn x) tg _ h1).1 (sSs (n := n) Z X o hp hfn b _ h4) (fold_no h3) (fun i hi => by unfold asgd; exact hi) h5) fun r => by simp only [ex] <;> rfl
    · cases h
  | .whl c b, st, h => by
    unfold ckS at h
    split at h
    · simp only [Bool.and_eq_true] at h
      refine rs_imp (rs_while (n := n) hp (sE Z c X _ o h.1).2.1 ((sSs (n := n) Z X o hp hfn b _ h.2).more fun i hi => by unfold asgd; exact hi)) fun r => by simp only [ex] <;> rfl
    · cases h
  | .ret e, st, h => by
    unfold ckS at h
    split at h
    · simp only [Bool.and_eq_true, Bool.or_eq_true, Bool.not_eq_true'] at h
      obtain ⟨⟨h1, h2⟩, h3⟩ := h
      exact rs_imp (rs_ret (snd_none h2 (sE Z e X _ o h1)) fun z => h3.elim (fun q => by rw [z] at q; cases q) id) fun r => by simp only [ex]
    · cases h
  | .retn, st, h => by
    unfold ckS at h
    split at h
    · simp only [Bool.not_eq_true'] at h
      exact rs_imp (rs_retn h) fun r => by simp only [ex]
    · cases h
  | .brk, st, h => by
    unfold ckS at h
    split at h
    · exact rs_imp rs_break fun r => by simp only [ex]
    · cases h
  | .cnt, st, h => by
    unfold ckS at h
    split at h
    · exact rs_imp rs_cont fun r => by simp only [ex]
    · cases h
  | .pas, st, h => by
    unfold ckS at h
    split at h
    · exact rs_imp rs_pass fun r => by simp only [ex]
    · exact rs_imp rs_doc fun r => by simp only [ex]
    · cases h
theorem sSs {F : Fns} {k n : Nat} {fr : Bool} (Z : Sx) (X : Cx) (o : Okx X Z F k) (hp : PassesOwn (model X.prog X.w) X.A X.env X.xe) (hfn : ∀ x, X.fn x = true) : ∀ (s : List S) (st : List Stmt), ckSs Z X.env.scope fr s st = true → RSs X Z.ks fr (asgds s) (exs F n s) st
  | [], st, h => by
    cases st with
    | nil =>
      have e : exs F n [] = fun r => some (.nx r) := by funext r; simp only [exs]
      rw [e]; exact rss_nil
    | cons x xs => unfold ckSs at h; cases h
  | s :: ss, st, h => by
    cases st with
    | nil => unfold ckSs at h; cases h
    | cons x xs =>
      unfold ckSs at h
      simp only [Bool.and_eq_true] at h
      have e : exs F n (s :: ss) = fun r => (ex F n s r).bind fun o => match o with | .nx r' => exs F n ss r' | o => some o := by funext r; simp only [exs] <;> rfl
      rw [e]
      exact rss_cons ((sS Z X o hp hfn s x h.1).more fun i hi => by unfold asgds; exact mem_l hi) ((sSs Z X o hp hfn ss xs h.2).more fun i hi => by unfold asgds; exact mem_r hi)
end
end
end Fw
/-! Fw: defs. -/
namespace Fw
open PySem L2
def ckF (T : List Fd) (G : List (Str × D)) (d : Fd) (st : Stmt) : Bool :=
  C8.scC d.N d.P (defScope st) && decide (d.P.length ≤ d.N.length) && ((d.ks.take d.P.length).all fun k => decide (k ≠ .own)) && ckSs ⟨d.N, d.ks, T, G⟩ (defScope st) d.fr d.body (defBody st)
/-- what is known of a def of the text -/
structure Df (K : PySem.W.Frag) (mg : Str → Option Value) (T : List Fd) (G : List (Str × D)) (d : Fd) (f : Addr) (fd : FuncData) (st : Stmt) : Prop where
  fn : Fun K d.name d.name st f fd
  mgf : mg d.name = some (.ref f)
  bi : Binds K fd d.P []
  ck : ckF T G d st = true
theorem startE_len {N : List Str} {ds : List D} (h : ds.length ≤ N.length) : (startE N ds).length = N.length := by
  simp [startE]; omega
theorem backs_some : ∀ {ks : List Kd} {i : Nat} {r : Env} {os : List D}, backs ks i r = some os → ∀ j, ks[j]? = some .io → ∃ e, slot r (i + j) = some e
  | [], _, _, _, _, j, h => by simp at h
  | .io :: ks, i, r, os, h, j, hj => by
    simp only [backs] at h
    obtain ⟨d, hd, h⟩ := bindS h
    obtain ⟨os', ho, h⟩ := mapS h
    cases j with
    | zero => exact ⟨d, hd⟩
    | succ j =>
      obtain ⟨e, he⟩ := backs_some ho j (by simpa using hj)
      exact ⟨e, by rw [← he]; congr 1; omega⟩
  | .own :: ks, i, r, os, h, j, hj => by
    simp only [backs] at h
    cases j with
    | zero => simp at hj
    | succ j =>
      obtain ⟨e, he⟩ := backs_some h j (by simpa using hj)
      exact ⟨e, by rw [← he]; congr 1; omega⟩
  | .val :: ks, i, r, os, h, j, hj => by
    simp only [backs] at h
    cases j with
    | zero => simp at hj
    | succ j =>
      obtain ⟨e, he⟩ := backs_some h j (by simpa using hj)
      exact ⟨e, by rw [← he]; congr 1; omega⟩
theorem kd_get {ks : List Kd} {i : Nat} (h : kd ks i ≠ .val) : ks[i]? = some (kd ks i) := by
  unfold kd at *
  rw [List.getD_eq_getElem?_getD] at *
  cases q : ks[i]? with
  | none => rw [q] at h; exact absurd rfl h
  | some k => rfl
section
variable {P : Program} {w : World} {K : PySem.W.Frag} {mg : Str → Option Value} {base : Heap} {n : Nat} {T : List Fd} {G : List (Str × D)}
theorem defs_ok (hb : ∀ x ∈ bltNames, mg x = none) (hG : ∀ x d, (x, d) ∈ G → ∃ u v, mg x = some u ∧ RelV v u ∧ ∀ A H, Rep A K H v d)
    (hD : ∀ (i : Nat) (d : Fd), T[i]? = some d → ∃ f fd st, Df K mg T G d f fd st) : ∀ (k i : Nat) (d : Fd), T[i]? = some d → ∀ f fd st, Df K mg T G d f fd st → FnOk P w K mg base CX0 k f fd d.P (spF K d (run n T k i))
  | 0, i, d, hi, f, fd, st, q => ⟨fun vs H Q E h => by obtain ⟨O, ow, ds, x, os, h1, _⟩ := h; exact h1, fun A outer s H args us vs Q E hr he hb' hv h => by
      obtain ⟨O, ow, ds, x, os, h1, h2, h3, h4, h5, _⟩ := h
      simp only [run] at h5
      cases h5⟩
  | k + 1, i, d, hi, f, fd, st, q => by
    have ck := q.ck
    simp only [ckF, Bool.and_eq_true, decide_eq_true_eq, List.all_eq_true] at ck
    obtain ⟨⟨⟨c1, c2⟩, c3⟩, c4⟩ := ck
    have S := C8.fnScope_by c1
    refine Fun.ok q.fn S (fun vs H Q E h => by obtain ⟨O, ow, ds, x, os, h1, _⟩ := h; exact h1) fun cdv A outer s H vs Q E hr hsp => ?_
    obtain ⟨O, ow, ds, x, os, h1, h2, h3, h4, h5, hq⟩ := hsp
    let X : Cx := (cxOf CX0 P w K mg base d.N d.name (defScope st) f cdv A outer s H E).nox
    have ox : Okx X ⟨d.N, d.ks, T, G⟩ (run n T k) k := ⟨⟨rfl, S.nd, hr, rfl, hb, fun j e hj => by
      obtain ⟨f', fd', st', q'⟩ := hD j e hj
      exact ⟨f', fd', q'.mgf, q'.fn.kp, q'.bi, defs_ok hb hG hD k j e hj f' fd' st' q'⟩, hG⟩, rfl⟩
    obtain ⟨t, pt, qt⟩ := sSs (n := n) ⟨d.N, d.ks, T, G⟩ X ox PassesOwn.never (fun _ => rfl) d.body (defBody st) c4
    refine ⟨t, pt, ?_⟩
    simp only [run, hi, Option.bind_some] at h5
    obtain ⟨_, h5⟩ := gd_some h5
    obtain ⟨o, ho, h5⟩ := bindS h5
    refine qt O ow _ H _ o h4 ho _ ?_
    have hio : ∀ i, i < d.P.length → kd d.ks i = .io → (d.ks.take d.P.length)[i]? = some .io := fun i hi k => by
      rw [List.getElem?_take_of_lt hi, kd_get (by rw [k]; exact fun z => nomatch z), k]
    -- the end of the body
    have fin : ∀ (v : V) (x' : D) (r' : Env) (ow' : Nat → Addr) (g' : St) (H' : Hp) (os' : List D), x' = x → os' = os → backs (d.ks.take d.P.length) 0 r' = some os' → Stp d.ks ow (startE d.N ds) H ow' r' H' → Rv K d.ks O ow (startE d.N ds) H d.fr x' ow' g' r' v H' → Q v H' := by
      intro v x' r' ow' g' H' os' ex eo hbk st' rv
      subst ex eo
      let A0 : Addr → Prop := fun a => O a ∨ (∃ i, i < d.P.length ∧ kd d.ks i = .io ∧ a = ow i) ∨ (d.fr = true ∧ isC x' = true ∧ v = .ref a)
      have live : ∀ i, i < d.P.length → kd d.ks i = .io → ∃ e, slot r' i = some e := fun i hi k => by
        obtain ⟨e, he⟩ := backs_some hbk i (hio i hi k)
        exact ⟨e, by simpa using he⟩
      have noOwn : ∀ a, ¬ OLn d.ks ow (startE d.N ds) a := by
        rintro a ⟨j, e, h, k, z⟩
        have hj : j < d.P.length := by
          rw [← h2]
          have := startE_some h
          exact (List.getElem?_eq_some_iff.mp this).1
        exact h3 j hj k
      cases rv with
      | val sr rep hc =>
        have hA : ∀ a, A0 a → Av d.ks O ow' r' a := fun a z => by
          rcases z with z | ⟨i, hi, k, z⟩ | ⟨z1, z2, z3⟩
          · exact .inl z
          · obtain ⟨e, he⟩ := live i hi k
            exact .inr ⟨i, e, slot_some he, (by rw [k]; exact fun z => nomatch z), by rw [st'.io i k]; exact z⟩
          · rw [hc z1] at z2; cases z2
        refine hq v H' r' A0 hbk st'.kp (fun _ => Iff.rfl) (fun i hi k => ?_) ?_
        · obtain ⟨e, he⟩ := live i hi k
          obtain ⟨k1, k2, k3⟩ := sr.own i e (slot_some he) (by rw [k]; exact fun z => nomatch z)
          refine ⟨e, he, ?_⟩
          rw [← st'.io i k]
          exact k3.weak fun a _ z => hA a z
        · rw [if_neg fun z => by rw [hc z.1] at z; cases z.2]
          exact rep.weak fun a _ z => hA a z
      | own na hb' sr ow1 =>
        rename_i a
        have hA : ∀ b, A0 b → Av d.ks (fun b => O b ∨ b = a) ow' r' b := fun b z => by
          rcases z with z | ⟨i, hi, k, z⟩ | ⟨z1, z2, z3⟩
          · exact .inl (.inl z)
          · obtain ⟨e, he⟩ := live i hi k
            exact .inr ⟨i, e, slot_some he, (by rw [k]; exact fun z => nomatch z), by rw [st'.io i k]; exact z⟩
          · cases z3; exact .inl (.inr rfl)
        refine hq _ H' r' A0 hbk st'.kp (fun _ => Iff.rfl) (fun i hi k => ?_) ?_
        · obtain ⟨e, he⟩ := live i hi k
          obtain ⟨k1, k2, k3⟩ := sr.own i e (slot_some he) (by rw [k]; exact fun z => nomatch z)
          refine ⟨e, he, ?_⟩
          rw [← st'.io i k]
          exact k3.weak fun a _ z => hA a z
        · split
          · exact ⟨a, rfl, hb'.elim (fun z => absurd z (noOwn a)) id, ow1.weak fun b _ z => hA b z⟩
          · rename_i nf
            have hA2 : ∀ b, A0 b → Av d.ks O ow' r' b := fun b z => by
              rcases z with z | ⟨i, hi, k, z⟩ | ⟨z1, z2, z3⟩
              · exact .inl z
              · obtain ⟨e, he⟩ := live i hi k
                exact .inr ⟨i, e, slot_some he, (by rw [k]; exact fun z => nomatch z), by rw [st'.io i k]; exact z⟩
              · exact absurd ⟨z1, z2⟩ nf
            have o2 : Own A0 K H' a x' := ow1.weak fun b _ z => hA b z
            exact o2.rep fun z => na (hA2 a z)
    cases o with
    | nx r' =>
      simp only at h5
      obtain ⟨hf, h5⟩ := gd_some h5
      obtain ⟨os', e1, e2⟩ := mapS h5
      cases e2
      exact fun ow' g' H' ft => fin .non .non r' ow' g' H' _ rfl rfl e1 ft.st (.val ft.sr .non fun _ => rfl)
    | rt v r' =>
      simp only at h5
      obtain ⟨os', e1, e2⟩ := mapS h5
      cases e2
      exact fun ow' g' v' H' st' rv => fin v' _ r' ow' g' H' _ rfl rfl e1 st' rv
    | bk r' => cases h5
    | ct r' => cases h5
end
end Fw
/-! Fw: a law's end. -/
namespace Fw
open PySem L2
theorem rep_ints (A : Addr → Prop) (K : PySem.W.Frag) (H : Hp) : ∀ ns : List Int, Reps A K H (ns.map V.int) (ns.map D.int)
  | [] => .nil
  | n :: ns => .cons (.int n) (rep_ints A K H ns)
theorem law_walk {l : PySem.W.OpenLaw} {q : Program} {loose : List Str} {XP : (Str → Option Value) → Heap → Prop} {YP : World → Heap → Prop} {d : DefRec} {K : Params → PySem.W.Frag} {n k nn iL : Nat} {T : List Fd} {dL : Fd} {x : Str}
    (hn : l.most = some n) (hn2 : n ≤ sizeLine) (hdf : d.params.defaults = []) (hr : Room k callerA) (hY : ∀ (w : World) (h : Heap), YP w h → (K w.params).In h) (hP : dL.P = [x]) (hN : ∃ N', dL.N = x :: N') (hk : kd dL.ks 0 = .val)
    (F : ∀ (w : World) (mg : Str → Option Value) (fa : Addr) (h : Heap), (K w.params).In h → h.Ns mainGlobals mg → mg d.name = some (.ref fa) →
      ∃ fd : FuncData, (∀ (s : Shared) (u : Value), BindsTo s fd ⟨[u], []⟩ [(x, u)]) ∧ ∀ base : Heap, (K w.params).In base → base.Ns mainGlobals mg → FnOk l.prog w (K w.params) mg base CX0 k fa fd [x] (spF (K w.params) dL (run nn T k iL)))
    (hM : ∀ ns : List Int, ns.length ≤ n → ∃ os, run nn T k iL [.scr (ns.map .int)] = some (.bl true, os)) :
    PySem.W.WalkO q loose XP YP l.row.toRowW d [] (fun f vs => PySem.call f vs) := by
  refine L2.walk_of (n := n) (k := k) (x := x) (CX := fun _ => CX0) (sp := fun w => spF (K w.params) dL (run nn T k iL)) hn hn2 hdf hr hY F (fun w H a ns hl ho hS => ?_) fun _ _ _ _ _ z => z
  obtain ⟨os, hrun⟩ := hM ns hl
  obtain ⟨N', hN⟩ := hN
  have get : ∀ (i : Nat) (e : D), (startE dL.N [.scr (ns.map .int)])[i]? = some (some e) → i = 0 ∧ e = .scr (ns.map .int) := fun i e h => by
    have := startE_some h
    cases i with
    | zero => simp at this; exact ⟨rfl, this.symm⟩
    | succ i => simp at this
  refine ⟨fun _ => False, fun _ => 0, [.scr (ns.map .int)], .bl true, os, by rw [hP]; rfl, by rw [hP]; rfl, fun i hi => ?_, ⟨by simp [startE, L2.start], fun i e h kk => ?_, fun i e h kk => ?_, fun i j e f h1 h2 k1 k2 n => ?_, fun a z => z.elim⟩, hrun, fun v H' r' A _ _ _ _ hv => ?_⟩
  · rw [hP] at hi
    have : i = 0 := by simp at hi; exact hi
    subst this
    rw [hk]; exact fun z => nomatch z
  · obtain ⟨rfl, rfl⟩ := get i e h
    refine ⟨.ref a, by rw [hN]; rfl, .scr ?_ (rep_ints _ _ _ ns)⟩
    rcases hS with hS | hS
    · rcases hS with hS | ⟨o, hS⟩
      · rcases ho a with z | ⟨o, xs, z⟩ <;> (rw [z] at hS; cases hS)
      · exact .inl ⟨o, hS⟩
    · exact .inr hS
  · obtain ⟨rfl, rfl⟩ := get i e h
    exact absurd hk kk
  · obtain ⟨rfl, rfl⟩ := get i e h1
    obtain ⟨rfl, rfl⟩ := get j f h2
    exact absurd rfl n
  · rw [if_neg fun z => by cases z.2] at hv
    cases hv; rfl
/-- a def of the text, from what the top has written -/
theorem df_mk {K : PySem.W.Frag} {h : Heap} {mg : Str → Option Value} {T : List Fd} {G : List (Str × D)} {d : Fd} {st : Stmt} {f : Addr} {oc : Value} {od an : Option Addr} {osl : Array (Option Value)} {kV doc pm cdv ct : Value} (KX : K.In h) (HN : h.Ns mainGlobals mg)
    (ck : ckF T G d st = true) (hb : ∀ (kV doc pm : Value) (an : Option Addr) (cdv ct : Value) (us : List Value), us.length = d.P.length → bindArgs (PySem.W.fnOf d.name d.name (defArgs st) (defBody st) (defScope st) .none kV doc pm an cdv ct) ⟨us, []⟩ = pure (d.P.zip us))
    (a : PySem.W.nsIn K mainGlobals d.name = some (some (.ref f))) (l : K.lookup f = some ⟨oc, od, .func (PySem.W.fnOf d.name d.name (defArgs st) (defBody st) (defScope st) .none kV doc pm an cdv ct), osl⟩)
    (c : PySem.W.codeIn K cdv d.name = true) (k : PySem.W.keepIn K (.ref f) = true) : Df K mg T G d f (PySem.W.fnOf d.name d.name (defArgs st) (defBody st) (defScope st) .none kV doc pm an cdv ct) st :=
  have F := fun_mk (st := st) l c k
  ⟨F, PySem.W.mg_of KX HN a, F.binds hb, ck⟩
end Fw
/-! Shared: how the small language is computed. -/
namespace Fw
open PySem L2
@[simp] theorem slot_zero {x : Option D} {r : Env} : slot (x :: r) 0 = x := rfl
@[simp] theorem slot_succ {x : Option D} {r : Env} {i : Nat} : slot (x :: r) (i + 1) = slot r i := rfl
noncomputable def fin (d : Fd) : Out → Option (D × List D)
  | .rt v r => (backs (d.ks.take d.P.length) 0 r).map fun os => (v, os)
  | .nx r => gd (d.fr = false) ((backs (d.ks.take d.P.length) 0 r).map fun os => (.non, os))
  | _ => none
theorem run_eq {n k i : Nat} {T : List Fd} {d : Fd} {ds : List D} (hd : T[i]? = some d) (hl : ds.length = d.P.length) : run n T (k + 1) i ds = (exs (run n T k) n d.body (startE d.N ds)).bind (fin d) := by
  simp only [run, hd, Option.bind_some, gd_true hl]
  congr 1
@[simp] theorem gd_triv {α : Type} {x : Option α} : gd True x = x := gd_true trivial
theorem gd_triv' {α : Type} {x : Option α} : gd (true = true) x = x := gd_true rfl
theorem gd_false {p : Prop} {α : Type} {x : Option α} (h : ¬ p) : gd p x = none := if_neg h
@[simp] theorem gd_eqs {α β : Type} {x : Option α} {a : β} : gd (a = a) x = x := gd_true rfl
/-! one rule a construct: what must not be unfolded before its loop is known stays a name -/
section
variable {F : Fns} {n : Nat} {r : Env}
def selB {α : Type} : D → Option α → Option α → Option α
  | .bl true, x, _ => x
  | .bl false, _, y => y
  | _, _, _ => none
@[simp] theorem selB_bl {α : Type} {b : Bool} {x y : Option α} : selB (.bl b) x y = if b = true then x else y := by cases b <;> rfl
@[simp] theorem ev_var {i : Nat} : ev F (.var i) r = (slot r i).map fun d => (d, r) := by simp only [ev]
@[simp] theorem ev_bor {i : Nat} : ev F (.bor i) r = (slot r i).map fun d => (d, r) := by simp only [ev]
@[simp] theorem ev_mv {i : Nat} : ev F (.mv i) r = (slot r i).map fun d => (d, r.set i none) := by simp only [ev]
@[simp] theorem ev_non : ev F .non r = some (.non, r) := by simp only [ev]
@[simp] theorem ev_bl {b : Bool} : ev F (.bl b) r = some (.bl b, r) := by simp only [ev]
@[simp] theorem ev_int {i : Int} : ev F (.int i) r = some (.int i, r) := by simp only [ev]
@[simp] theorem ev_str {x : Str} : ev F (.str x) r = some (.str x, r) := by simp only [ev]
@[simp] theorem ev_glo {x : Str} {d : D} : ev F (.glo x d) r = some (d, r) := by simp only [ev]
@[simp] theorem ev_tup {es : List E} : ev F (.tup es) r = (evs F es r).bind fun p => gd (p.1.length ≤ sizeLine) (some (.tup p.1, p.2)) := by simp only [ev]
@[simp] theorem ev_lst {es : List E} : ev F (.lst es) r = (evs F es r).bind fun p => gd (p.1.length ≤ sizeLine) (some (.lst p.1, p.2)) := by simp only [ev]
@[simp] theorem ev_dic0 : ev F .dic0 r = some (.dic [], r) := by simp only [ev]
@[simp] theorem ev_bin {op : Operator} {a b : E} : ev F (.bin op a b) r = (ev F a r).bind fun p => (ev F b p.2).bind fun q => gd (stb a p.2 q.2) ((dbin op p.1 q.1).map fun d => (d, q.2)) := by simp only [ev]
def negD : D → Option D
  | .int i => some (.int (-i))
  | _ => none
@[simp] theorem negD_int {i : Int} : negD (.int i) = some (.int (-i)) := rfl
@[simp] theorem ev_neg {a : E} : ev F (.neg a) r = (ev F a r).bind fun p => (negD p.1).map fun d => (d, p.2) := by
  simp only [ev]
  congr 1
  funext p
  cases p.1 <;> rfl
@[simp] theorem ev_cmp {op : CmpOp} {a b : E} : ev F (.cmp op a b) r = (ev F a r).bind fun p => (ev F b p.2).bind fun q => gd (stb a p.2 q.2) ((dcmp op p.1 q.1).map fun d => (.bl d, q.2)) := by simp only [ev]
@[simp] theorem ev_chain {op op' : CmpOp} {a b c : E} : ev F (.chain op op' a b c) r = (ev F a r).bind fun p => (ev F b p.2).bind fun q => (dcmp op p.1 q.1).bind fun k =>
      if k = true then (ev F c q.2).bind fun t => (dcmp op' q.1 t.1).map fun d => (.bl d, t.2) else some (.bl false, q.2) := by simp only [ev]
@[simp] theorem ev_and {a b : E} : ev F (.and a b) r = (ev F a r).bind fun p => selB p.1 (ev F b p.2) (some (.bl false, p.2)) := by
  simp only [ev]
  congr 1
  funext p
  cases h : p.1 <;> simp only [selB]
  case bl b => cases b <;> rfl
@[simp] theorem ev_or {a b : E} : ev F (.or a b) r = (ev F a r).bind fun p => selB p.1 (some (.bl true, p.2)) (ev F b p.2) := by
  simp only [ev]
  congr 1
  funext p
  cases h : p.1 <;> simp only [selB]
  case bl b => cases b <;> rfl
@[simp] theorem ev_not {a : E} : ev F (.not a) r = (ev F a r).bind fun p => (tru p.1).map fun b => (.bl (!b), p.2) := by simp only [ev]
@[simp] theorem ev_ite {c a b : E} : ev F (.ite c a b) r = (ev F c r).bind fun p => (tru p.1).bind fun k => if k = true then ev F a p.2 else ev F b p.2 := by simp only [ev]
@[simp] theorem ev_idx {a b : E} : ev F (.idx a b) r = (ev F a r).bind fun p => (ev F b p.2).bind fun q => gd (stb a p.2 q.2) ((didx p.1 q.1).map fun d => (d, q.2)) := by simp only [ev]
@[simp] theorem ev_sl {a lo hi : E} : ev F (.sl a lo hi) r = (ev F a r).bind fun p => (ev F lo p.2).bind fun q => (ev F hi q.2).bind fun t => gd (stb a p.2 t.2) ((partOf lo q.1).bind fun l => (partOf hi t.1).bind fun h => (dsl p.1 l h).map fun d => (d, t.2)) := by simp only [ev]
@[simp] theorem ev_call {f : Nat} {es : List E} : ev F (.call f es) r = (evs F es r).bind fun p => (fill es p.1 p.2).bind fun ds => (F f ds).bind fun q => (outs es q.2 p.2).map fun r' => (q.1, r') := by simp only [ev]
@[simp] theorem ev_b1 {b : B1} {a : E} : ev F (.b1 b a) r = (ev F a r).bind fun p => (b1 b p.1).map fun d => (d, p.2) := by simp only [ev]
@[simp] theorem ev_b2 {b : B2} {a c : E} : ev F (.b2 b a c) r = (ev F a r).bind fun p => (ev F c p.2).bind fun q => (b2 b p.1 q.1).map fun d => (d, q.2) := by simp only [ev]
@[simp] theorem ev_isi {a : E} {t : Ty} : ev F (.isi a t) r = (ev F a r).bind fun p => (isT t p.1).map fun d => (.bl d, p.2) := by simp only [ev]
def getD1 : D → D → Option D
  | .dic ks, d => (keyOf d).map fun k => (look ks k).getD .non
  | _, _ => none
@[simp] theorem ev_get {a b : E} : ev F (.get a b) r = (ev F a r).bind fun p => (ev F b p.2).bind fun q => gd (stb a p.2 q.2) ((getD1 p.1 q.1).map fun d => (d, q.2)) := by
  simp only [ev]
  congr 1
  funext p
  congr 1
  funext q
  congr 1
  cases p.1 <;> simp only [getD1] <;> first | rfl | (simp only [Option.map_map, Function.comp_def])
def popD : Option D → Option (D × D)
  | some (.lst ds) => (ds[ds.length - 1]?).map fun d => (d, .lst ds.dropLast)
  | _ => none
@[simp] theorem ev_pop {i : Nat} : ev F (.pop i) r = (popD (slot r i)).map fun q => (q.1, r.set i (some q.2)) := by
  simp only [ev]
  cases slot r i with
  | none => rfl
  | some d => cases d <;> simp only [popD] <;> first | rfl | (simp only [Option.map_map, Function.comp_def])
def mthD (m : M1) : Option D → D → Option (D × D)
  | some (.lst ds), d => (m1 m ds d).map fun q => (q.1, .lst q.2)
  | _, _ => none
@[simp] theorem ev_mth {m : M1} {i : Nat} {a : E} : ev F (.mth m i a) r = (slot r i).bind fun d0 => gd (isL d0 = true) ((ev F a r).bind fun p => (mthD m (slot p.2 i) p.1).map fun q => (q.1, p.2.set i (some q.2))) := by
  simp only [ev]
  congr 1
  funext d0
  congr 1
  congr 1
  funext p
  cases slot p.2 i with
  | none => rfl
  | some d => cases d <;> simp only [mthD] <;> first | rfl | (simp only [Option.map_map, Function.comp_def])
/-- one turn of a comprehension -/
noncomputable def lcT (F : Fns) (el : E) (tg : Tg) (it : It) (ifs : List E) (own : List Nat) (rb : Env) (d : D) (r' : Env) : Option (Option D × Env) :=
  (put tg d (wipeE r' own)).bind fun r1 => (evIfs F ifs r1).bind fun q =>
        if q.1 = true then (ev F el q.2).bind fun t => gd (stbIt it rb t.2) (some (some t.1, t.2)) else gd (stbIt it rb q.2) (some (none, q.2))
theorem ev_lc {el : E} {tg : Tg} {it : It} {ifs : List E} {own : List Nat} : ev F (.lc el tg it ifs own) r = (evIt F it r).bind fun p => (lcLoop (lcT F el tg it ifs own p.2) p.1 p.2).bind fun q => gd (q.1.length ≤ sizeLine) (some (.lst q.1, backE p.2 q.2 own)) := by
  simp only [ev] <;> rfl
@[simp] theorem evs_nil : evs F [] r = some ([], r) := by simp only [evs]
@[simp] theorem evs_cons {e : E} {es : List E} : evs F (e :: es) r = (ev F e r).bind fun p => (evs F es p.2).map fun q => (p.1 :: q.1, q.2) := by simp only [evs]
@[simp] theorem evIfs_nil : evIfs F [] r = some (true, r) := by simp only [evIfs]
@[simp] theorem evIfs_one {e : E} : evIfs F [e] r = (ev F e r).bind fun p => (tru p.1).map fun k => (k, p.2) := by
  simp only [evIfs]
  cases ev F e r with
  | none => rfl
  | some p =>
    simp only [Option.bind_some]
    cases tru p.1 with
    | none => rfl
    | some b => cases b <;> rfl
@[simp] theorem evIt_seq {a : E} : evIt F (.seq a) r = (ev F a r).bind fun p => (elems p.1).map fun ds => (ds, p.2) := by simp only [evIt]
noncomputable def rngF : D → D → Option (List D)
  | .int i, .int j => gd (mid i = true ∧ mid j = true) (some (rngD i j))
  | _, _ => none
@[simp] theorem rngF_int {i j : Int} : rngF (.int i) (.int j) = gd (mid i = true ∧ mid j = true) (some (rngD i j)) := rfl
@[simp] theorem evIt_rng1 {a : E} : evIt F (.rng1 a) r = (ev F a r).bind fun p => (rngF (.int 0) p.1).map fun ds => (ds, p.2) := by
  simp only [evIt]
  congr 1
  funext p
  cases p.1 <;> try rfl
  have m0 : mid 0 = true := rfl
  simp only [rngF, m0, true_and]
  unfold gd
  split <;> rfl
@[simp] theorem evIt_rng2 {a b : E} : evIt F (.rng2 a b) r = (ev F a r).bind fun p => (ev F b p.2).bind fun q => (rngF p.1 q.1).map fun ds => (ds, q.2) := by
  simp only [evIt]
  congr 1
  funext p
  congr 1
  funext q
  cases p.1 <;> cases q.1 <;> try rfl
  simp only [rngF]
  unfold gd
  split <;> rfl
/-- behind a statement -/
noncomputable def seqK (F : Fns) (n : Nat) (ss : List S) : Out → Option Out
  | .nx r' => exs F n ss r'
  | o => some o
@[simp] theorem seqK_nx {ss : List S} {r' : Env} : seqK F n ss (.nx r') = exs F n ss r' := rfl
@[simp] theorem seqK_rt {ss : List S} {d : D} {r' : Env} : seqK F n ss (.rt d r') = some (.rt d r') := rfl
@[simp] theorem seqK_bk {ss : List S} {r' : Env} : seqK F n ss (.bk r') = some (.bk r') := rfl
@[simp] theorem seqK_ct {ss : List S} {r' : Env} : seqK F n ss (.ct r') = some (.ct r') := rfl
@[simp] theorem exs_nil : exs F n [] r = some (.nx r) := by simp only [exs]
@[simp] theorem exs_cons {s : S} {ss : List S} : exs F n (s :: ss) r = (ex F n s r).bind (seqK F n ss) := by
  simp only [exs]
  congr 1
@[simp] theorem ex_asg {i : Nat} {e : E} : ex F n (.asg i e) r = (ev F e r).map fun p => .nx (p.2.set i (some p.1)) := by simp only [ex]
def ownD : D → Option D
  | .lst ds => some (.lst ds)
  | .dic ds => some (.dic ds)
  | _ => none
@[simp] theorem ownD_lst {ds : List D} : ownD (.lst ds) = some (.lst ds) := rfl
@[simp] theorem ownD_dic {ds : List (Key × D)} : ownD (.dic ds) = some (.dic ds) := rfl
@[simp] theorem ex_own {i : Nat} {e : E} : ex F n (.own i e) r = (ev F e r).bind fun p => (ownD p.1).map fun d => .nx (p.2.set i (some d)) := by
  simp only [ex]
  congr 1
  funext p
  cases p.1 <;> rfl
@[simp] theorem ex_unp {tg : Tg} {e : E} : ex F n (.unp tg e) r = (ev F e r).bind fun p => (put tg p.1 p.2).map .nx := by simp only [ex]
@[simp] theorem ex_par {i j : Nat} {a b : E} : ex F n (.par i j a b) r = (ev F a r).bind fun p => (ev F b p.2).map fun q => .nx ((q.2.set i (some p.1)).set j (some q.1)) := by simp only [ex]
@[simp] theorem ex_aug {i : Nat} {op : Operator} {e : E} : ex F n (.aug i op e) r = (slot r i).bind fun x => (ev F e r).bind fun p => (daug op x p.1).map fun d => .nx (p.2.set i (some (.int d))) := by simp only [ex]
noncomputable def setD1 : Option D → D → D → Option D
  | some (.lst ds), .int z, d => (ixN ds.length z).map fun j => .lst (ds.set j d)
  | some (.dic ks), k, d => (keyOf k).bind fun z => gd (ks.length < sizeLine) (some (.dic (putD ks z d)))
  | _, _, _ => none
@[simp] theorem ex_set {i : Nat} {k e : E} : ex F n (.set i k e) r = (ev F e r).bind fun p => (slot p.2 i).bind fun _ => (ev F k p.2).bind fun q => (setD1 (slot q.2 i) q.1 p.1).map fun d => .nx (q.2.set i (some d)) := by
  simp only [ex]
  congr 1
  funext p
  congr 1
  funext _
  congr 1
  funext q
  cases slot q.2 i with
  | none => rfl
  | some d =>
    cases d <;> try rfl
    · cases q.1 <;> first | rfl | (simp only [setD1, Option.map_map, Function.comp_def])
    · simp only [setD1]
      cases keyOf q.1 with
      | none => rfl
      | some z =>
        simp only [Option.bind_some]
        unfold gd
        split <;> rfl
@[simp] theorem ex_expr {e : E} : ex F n (.expr e) r = (ev F e r).map fun p => .nx p.2 := by simp only [ex]
@[simp] theorem ex_ife {c : E} {a b : List S} : ex F n (.ife c a b) r = (ev F c r).bind fun p => (tru p.1).bind fun k => if k = true then exs F n a p.2 else exs F n b p.2 := by
  simp only [ex, tst]
  cases ev F c r with
  | none => rfl
  | some p =>
    simp only [Option.bind_some]
    cases tru p.1 <;> rfl
/-- one turn of a loop -/
noncomputable def turn (F : Fns) (n : Nat) (tg : Tg) (it : It) (body : List S) (rb : Env) (d : D) (r' : Env) : Option Out := (put tg d r').bind fun r1 => (exs F n body r1).bind fun o =>
      match o with
      | .nx r2 => gd (stbIt it rb r2) (some o)
      | .ct r2 => gd (stbIt it rb r2) (some o)
      | _ => some o
theorem ex_loop {tg : Tg} {it : It} {body : List S} : ex F n (.loop tg it body) r = (evIt F it r).bind fun p => forLoop (turn F n tg it body p.2) p.1 p.2 := by simp only [ex] <;> rfl
theorem ex_whl {c : E} {body : List S} : ex F n (.whl c body) r = whlLoop (tst F c) (exs F n body) n r := by simp only [ex]
@[simp] theorem ex_ret {e : E} : ex F n (.ret e) r = (ev F e r).map fun p => .rt p.1 p.2 := by simp only [ex]
@[simp] theorem ex_retn : ex F n .retn r = some (.rt .non r) := by simp only [ex]
@[simp] theorem ex_brk : ex F n .brk r = some (.bk r) := by simp only [ex]
@[simp] theorem ex_cnt : ex F n .cnt r = some (.ct r) := by simp only [ex]
@[simp] theorem ex_pas : ex F n .pas r = some (.nx r) := by simp only [ex]
/-- behind a turn's body -/
def turnK (it : It) (rb : Env) : Out → Option Out
  | .nx r2 => some (.nx r2)
  | o => some o
@[simp] theorem put_nm {i : Nat} {d : D} : put (.nm i) d r = some (r.set i (some d)) := by simp only [put]
@[simp] theorem put_tp {ts : List Tg} {ds : List D} : put (.tp ts) (.tup ds) r = puts ts ds r := by simp only [put]
@[simp] theorem puts_nil : puts [] [] r = some r := by simp only [puts]
@[simp] theorem puts_cons {t : Tg} {ts : List Tg} {d : D} {ds : List D} : puts (t :: ts) (d :: ds) r = (put t d r).bind fun r1 => puts ts ds r1 := by simp only [puts]
end
/-! operations -/
@[simp] theorem bo_var {i : Nat} : bo (.var i) = none := rfl
@[simp] theorem bo_mv {i : Nat} : bo (.mv i) = none := rfl
@[simp] theorem bo_non  : bo (.non) = none := rfl
@[simp] theorem bo_bl {b : Bool} : bo (.bl b) = none := rfl
@[simp] theorem bo_int {z : Int} : bo (.int z) = none := rfl
@[simp] theorem bo_str {x : Str} : bo (.str x) = none := rfl
@[simp] theorem bo_glo {x : Str} {d : D} : bo (.glo x d) = none := rfl
@[simp] theorem bo_tup {es : List E} : bo (.tup es) = none := rfl
@[simp] theorem bo_lst {es : List E} : bo (.lst es) = none := rfl
@[simp] theorem bo_dic0  : bo (.dic0) = none := rfl
@[simp] theorem bo_bin {op : Operator} {a : E} {b : E} : bo (.bin op a b) = none := rfl
@[simp] theorem bo_neg {a : E} : bo (.neg a) = none := rfl
@[simp] theorem bo_cmp {op : CmpOp} {a : E} {b : E} : bo (.cmp op a b) = none := rfl
@[simp] theorem bo_chain {op : CmpOp} {op' : CmpOp} {a : E} {b : E} {c : E} : bo (.chain op op' a b c) = none := rfl
@[simp] theorem bo_and {a : E} {b : E} : bo (.and a b) = none := rfl
@[simp] theorem bo_or {a : E} {b : E} : bo (.or a b) = none := rfl
@[simp] theorem bo_not {a : E} : bo (.not a) = none := rfl
@[simp] theorem bo_ite {a : E} {b : E} {c : E} : bo (.ite a b c) = none := rfl
@[simp] theorem bo_idx {a : E} {b : E} : bo (.idx a b) = none := rfl
@[simp] theorem bo_sl {a : E} {b : E} {c : E} : bo (.sl a b c) = none := rfl
@[simp] theorem bo_call {i : Nat} {es : List E} : bo (.call i es) = none := rfl
@[simp] theorem bo_b1 {u : B1} {a : E} : bo (.b1 u a) = none := rfl
@[simp] theorem bo_b2 {v : B2} {a : E} {b : E} : bo (.b2 v a b) = none := rfl
@[simp] theorem bo_isi {a : E} {t : Ty} : bo (.isi a t) = none := rfl
@[simp] theorem bo_get {a : E} {b : E} : bo (.get a b) = none := rfl
@[simp] theorem bo_get2 {a : E} {b : E} {c : E} : bo (.get2 a b c) = none := rfl
@[simp] theorem bo_pop {i : Nat} : bo (.pop i) = none := rfl
@[simp] theorem bo_mth {m : M1} {i : Nat} {a : E} : bo (.mth m i a) = none := rfl
@[simp] theorem bo_lc {a : E} {tg : Tg} {it : It} {es : List E} {own : List Nat} : bo (.lc a tg it es own) = none := rfl
@[simp] theorem bo_bor {i : Nat} : bo (.bor i) = some i := rfl
@[simp] theorem stb_simp {e : E} {r r' : Env} : stb e r r' = stbO (bo e) r r' := stb_bo e r r'
@[simp] theorem stbO_none {r r' : Env} : stbO none r r' = True := rfl
@[simp] theorem stbO_some {i : Nat} {r r' : Env} : stbO (some i) r r' = (r'[i]? = r[i]?) := rfl
@[simp] theorem stbIt_seq {e : E} {r r' : Env} : stbIt (.seq e) r r' = stbO (bo e) r r' := stb_bo e r r'
@[simp] theorem stbIt_rng1 {e : E} {r r' : Env} : stbIt (.rng1 e) r r' = True := rfl
@[simp] theorem stbIt_rng2 {e f : E} {r r' : Env} : stbIt (.rng2 e f) r r' = True := rfl
@[simp] theorem fill_nil {r : Env} : fill [] [] r = some [] := rfl
@[simp] theorem fill_bor {i : Nat} {es : List E} {d : D} {ds : List D} {r : Env} : fill (.bor i :: es) (d :: ds) r = (slot r i).bind fun d => (fill es ds r).map (d :: ·) := rfl
@[simp] theorem outs_nil {r : Env} : outs [] [] r = some r := rfl
@[simp] theorem outs_bor {i : Nat} {es : List E} {d : D} {ds : List D} {r : Env} : outs (.bor i :: es) (d :: ds) r = outs es ds (r.set i (some d)) := rfl
@[simp] theorem fi_var {i : Nat} {ee : List E} {dd : D} {ds : List D} {rr : Env} : fill (.var i :: ee) (dd :: ds) rr = (fill ee ds rr).map (dd :: ·) := fill_val rfl
@[simp] theorem ou_var {i : Nat} {ee : List E} {ds : List D} {rr : Env} : outs (.var i :: ee) ds rr = outs ee ds rr := outs_val rfl
@[simp] theorem pa_var {i : Nat} {ii : Int} : partOf (.var i) (.int ii) = some (some ii) := rfl
@[simp] theorem fi_mv {i : Nat} {ee : List E} {dd : D} {ds : List D} {rr : Env} : fill (.mv i :: ee) (dd :: ds) rr = (fill ee ds rr).map (dd :: ·) := fill_val rfl
@[simp] theorem ou_mv {i : Nat} {ee : List E} {ds : List D} {rr : Env} : outs (.mv i :: ee) ds rr = outs ee ds rr := outs_val rfl
@[simp] theorem pa_mv {i : Nat} {ii : Int} : partOf (.mv i) (.int ii) = some (some ii) := rfl
@[simp] theorem fi_non  {ee : List E} {dd : D} {ds : List D} {rr : Env} : fill (.non :: ee) (dd :: ds) rr = (fill ee ds rr).map (dd :: ·) := fill_val rfl
@[simp] theorem ou_non  {ee : List E} {ds : List D} {rr : Env} : outs (.non :: ee) ds rr = outs ee ds rr := outs_val rfl
@[simp] theorem fi_bl {b : Bool} {ee : List E} {dd : D} {ds : List D} {rr : Env} : fill (.bl b :: ee) (dd :: ds) rr = (fill ee ds rr).map (dd :: ·) := fill_val rfl
@[simp] theorem ou_bl {b : Bool} {ee : List E} {ds : List D} {rr : Env} : outs (.bl b :: ee) ds rr = outs ee ds rr := outs_val rfl
@[simp] theorem pa_bl {b : Bool} {ii : Int} : partOf (.bl b) (.int ii) = some (some ii) := rfl
@[simp] theorem fi_int {z : Int} {ee : List E} {dd : D} {ds : List D} {rr : Env} : fill (.int z :: ee) (dd :: ds) rr = (fill ee ds rr).map (dd :: ·) := fill_val rfl
@[simp] theorem ou_int {z : Int} {ee : List E} {ds : List D} {rr : Env} : outs (.int z :: ee) ds rr = outs ee ds rr := outs_val rfl
@[simp] theorem pa_int {z : Int} {ii : Int} : partOf (.int z) (.int ii) = some (some ii) := rfl
@[simp] theorem fi_str {x : Str} {ee : List E} {dd : D} {ds : List D} {rr : Env} : fill (.str x :: ee) (dd :: ds) rr = (fill ee ds rr).map (dd :: ·) := fill_val rfl
@[simp] theorem ou_str {x : Str} {ee : List E} {ds : List D} {rr : Env} : outs (.str x :: ee) ds rr = outs ee ds rr := outs_val rfl
@[simp] theorem pa_str {x : Str} {ii : Int} : partOf (.str x) (.int ii) = some (some ii) := rfl
@[simp] theorem fi_glo {x : Str} {d : D} {ee : List E} {dd : D} {ds : List D} {rr : Env} : fill (.glo x d :: ee) (dd :: ds) rr = (fill ee ds rr).map (dd :: ·) := fill_val rfl
@[simp] theorem ou_glo {x : Str} {d : D} {ee : List E} {ds : List D} {rr : Env} : outs (.glo x d :: ee) ds rr = outs ee ds rr := outs_val rfl
@[simp] theorem pa_glo {x : Str} {d : D} {ii : Int} : partOf (.glo x d) (.int ii) = some (some ii) := rfl
@[simp] theorem fi_tup {es : List E} {ee : List E} {dd : D} {ds : List D} {rr : Env} : fill (.tup es :: ee) (dd :: ds) rr = (fill ee ds rr).map (dd :: ·) := fill_val rfl
@[simp] theorem ou_tup {es : List E} {ee : List E} {ds : List D} {rr : Env} : outs (.tup es :: ee) ds rr = outs ee ds rr := outs_val rfl
@[simp] theorem pa_tup {es : List E} {ii : Int} : partOf (.tup es) (.int ii) = some (some ii) := rfl
@[simp] theorem fi_lst {es : List E} {ee : List E} {dd : D} {ds : List D} {rr : Env} : fill (.lst es :: ee) (dd :: ds) rr = (fill ee ds rr).map (dd :: ·) := fill_val rfl
@[simp] theorem ou_lst {es : List E} {ee : List E} {ds : List D} {rr : Env} : outs (.lst es :: ee) ds rr = outs ee ds rr := outs_val rfl
@[simp] theorem pa_lst {es : List E} {ii : Int} : partOf (.lst es) (.int ii) = some (some ii) := rfl
@[simp] theorem fi_dic0  {ee : List E} {dd : D} {ds : List D} {rr : Env} : fill (.dic0 :: ee) (dd :: ds) rr = (fill ee ds rr).map (dd :: ·) := fill_val rfl
@[simp] theorem ou_dic0  {ee : List E} {ds : List D} {rr : Env} : outs (.dic0 :: ee) ds rr = outs ee ds rr := outs_val rfl
@[simp] theorem pa_dic0  {ii : Int} : partOf (.dic0) (.int ii) = some (some ii) := rfl
@[simp] theorem fi_bin {op : Operator} {a : E} {b : E} {ee : List E} {dd : D} {ds : List D} {rr : Env} : fill (.bin op a b :: ee) (dd :: ds) rr = (fill ee ds rr).map (dd :: ·) := fill_val rfl
@[simp] theorem ou_bin {op : Operator} {a : E} {b : E} {ee : List E} {ds : List D} {rr : Env} : outs (.bin op a b :: ee) ds rr = outs ee ds rr := outs_val rfl
@[simp] theorem pa_bin {op : Operator} {a : E} {b : E} {ii : Int} : partOf (.bin op a b) (.int ii) = some (some ii) := rfl
@[simp] theorem fi_neg {a : E} {ee : List E} {dd : D} {ds : List D} {rr : Env} : fill (.neg a :: ee) (dd :: ds) rr = (fill ee ds rr).map (dd :: ·) := fill_val rfl
@[simp] theorem ou_neg {a : E} {ee : List E} {ds : List D} {rr : Env} : outs (.neg a :: ee) ds rr = outs ee ds rr := outs_val rfl
@[simp] theorem pa_neg {a : E} {ii : Int} : partOf (.neg a) (.int ii) = some (some ii) := rfl
@[simp] theorem fi_cmp {op : CmpOp} {a : E} {b : E} {ee : List E} {dd : D} {ds : List D} {rr : Env} : fill (.cmp op a b :: ee) (dd :: ds) rr = (fill ee ds rr).map (dd :: ·) := fill_val rfl
@[simp] theorem ou_cmp {op : CmpOp} {a : E} {b : E} {ee : List E} {ds : List D} {rr : Env} : outs (.cmp op a b :: ee) ds rr = outs ee ds rr := outs_val rfl
@[simp] theorem pa_cmp {op : CmpOp} {a : E} {b : E} {ii : Int} : partOf (.cmp op a b) (.int ii) = some (some ii) := rfl
@[simp] theorem fi_chain {op : CmpOp} {op' : CmpOp} {a : E} {b : E} {c : E} {ee : List E} {dd : D} {ds : List D} {rr : Env} : fill (.chain op op' a b c :: ee) (dd :: ds) rr = (fill ee ds rr).map (dd :: ·) := fill_val rfl
@[simp] theorem ou_chain {op : CmpOp} {op' : CmpOp} {a : E} {b : E} {c : E} {ee : List E} {ds : List D} {rr : Env} : outs (.chain op op' a b c :: ee) ds rr = outs ee ds rr := outs_val rfl
@[simp] theorem pa_chain {op : CmpOp} {op' : CmpOp} {a : E} {b : E} {c : E} {ii : Int} : partOf (.chain op op' a b c) (.int ii) = some (some ii) := rfl
@[simp] theorem fi_and {a : E} {b : E} {ee : List E} {dd : D} {ds : List D} {rr : Env} : fill (.and a b :: ee) (dd :: ds) rr = (fill ee ds rr).map (dd :: ·) := fill_val rfl
@[simp] theorem ou_and {a : E} {b : E} {ee : List E} {ds : List D} {rr : Env} : outs (.and a b :: ee) ds rr = outs ee ds rr := outs_val rfl
@[simp] theorem pa_and {a : E} {b : E} {ii : Int} : partOf (.and a b) (.int ii) = some (some ii) := rfl
@[simp] theorem fi_or {a : E} {b : E} {ee : List E} {dd : D} {ds : List D} {rr : Env} : fill (.or a b :: ee) (dd :: ds) rr = (fill ee ds rr).map (dd :: ·) := fill_val rfl
@[simp] theorem ou_or {a : E} {b : E} {ee : List E} {ds : List D} {rr : Env} : outs (.or a b :: ee) ds rr = outs ee ds rr := outs_val rfl
@[simp] theorem pa_or {a : E} {b : E} {ii : Int} : partOf (.or a b) (.int ii) = some (some ii) := rfl
@[simp] theorem fi_not {a : E} {ee : List E} {dd : D} {ds : List D} {rr : Env} : fill (.not a :: ee) (dd :: ds) rr = (fill ee ds rr).map (dd :: ·) := fill_val rfl
@[simp] theorem ou_not {a : E} {ee : List E} {ds : List D} {rr : Env} : outs (.not a :: ee) ds rr = outs ee ds rr := outs_val rfl
@[simp] theorem pa_not {a : E} {ii : Int} : partOf (.not a) (.int ii) = some (some ii) := rfl
@[simp] theorem fi_ite {a : E} {b : E} {c : E} {ee : List E} {dd : D} {ds : List D} {rr : Env} : fill (.ite a b c :: ee) (dd :: ds) rr = (fill ee ds rr).map (dd :: ·) := fill_val rfl
@[simp] theorem ou_ite {a : E} {b : E} {c : E} {ee : List E} {ds : List D} {rr : Env} : outs (.ite a b c :: ee) ds rr = outs ee ds rr := outs_val rfl
@[simp] theorem pa_ite {a : E} {b : E} {c : E} {ii : Int} : partOf (.ite a b c) (.int ii) = some (some ii) := rfl
@[simp] theorem fi_idx {a : E} {b : E} {ee : List E} {dd : D} {ds : List D} {rr : Env} : fill (.idx a b :: ee) (dd :: ds) rr = (fill ee ds rr).map (dd :: ·) := fill_val rfl
@[simp] theorem ou_idx {a : E} {b : E} {ee : List E} {ds : List D} {rr : Env} : outs (.idx a b :: ee) ds rr = outs ee ds rr := outs_val rfl
@[simp] theorem pa_idx {a : E} {b : E} {ii : Int} : partOf (.idx a b) (.int ii) = some (some ii) := rfl
@[simp] theorem fi_sl {a : E} {b : E} {c : E} {ee : List E} {dd : D} {ds : List D} {rr : Env} : fill (.sl a b c :: ee) (dd :: ds) rr = (fill ee ds rr).map (dd :: ·) := fill_val rfl
@[simp] theorem ou_sl {a : E} {b : E} {c : E} {ee : List E} {ds : List D} {rr : Env} : outs (.sl a b c :: ee) ds rr = outs ee ds rr := outs_val rfl
@[simp] theorem pa_sl {a : E} {b : E} {c : E} {ii : Int} : partOf (.sl a b c) (.int ii) = some (some ii) := rfl
@[simp] theorem fi_call {i : Nat} {es : List E} {ee : List E} {dd : D} {ds : List D} {rr : Env} : fill (.call i es :: ee) (dd :: ds) rr = (fill ee ds rr).map (dd :: ·) := fill_val rfl
@[simp] theorem ou_call {i : Nat} {es : List E} {ee : List E} {ds : List D} {rr : Env} : outs (.call i es :: ee) ds rr = outs ee ds rr := outs_val rfl
@[simp] theorem pa_call {i : Nat} {es : List E} {ii : Int} : partOf (.call i es) (.int ii) = some (some ii) := rfl
@[simp] theorem fi_b1 {u : B1} {a : E} {ee : List E} {dd : D} {ds : List D} {rr : Env} : fill (.b1 u a :: ee) (dd :: ds) rr = (fill ee ds rr).map (dd :: ·) := fill_val rfl
@[simp] theorem ou_b1 {u : B1} {a : E} {ee : List E} {ds : List D} {rr : Env} : outs (.b1 u a :: ee) ds rr = outs ee ds rr := outs_val rfl
@[simp] theorem pa_b1 {u : B1} {a : E} {ii : Int} : partOf (.b1 u a) (.int ii) = some (some ii) := rfl
@[simp] theorem fi_b2 {v : B2} {a : E} {b : E} {ee : List E} {dd : D} {ds : List D} {rr : Env} : fill (.b2 v a b :: ee) (dd :: ds) rr = (fill ee ds rr).map (dd :: ·) := fill_val rfl
@[simp] theorem ou_b2 {v : B2} {a : E} {b : E} {ee : List E} {ds : List D} {rr : Env} : outs (.b2 v a b :: ee) ds rr = outs ee ds rr := outs_val rfl
@[simp] theorem pa_b2 {v : B2} {a : E} {b : E} {ii : Int} : partOf (.b2 v a b) (.int ii) = some (some ii) := rfl
@[simp] theorem fi_isi {a : E} {t : Ty} {ee : List E} {dd : D} {ds : List D} {rr : Env} : fill (.isi a t :: ee) (dd :: ds) rr = (fill ee ds rr).map (dd :: ·) := fill_val rfl
@[simp] theorem ou_isi {a : E} {t : Ty} {ee : List E} {ds : List D} {rr : Env} : outs (.isi a t :: ee) ds rr = outs ee ds rr := outs_val rfl
@[simp] theorem pa_isi {a : E} {t : Ty} {ii : Int} : partOf (.isi a t) (.int ii) = some (some ii) := rfl
@[simp] theorem fi_get {a : E} {b : E} {ee : List E} {dd : D} {ds : List D} {rr : Env} : fill (.get a b :: ee) (dd :: ds) rr = (fill ee ds rr).map (dd :: ·) := fill_val rfl
@[simp] theorem ou_get {a : E} {b : E} {ee : List E} {ds : List D} {rr : Env} : outs (.get a b :: ee) ds rr = outs ee ds rr := outs_val rfl
@[simp] theorem pa_get {a : E} {b : E} {ii : Int} : partOf (.get a b) (.int ii) = some (some ii) := rfl
@[simp] theorem fi_get2 {a : E} {b : E} {c : E} {ee : List E} {dd : D} {ds : List D} {rr : Env} : fill (.get2 a b c :: ee) (dd :: ds) rr = (fill ee ds rr).map (dd :: ·) := fill_val rfl
@[simp] theorem ou_get2 {a : E} {b : E} {c : E} {ee : List E} {ds : List D} {rr : Env} : outs (.get2 a b c :: ee) ds rr = outs ee ds rr := outs_val rfl
@[simp] theorem pa_get2 {a : E} {b : E} {c : E} {ii : Int} : partOf (.get2 a b c) (.int ii) = some (some ii) := rfl
@[simp] theorem fi_pop {i : Nat} {ee : List E} {dd : D} {ds : List D} {rr : Env} : fill (.pop i :: ee) (dd :: ds) rr = (fill ee ds rr).map (dd :: ·) := fill_val rfl
@[simp] theorem ou_pop {i : Nat} {ee : List E} {ds : List D} {rr : Env} : outs (.pop i :: ee) ds rr = outs ee ds rr := outs_val rfl
@[simp] theorem pa_pop {i : Nat} {ii : Int} : partOf (.pop i) (.int ii) = some (some ii) := rfl
@[simp] theorem fi_mth {m : M1} {i : Nat} {a : E} {ee : List E} {dd : D} {ds : List D} {rr : Env} : fill (.mth m i a :: ee) (dd :: ds) rr = (fill ee ds rr).map (dd :: ·) := fill_val rfl
@[simp] theorem ou_mth {m : M1} {i : Nat} {a : E} {ee : List E} {ds : List D} {rr : Env} : outs (.mth m i a :: ee) ds rr = outs ee ds rr := outs_val rfl
@[simp] theorem pa_mth {m : M1} {i : Nat} {a : E} {ii : Int} : partOf (.mth m i a) (.int ii) = some (some ii) := rfl
@[simp] theorem fi_lc {a : E} {tg : Tg} {it : It} {es : List E} {own : List Nat} {ee : List E} {dd : D} {ds : List D} {rr : Env} : fill (.lc a tg it es own :: ee) (dd :: ds) rr = (fill ee ds rr).map (dd :: ·) := fill_val rfl
@[simp] theorem ou_lc {a : E} {tg : Tg} {it : It} {es : List E} {own : List Nat} {ee : List E} {ds : List D} {rr : Env} : outs (.lc a tg it es own :: ee) ds rr = outs ee ds rr := outs_val rfl
@[simp] theorem pa_lc {a : E} {tg : Tg} {it : It} {es : List E} {own : List Nat} {ii : Int} : partOf (.lc a tg it es own) (.int ii) = some (some ii) := rfl
@[simp] theorem backs_nil {i : Nat} {r : Env} : backs [] i r = some [] := rfl
@[simp] theorem backs_io {ks : List Kd} {i : Nat} {r : Env} : backs (.io :: ks) i r = (slot r i).bind fun d => (backs ks (i + 1) r).map (d :: ·) := rfl
@[simp] theorem backs_own {ks : List Kd} {i : Nat} {r : Env} : backs (.own :: ks) i r = backs ks (i + 1) r := rfl
@[simp] theorem backs_val {ks : List Kd} {i : Nat} {r : Env} : backs (.val :: ks) i r = backs ks (i + 1) r := rfl
@[simp] theorem part_non {d : D} : partOf .non d = some none := rfl
@[simp] theorem part_bor {i : Nat} {ii : Int} : partOf (.bor i) (.int ii) = some (some ii) := rfl
@[simp] theorem elems_lst {ds : List D} : elems (.lst ds) = some ds := rfl
@[simp] theorem elems_tup {ds : List D} : elems (.tup ds) = some ds := rfl
@[simp] theorem elems_scr {ds : List D} : elems (.scr ds) = some ds := rfl
@[simp] theorem tru_bl {b : Bool} : tru (.bl b) = some b := rfl
@[simp] theorem tru_int {i : Int} : tru (.int i) = some (i != 0) := rfl
@[simp] theorem tru_lst {ds : List D} : tru (.lst ds) = some (!ds.isEmpty) := rfl
@[simp] theorem tru_tup {ds : List D} : tru (.tup ds) = some (!ds.isEmpty) := rfl
@[simp] theorem tru_non : tru .non = some false := rfl
@[simp] theorem dlen_lst {ds : List D} : dlen (.lst ds) = some (ds.length : Int) := rfl
@[simp] theorem dlen_tup {ds : List D} : dlen (.tup ds) = some (ds.length : Int) := rfl
@[simp] theorem dlen_scr {ds : List D} : dlen (.scr ds) = some (ds.length : Int) := rfl
@[simp] theorem isL_lst {ds : List D} : isL (.lst ds) = true := rfl
@[simp] theorem keyOf_int {i : Int} : keyOf (.int i) = some (.inl i) := rfl
@[simp] theorem keyOf_str {x : Str} : keyOf (.str x) = some (.inr x) := rfl
@[simp] theorem isT_non {t : Ty} : isT t .non = some false := by cases t <;> rfl
@[simp] theorem isT_int {t : Ty} {i : Int} : isT t (.int i) = some (decide (t = .tint)) := by cases t <;> rfl
@[simp] theorem isT_bl {t : Ty} {b : Bool} : isT t (.bl b) = some (decide (t = .tint) || decide (t = .tbool)) := by cases t <;> rfl
@[simp] theorem isT_str {t : Ty} {x : Str} : isT t (.str x) = some (decide (t = .tstr)) := by cases t <;> rfl
@[simp] theorem isT_tup {t : Ty} {ds : List D} : isT t (.tup ds) = some (decide (t = .ttuple)) := by cases t <;> rfl
@[simp] theorem isT_lst {t : Ty} {ds : List D} : isT t (.lst ds) = some (decide (t = .tlist)) := by cases t <;> rfl
@[simp] theorem dcmp_iss {x : Str} : dcmp .Is (.str x) .non = some false := rfl
@[simp] theorem dcmp_isb {b : Bool} : dcmp .Is (.bl b) .non = some false := rfl
@[simp] theorem dbin_add {i j : Int} : dbin .Add (.int i) (.int j) = some (.int (i + j)) := rfl
@[simp] theorem dbin_addb {i : Int} {b : Bool} : dbin .Add (.int i) (.bl b) = some (.int (i + if b then 1 else 0)) := rfl
@[simp] theorem dbin_sub {i j : Int} : dbin .Sub (.int i) (.int j) = some (.int (i - j)) := rfl
@[simp] theorem dbin_mul {i j : Int} : dbin .Mult (.int i) (.int j) = if (small i || small j) = true then some (.int (i * j)) else none := rfl
@[simp] theorem dbin_div {i j : Int} : dbin .FloorDiv (.int i) (.int j) = if j ≠ 0 ∧ j.natAbs < 1073741824 then some (.int (i.fdiv j)) else none := rfl
@[simp] theorem dbin_mod {i j : Int} : dbin .Mod (.int i) (.int j) = if j ≠ 0 then some (.int (i.fmod j)) else none := rfl
@[simp] theorem dbin_addt {xs ys : List D} : dbin .Add (.tup xs) (.tup ys) = if xs.length + ys.length ≤ sizeLine then some (.tup (xs ++ ys)) else none := rfl
@[simp] theorem dbin_addl {xs ys : List D} : dbin .Add (.lst xs) (.lst ys) = if xs.length + ys.length ≤ sizeLine then some (.lst (xs ++ ys)) else none := rfl
@[simp] theorem dcmp_lt {i j : Int} : dcmp .Lt (.int i) (.int j) = some (decide (i < j)) := rfl
@[simp] theorem dcmp_gt {i j : Int} : dcmp .Gt (.int i) (.int j) = some (decide (j < i)) := rfl
@[simp] theorem dcmp_le {i j : Int} : dcmp .LtE (.int i) (.int j) = some (decide (i ≤ j)) := rfl
@[simp] theorem dcmp_ge {i j : Int} : dcmp .GtE (.int i) (.int j) = some (decide (j ≤ i)) := rfl
theorem deq_int {i j : Int} : deq (.int i) (.int j) = some (i == j) := rfl
@[simp] theorem dcmp_eq {i j : Int} : dcmp .Eq (.int i) (.int j) = some (i == j) := rfl
@[simp] theorem dcmp_ne {i j : Int} : dcmp .NotEq (.int i) (.int j) = some (!(i == j)) := rfl
@[simp] theorem dcmp_eqb {i j : Bool} : dcmp .Eq (.bl i) (.bl j) = some (i == j) := rfl
@[simp] theorem dcmp_neb {i j : Bool} : dcmp .NotEq (.bl i) (.bl j) = some (!(i == j)) := rfl
@[simp] theorem dcmp_isn : dcmp .Is .non .non = some true := rfl
@[simp] theorem dcmp_isi {i : Int} : dcmp .Is (.int i) .non = some false := rfl
@[simp] theorem dcmp_ist {ds : List D} : dcmp .Is (.tup ds) .non = some false := rfl
@[simp] theorem dcmp_isl {ds : List D} : dcmp .Is (.lst ds) .non = some false := rfl
@[simp] theorem dcmp_notn : dcmp .IsNot .non .non = some false := rfl
@[simp] theorem dcmp_noti {i : Int} : dcmp .IsNot (.int i) .non = some true := rfl
@[simp] theorem dcmp_nott {ds : List D} : dcmp .IsNot (.tup ds) .non = some true := rfl
@[simp] theorem didx_tup {ds : List D} {i : Int} : didx (.tup ds) (.int i) = atI ds i := rfl
@[simp] theorem didx_lst {ds : List D} {i : Int} : didx (.lst ds) (.int i) = atI ds i := rfl
@[simp] theorem didx_scr {ds : List D} {i : Int} : didx (.scr ds) (.int i) = atI ds i := rfl
@[simp] theorem dsl_tup {ds : List D} {i j : Option Int} : dsl (.tup ds) i j = some (.tup (cutD ds i j)) := rfl
@[simp] theorem dsl_lst {ds : List D} {i j : Option Int} : dsl (.lst ds) i j = some (.lst (cutD ds i j)) := rfl
@[simp] theorem dsl_scr {ds : List D} {i j : Option Int} : dsl (.scr ds) i j = some (.lst (cutD ds i j)) := rfl
@[simp] theorem b1_lenD {d : D} : b1 .len d = (dlen d).map .int := rfl
@[simp] theorem b1_intI {i : Int} : b1 .int (.int i) = some (.int i) := rfl
@[simp] theorem b1_intB {b : Bool} : b1 .int (.bl b) = some (.int (if b then 1 else 0)) := rfl
@[simp] theorem b1_absI {i : Int} : b1 .abs (.int i) = some (.int (iabs i)) := rfl
@[simp] theorem b1_sumL {ds : List D} : b1 .sum (.lst ds) = (intsD ds).map fun ns => .int ns.sum := rfl
@[simp] theorem b1_sumT {ds : List D} : b1 .sum (.tup ds) = (intsD ds).map fun ns => .int ns.sum := rfl
@[simp] theorem b1_maxT {ds : List D} : b1 .max (.tup ds) = ((intsD ds).bind maxI).map .int := rfl
@[simp] theorem b1_minT {ds : List D} : b1 .min (.tup ds) = ((intsD ds).bind minI).map .int := rfl
@[simp] theorem b1_listL {ds : List D} : b1 .list (.lst ds) = some (.lst ds) := rfl
@[simp] theorem b1_listT {ds : List D} : b1 .list (.tup ds) = some (.lst ds) := rfl
@[simp] theorem b1_listS {ds : List D} : b1 .list (.scr ds) = some (.lst ds) := rfl
@[simp] theorem b1_tupL {ds : List D} : b1 .tuple (.lst ds) = some (.tup ds) := rfl
@[simp] theorem b1_tupT {ds : List D} : b1 .tuple (.tup ds) = some (.tup ds) := rfl
@[simp] theorem b1_maxL {ds : List D} : b1 .max (.lst ds) = ((intsD ds).bind maxI).map .int := rfl
@[simp] theorem b1_minL {ds : List D} : b1 .min (.lst ds) = ((intsD ds).bind minI).map .int := rfl
@[simp] theorem b1_allL {ds : List D} : b1 .all (.lst ds) = (blsD ds).map fun bs => .bl (bs.all id) := rfl
@[simp] theorem b1_anyL {ds : List D} : b1 .any (.lst ds) = (blsD ds).map fun bs => .bl (bs.any id) := rfl
@[simp] theorem b2_minI {i j : Int} : b2 .min (.int i) (.int j) = some (.int (imin i j)) := rfl
@[simp] theorem b2_maxI {i j : Int} : b2 .max (.int i) (.int j) = some (.int (imax i j)) := rfl
@[simp] theorem mthD_app {ds : List D} {d : D} : mthD .append (some (.lst ds)) d = if ds.length < sizeLine then some (.non, .lst (ds ++ [d])) else none := by
  simp only [mthD, m1]; split <;> rfl
@[simp] theorem mthD_ext {ds es : List D} : mthD .extend (some (.lst ds)) (.lst es) = if ds.length + es.length ≤ sizeLine then some (.non, .lst (ds ++ es)) else none := by
  simp only [mthD, m1]; split <;> rfl
@[simp] theorem setD1_lst {ds : List D} {z : Int} {d : D} : setD1 (some (.lst ds)) (.int z) d = (ixN ds.length z).map fun j => .lst (ds.set j d) := rfl
@[simp] theorem daug_add {i j : Int} : daug .Add (.int i) (.int j) = some (i + j) := rfl
@[simp] theorem daug_sub {i j : Int} : daug .Sub (.int i) (.int j) = some (i - j) := rfl
@[simp] theorem fin_rt {d : Fd} {v : D} {r : Env} : fin d (.rt v r) = (backs (d.ks.take d.P.length) 0 r).map fun os => (v, os) := rfl
@[simp] theorem fin_nx {d : Fd} {r : Env} : fin d (.nx r) = gd (d.fr = false) ((backs (d.ks.take d.P.length) 0 r).map fun os => (.non, os)) := rfl
@[simp] theorem intsD_map : ∀ ns : List Int, intsD (ns.map D.int) = some ns
  | [] => rfl
  | n :: ns => by simp [intsD, intsD_map ns]
/-- a loop, by an invariant; the body may stop it by a return -/
theorem for_inv {g : D → Env → Option Out} {ds : List D} {r : Env} (P : Nat → Env → Prop) (h0 : P 0 r) (hs : ∀ i d r, ds[i]? = some d → P i r → ∃ r', (g d r = some (.nx r') ∨ g d r = some (.ct r')) ∧ P (i + 1) r') :
    ∃ r', forLoop g ds r = some (.nx r') ∧ P ds.length r' := by
  induction ds generalizing r P with
  | nil => exact ⟨r, rfl, h0⟩
  | cons d ds ih =>
    obtain ⟨r1, h1, p1⟩ := hs 0 d r rfl h0
    obtain ⟨r2, h2, p2⟩ := ih (fun i => P (i + 1)) p1 fun i d r hi hp => hs (i + 1) d r (by simpa using hi) hp
    refine ⟨r2, ?_, p2⟩
    rcases h1 with h1 | h1 <;> (simp only [forLoop, h1, Option.bind_some]; exact h2)
/-- .. or by a break, a return -/
theorem for_inv2 {g : D → Env → Option Out} {ds : List D} {r : Env} (P : Nat → Env → Prop) (Q : Out → Prop) (h0 : P 0 r)
    (hs : ∀ i d r, ds[i]? = some d → P i r → (∃ r', (g d r = some (.nx r') ∨ g d r = some (.ct r')) ∧ P (i + 1) r') ∨ (∃ r', g d r = some (.bk r') ∧ Q (.nx r')) ∨ ∃ v r', g d r = some (.rt v r') ∧ Q (.rt v r')) (he : ∀ r, P ds.length r → Q (.nx r)) :
    ∃ o, forLoop g ds r = some o ∧ Q o := by
  induction ds generalizing r P with
  | nil => exact ⟨.nx r, rfl, he r h0⟩
  | cons d ds ih =>
    rcases hs 0 d r rfl h0 with ⟨r1, h1, p1⟩ | ⟨r1, h1, q⟩ | ⟨v, r1, h1, q⟩
    · obtain ⟨o, h2, p2⟩ := ih (fun i => P (i + 1)) p1 (fun i d r hi hp => hs (i + 1) d r (by simpa using hi) hp) he
      refine ⟨o, ?_, p2⟩
      rcases h1 with h1 | h1 <;> (simp only [forLoop, h1, Option.bind_some]; exact h2)
    · exact ⟨_, by simp only [forLoop, h1, Option.bind_some], q⟩
    · exact ⟨_, by simp only [forLoop, h1, Option.bind_some], q⟩
/-- a comprehension, by an invariant -/
theorem lc_inv {g : D → Env → Option (Option D × Env)} {ds : List D} {r : Env} (P : Nat → List D → Env → Prop) (h0 : P 0 [] r) (hs : ∀ i d r xs, ds[i]? = some d → P i xs r → ∃ o r', g d r = some (o, r') ∧ P (i + 1) (match o with | some x => xs ++ [x] | none => xs) r') :
    ∃ xs r', lcLoop g ds r = some (xs, r') ∧ P ds.length xs r' := by
  suffices H : ∀ (ds : List D) (r : Env) (acc : List D) (P : Nat → List D → Env → Prop), P 0 acc r → (∀ i d r xs, ds[i]? = some d → P i xs r → ∃ o r', g d r = some (o, r') ∧ P (i + 1) (match o with | some x => xs ++ [x] | none => xs) r') →
      ∃ xs r', lcLoop g ds r = some (xs, r') ∧ P ds.length (acc ++ xs) r' by
    simpa using H ds r [] P h0 hs
  intro ds
  induction ds with
  | nil => intro r acc P h0 hs; exact ⟨[], r, rfl, by simpa using h0⟩
  | cons d ds ih =>
    intro r acc P h0 hs
    obtain ⟨o, r1, h1, p1⟩ := hs 0 d r acc rfl h0
    obtain ⟨xs, r2, h2, p2⟩ := ih r1 _ (fun i => P (i + 1)) p1 fun i d r xs hi hp => hs (i + 1) d r xs (by simpa using hi) hp
    cases o with
    | none => exact ⟨xs, r2, by simp only [lcLoop, h1, Option.bind_some, h2], by simpa using p2⟩
    | some x => exact ⟨x :: xs, r2, by simp only [lcLoop, h1, Option.bind_some, h2], by simpa using p2⟩
/-- a comprehension that changes nothing -/
theorem lc_pure {g : D → Env → Option (Option D × Env)} {ds : List D} {r : Env} {f : D → Option D} {W : Env → Env} (hw : ∀ d ∈ ds, ∀ r', W r' = W r → ∃ r2, g d r' = some (f d, r2) ∧ W r2 = W r) :
    ∃ r', lcLoop g ds r = some (ds.filterMap f, r') ∧ W r' = W r := by
  suffices H : ∀ (ds : List D) (r1 : Env), W r1 = W r → (∀ d ∈ ds, ∀ r', W r' = W r → ∃ r2, g d r' = some (f d, r2) ∧ W r2 = W r) → ∃ r', lcLoop g ds r1 = some (ds.filterMap f, r') ∧ W r' = W r from H ds r rfl hw
  intro ds
  induction ds with
  | nil => intro r1 h _; exact ⟨r1, rfl, h⟩
  | cons d ds ih =>
    intro r1 h hs
    obtain ⟨r2, h1, h2⟩ := hs d List.mem_cons_self r1 h
    obtain ⟨r3, h3, h4⟩ := ih r2 h2 fun d hd => hs d (List.mem_cons_of_mem _ hd)
    refine ⟨r3, ?_, h4⟩
    simp only [lcLoop, h1, Option.bind_some, h3, List.filterMap_cons]
    cases f d <;> rfl
theorem whl_inv {c : Env → Option (Bool × Env)} {g : Env → Option Out} (P : Nat → Env → Prop) (Q : Out → Prop)
    (hs : ∀ m r, P m r → ∃ b r1, c r = some (b, r1) ∧ (b = false → Q (.nx r1)) ∧ (b = true → (∃ r2, (g r1 = some (.nx r2) ∨ g r1 = some (.ct r2)) ∧ ∃ m', m' < m ∧ P m' r2) ∨ (∃ r2, g r1 = some (.bk r2) ∧ Q (.nx r2)) ∨ ∃ v r2, g r1 = some (.rt v r2) ∧ Q (.rt v r2))) :
    ∀ (n m : Nat) (r : Env), m < n → P m r → ∃ o, whlLoop c g n r = some o ∧ Q o
  | 0, m, r, h, _ => absurd h (Nat.not_lt_zero _)
  | n + 1, m, r, h, p => by
    obtain ⟨b, r1, h1, h2, h3⟩ := hs m r p
    cases b with
    | false => exact ⟨_, by simp only [whlLoop, h1, Option.bind_some]; rfl, h2 rfl⟩
    | true =>
      rcases h3 rfl with ⟨r2, h4, m', hm, p'⟩ | ⟨r2, h4, q⟩ | ⟨v, r2, h4, q⟩
      · obtain ⟨o, h5, q⟩ := whl_inv P Q hs n m' r2 (by omega) p'
        refine ⟨o, ?_, q⟩
        rcases h4 with h4 | h4 <;> (simp only [whlLoop, h1, Option.bind_some, if_true, h4]; exact h5)
      · exact ⟨_, by simp only [whlLoop, h1, Option.bind_some, if_true, h4], q⟩
      · exact ⟨_, by simp only [whlLoop, h1, Option.bind_some, if_true, h4], q⟩
/-! comprehensions that change nothing -/
theorem backE_wipe {r rE : Env} {own : List Nat} (h : wipeE rE own = wipeE r own) : backE r rE own = r := by
  have hl : rE.length = r.length := by rw [← wipeE_len own rE, h, wipeE_len]
  apply List.ext_getElem?
  intro i
  by_cases hi : i ∈ own
  · by_cases hlt : i < rE.length
    · rw [backE_in r own rE i hi hlt]
      have : i < r.length := by omega
      unfold slot
      rw [List.getElem?_eq_getElem this]
      simp
    · rw [List.getElem?_eq_none (by rw [backE_len]; omega), List.getElem?_eq_none (by omega)]
  · rw [backE_out r own rE i hi]
    have g : ∀ (own : List Nat) (r : Env), i ∉ own → (wipeE r own)[i]? = r[i]? := by
      intro own
      induction own with
      | nil => intro r _; rfl
      | cons j own ih =>
        intro r hj
        simp only [List.mem_cons, not_or] at hj
        show (wipeE (r.set j none) own)[i]? = _
        rw [ih _ hj.2, List.getElem?_set_ne (Ne.symm hj.1)]
    rw [← g own rE hi, h, g own r hi]
theorem ev_lcP {F : Fns} {el : E} {tg : Tg} {it : It} {ifs : List E} {own : List Nat} {r r1 : Env} {ds : List D} (f : D → Option D) (hit : evIt F it r = some (ds, r1))
    (hw : ∀ d ∈ ds, ∃ r2, (put tg d (wipeE r1 own)).bind (fun r1' => (evIfs F ifs r1').bind fun q => if q.1 = true then (ev F el q.2).bind fun t => gd (stbIt it r1 t.2) (some (some t.1, t.2)) else gd (stbIt it r1 q.2) (some (none, q.2))) = some (f d, r2) ∧ wipeE r2 own = wipeE r1 own)
    (hz : (ds.filterMap f).length ≤ sizeLine) : ev F (.lc el tg it ifs own) r = some (.lst (ds.filterMap f), r1) := by
  rw [ev_lc, hit, Option.bind_some]
  obtain ⟨rE, h1, h2⟩ := lc_pure (g := lcT F el tg it ifs own r1) (ds := ds) (r := r1) (f := f) (W := fun r => wipeE r own) fun d hd r' hr' => by
    obtain ⟨r2, a, b⟩ := hw d hd
    refine ⟨r2, ?_, b⟩
    unfold lcT
    rw [show wipeE r' own = wipeE r1 own from hr']
    exact a
  simp only [h1, Option.bind_some, gd_true hz, backE_wipe h2]
@[simp] theorem mid0 : mid 0 = true := rfl
theorem dcmp_strs {x : Str} (h : PyData.strOk x = true) : dcmp .Eq (.str x) (.str x) = some true := by
  show (if eqOk (.str x) (.str x) = true then some (x == x) else none) = some true
  rw [if_pos (by simp only [eqOk, okD, h, dpt]; rfl)]
  simp
/-- .. of ints, of a range -/
theorem rngD_zero (n : Nat) : rngD 0 (n : Int) = (List.range n).map fun (k : Nat) => .int (k : Int) := by
  simp [rngD]
@[simp] theorem wipe_nil {r : Env} : wipeE r [] = r := rfl
@[simp] theorem wipe_cons {r : Env} {i : Nat} {own : List Nat} : wipeE r (i :: own) = wipeE (r.set i none) own := rfl
theorem size_mid {n : Nat} (h : n ≤ sizeLine) : mid (n : Int) = true := by
  have : sizeLine ≤ 2 ^ 61 := by decide
  simp only [mid, Bool.and_eq_true, decide_eq_true_eq]
  omega
theorem rngD_get {lo hi : Int} {i : Nat} {d : D} (h : (rngD lo hi)[i]? = some d) : d = .int (lo + (i : Nat)) ∧ i < (hi - lo).toNat := by
  refine ⟨rng_get lo hi i d h, ?_⟩
  have := (List.getElem?_eq_some_iff.mp h).1
  rwa [rng_len] at this
theorem cut_drop (ds : List D) (a : Nat) : cutD ds (some (a : Int)) none = ds.drop a := by
  have h1 : HT.sIx ds.length 0 (some (a : Int)) = min a ds.length := HT.sIx_nat _ _ _
  have h2 : HT.sIx ds.length ds.length none = ds.length := HT.sIx_none _ _
  unfold cutD
  rw [h1, h2]
  rcases Nat.lt_or_ge ds.length a with h | h
  · have e : min a ds.length = ds.length := by omega
    rw [e, List.drop_length, List.drop_eq_nil_of_le (by omega), List.take_nil]
  · rw [Nat.min_eq_left h]
    exact List.take_of_length_le (by rw [List.length_drop]; omega)
theorem cut_both (ds : List D) (a b : Nat) : cutD ds (some (a : Int)) (some (b : Int)) = (ds.drop a).take (b - a) := by
  have h1 : HT.sIx ds.length 0 (some (a : Int)) = min a ds.length := HT.sIx_nat _ _ _
  have h2 : HT.sIx ds.length ds.length (some (b : Int)) = min b ds.length := HT.sIx_nat _ _ _
  unfold cutD
  rw [h1, h2]
  rcases Nat.lt_or_ge ds.length a with h | h
  · have e : min a ds.length = ds.length := by omega
    rw [e, List.drop_length, List.drop_eq_nil_of_le (by omega), List.take_nil, List.take_nil]
  · rw [Nat.min_eq_left h]
    rcases Nat.lt_or_ge ds.length b with h' | h'
    · have e : min b ds.length = ds.length := by omega
      rw [e, List.take_of_length_le (by rw [List.length_drop]; omega), List.take_of_length_le (by rw [List.length_drop]; omega)]
    · rw [Nat.min_eq_left h']
theorem cut_take (ds : List D) (b : Nat) : cutD ds none (some (b : Int)) = ds.take b := by
  have := cut_both ds 0 b
  rw [List.drop_zero, Nat.sub_zero] at this
  rw [← this]
  unfold cutD
  rw [show HT.sIx ds.length 0 (some ((0 : Nat) : Int)) = HT.sIx ds.length 0 none by rw [HT.sIx_nat, HT.sIx_none]; exact Nat.min_eq_left (Nat.zero_le _)]
theorem atI_at (ds : List D) (i : Nat) (h : i < ds.length) : atI ds (i : Int) = some ds[i] := atI_nat (List.getElem?_eq_getElem h)
theorem atI_fmap {α : Type} (f : α → D) (xs : List α) (i : Nat) (h : i < xs.length) : atI (xs.map f) (i : Int) = some (f xs[i]) := by
  rw [atI_at _ _ (by rw [List.length_map]; exact h), List.getElem_map]
theorem atI_end (ds : List D) (d : D) : atI (ds ++ [d]) (-1) = some d := atI_last ds d
theorem fm_some {α β : Type} (f : α → β) : ∀ l : List α, l.filterMap (fun x => some (f x)) = l.map f
  | [] => rfl
  | x :: l => by simp only [List.filterMap_cons, List.map_cons, fm_some f l]
end Fw
/-! Shared: the draws, and likeness. -/
namespace Fw
open PySem L2
def dSpread : Fd where
  name := "_law_spread"
  N := ["cell", "mixed", "total", "k"]
  P := ["cell"]
  ks := [.val, .val, .val, .val]
  fr := false
  body := [.asg 1 (.bin .Mod (.b1 .int (.var 0)) (.int 2147483647)),
    .asg 2 (.int 1),
    .loop (.nm 3) (.rng1 (.int 4))
      [.asg 1 (.bin .Mod (.b1 .int (.bin .Add (.bin .Add (.bin .Mult (.var 1) (.int 48271)) (.int 12345)) (.var 3))) (.int 2147483647)),
       .asg 2 (.bin .Add (.bin .Mult (.var 2) (.int 2147483647)) (.var 1))],
    .ret (.var 2)]
theorem run_spread {n k i : Nat} {T : List Fd} (h : T[i]? = some dSpread) (c : Int) : ∃ t : Int, run n T (k + 1) i [.int c] = some (.int t, []) := by
  rw [run_eq h rfl]
  simp [dSpread, startE, ex_loop, mid, rngD, List.range, List.range.loop, forLoop, turn, small]
def dPool : Fd where
  name := "_law_pool"
  N := ["script", "salt", "cell"]
  P := ["script"]
  ks := [.val, .val, .val]
  fr := true
  body := [.asg 1 (.int 7),
    .loop (.nm 2) (.seq (.sl (.var 0) .non (.int 63)))
      [.asg 1 (.bin .Mod (.b1 .int (.bin .Add (.bin .Mult (.var 1) (.int 31)) (.var 2))) (.int 1000003))],
    .ret (.lst [.b1 .list (.var 0), .int 0, .int 0, .int 0, .var 1])]
/-- a pool that may be drawn from -/
def PoolOk (d : D) : Prop := ∃ (cs : List Int) (a b c s : Int), d = .lst [.lst (cs.map .int), .int a, .int b, .int c, .int s] ∧ 0 ≤ a
theorem size5 : 5 ≤ sizeLine := by decide
theorem run_pool {n k i : Nat} {T : List Fd} (h : T[i]? = some dPool) (ns : List Int) : ∃ p, run n T (k + 1) i [.scr (ns.map .int)] = some (p, []) ∧ PoolOk p := by
  rw [run_eq h rfl]
  have lp : ∀ (F : Fns) (rb : Env) (ms : List Int) (x : D) (j : Option D) (s : Int), ∃ s' j', forLoop (turn F n (.nm 2) (.seq (.sl (.var 0) .non (.int 63))) [.asg 1 (.bin .Mod (.b1 .int (.bin .Add (.bin .Mult (.var 1) (.int 31)) (.var 2))) (.int 1000003))] rb) (ms.map .int) [some x, some (.int s), j] = some (.nx [some x, some (.int s'), j']) := by
    intro F rb ms
    induction ms with
    | nil => intro x j s; exact ⟨s, j, rfl⟩
    | cons m ms ih =>
      intro x j s
      simp [forLoop, turn, small]
      exact ih x _ _
  have cut : ∃ ms : List Int, cutD (ns.map D.int) none (some 63) = ms.map .int := ⟨(ns.drop (HT.sIx ns.length 0 none)).take (HT.sIx ns.length ns.length (some 63) - HT.sIx ns.length 0 none), by simp [cutD, List.map_take, List.map_drop]⟩
  obtain ⟨ms, hms⟩ := cut
  obtain ⟨s', j', e⟩ := lp (run n T k) [some (.scr (ns.map .int)), some (.int 7), none] ms (.scr (ns.map .int)) none 7
  simp [dPool, startE, ex_loop, hms, e, gd_true size5]
  exact ⟨ns, 0, 0, 0, s', rfl, Int.le_refl 0⟩
def dDraw (j : Nat) : Fd where
  name := "_law_draw"
  N := ["pool", "many", "value", "cell", "mixed"]
  P := ["pool", "many"]
  ks := [.io, .val, .val, .val, .val]
  fr := false
  body := [.ife (.and (.cmp .LtE (.idx (.bor 0) (.int 2)) (.int 0)) (.cmp .Lt (.idx (.bor 0) (.int 1)) (.b1 .len (.idx (.bor 0) (.int 0)))))
      [.asg 3 (.idx (.idx (.bor 0) (.int 0)) (.idx (.bor 0) (.int 1))),
       .set 0 (.int 1) (.bin .Add (.idx (.bor 0) (.int 1)) (.int 1)),
       .set 0 (.int 2) (.var 3),
       .ife (.cmp .Lt (.var 3) (.int 1000000000000000000))
         [.set 0 (.int 2) (.call j [.var 3])]
         []]
      [],
    .set 0 (.int 3) (.bin .Add (.idx (.bor 0) (.int 3)) (.int 1)),
    .ife (.cmp .LtE (.idx (.bor 0) (.int 2)) (.int 0))
      [.asg 4 (.bin .Mod (.b1 .int (.bin .Add (.bin .Add (.bin .Mult (.idx (.bor 0) (.int 4)) (.int 48271)) (.bin .Mult (.idx (.bor 0) (.int 3)) (.int 69621))) (.int 1))) (.int 2147483647)),
       .asg 4 (.bin .Mod (.b1 .int (.bin .Add (.bin .Mult (.var 4) (.int 16807)) (.idx (.bor 0) (.int 3)))) (.int 2147483629)),
       .ret (.bin .Mod (.bin .FloorDiv (.var 4) (.int 5)) (.var 1))]
      [],
    .asg 2 (.bin .Mod (.b1 .int (.idx (.bor 0) (.int 2))) (.var 1)),
    .set 0 (.int 2) (.bin .FloorDiv (.idx (.bor 0) (.int 2)) (.var 1)),
    .ret (.var 2)]
theorem run_draw {n k i j : Nat} {T : List Fd} (h : T[i]? = some (dDraw j)) (hj : T[j]? = some dSpread) {p : D} (hp : PoolOk p) (many : Int) (h1 : 1 ≤ many) (h2 : many < 1073741824) :
    ∃ (v : Int) (p' : D), run n T (k + 2) i [p, .int many] = some (.int v, [p']) ∧ PoolOk p' ∧ 0 ≤ v ∧ v < many := by
  obtain ⟨cs, a, b, c, s, rfl, ha⟩ := hp
  rw [run_eq h rfl]
  have e0 : ∀ (x0 x1 x2 x3 x4 : D), atI [x0, x1, x2, x3, x4] 0 = some x0 := fun _ _ _ _ _ => rfl
  have e1 : ∀ (x0 x1 x2 x3 x4 : D), atI [x0, x1, x2, x3, x4] 1 = some x1 := fun _ _ _ _ _ => rfl
  have e2 : ∀ (x0 x1 x2 x3 x4 : D), atI [x0, x1, x2, x3, x4] 2 = some x2 := fun _ _ _ _ _ => rfl
  have e3 : ∀ (x0 x1 x2 x3 x4 : D), atI [x0, x1, x2, x3, x4] 3 = some x3 := fun _ _ _ _ _ => rfl
  have e4 : ∀ (x0 x1 x2 x3 x4 : D), atI [x0, x1, x2, x3, x4] 4 = some x4 := fun _ _ _ _ _ => rfl
  have m0 : many ≠ 0 := by omega
  have m1 : many.natAbs < 1073741824 := by omega
  have fm : ∀ x : Int, 0 ≤ x.fmod many ∧ x.fmod many < many := fun x => ⟨Int.fmod_nonneg_of_pos x (by omega), Int.fmod_lt_of_pos x (by omega)⟩
  have i1 : ixN 5 1 = some 1 := rfl
  have i2 : ixN 5 2 = some 2 := rfl
  have i3 : ixN 5 3 = some 3 := rfl
  -- the second half
  have half : ∀ (cs : List Int) (a b c s : Int) (v2 v3 v4 : Option D), 0 ≤ a → ∃ (v : Int) (p' : D), (exs (run n T (k + 1)) n (dDraw j).body.tail [some (.lst [.lst (cs.map .int), .int a, .int b, .int c, .int s]), some (.int many), v2, v3, v4]).bind (fin (dDraw j)) = some (.int v, [p']) ∧ PoolOk p' ∧ 0 ≤ v ∧ v < many := by
    intro cs a b c s v2 v3 v4 ha
    by_cases hb : b ≤ 0
    all_goals
      simp [dDraw, e0, e1, e2, e3, e4, small, ixN, hb, m0, m1, PoolOk]
      exact ⟨_, _, ⟨rfl, rfl⟩, ⟨cs, a, ⟨_, _, _, rfl⟩, ha⟩, fm _⟩
  have split0 : (dDraw j).body = (dDraw j).body.head (by simp [dDraw]) :: (dDraw j).body.tail := by simp [dDraw]
  have first : ∃ (a' b' : Int) (v3 : Option D), 0 ≤ a' ∧ ex (run n T (k + 1)) n ((dDraw j).body.head (by simp [dDraw])) (startE (dDraw j).N [.lst [.lst (cs.map .int), .int a, .int b, .int c, .int s], .int many]) = some (.nx [some (.lst [.lst (cs.map .int), .int a', .int b', .int c, .int s]), some (.int many), none, v3, none]) := by
    by_cases hb : b ≤ 0
    · by_cases hl : a < (cs.length : Int)
      · have hc : atI (cs.map D.int) a = some (.int (cs[a.toNat]'(by omega))) := by
          have e : (cs.map D.int)[a.toNat]? = some (.int (cs[a.toNat]'(by omega))) := by rw [List.getElem?_map, List.getElem?_eq_getElem (by omega)]; rfl
          have := atI_nat e
          rw [show ((a.toNat : Nat) : Int) = a by omega] at this
          exact this
        by_cases h18 : cs[a.toNat]'(by omega) < 1000000000000000000
        · obtain ⟨t, ht⟩ := run_spread (n := n) (k := k) hj (cs[a.toNat]'(by omega))
          refine ⟨a + 1, t, some (.int (cs[a.toNat]'(by omega))), by omega, ?_⟩
          simp [dDraw, startE, e0, e1, e2, e3, e4, hb, hl, hc, ixN, h18, ht]
        · refine ⟨a + 1, cs[a.toNat]'(by omega), some (.int (cs[a.toNat]'(by omega))), by omega, ?_⟩
          simp [dDraw, startE, e0, e1, e2, e3, e4, hb, hl, hc, ixN, h18]
      · refine ⟨a, b, none, ha, ?_⟩
        simp [dDraw, startE, e0, e1, e2, e3, e4, hb, hl, ixN]
    · refine ⟨a, b, none, ha, ?_⟩
      simp [dDraw, startE, e0, e1, e2, e3, e4, hb, ixN]
  obtain ⟨a', b', v3, ha', he⟩ := first
  rw [split0, exs_cons, he, Option.bind_some, seqK_nx]
  exact half cs a' b' c s none v3 none ha'
/-! ### likeness: a value is like itself -/
mutual
def plainD : D → Bool
  | .non => true | .bl _ => true | .int _ => true
  | .str x => PyData.strOk x
  | .tup ds => plainsD ds && decide (ds.length ≤ sizeLine)
  | .lst ds => plainsD ds && decide (ds.length ≤ sizeLine)
  | _ => false
def plainsD : List D → Bool
  | [] => true
  | d :: ds => plainD d && plainsD ds
end
def dSame (i : Nat) : Fd where
  name := "_law_same"
  N := ["actual", "due", "k"]
  P := ["actual", "due"]
  ks := [.val, .val, .val]
  fr := false
  body := [.ife (.or (.isi (.var 1) .ttuple) (.isi (.var 1) .tlist))
      [.ife (.or (.cmp .NotEq (.isi (.var 1) .ttuple) (.isi (.var 0) .ttuple)) (.or (.cmp .NotEq (.isi (.var 1) .tlist) (.isi (.var 0) .tlist)) (.cmp .NotEq (.b1 .len (.var 0)) (.b1 .len (.var 1)))))
         [.ret (.bl false)]
         [],
       .ret (.cmp .Eq (.b1 .len (.lc (.var 2) (.nm 2) (.rng1 (.b1 .len (.var 1))) [.not (.call i [.idx (.var 0) (.var 2), .idx (.var 1) (.var 2)])] [2])) (.int 0))]
      [],
    .ife (.cmp .Is (.var 1) (.non))
      [.ret (.cmp .Is (.var 0) (.non))]
      [],
    .ife (.or (.isi (.var 1) .tbool) (.isi (.var 0) .tbool))
      [.ret (.and (.isi (.var 1) .tbool) (.and (.isi (.var 0) .tbool) (.cmp .Eq (.var 0) (.var 1))))]
      [],
    .ife (.isi (.var 1) .tint)
      [.ret (.and (.isi (.var 0) .tint) (.cmp .Eq (.var 0) (.var 1)))]
      [],
    .ret (.and (.isi (.var 0) .tstr) (.and (.isi (.var 1) .tstr) (.cmp .Eq (.var 0) (.var 1))))]
theorem plains_get : ∀ {ds : List D} {i : Nat} {d : D}, plainsD ds = true → ds[i]? = some d → plainD d = true
  | [], i, d, _, h => by simp at h
  | e :: ds, 0, d, p, h => by
    simp only [plainsD, Bool.and_eq_true] at p
    simp at h; subst h; exact p.1
  | e :: ds, i + 1, d, p, h => by
    simp only [plainsD, Bool.and_eq_true] at p
    exact plains_get p.2 (by simpa using h)
theorem dpts_get : ∀ {ds : List D} {i : Nat} {d : D}, ds[i]? = some d → dpt d ≤ dpts ds
  | [], i, d, h => by simp at h
  | e :: ds, 0, d, h => by simp at h; subst h; simp only [dpts]; omega
  | e :: ds, i + 1, d, h => by
    have := dpts_get (ds := ds) (i := i) (d := d) (by simpa using h)
    simp only [dpts]; omega
theorem same_body {n i k : Nat} {T : List Fd} {d : D} {ds : List D} (hd : d = .tup ds ∨ d = .lst ds) (hz : ds.length ≤ sizeLine) (ih : ∀ x ∈ ds, run n T k i [x, x] = some (.bl true, [])) :
    ev (run n T k) (.lc (.var 2) (.nm 2) (.rng1 (.b1 .len (.var 1))) [.not (.call i [.idx (.var 0) (.var 2), .idx (.var 1) (.var 2)])] [2]) [some d, some d, none] = some (.lst [], [some d, some d, none]) := by
  have e := ev_lcP (F := run n T k) (el := .var 2) (tg := .nm 2) (it := .rng1 (.b1 .len (.var 1))) (ifs := [.not (.call i [.idx (.var 0) (.var 2), .idx (.var 1) (.var 2)])]) (own := [2]) (r := [some d, some d, none]) (r1 := [some d, some d, none])
    (ds := rngD 0 (ds.length : Int)) (fun _ => none) (by rcases hd with rfl | rfl <;> simp [size_mid hz]) ?_ (by rw [List.filterMap_eq_nil_iff.mpr fun _ _ => rfl]; exact Nat.zero_le _)
  · rw [e]; congr 3; exact List.filterMap_eq_nil_iff.mpr fun _ _ => rfl
  · intro x hx
    rw [rngD_zero] at hx
    obtain ⟨j, hj, rfl⟩ := List.mem_map.mp hx
    have hj := List.mem_range.mp hj
    have hi : atI ds (j : Int) = some ds[j] := atI_nat (List.getElem?_eq_getElem hj)
    have := ih _ (List.getElem_mem hj)
    refine ⟨[some d, some d, some (.int (j : Int))], ?_, rfl⟩
    rcases hd with rfl | rfl <;> simp [hi, this]
theorem run_same {n i : Nat} {T : List Fd} (h : T[i]? = some (dSame i)) : ∀ (k : Nat) (d : D), plainD d = true → dpt d ≤ k → run n T (k + 1) i [d, d] = some (.bl true, []) := by
  intro k
  induction k with
  | zero =>
    intro d p hd
    rw [run_eq h rfl]
    cases d <;> simp only [plainD, dpt] at p hd <;> try (first | cases p | omega)
    all_goals simp [dSame, startE]
    all_goals rw [dcmp_strs p]; simp
  | succ k ih =>
    intro d p hd
    rw [run_eq h rfl]
    cases d <;> simp only [plainD, dpt, Bool.and_eq_true, decide_eq_true_eq] at p hd <;> try (cases p; done)
    case tup ds =>
      have := same_body (n := n) (i := i) (k := k + 1) (T := T) (d := .tup ds) (.inl rfl) p.2 fun x hx => by
        obtain ⟨j, hj, rfl⟩ := List.getElem_of_mem hx
        exact ih _ (plains_get p.1 (List.getElem?_eq_getElem hj)) (by have := dpts_get (List.getElem?_eq_getElem hj); omega)
      simp [dSame, startE, this]
    case lst ds =>
      have := same_body (n := n) (i := i) (k := k + 1) (T := T) (d := .lst ds) (.inr rfl) p.2 fun x hx => by
        obtain ⟨j, hj, rfl⟩ := List.getElem_of_mem hx
        exact ih _ (plains_get p.1 (List.getElem?_eq_getElem hj)) (by have := dpts_get (List.getElem?_eq_getElem hj); omega)
      simp [dSame, startE, this]
    all_goals simp [dSame, startE]
    all_goals rw [dcmp_strs p]; simp
end Fw
namespace K03
open PySem L2 Fw
def top (i : Nat) : Stmt := PySem.Challenge.pw_everyhaven_k03_whole_best_shares.main.body.getD i (.Pass ⟨0, 0, 0, 0⟩)
/-- 0: law -/
def d0 : Fd where
  name := "law"
  N := ["script", "pool", "turn", "works", "cranes", "best", "share", "here"]
  P := ["script"]
  ks := [.val, .own, .val, .val, .val, .val, .val, .val]
  fr := true
  body := [.own 1 (.call 1 [.var 0]),
    .loop (.nm 2) (.rng1 (.int 2))
      [.asg 3 (.call 2 [.bor 1]),
       .asg 4 (.bin .Add (.int 1) (.call 3 [.bor 1, .idx (.tup [.int 4, .int 6]) (.b1 .int (.cmp .Lt (.b1 .len (.var 3)) (.int 7)))])),
       .asg 5 (.non),
       .loop (.nm 6) (.seq (.call 4 [.b1 .len (.var 3), .var 4]))
         [.asg 7 (.tup [.b1 .max (.call 5 [.var 3, .var 6]), .var 6]),
          .asg 5 (.ite (.or (.cmp .Is (.var 5) (.non)) (.cmp .Lt (.var 7) (.var 5))) (.var 7) (.var 5))],
       .ife (.not (.call 7 [.call 6 [.var 3, .var 4], .idx (.var 5) (.int 1)]))
         [.ret (.bl false)]
         []],
    .ret (.bl true)]
/-- 1: _law_pool -/
def d1 : Fd where
  name := "_law_pool"
  N := ["script", "salt", "cell"]
  P := ["script"]
  ks := [.val, .val, .val]
  fr := true
  body := [.asg 1 (.int 7),
    .loop (.nm 2) (.seq (.sl (.var 0) .non (.int 63)))
      [.asg 1 (.bin .Mod (.b1 .int (.bin .Add (.bin .Mult (.var 1) (.int 31)) (.var 2))) (.int 1000003))],
    .ret (.lst [.b1 .list (.var 0), .int 0, .int 0, .int 0, .var 1])]
/-- 2: _law_works -/
def d2 : Fd where
  name := "_law_works"
  N := ["pool", "top", "k"]
  P := ["pool"]
  ks := [.io, .val, .val]
  fr := false
  body := [.asg 1 (.idx (.tup [.int 3, .int 10, .int 101]) (.call 3 [.bor 0, .int 3])),
    .ret (.b1 .tuple (.lc (.call 3 [.bor 0, .var 1]) (.nm 2) (.rng1 (.bin .Add (.int 1) (.call 3 [.bor 0, .idx (.tup [.int 6, .int 12]) (.call 3 [.bor 0, .int 2])]))) [] [2]))]
/-- 3: _law_draw -/
def d3 : Fd where
  name := "_law_draw"
  N := ["pool", "many", "value", "cell", "mixed"]
  P := ["pool", "many"]
  ks := [.io, .val, .val, .val, .val]
  fr := false
  body := [.ife (.and (.cmp .LtE (.idx (.bor 0) (.int 2)) (.int 0)) (.cmp .Lt (.idx (.bor 0) (.int 1)) (.b1 .len (.idx (.bor 0) (.int 0)))))
      [.asg 3 (.idx (.idx (.bor 0) (.int 0)) (.idx (.bor 0) (.int 1))),
       .set 0 (.int 1) (.bin .Add (.idx (.bor 0) (.int 1)) (.int 1)),
       .set 0 (.int 2) (.var 3),
       .ife (.cmp .Lt (.var 3) (.int 1000000000000000000))
         [.set 0 (.int 2) (.call 8 [.var 3])]
         []]
      [],
    .set 0 (.int 3) (.bin .Add (.idx (.bor 0) (.int 3)) (.int 1)),
    .ife (.cmp .LtE (.idx (.bor 0) (.int 2)) (.int 0))
      [.asg 4 (.bin .Mod (.b1 .int (.bin .Add (.bin .Add (.bin .Mult (.idx (.bor 0) (.int 4)) (.int 48271)) (.bin .Mult (.idx (.bor 0) (.int 3)) (.int 69621))) (.int 1))) (.int 2147483647)),
       .asg 4 (.bin .Mod (.b1 .int (.bin .Add (.bin .Mult (.var 4) (.int 16807)) (.idx (.bor 0) (.int 3)))) (.int 2147483629)),
       .ret (.bin .Mod (.bin .FloorDiv (.var 4) (.int 5)) (.var 1))]
      [],
    .asg 2 (.bin .Mod (.b1 .int (.idx (.bor 0) (.int 2))) (.var 1)),
    .set 0 (.int 2) (.bin .FloorDiv (.idx (.bor 0) (.int 2)) (.var 1)),
    .ret (.var 2)]
/-- 4: _law_shares -/
def d4 : Fd where
  name := "_law_shares"
  N := ["many", "cranes", "rows", "k", "longer", "row", "cut"]
  P := ["many", "cranes"]
  ks := [.val, .val, .val, .val, .val, .val, .val]
  fr := true
  body := [.asg 2 (.lst [.tup [.int 0]]),
    .loop (.nm 3) (.rng1 (.bin .Sub (.var 1) (.int 1)))
      [.asg 4 (.lst []),
       .loop (.nm 5) (.seq (.var 2))
         [.asg 4 (.bin .Add (.var 4) (.lc (.bin .Add (.var 5) (.tup [.var 6])) (.nm 6) (.rng2 (.idx (.var 5) (.neg (.int 1))) (.bin .Add (.var 0) (.int 1))) [] [6]))],
       .asg 2 (.var 4)],
    .ret (.lc (.bin .Add (.var 5) (.tup [.var 0])) (.nm 5) (.seq (.var 2)) [] [5])]
/-- 5: _law_loads -/
def d5 : Fd where
  name := "_law_loads"
  N := ["works", "share", "k", "bay"]
  P := ["works", "share"]
  ks := [.val, .val, .val, .val]
  fr := true
  body := [.ret (.lc (.b1 .sum (.lc (.idx (.var 0) (.var 3)) (.nm 3) (.rng2 (.idx (.var 1) (.var 2)) (.idx (.var 1) (.bin .Add (.var 2) (.int 1)))) [] [3])) (.nm 2) (.rng1 (.bin .Sub (.b1 .len (.var 1)) (.int 1))) [] [2])]
/-- 6: best_share -/
def d6 : Fd where
  name := "best_share"
  N := ["works", "cranes", "limit", "share", "k", "cut"]
  P := ["works", "cranes"]
  ks := [.val, .val, .val, .own, .val, .val]
  fr := false
  body := [.asg 2 (.call 9 [.var 0, .var 1]),
    .own 3 (.lst [.int 0]),
    .loop (.nm 4) (.rng2 (.int 1) (.var 1))
      [.asg 5 (.idx (.bor 3) (.neg (.int 1))),
       .whl (.and (.cmp .LtE (.b1 .sum (.sl (.var 0) (.idx (.bor 3) (.neg (.int 1))) (.var 5))) (.var 2)) (.not (.call 10 [.sl (.var 0) (.var 5) .non, .bin .Sub (.var 1) (.var 4), .var 2])))
         [.aug 5 .Add (.int 1)],
       .expr (.mth .append 3 (.var 5))],
    .ret (.b1 .tuple (.bin .Add (.bor 3) (.lst [.b1 .len (.var 0)])))]
/-- 7: _law_same -/
def d7 : Fd where
  name := "_law_same"
  N := ["actual", "due", "k"]
  P := ["actual", "due"]
  ks := [.val, .val, .val]
  fr := false
  body := [.ife (.or (.isi (.var 1) .ttuple) (.isi (.var 1) .tlist))
      [.ife (.or (.cmp .NotEq (.isi (.var 1) .ttuple) (.isi (.var 0) .ttuple)) (.or (.cmp .NotEq (.isi (.var 1) .tlist) (.isi (.var 0) .tlist)) (.cmp .NotEq (.b1 .len (.var 0)) (.b1 .len (.var 1)))))
         [.ret (.bl false)]
         [],
       .ret (.cmp .Eq (.b1 .len (.lc (.var 2) (.nm 2) (.rng1 (.b1 .len (.var 1))) [.not (.call 7 [.idx (.var 0) (.var 2), .idx (.var 1) (.var 2)])] [2])) (.int 0))]
      [],
    .ife (.cmp .Is (.var 1) (.non))
      [.ret (.cmp .Is (.var 0) (.non))]
      [],
    .ife (.or (.isi (.var 1) .tbool) (.isi (.var 0) .tbool))
      [.ret (.and (.isi (.var 1) .tbool) (.and (.isi (.var 0) .tbool) (.cmp .Eq (.var 0) (.var 1))))]
      [],
    .ife (.isi (.var 1) .tint)
      [.ret (.and (.isi (.var 0) .tint) (.cmp .Eq (.var 0) (.var 1)))]
      [],
    .ret (.and (.isi (.var 0) .tstr) (.and (.isi (.var 1) .tstr) (.cmp .Eq (.var 0) (.var 1))))]
/-- 8: _law_spread -/
def d8 : Fd where
  name := "_law_spread"
  N := ["cell", "mixed", "total", "k"]
  P := ["cell"]
  ks := [.val, .val, .val, .val]
  fr := false
  body := [.asg 1 (.bin .Mod (.b1 .int (.var 0)) (.int 2147483647)),
    .asg 2 (.int 1),
    .loop (.nm 3) (.rng1 (.int 4))
      [.asg 1 (.bin .Mod (.b1 .int (.bin .Add (.bin .Add (.bin .Mult (.var 1) (.int 48271)) (.int 12345)) (.var 3))) (.int 2147483647)),
       .asg 2 (.bin .Add (.bin .Mult (.var 2) (.int 2147483647)) (.var 1))],
    .ret (.var 2)]
/-- 9: least_load -/
def d9 : Fd where
  name := "least_load"
  N := ["works", "cranes", "limit"]
  P := ["works", "cranes"]
  ks := [.val, .val, .val]
  fr := false
  body := [.asg 2 (.b1 .max (.var 0)),
    .whl (.cmp .Gt (.b1 .len (.call 11 [.var 0, .var 2])) (.var 1))
      [.aug 2 .Add (.int 1)],
    .ret (.var 2)]
/-- 10: fits_in -/
def d10 : Fd where
  name := "fits_in"
  N := ["works", "cranes", "limit"]
  P := ["works", "cranes", "limit"]
  ks := [.val, .val, .val]
  fr := false
  body := [.ife (.cmp .Eq (.b1 .len (.var 0)) (.int 0))
      [.ret (.bl true)]
      [],
    .ret (.and (.cmp .Gt (.var 1) (.int 0)) (.and (.cmp .LtE (.b1 .max (.var 0)) (.var 2)) (.cmp .LtE (.b1 .len (.call 11 [.var 0, .var 2])) (.var 1))))]
/-- 11: greedy -/
def d11 : Fd where
  name := "greedy"
  N := ["works", "limit", "cuts", "total", "bay"]
  P := ["works", "limit"]
  ks := [.val, .val, .own, .val, .val]
  fr := true
  body := [.own 2 (.lst [.int 0]),
    .asg 3 (.int 0),
    .loop (.nm 4) (.rng1 (.b1 .len (.var 0)))
      [.ife (.cmp .Gt (.bin .Add (.var 3) (.idx (.var 0) (.var 4))) (.var 1))
         [.expr (.mth .append 2 (.var 4)),
          .asg 3 (.int 0)]
         [],
       .aug 3 .Add (.idx (.var 0) (.var 4))],
    .ret (.mv 2)]
def T : List Fd := [d0, d1, d2, d3, d4, d5, d6, d7, d8, d9, d10, d11]
def G : List (Str × D) := []
theorem ck0 : ckF T G d0 (top 13) = true := by decide +kernel
theorem ck1 : ckF T G d1 (top 7) = true := by decide +kernel
theorem ck2 : ckF T G d2 (top 10) = true := by decide +kernel
theorem ck3 : ckF T G d3 (top 9) = true := by decide +kernel
theorem ck4 : ckF T G d4 (top 12) = true := by decide +kernel
theorem ck5 : ckF T G d5 (top 11) = true := by decide +kernel
theorem ck6 : ckF T G d6 (top 4) = true := by decide +kernel
theorem ck7 : ckF T G d7 (top 6) = true := by decide +kernel
theorem ck8 : ckF T G d8 (top 8) = true := by decide +kernel
theorem ck9 : ckF T G d9 (top 2) = true := by decide +kernel
theorem ck10 : ckF T G d10 (top 3) = true := by decide +kernel
theorem ck11 : ckF T G d11 (top 1) = true := by decide +kernel
/-! ### greedy -/
/-- cuts that follow -/
def gc (m : Int) : List Int → Int → Nat
  | [], _ => 0
  | w :: ws, t => if t + w > m then gc m ws w + 1 else gc m ws (t + w)
theorem gc_le (m : Int) : ∀ (ws : List Int) (t : Int), gc m ws t ≤ ws.length
  | [], _ => Nat.le_refl 0
  | w :: ws, t => by
    unfold gc
    have a := gc_le m ws w
    have b := gc_le m ws (t + w)
    split <;> simp <;> omega
theorem run_greedy {n k : Nat} (ws : List Int) (m : Int) (hz : ws.length < 1000) : ∃ cs : List D, run n T (k + 1) 11 [.tup (ws.map .int), .int m] = some (.lst cs, []) ∧ cs.length = gc m ws 0 + 1 := by
  rw [run_eq (d := d11) rfl rfl]
  have hs : (1000 : Nat) < sizeLine := by decide
  obtain ⟨r', h1, c, t, j, rfl, hi, hc, hl⟩ := for_inv (g := turn (run n T k) n (.nm 4) (.rng1 (.b1 .len (.var 0))) [.ife (.cmp .Gt (.bin .Add (.var 3) (.idx (.var 0) (.var 4))) (.var 1))
         [.expr (.mth .append 2 (.var 4)),
          .asg 3 (.int 0)]
         [],
       .aug 3 .Add (.idx (.var 0) (.var 4))] [some (.tup (ws.map .int)), some (.int m), some (.lst [.int 0]), some (.int 0), none]) (ds := rngD 0 (ws.length : Int)) (r := [some (.tup (ws.map .int)), some (.int m), some (.lst [.int 0]), some (.int 0), none])
    (fun i r => ∃ (c : List D) (t : Int) (j : Option D), r = [some (.tup (ws.map .int)), some (.int m), some (.lst c), some (.int t), j] ∧ i ≤ ws.length ∧ c.length + gc m (ws.drop i) t = gc m ws 0 + 1 ∧ c.length ≤ i + 1)
    ⟨[.int 0], 0, none, rfl, Nat.zero_le _, by simp; omega, by simp⟩ (by
      rintro i d r hd ⟨c, t, j, rfl, hi, hc, hl⟩
      obtain ⟨rfl, hlt⟩ := rngD_get hd
      have hlt : i < ws.length := by omega
      have ha := atI_fmap D.int ws i hlt
      rw [List.drop_eq_getElem_cons hlt] at hc
      simp only [gc] at hc
      by_cases hg : m < t + ws[i]
      · rw [if_pos hg] at hc
        refine ⟨[some (.tup (ws.map .int)), some (.int m), some (.lst (c ++ [.int i])), some (.int ws[i]), some (.int i)], .inl ?_, _, _, _, rfl, hlt, by simp; omega, by simp; omega⟩
        have hcs : c.length < sizeLine := by omega
        simp [turn, ha, hg, hcs]
      · rw [if_neg hg] at hc
        refine ⟨[some (.tup (ws.map .int)), some (.int m), some (.lst c), some (.int (t + ws[i])), some (.int i)], .inl ?_, _, _, _, rfl, hlt, by omega, by omega⟩
        simp [turn, ha, hg])
  have e1 : (rngD 0 (ws.length : Int)).length = ws.length := by simp [rng_len]
  rw [e1, List.drop_length] at hc
  simp only [gc] at hc
  refine ⟨c, ?_, by omega⟩
  have hm : mid (ws.length : Int) = true := size_mid (by omega)
  have h5 : (1 : Nat) ≤ sizeLine := by decide
  simp [d11, startE, ex_loop, hm, h1, gd_true h5]
/-! ### fits_in -/
def fits (m : Int) (ws : List Int) (c : Int) : Bool := ws.isEmpty || (decide (0 < c) && (ws.all (fun w => decide (w ≤ m)) && decide ((gc m ws 0 : Int) + 1 ≤ c)))
theorem maxI_some : ∀ {ws : List Int}, ws ≠ [] → ∃ x, maxI ws = some x ∧ ∀ m : Int, x ≤ m ↔ ∀ w ∈ ws, w ≤ m := by
  intro ws h
  cases q : maxI ws with
  | none => exact absurd (maxI_none q) h
  | some x =>
    obtain ⟨h1, h2⟩ := maxI_spec q
    exact ⟨x, rfl, fun m => ⟨fun hx w hw => Int.le_trans (h2 w hw) hx, fun hw => hw x h1⟩⟩
theorem run_fits {n k : Nat} (ws : List Int) (c m : Int) (hz : ws.length < 1000) : run n T (k + 2) 10 [.tup (ws.map .int), .int c, .int m] = some (.bl (fits m ws c), []) := by
  rw [run_eq (d := d10) rfl rfl]
  obtain ⟨cs, h1, h2⟩ := run_greedy (n := n) (k := k) ws m hz
  by_cases h0 : ws = []
  · subst h0; simp [d10, startE, fits]
  · obtain ⟨x, hx, hm⟩ := maxI_some h0
    have hl : ¬ ws.length = 0 := fun z => h0 (List.length_eq_zero_iff.mp z)
    have hw : (ws.all fun w => decide (w ≤ m)) = decide (x ≤ m) := by
      rw [Bool.eq_iff_iff, List.all_eq_true, decide_eq_true_eq, hm]
      simp
    by_cases hc : 0 < c
    · by_cases hxm : x ≤ m
      · simp [d10, startE, fits, h0, hl, hc, hx, hxm, h1, h2, hw]
      · simp [d10, startE, fits, h0, hl, hc, hx, hxm, hw]
    · simp [d10, startE, fits, h0, hl, hc]
/-! ### least_load -/
theorem run_least {k : Nat} (ws : List Int) (c : Int) (hz : ws.length < 1000) (h0 : ws ≠ []) (hp : ∀ w ∈ ws, 0 ≤ w ∧ w ≤ 100) (hc : 1 ≤ c) : ∃ m : Int, run 1000000 T (k + 2) 9 [.tup (ws.map .int), .int c] = some (.int m, []) ∧
    (∀ w ∈ ws, w ≤ m) ∧ (gc m ws 0 : Int) + 1 ≤ c ∧ ∀ m' : Int, m' < m → (∀ w ∈ ws, w ≤ m') → c < (gc m' ws 0 : Int) + 1 := by
  rw [run_eq (d := d9) rfl rfl]
  obtain ⟨x, hx, hm⟩ := maxI_some h0
  obtain ⟨w0, hw0⟩ := List.exists_mem_of_ne_nil _ h0
  have hx0 : 0 ≤ x := Int.le_trans (hp w0 hw0).1 ((hm x).mp (Int.le_refl x) w0 hw0)
  have big : ∀ (ws : List Int) (t m : Int), 0 ≤ t → (∀ w ∈ ws, 0 ≤ w ∧ w ≤ 100) → t + 100 * (ws.length : Int) ≤ m → gc m ws t = 0 := by
    intro ws
    induction ws with
    | nil => intro t m _ _ _; rfl
    | cons w ws ih =>
      intro t m ht hp hm
      have hw := hp w List.mem_cons_self
      simp only [List.length_cons] at hm
      unfold gc
      rw [if_neg (by omega)]
      exact ih (t + w) m (by omega) (fun w hw => hp w (List.mem_cons_of_mem _ hw)) (by omega)
  obtain ⟨o, h1, m, rfl, h2, h3, h4⟩ := whl_inv (c := tst (run 1000000 T (k + 1)) (.cmp .Gt (.b1 .len (.call 11 [.var 0, .var 2])) (.var 1))) (g := exs (run 1000000 T (k + 1)) 1000000 [.aug 2 .Add (.int 1)])
    (fun j r => ∃ m : Int, r = [some (.tup (ws.map .int)), some (.int c), some (.int m)] ∧ x ≤ m ∧ (j : Int) + m = x + 100 * (ws.length : Int) + 1 ∧ ∀ m' : Int, m' < m → (∀ w ∈ ws, w ≤ m') → c < (gc m' ws 0 : Int) + 1)
    (fun o => ∃ m : Int, o = .nx [some (.tup (ws.map .int)), some (.int c), some (.int m)] ∧ (∀ w ∈ ws, w ≤ m) ∧ (gc m ws 0 : Int) + 1 ≤ c ∧ ∀ m' : Int, m' < m → (∀ w ∈ ws, w ≤ m') → c < (gc m' ws 0 : Int) + 1)
    (by
      rintro j r ⟨m, rfl, hxm, hj, hmin⟩
      obtain ⟨cs, g1, g2⟩ := run_greedy (n := 1000000) (k := k) ws m hz
      by_cases hg : c < (cs.length : Int)
      · refine ⟨true, [some (.tup (ws.map .int)), some (.int c), some (.int m)], by simp [tst, g1, hg], nofun, fun _ => .inl ⟨[some (.tup (ws.map .int)), some (.int c), some (.int (m + 1))], .inl (by simp), j - 1, ?_, m + 1, rfl, by omega, ?_, ?_⟩⟩
        · have := big ws 0 m (Int.le_refl 0) hp
          by_cases hj0 : j = 0
          · subst hj0
            rw [this (by simp at hj; omega)] at g2
            omega
          · omega
        · have : j ≠ 0 := by
            rintro rfl
            have := big ws 0 m (Int.le_refl 0) hp (by simp at hj; omega)
            rw [this] at g2; omega
          omega
        · intro m' h1 h2
          by_cases e : m' = m
          · subst e; omega
          · exact hmin m' (by omega) h2
      · refine ⟨false, [some (.tup (ws.map .int)), some (.int c), some (.int m)], by simp [tst, g1, hg], fun _ => ⟨m, rfl, (hm m).mp hxm, by omega, hmin⟩, nofun⟩)
    1000000 (100 * ws.length + 1) [some (.tup (ws.map .int)), some (.int c), some (.int x)] (by omega) ⟨x, rfl, Int.le_refl x, by omega, fun m' h1 h2 => absurd ((hm m').mpr h2) (by omega)⟩
  refine ⟨m, ?_, h2, h3, h4⟩
  simp [d9, startE, ex_whl, hx, h1]
/-! ### the plain law: cutting by greed is best -/
section
variable {m : Int}
theorem gc_both : ∀ (ws : List Int), (∀ w ∈ ws, 0 ≤ w ∧ w ≤ m) → (∀ t t' : Int, t ≤ t' → gc m ws t ≤ gc m ws t') ∧ ∀ t t' : Int, 0 ≤ t → t' ≤ m → gc m ws t' ≤ gc m ws t + 1
  | [], _ => ⟨fun _ _ _ => Nat.le_refl 0, fun _ _ _ _ => Nat.zero_le _⟩
  | w :: ws, hp => by
    obtain ⟨i1, i2⟩ := gc_both ws fun w hw => hp w (List.mem_cons_of_mem _ hw)
    have hw := hp w List.mem_cons_self
    refine ⟨fun t t' h => ?_, fun t t' h h' => ?_⟩
    · simp only [gc]
      by_cases h1 : t' + w > m
      · rw [if_pos h1]
        by_cases h2 : t + w > m
        · rw [if_pos h2]; exact Nat.le_refl _
        · rw [if_neg h2]; exact i2 w (t + w) hw.1 (by omega)
      · rw [if_neg h1, if_neg (show ¬ t + w > m by omega)]
        exact i1 _ _ (by omega)
    · simp only [gc]
      by_cases h1 : t' + w > m
      · rw [if_pos h1]
        by_cases h2 : t + w > m
        · rw [if_pos h2]; omega
        · rw [if_neg h2]
          have := i1 w (t + w) (by omega)
          omega
      · rw [if_neg h1]
        by_cases h2 : t + w > m
        · rw [if_pos h2]
          have := i2 w (t' + w) hw.1 (by omega)
          omega
        · rw [if_neg h2]; exact i2 _ _ (by omega) (by omega)
theorem fits_iff {ws : List Int} {c : Int} : fits m ws c = true ↔ ws = [] ∨ (0 < c ∧ (∀ w ∈ ws, w ≤ m) ∧ (gc m ws 0 : Int) + 1 ≤ c) := by
  simp [fits]
theorem fits_tail {w : Int} {ws : List Int} {c : Int} (hp : ∀ x ∈ w :: ws, 0 ≤ x) (h : fits m (w :: ws) c = true) : fits m ws c = true := by
  rw [fits_iff] at h ⊢
  rcases h with h | ⟨h1, h2, h3⟩
  · cases h
  · refine .inr ⟨h1, fun x hx => h2 x (List.mem_cons_of_mem _ hx), ?_⟩
    have hw := h2 w List.mem_cons_self
    simp only [gc] at h3
    rw [if_neg (by omega)] at h3
    have := (gc_both (m := m) ws fun x hx => ⟨hp x (List.mem_cons_of_mem _ hx), h2 x (List.mem_cons_of_mem _ hx)⟩).1 0 (0 + w) (by have := hp w List.mem_cons_self; omega)
    omega
theorem fits_drop {ws : List Int} {c : Int} (hp : ∀ x ∈ ws, 0 ≤ x) {i j : Nat} (hij : i ≤ j) (h : fits m (ws.drop i) c = true) : fits m (ws.drop j) c = true := by
  induction j with
  | zero => rw [show i = 0 by omega] at h; exact h
  | succ j ih =>
    by_cases e : i = j + 1
    · rw [← e]; exact h
    · have h2 := ih (by omega)
      by_cases hl : j < ws.length
      · rw [List.drop_eq_getElem_cons hl] at h2
        exact fits_tail (fun x hx => by
          rcases List.mem_cons.mp hx with rfl | hx
          · exact hp _ (List.getElem_mem hl)
          · exact hp x (List.mem_of_mem_drop hx)) h2
      · rw [List.drop_eq_nil_of_le (by omega)]; rfl
theorem sum_nn : ∀ {xs : List Int}, (∀ x ∈ xs, 0 ≤ x) → 0 ≤ xs.sum ∧ ∀ x ∈ xs, x ≤ xs.sum
  | [], _ => ⟨Int.le_refl 0, fun x hx => by cases hx⟩
  | y :: xs, h => by
    obtain ⟨h1, h2⟩ := sum_nn fun x hx => h x (List.mem_cons_of_mem _ hx)
    have hy := h y List.mem_cons_self
    rw [List.sum_cons]
    refine ⟨by omega, fun x hx => ?_⟩
    rcases List.mem_cons.mp hx with rfl | hx
    · omega
    · have := h2 x hx; omega
theorem gc_app : ∀ (xs rest : List Int) (t : Int), (∀ x ∈ xs, 0 ≤ x) → t + xs.sum ≤ m → gc m (xs ++ rest) t = gc m rest (t + xs.sum)
  | [], rest, t, _, _ => by simp
  | x :: xs, rest, t, hp, h => by
    rw [List.sum_cons] at h ⊢
    have h0 := (sum_nn fun y hy => hp y (List.mem_cons_of_mem x hy)).1
    rw [List.cons_append, gc, if_neg (by omega), gc_app xs rest (t + x) (fun y hy => hp y (List.mem_cons_of_mem _ hy)) (by omega)]
    congr 1; omega
/-- one piece more -/
theorem fits_join {ws : List Int} {c : Int} {k : Nat} (hp : ∀ x ∈ ws, 0 ≤ x) (hm : 0 ≤ m) (hc : 0 ≤ c) (hs : (ws.take k).sum ≤ m) (h : fits m (ws.drop k) c = true) : fits m ws (c + 1) = true := by
  have hp1 : ∀ x ∈ ws.take k, 0 ≤ x := fun x hx => hp x (List.mem_of_mem_take hx)
  have hp2 : ∀ x ∈ ws.drop k, 0 ≤ x := fun x hx => hp x (List.mem_of_mem_drop hx)
  obtain ⟨s0, s1⟩ := sum_nn hp1
  rw [fits_iff] at h ⊢
  refine .inr ⟨by omega, fun w hw => ?_, ?_⟩
  · rw [← List.take_append_drop k ws, List.mem_append] at hw
    rcases hw with hw | hw
    · have := s1 w hw; omega
    · rcases h with h | h
      · rw [h] at hw; cases hw
      · exact h.2.1 w hw
  · have e := gc_app (m := m) (ws.take k) (ws.drop k) 0 hp1 (by omega)
    rw [List.take_append_drop] at e
    rw [e]
    rcases h with h | ⟨h1, h2, h3⟩
    · rw [h]; simp [gc]; omega
    · have := (gc_both (m := m) (ws.drop k) fun x hx => ⟨hp2 x hx, h2 x hx⟩).2 0 (0 + (ws.take k).sum) (Int.le_refl 0) (by omega)
      omega
theorem gc_first : ∀ (ws : List Int) (t : Int), (∀ w ∈ ws, 0 ≤ w ∧ w ≤ m) → 0 ≤ t → t ≤ m → ∃ k, k ≤ ws.length ∧ t + (ws.take k).sum ≤ m ∧ (ws.drop k = [] ∨ gc m ws t = gc m (ws.drop k) 0 + 1)
  | [], t, _, _, h => ⟨0, Nat.le_refl 0, by simpa using h, .inl rfl⟩
  | w :: ws, t, hp, h0, h => by
    have hw := hp w List.mem_cons_self
    by_cases h1 : t + w > m
    · refine ⟨0, Nat.zero_le _, by simpa using h, .inr ?_⟩
      simp only [gc, List.drop_zero]
      rw [if_pos h1, if_neg (by omega)]
      congr 2; omega
    · obtain ⟨k, g1, g2, g3⟩ := gc_first ws (t + w) (fun x hx => hp x (List.mem_cons_of_mem _ hx)) (by omega) (by omega)
      refine ⟨k + 1, by simpa using g1, by simp; omega, ?_⟩
      simp only [List.drop_succ_cons, gc]
      rw [if_neg h1]
      exact g3
theorem fits_split {ws : List Int} {c : Int} (hp : ∀ x ∈ ws, 0 ≤ x) (hm : 0 ≤ m) (h : fits m ws (c + 1) = true) : ∃ k, k ≤ ws.length ∧ (ws.take k).sum ≤ m ∧ fits m (ws.drop k) c = true := by
  rw [fits_iff] at h
  rcases h with h | ⟨h1, h2, h3⟩
  · subst h; exact ⟨0, Nat.le_refl 0, by simpa using hm, by simp [fits]⟩
  · obtain ⟨k, g1, g2, g3⟩ := gc_first ws 0 (fun w hw => ⟨hp w hw, h2 w hw⟩) (Int.le_refl 0) hm
    refine ⟨k, g1, by omega, ?_⟩
    rw [fits_iff]
    rcases g3 with g3 | g3
    · exact .inl g3
    · exact .inr ⟨by omega, fun w hw => h2 w (List.mem_of_mem_drop hw), by omega⟩
/-- what lies from a to b -/
def seg (ws : List Int) (a b : Nat) : Int := ((ws.drop a).take (b - a)).sum
theorem seg_mono {ws : List Int} (hp : ∀ x ∈ ws, 0 ≤ x) (a : Nat) {b c : Nat} (h : b ≤ c) : seg ws a b ≤ seg ws a c := by
  unfold seg
  have e : (ws.drop a).take (c - a) = (ws.drop a).take (b - a) ++ ((ws.drop a).drop (b - a)).take (c - a - (b - a)) := by
    rw [← List.take_add]
    congr 1; omega
  rw [e, List.sum_append]
  have := (sum_nn (xs := ((ws.drop a).drop (b - a)).take (c - a - (b - a))) fun x hx => hp x (List.mem_of_mem_drop (List.mem_of_mem_drop (List.mem_of_mem_take hx)))).1
  omega
/-- the cuts that best_share takes: each the first behind which the rest fits -/
inductive Bs (m : Int) (ws : List Int) : Nat → Nat → List Nat → Prop
  | nil {s : Nat} : Bs m ws 0 s []
  | cons {c s cut : Nat} {r : List Nat} : s ≤ cut → fits m (ws.drop cut) ((c : Int) + 1) = true → (∀ j, s ≤ j → j < cut → fits m (ws.drop j) ((c : Int) + 1) = false) → seg ws s cut ≤ m → cut ≤ ws.length → Bs m ws c cut r → Bs m ws (c + 1) s (cut :: r)
/-- the rows of cuts behind s, to the end -/
def Row (ws : List Int) : Nat → Nat → List Nat → Prop
  | 0, _, r => r = []
  | c + 1, s, r => ∃ cut t, r = cut :: t ∧ s ≤ cut ∧ cut ≤ ws.length ∧ Row ws c cut t
/-- the loads of a row, from s on -/
def lds (ws : List Int) : Nat → List Nat → List Int
  | s, [] => [seg ws s ws.length]
  | s, c :: r => seg ws s c :: lds ws c r
def lexN : List Nat → List Nat → Bool
  | [], [] => false
  | [], _ :: _ => true
  | _ :: _, [] => false
  | x :: xs, y :: ys => if x = y then lexN xs ys else decide (x < y)
theorem row_fits {ws : List Int} (hp : ∀ x ∈ ws, 0 ≤ x) (hm : 0 ≤ m) : ∀ {c s : Nat} {r : List Nat}, Row ws c s r → s ≤ ws.length → (∀ l ∈ lds ws s r, l ≤ m) → fits m (ws.drop s) ((c : Int) + 1) = true
  | 0, s, r, h, hs, hl => by
    subst h
    have := hl _ List.mem_cons_self
    unfold seg at this
    rw [List.take_of_length_le (by rw [List.length_drop]; omega)] at this
    refine fits_join (k := ws.length) (fun x hx => hp x (List.mem_of_mem_drop hx)) hm (Int.le_refl 0) ?_ ?_
    · rw [List.take_of_length_le (by rw [List.length_drop]; omega)]; exact this
    · rw [List.drop_eq_nil_of_le (by rw [List.length_drop]; omega)]; rfl
  | c + 1, s, r, h, hs, hl => by
    obtain ⟨cut, t, rfl, h1, h2, h3⟩ := h
    have ih := row_fits hp hm h3 h2 fun l hl' => hl l (List.mem_cons_of_mem _ hl')
    have hg := hl _ List.mem_cons_self
    refine fits_join (k := cut - s) (c := ((c + 1 : Nat) : Int)) (fun x hx => hp x (List.mem_of_mem_drop hx)) hm (by omega) hg ?_
    rw [List.drop_drop, show s + (cut - s) = cut by omega]
    exact ih
theorem bs_row {ws : List Int} : ∀ {c s : Nat} {b : List Nat}, Bs m ws c s b → Row ws c s b
  | _, _, _, .nil => rfl
  | _, _, _, .cons h1 h2 h3 h4 h5 h6 => ⟨_, _, rfl, h1, h5, bs_row h6⟩
theorem bs_lds {ws : List Int} (hm : 0 ≤ m) (hp : ∀ x ∈ ws, 0 ≤ x) : ∀ {c s : Nat} {b : List Nat}, Bs m ws c s b → s ≤ ws.length → fits m (ws.drop s) ((c : Int) + 1) = true → ∀ l ∈ lds ws s b, l ≤ m
  | _, s, _, .nil, hs, hf => by
    intro l hl
    simp only [lds, List.mem_cons, List.not_mem_nil, or_false] at hl
    subst hl
    unfold seg
    rw [List.take_of_length_le (by rw [List.length_drop]; omega)]
    obtain ⟨k, g1, g2, g3⟩ := fits_split (c := 0) (fun x hx => hp x (List.mem_of_mem_drop hx)) hm (by simpa using hf)
    rw [fits_iff] at g3
    rcases g3 with g3 | g3
    · have : (ws.drop s).take k = ws.drop s := by
        have := List.take_append_drop k (ws.drop s)
        rw [g3, List.append_nil] at this; exact this
      rw [this] at g2; exact g2
    · omega
  | _, s, _, .cons h1 h2 h3 h4 h5 h6, hs, hf => by
    intro l hl
    simp only [lds, List.mem_cons] at hl
    rcases hl with rfl | hl
    · exact h4
    · exact bs_lds hm hp h6 h5 h2 l hl
theorem bs_least {ws : List Int} (hm : 0 ≤ m) (hp : ∀ x ∈ ws, 0 ≤ x) : ∀ {c s : Nat} {b r : List Nat}, Bs m ws c s b → Row ws c s r → (∀ l ∈ lds ws s r, l ≤ m) → lexN r b = false
  | _, _, _, r, .nil, h, _ => by
    have : r = [] := h
    subst this; rfl
  | _, s, _, r, .cons (cut := cut) h1 h2 h3 h4 h5 h6, h, hl => by
    obtain ⟨cut', t, rfl, g1, g2, g3⟩ := h
    have hf := row_fits hp hm g3 g2 fun l hl' => hl l (List.mem_cons_of_mem _ hl')
    have hle : cut ≤ cut' := by
      rcases Nat.lt_or_ge cut' cut with z | z
      · rw [h3 cut' g1 z] at hf; cases hf
      · exact z
    simp only [lexN]
    by_cases e : cut' = cut
    · subst e
      rw [if_pos rfl]
      exact bs_least hm hp h6 g3 fun l hl' => hl l (List.mem_cons_of_mem _ hl')
    · rw [if_neg e]
      exact decide_eq_false (by omega)
end
/-! ### best_share -/
def dn (i : Nat) : D := .int (i : Int)
theorem cutI_both (ws : List Int) (a b : Nat) : cutD (ws.map D.int) (some (a : Int)) (some (b : Int)) = ((ws.drop a).take (b - a)).map D.int := by
  rw [cut_both, List.map_take, List.map_drop]
theorem cutI_drop (ws : List Int) (a : Nat) : cutD (ws.map D.int) (some (a : Int)) none = (ws.drop a).map D.int := by
  rw [cut_drop, List.map_drop]
theorem run_best {k C : Nat} (ws : List Int) (hz : ws.length < 1000) (h0 : ws ≠ []) (hp : ∀ w ∈ ws, 0 ≤ w ∧ w ≤ 100) (hC : C < 1000) : ∃ (m : Int) (b : List Nat), run 1000000 T (k + 3) 6 [.tup (ws.map .int), .int ((C : Int) + 1)] = some (.tup ((0 :: b).map dn ++ [dn ws.length]), []) ∧
    Bs m ws C 0 b ∧ 0 ≤ m ∧ fits m ws ((C : Int) + 1) = true ∧ ∀ m' : Int, m' < m → fits m' ws ((C : Int) + 1) = false := by
  rw [run_eq (d := d6) rfl rfl]
  obtain ⟨m, hm1, hm2, hm3, hm4⟩ := run_least (k := k) ws ((C : Int) + 1) hz h0 hp (by omega)
  obtain ⟨w0, hw0⟩ := List.exists_mem_of_ne_nil _ h0
  have hm0 : 0 ≤ m := Int.le_trans (hp w0 hw0).1 (hm2 w0 hw0)
  have hnn : ∀ w ∈ ws, 0 ≤ w := fun w hw => (hp w hw).1
  have hfit : fits m ws ((C : Int) + 1) = true := fits_iff.mpr (.inr ⟨by omega, hm2, hm3⟩)
  have hleast : ∀ m' : Int, m' < m → fits m' ws ((C : Int) + 1) = false := fun m' h => by
    cases q : fits m' ws ((C : Int) + 1) with
    | false => rfl
    | true =>
      rcases fits_iff.mp q with z | ⟨z1, z2, z3⟩
      · exact absurd z h0
      · have := hm4 m' h z2; omega
  have hs : (100000 : Nat) < sizeLine := by decide
  obtain ⟨r', h1, q, s, pre, j4, j5, rfl, e1, e2, e3, e4, e5⟩ := for_inv (g := turn (run 1000000 T (k + 2)) 1000000 (.nm 4) (.rng2 (.int 1) (.var 1)) [.asg 5 (.idx (.bor 3) (.neg (.int 1))),
       .whl (.and (.cmp .LtE (.b1 .sum (.sl (.var 0) (.idx (.bor 3) (.neg (.int 1))) (.var 5))) (.var 2)) (.not (.call 10 [.sl (.var 0) (.var 5) .non, .bin .Sub (.var 1) (.var 4), .var 2])))
         [.aug 5 .Add (.int 1)],
       .expr (.mth .append 3 (.var 5))] [some (.tup (ws.map .int)), some (.int ((C : Int) + 1)), some (.int m), some (.lst [.int 0]), none, none]) (ds := rngD 1 ((C : Int) + 1)) (r := [some (.tup (ws.map .int)), some (.int ((C : Int) + 1)), some (.int m), some (.lst [.int 0]), none, none])
    (fun i r => ∃ (q : List Nat) (s : Nat) (pre : List Nat) (j4 j5 : Option D), r = [some (.tup (ws.map .int)), some (.int ((C : Int) + 1)), some (.int m), some (.lst ((0 :: q).map dn)), j4, j5] ∧ 0 :: q = pre ++ [s] ∧ q.length = i ∧ s ≤ ws.length ∧
      fits m (ws.drop s) ((C : Int) - (i : Int) + 1) = true ∧ (i ≤ C → ∀ t, Bs m ws (C - i) s t → Bs m ws C 0 (q ++ t)))
    ⟨[], 0, [], none, none, rfl, rfl, rfl, Nat.zero_le _, by simpa using hfit, fun _ t h => by simpa using h⟩ (by
      rintro i d r hd ⟨q, s, pre, j4, j5, rfl, e1, e2, e3, e4, e5⟩
      obtain ⟨rfl, hlt⟩ := rngD_get hd
      have hlt : i < C := by omega
      have hlast : atI ((0 :: q).map dn) (-1) = some (dn s) := by rw [e1, List.map_append]; exact atI_end _ _
      obtain ⟨k0, f1, f2, f3⟩ := fits_split (m := m) (ws := ws.drop s) (c := (C : Int) - (i : Int)) (fun x hx => hnn x (List.mem_of_mem_drop hx)) hm0 e4
      rw [List.length_drop] at f1
      rw [List.drop_drop] at f3
      obtain ⟨o, g1, cut, rfl, g2, g3, g4, g5⟩ := whl_inv (c := tst (run 1000000 T (k + 2)) (.and (.cmp .LtE (.b1 .sum (.sl (.var 0) (.idx (.bor 3) (.neg (.int 1))) (.var 5))) (.var 2)) (.not (.call 10 [.sl (.var 0) (.var 5) .non, .bin .Sub (.var 1) (.var 4), .var 2])))) (g := exs (run 1000000 T (k + 2)) 1000000 [.aug 5 .Add (.int 1)])
        (fun j r => ∃ cut : Nat, r = [some (.tup (ws.map .int)), some (.int ((C : Int) + 1)), some (.int m), some (.lst ((0 :: q).map dn)), some (.int (1 + (i : Int))), some (.int (cut : Int))] ∧ s ≤ cut ∧ cut ≤ s + k0 ∧ j + cut = s + k0 ∧ ∀ j, s ≤ j → j < cut → fits m (ws.drop j) ((C : Int) - (i : Int)) = false)
        (fun o => ∃ cut : Nat, o = .nx [some (.tup (ws.map .int)), some (.int ((C : Int) + 1)), some (.int m), some (.lst ((0 :: q).map dn)), some (.int (1 + (i : Int))), some (.int (cut : Int))] ∧ s ≤ cut ∧ cut ≤ s + k0 ∧ fits m (ws.drop cut) ((C : Int) - (i : Int)) = true ∧ ∀ j, s ≤ j → j < cut → fits m (ws.drop j) ((C : Int) - (i : Int)) = false)
        (by
          rintro j r ⟨cut, rfl, a1, a2, a3, a4⟩
          have hsum : ((ws.drop s).take (cut - s)).sum ≤ m := Int.le_trans (by
            have := seg_mono hnn s (show cut ≤ s + k0 from a2)
            unfold seg at this
            rwa [show s + k0 - s = k0 by omega] at this) f2
          have hcall := run_fits (n := 1000000) (k := k) (ws.drop cut) ((C : Int) - (i : Int)) m (by rw [List.length_drop]; omega)
          have hsub : (C : Int) + 1 - (1 + (i : Int)) = (C : Int) - (i : Int) := by omega
          cases hf : fits m (ws.drop cut) ((C : Int) - (i : Int)) with
          | true =>
            rw [hf] at hcall
            refine ⟨false, [some (.tup (ws.map .int)), some (.int ((C : Int) + 1)), some (.int m), some (.lst ((0 :: q).map dn)), some (.int (1 + (i : Int))), some (.int (cut : Int))], ?_, fun _ => ⟨cut, rfl, a1, a2, hf, a4⟩, nofun⟩
            simp only [tst, ev_and, ev_cmp, ev_b1, ev_sl, ev_var, ev_idx, ev_bor, ev_neg, ev_int, slot_succ, slot_zero, Option.map_some, Option.bind_some, negD_int, didx_lst, hlast]
            simp [-List.map_drop, -List.map_take, dn, cutI_both, cutI_drop, hsum, hsub, hcall]
          | false =>
            rw [hf] at hcall
            refine ⟨true, [some (.tup (ws.map .int)), some (.int ((C : Int) + 1)), some (.int m), some (.lst ((0 :: q).map dn)), some (.int (1 + (i : Int))), some (.int (cut : Int))], ?_, nofun, fun _ => .inl ⟨[some (.tup (ws.map .int)), some (.int ((C : Int) + 1)), some (.int m), some (.lst ((0 :: q).map dn)), some (.int (1 + (i : Int))), some (.int ((cut + 1 : Nat) : Int))], .inl (by simp), ?_⟩⟩
            · simp only [tst, ev_and, ev_cmp, ev_b1, ev_sl, ev_var, ev_idx, ev_bor, ev_neg, ev_int, slot_succ, slot_zero, Option.map_some, Option.bind_some, negD_int, didx_lst, hlast]
              simp [-List.map_drop, -List.map_take, dn, cutI_both, cutI_drop, hsum, hsub, hcall]
            · have hne : cut ≠ s + k0 := fun z => by rw [z, f3] at hf; cases hf
              exact ⟨j - 1, by omega, cut + 1, rfl, by omega, by omega, by omega, fun j' h1 h2 => by
                by_cases z : j' = cut
                · rw [z]; exact hf
                · exact a4 j' h1 (by omega)⟩)
        1000000 k0 [some (.tup (ws.map .int)), some (.int ((C : Int) + 1)), some (.int m), some (.lst ((0 :: q).map dn)), some (.int (1 + (i : Int))), some (.int (s : Int))] (by omega) ⟨s, rfl, Nat.le_refl s, by omega, by omega, fun j h1 h2 => by omega⟩
      refine ⟨[some (.tup (ws.map .int)), some (.int ((C : Int) + 1)), some (.int m), some (.lst ((0 :: (q ++ [cut])).map dn)), some (.int (1 + (i : Int))), some (.int (cut : Int))], .inl ?_, q ++ [cut], cut, 0 :: q, _, _, rfl, rfl, by simp [e2], by omega, ?_, ?_⟩
      · have hql : q.length + 1 < sizeLine := by omega
        simp only [turn, put_nm, Option.bind_some, exs_cons, ex_asg, ev_idx, ev_bor, ev_neg, ev_int, slot_succ, slot_zero, List.set_cons_succ, List.set_cons_zero, Option.map_some, negD_int, didx_lst, hlast, ex_whl]
        simp [dn] at g1
        simp [dn, ex_whl, g1, hql]
      · rw [show (C : Int) - ((i + 1 : Nat) : Int) + 1 = (C : Int) - (i : Int) by omega]; exact g4
      · intro hi t ht
        have e : C - i = (C - (i + 1)) + 1 := by omega
        have hsum : seg ws s cut ≤ m := Int.le_trans (seg_mono hnn s (show cut ≤ s + k0 from g3)) (by unfold seg; rw [show s + k0 - s = k0 by omega]; exact f2)
        have ec : ((C - (i + 1) : Nat) : Int) + 1 = (C : Int) - (i : Int) := by omega
        have := e5 (by omega) (cut :: t) (by rw [e]; exact .cons g2 (by rw [ec]; exact g4) (fun j h1 h2 => by rw [ec]; exact g5 j h1 h2) hsum (by omega) ht)
        simpa using this)
  have hlen : (rngD 1 ((C : Int) + 1)).length = C := by rw [rng_len]; omega
  rw [hlen] at e2 e4 e5
  refine ⟨m, q, ?_, by simpa using e5 (Nat.le_refl C) [] (by rw [Nat.sub_self]; exact .nil), hm0, hfit, hleast⟩
  have hmid : mid ((C : Int) + 1) = true := by simp [mid]; omega
  have h5 : (1 : Nat) ≤ sizeLine := by decide
  have hq : q.length + 1 + 1 ≤ sizeLine := by omega
  have hm1' : mid 1 = true := rfl
  simp [dn] at h1
  simp [d6, startE, ex_loop, hm1, hmid, hm1', h1, gd_true h5, dn, hq]
/-! ### all shares -/
def lastN : Nat → List Nat → Nat
  | s, [] => s
  | _, c :: r => lastN c r
theorem lastN_snoc : ∀ (s : Nat) (r : List Nat) (c : Nat), lastN s (r ++ [c]) = c
  | _, [], _ => rfl
  | _, d :: r, c => lastN_snoc d r c
theorem lastN_end : ∀ (s : Nat) (r : List Nat), ∃ pre, s :: r = pre ++ [lastN s r]
  | s, [] => ⟨[], rfl⟩
  | s, c :: r => by
    obtain ⟨pre, e⟩ := lastN_end c r
    exact ⟨s :: pre, congrArg (s :: ·) e⟩
theorem row_snoc {ws : List Int} : ∀ {c s : Nat} {r : List Nat}, Row ws (c + 1) s r ↔ ∃ r0 cut, r = r0 ++ [cut] ∧ Row ws c s r0 ∧ lastN s r0 ≤ cut ∧ cut ≤ ws.length
  | 0, s, r => by
    constructor
    · rintro ⟨cut, t, rfl, h1, h2, h3⟩
      have : t = [] := h3
      subst this
      exact ⟨[], cut, rfl, rfl, h1, h2⟩
    · rintro ⟨r0, cut, rfl, h1, h2, h3⟩
      have : r0 = [] := h1
      subst this
      exact ⟨cut, [], rfl, h2, h3, rfl⟩
  | c + 1, s, r => by
    constructor
    · rintro ⟨cut1, t, rfl, h1, h2, h3⟩
      obtain ⟨t0, cut, rfl, g1, g2, g3⟩ := row_snoc.mp h3
      exact ⟨cut1 :: t0, cut, rfl, ⟨cut1, t0, rfl, h1, h2, g1⟩, g2, g3⟩
    · rintro ⟨r0, cut, rfl, ⟨cut1, t0, rfl, h1, h2, h3⟩, g2, g3⟩
      exact ⟨cut1, t0 ++ [cut], rfl, h1, h2, row_snoc.mpr ⟨t0, cut, rfl, h3, g2, g3⟩⟩
def extR (n : Nat) (r : List Nat) : List (List Nat) := (List.range (n + 1 - lastN 0 r)).map fun k => r ++ [lastN 0 r + k]
def rowsN (n : Nat) : Nat → List (List Nat)
  | 0 => [[]]
  | i + 1 => (rowsN n i).flatMap (extR n)
theorem rows_mem {ws : List Int} : ∀ {i : Nat} {r : List Nat}, r ∈ rowsN ws.length i ↔ Row ws i 0 r
  | 0, r => by simp [rowsN, Row]
  | i + 1, r => by
    rw [row_snoc]
    simp only [rowsN, List.mem_flatMap, extR, List.mem_map, List.mem_range]
    constructor
    · rintro ⟨r0, h0, k, hk, rfl⟩
      exact ⟨r0, _, rfl, rows_mem.mp h0, by omega, by omega⟩
    · rintro ⟨r0, cut, rfl, h1, h2, h3⟩
      exact ⟨r0, rows_mem.mpr h1, cut - lastN 0 r0, by omega, by rw [show lastN 0 r0 + (cut - lastN 0 r0) = cut by omega]⟩
theorem ext_len (n : Nat) (r : List Nat) : (extR n r).length ≤ n + 1 := by simp [extR]
theorem flat_len (n : Nat) : ∀ (rs : List (List Nat)), (rs.flatMap (extR n)).length ≤ (n + 1) * rs.length
  | [] => by simp
  | r :: rs => by
    rw [List.flatMap_cons, List.length_append, List.length_cons, Nat.mul_succ]
    have := flat_len n rs
    have := ext_len n r
    omega
theorem rows_len (n : Nat) : ∀ i, (rowsN n i).length ≤ (n + 1) ^ i
  | 0 => by simp [rowsN]
  | i + 1 => by
    have h := flat_len n (rowsN n i)
    have := Nat.mul_le_mul_left (n + 1) (rows_len n i)
    rw [Nat.pow_succ, Nat.mul_comm]
    exact Nat.le_trans h this
theorem row_len {n : Nat} : ∀ {i : Nat} {r : List Nat}, r ∈ rowsN n i → r.length = i
  | 0, r, h => by simp [rowsN] at h; subst h; rfl
  | i + 1, r, h => by
    simp only [rowsN, List.mem_flatMap, extR, List.mem_map] at h
    obtain ⟨r0, h0, k, _, rfl⟩ := h
    simp [row_len h0]
theorem rows_last {n : Nat} : ∀ {i : Nat} {r : List Nat}, r ∈ rowsN n i → lastN 0 r ≤ n
  | 0, r, h => by simp [rowsN] at h; subst h; exact Nat.zero_le n
  | i + 1, r, h => by
    simp only [rowsN, List.mem_flatMap, extR, List.mem_map, List.mem_range] at h
    obtain ⟨r0, h0, k, hk, rfl⟩ := h
    have := rows_last h0
    rw [lastN_snoc]; omega
def encR (r : List Nat) : D := .tup ((0 :: r).map dn)
theorem rng_dn (a b : Nat) : rngD (a : Int) (b : Int) = (List.range (b - a)).map fun k => dn (a + k) := by
  unfold rngD dn
  rw [show ((b : Int) - (a : Int)).toNat = b - a by omega]
  apply List.map_congr_left
  intro k _
  congr 1
theorem run_shares {N k : Nat} (n C : Nat) (hn : n ≤ 12) (hC : C ≤ 5) : run N T (k + 1) 4 [dn n, .int ((C : Int) + 1)] = some (.lst ((rowsN n C).map fun r => .tup ((0 :: r).map dn ++ [dn n])), []) := by
  rw [run_eq (d := d4) rfl rfl]
  have hs : (1000000 : Nat) < sizeLine := by decide
  have pw : ∀ i, i ≤ 5 → (n + 1) ^ i ≤ 371293 := fun i hi =>
    Nat.le_trans (Nat.pow_le_pow_left (show n + 1 ≤ 13 by omega) i) (Nat.le_trans (Nat.pow_le_pow_right (by decide) hi) (by decide))
  obtain ⟨r', h1, j3, j4, j5, j6, rfl⟩ := for_inv (g := turn (run N T k) N (.nm 3) (.rng1 (.bin .Sub (.var 1) (.int 1))) [.asg 4 (.lst []),
       .loop (.nm 5) (.seq (.var 2))
         [.asg 4 (.bin .Add (.var 4) (.lc (.bin .Add (.var 5) (.tup [.var 6])) (.nm 6) (.rng2 (.idx (.var 5) (.neg (.int 1))) (.bin .Add (.var 0) (.int 1))) [] [6]))],
       .asg 2 (.var 4)] [some (dn n), some (.int ((C : Int) + 1)), some (.lst ([[]].map encR)), none, none, none, none]) (ds := rngD 0 (C : Int)) (r := [some (dn n), some (.int ((C : Int) + 1)), some (.lst ([[]].map encR)), none, none, none, none])
    (fun i r => ∃ j3 j4 j5 j6 : Option D, r = [some (dn n), some (.int ((C : Int) + 1)), some (.lst ((rowsN n i).map encR)), j3, j4, j5, j6])
    ⟨none, none, none, none, rfl⟩ (by
      rintro i d r hd ⟨j3, j4, j5, j6, rfl⟩
      obtain ⟨rfl, hlt⟩ := rngD_get hd
      have hlt : i < C := by omega
      obtain ⟨r'', g1, j5', j6', rfl⟩ := for_inv (g := turn (run N T k) N (.nm 5) (.seq (.var 2)) [.asg 4 (.bin .Add (.var 4) (.lc (.bin .Add (.var 5) (.tup [.var 6])) (.nm 6) (.rng2 (.idx (.var 5) (.neg (.int 1))) (.bin .Add (.var 0) (.int 1))) [] [6]))]
          [some (dn n), some (.int ((C : Int) + 1)), some (.lst ((rowsN n i).map encR)), some (.int (0 + (i : Int))), some (.lst []), j5, j6]) (ds := (rowsN n i).map encR) (r := [some (dn n), some (.int ((C : Int) + 1)), some (.lst ((rowsN n i).map encR)), some (.int (0 + (i : Int))), some (.lst []), j5, j6])
        (fun j r => ∃ j5 j6 : Option D, r = [some (dn n), some (.int ((C : Int) + 1)), some (.lst ((rowsN n i).map encR)), some (.int (0 + (i : Int))), some (.lst ((((rowsN n i).take j).flatMap (extR n)).map encR)), j5, j6])
        ⟨j5, j6, by simp⟩ (by
          rintro j d r hd ⟨j5, j6, rfl⟩
          rw [List.getElem?_map] at hd
          obtain ⟨row, hrow, rfl⟩ := Option.map_eq_some_iff.mp hd
          obtain ⟨pre, hpre⟩ := lastN_end 0 row
          have hjl := (List.getElem?_eq_some_iff.mp hrow).1
          have hrl := row_len (List.mem_of_getElem? hrow)
          have hlast : didx (encR row) (.int (-1)) = some (dn (lastN 0 row)) := by
            show atI _ _ = _
            rw [hpre, List.map_append]; exact atI_end _ _
          have hll := rows_last (List.mem_of_getElem? hrow)
          have hmA : mid (lastN 0 row : Int) = true ∧ mid ((n : Int) + 1) = true := by
            simp [mid]; omega
          have hx : (rngD (lastN 0 row : Int) ((n : Int) + 1)).filterMap (fun d => some (.tup ((0 :: row).map dn ++ [d]))) = (extR n row).map encR := by
            rw [show ((n : Int) + 1) = ((n + 1 : Nat) : Int) by omega, fm_some, rng_dn, List.map_map, extR, List.map_map]
            apply List.map_congr_left
            intro k _
            simp [encR]
          have hsz : row.length + 1 + 1 ≤ sizeLine := by omega
          have hlc := ev_lcP (F := run N T k) (el := .bin .Add (.var 5) (.tup [.var 6])) (tg := .nm 6) (it := .rng2 (.idx (.var 5) (.neg (.int 1))) (.bin .Add (.var 0) (.int 1))) (ifs := []) (own := [6])
            (r := [some (dn n), some (.int ((C : Int) + 1)), some (.lst ((rowsN n i).map encR)), some (.int (0 + (i : Int))), some (.lst ((((rowsN n i).take j).flatMap (extR n)).map encR)), some (encR row), j6])
            (r1 := [some (dn n), some (.int ((C : Int) + 1)), some (.lst ((rowsN n i).map encR)), some (.int (0 + (i : Int))), some (.lst ((((rowsN n i).take j).flatMap (extR n)).map encR)), some (encR row), j6])
            (ds := rngD (lastN 0 row : Int) ((n : Int) + 1)) (fun d => some (.tup ((0 :: row).map dn ++ [d]))) (by
              simp [hlast]
              simp [dn, hmA]) (by
              intro d hd
              refine ⟨[some (dn n), some (.int ((C : Int) + 1)), some (.lst ((rowsN n i).map encR)), some (.int (0 + (i : Int))), some (.lst ((((rowsN n i).take j).flatMap (extR n)).map encR)), some (encR row), some d], ?_, rfl⟩
              have h1 : (1 : Nat) ≤ sizeLine := by decide
              simp [encR, gd_true h1, hsz]) (by
              rw [hx, List.length_map]
              have := ext_len n row
              omega)
          rw [hx] at hlc
          have htake : (rowsN n i).take (j + 1) = (rowsN n i).take j ++ [row] := by
            rw [List.take_add_one, hrow]; rfl
          have hbig : (((rowsN n i).take j).flatMap (extR n)).length + (extR n row).length ≤ sizeLine := by
            have a := flat_len n ((rowsN n i).take (j + 1))
            rw [htake, List.flatMap_append, List.length_append] at a
            have b : ((rowsN n i).take j ++ [row]).length ≤ (rowsN n i).length := by rw [← htake, List.length_take]; omega
            have c := Nat.mul_le_mul_left (n + 1) (Nat.le_trans b (rows_len n i))
            have e := pw (i + 1) (by omega)
            rw [Nat.pow_succ, Nat.mul_comm] at e
            rw [List.flatMap_cons, List.flatMap_nil, List.append_nil] at a
            omega
          refine ⟨[some (dn n), some (.int ((C : Int) + 1)), some (.lst ((rowsN n i).map encR)), some (.int (0 + (i : Int))), some (.lst ((((rowsN n i).take (j + 1)).flatMap (extR n)).map encR)), some (encR row), j6], .inl ?_, _, _, rfl⟩
          simp only [turn, put_nm, List.set_cons_succ, List.set_cons_zero, Option.bind_some, exs_cons, ex_asg, ev_bin, ev_var, slot_succ, slot_zero, Option.map_some, hlc]
          simp [-List.length_flatMap, htake, hbig])
      rw [List.length_map, List.take_length] at g1
      refine ⟨[some (dn n), some (.int ((C : Int) + 1)), some (.lst ((rowsN n (i + 1)).map encR)), some (.int (0 + (i : Int))), some (.lst ((rowsN n (i + 1)).map encR)), j5', j6'], .inl ?_, _, _, _, _, rfl⟩
      simp only [turn, put_nm, List.set_cons_succ, List.set_cons_zero, Option.bind_some, exs_cons, ex_asg, ev_lst, evs_nil, List.length_nil, gd_true (Nat.zero_le sizeLine), ex_loop, evIt_seq, ev_var, slot_succ, slot_zero, Option.map_some, elems_lst, g1, seqK_nx, stbIt, stb, gd_triv, exs_nil, rowsN])
  have hlen : (rngD 0 (C : Int)).length = C := by rw [rng_len]; omega
  rw [hlen] at h1
  have hmid : mid (C : Int) = true := size_mid (by omega)
  have hfin : (1 : Nat) ≤ sizeLine := by decide
  have hrl := Nat.le_trans (rows_len n C) (pw C hC)
  have hlc := ev_lcP (F := run N T k) (el := .bin .Add (.var 5) (.tup [.var 0])) (tg := .nm 5) (it := .seq (.var 2)) (ifs := []) (own := [5])
    (r := [some (dn n), some (.int ((C : Int) + 1)), some (.lst ((rowsN n C).map encR)), j3, j4, j5, j6]) (r1 := [some (dn n), some (.int ((C : Int) + 1)), some (.lst ((rowsN n C).map encR)), j3, j4, j5, j6])
    (ds := (rowsN n C).map encR) (fun d => match d with | .tup xs => some (.tup (xs ++ [dn n])) | _ => none) (by simp) (by
      intro d hd
      obtain ⟨row, hrow, rfl⟩ := List.mem_map.mp hd
      have hrl := row_len hrow
      have hsz : row.length + 1 + 1 ≤ sizeLine := by omega
      exact ⟨[some (dn n), some (.int ((C : Int) + 1)), some (.lst ((rowsN n C).map encR)), j3, j4, some (encR row), j6], by simp [encR, gd_true hfin, hsz], rfl⟩) (by
      refine Nat.le_trans (List.length_filterMap_le _ _) ?_
      rw [List.length_map]; omega)
  have hx : ((rowsN n C).map encR).filterMap (fun d => match d with | .tup xs => some (.tup (xs ++ [dn n])) | _ => none) = (rowsN n C).map fun r => D.tup ((0 :: r).map dn ++ [dn n]) := by
    rw [List.filterMap_map, ← List.filterMap_eq_map]; rfl
  rw [hx] at hlc
  have e0 : [[]].map encR = [D.tup [D.int 0]] := rfl
  rw [e0] at h1
  simp [d4, startE, ex_loop, hmid, gd_true hfin, h1, hlc]
/-! ### loads -/
def bayF (ws : List Int) : D → Option D
  | .int z => some (.int (ws.getD z.toNat 0))
  | _ => none
theorem seg_list {ws : List Int} {a b : Nat} (hb : b ≤ ws.length) : (rngD (a : Int) (b : Int)).filterMap (bayF ws) = ((ws.drop a).take (b - a)).map D.int := by
  rw [rng_dn, List.filterMap_map]
  have : ((bayF ws) ∘ fun k => dn (a + k)) = fun k => some (D.int (ws.getD (a + k) 0)) := by
    funext k
    show some (D.int (ws.getD ((a + k : Nat) : Int).toNat 0)) = _
    rw [Int.toNat_natCast]
  rw [this, fm_some]
  apply List.ext_getElem
  · simp; omega
  · intro i h1 h2
    simp at h1
    rw [List.getElem_map, List.getElem_map, List.getElem_range, List.getElem_take, List.getElem_drop, List.getD_eq_getElem?_getD, List.getElem?_eq_getElem (by omega)]
    rfl
def loadF (ws : List Int) (c : List Nat) : D → Option D
  | .int z => some (.int (seg ws (c.getD z.toNat 0) (c.getD (z.toNat + 1) 0)))
  | _ => none
theorem lds_get {ws : List Int} : ∀ (s : Nat) (r : List Nat), lds ws s r = (List.range (r.length + 1)).map fun k => seg ws ((s :: r ++ [ws.length]).getD k 0) ((s :: r ++ [ws.length]).getD (k + 1) 0)
  | s, [] => rfl
  | s, c :: r => by
    rw [List.length_cons, List.range_succ_eq_map, List.map_cons, List.map_map, lds, lds_get c r]
    congr 1
theorem row_bnd {ws : List Int} : ∀ {c s : Nat} {r : List Nat}, Row ws c s r → ∀ x ∈ r, x ≤ ws.length
  | 0, s, r, h => by
    have : r = [] := h
    subst this; intro x hx; cases hx
  | c + 1, s, r, h => by
    obtain ⟨cut, t, rfl, h1, h2, h3⟩ := h
    intro x hx
    rcases List.mem_cons.mp hx with rfl | hx
    · exact h2
    · exact row_bnd h3 x hx
theorem run_loads {N k : Nat} (ws : List Int) (r : List Nat) (hz : ws.length < 1000) (hr : r.length < 1000) (hb : ∀ x ∈ r, x ≤ ws.length) :
    run N T (k + 1) 5 [.tup (ws.map .int), .tup ((0 :: r).map dn ++ [dn ws.length])] = some (.lst ((lds ws 0 r).map .int), []) := by
  rw [run_eq (d := d5) rfl rfl]
  have hs : (1000000 : Nat) < sizeLine := by decide
  have hall : ∀ x ∈ (0 :: r ++ [ws.length]), x ≤ ws.length := by
    intro x hx
    simp only [List.cons_append, List.mem_cons, List.mem_append, List.not_mem_nil, or_false] at hx
    rcases hx with rfl | hx | rfl
    · exact Nat.zero_le _
    · exact hb x hx
    · exact Nat.le_refl _
  have hsh : (0 :: r).map dn ++ [dn ws.length] = (0 :: r ++ [ws.length]).map dn := by simp
  rw [hsh]
  have hlen : (0 :: r ++ [ws.length]).length = r.length + 2 := by simp
  generalize hc : (0 :: r ++ [ws.length] : List Nat) = c at *
  have hmid : mid ((r.length + 1 : Nat) : Int) = true := size_mid (by omega)
  have outer := ev_lcP (F := run N T k) (el := .b1 .sum (.lc (.idx (.var 0) (.var 3)) (.nm 3) (.rng2 (.idx (.var 1) (.var 2)) (.idx (.var 1) (.bin .Add (.var 2) (.int 1)))) [] [3])) (tg := .nm 2) (it := .rng1 (.bin .Sub (.b1 .len (.var 1)) (.int 1))) (ifs := []) (own := [2])
    (r := [some (.tup (ws.map .int)), some (.tup (c.map dn)), none, none]) (r1 := [some (.tup (ws.map .int)), some (.tup (c.map dn)), none, none]) (ds := rngD 0 ((r.length + 1 : Nat) : Int)) (loadF ws c) (by
      simp [hlen]
      rw [show ((r.length : Int) + 2 - 1) = ((r.length + 1 : Nat) : Int) by omega, hmid, gd_triv']
      rfl) (by
      intro d hd
      rw [rngD_zero] at hd
      obtain ⟨j, hj, rfl⟩ := List.mem_map.mp hd
      have hj := List.mem_range.mp hj
      have g1 : atI (c.map dn) (j : Int) = some (dn (c[j]'(by omega))) := atI_fmap dn c j (by omega)
      have g2 : atI (c.map dn) ((j : Int) + 1) = some (dn (c[j + 1]'(by omega))) := atI_fmap dn c (j + 1) (by omega)
      have b1' := hall _ (List.getElem_mem (show j < c.length by omega))
      have b2' := hall _ (List.getElem_mem (show j + 1 < c.length by omega))
      have m1 : mid ((c[j]'(by omega) : Nat) : Int) = true := size_mid (by omega)
      have m2 : mid ((c[j + 1]'(by omega) : Nat) : Int) = true := size_mid (by omega)
      have inner := ev_lcP (F := run N T k) (el := .idx (.var 0) (.var 3)) (tg := .nm 3) (it := .rng2 (.idx (.var 1) (.var 2)) (.idx (.var 1) (.bin .Add (.var 2) (.int 1)))) (ifs := []) (own := [3])
        (r := [some (.tup (ws.map .int)), some (.tup (c.map dn)), some (.int (j : Int)), none]) (r1 := [some (.tup (ws.map .int)), some (.tup (c.map dn)), some (.int (j : Int)), none]) (ds := rngD ((c[j]'(by omega) : Nat) : Int) ((c[j + 1]'(by omega) : Nat) : Int)) (bayF ws) (by
          simp [g1, g2]
          simp [dn, m1, m2]) (by
          intro d hd
          rw [rng_dn] at hd
          obtain ⟨i, hi, rfl⟩ := List.mem_map.mp hd
          have hi := List.mem_range.mp hi
          have g3 := atI_fmap D.int ws (c[j]'(by omega) + i) (by omega)
          refine ⟨[some (.tup (ws.map .int)), some (.tup (c.map dn)), some (.int (j : Int)), some (dn (c[j]'(by omega) + i))], ?_, rfl⟩
          have g4 : bayF ws (dn (c[j]'(by omega) + i)) = some (.int (ws[c[j]'(by omega) + i]'(by omega))) := by
            show some (D.int (ws.getD ((c[j]'(by omega) + i : Nat) : Int).toNat 0)) = _
            rw [Int.toNat_natCast, List.getD_eq_getElem?_getD, List.getElem?_eq_getElem (by omega)]
            rfl
          rw [g4]
          simp only [wipe_cons, wipe_nil, List.set_cons_succ, List.set_cons_zero, put_nm, Option.bind_some, evIfs_nil, if_true, ev_idx, ev_var, slot_succ, slot_zero, Option.map_some, stb, gd_triv, stbIt]
          show ((atI (ws.map D.int) ((c[j]'(by omega) + i : Nat) : Int)).map _).bind _ = _
          rw [g3]
          rfl) (by rw [seg_list b2']; simp; omega)
      rw [seg_list b2'] at inner
      refine ⟨[some (.tup (ws.map .int)), some (.tup (c.map dn)), some (.int (j : Int)), none], ?_, rfl⟩
      have g5 : loadF ws c (.int (j : Int)) = some (.int (seg ws (c[j]'(by omega)) (c[j + 1]'(by omega)))) := by
        show some (D.int (seg ws (c.getD (j : Int).toNat 0) (c.getD ((j : Int).toNat + 1) 0))) = _
        rw [Int.toNat_natCast, List.getD_eq_getElem?_getD, List.getElem?_eq_getElem (by omega), List.getD_eq_getElem?_getD, List.getElem?_eq_getElem (by omega)]
        rfl
      rw [g5]
      simp only [wipe_cons, wipe_nil, List.set_cons_succ, List.set_cons_zero, put_nm, Option.bind_some, evIfs_nil, if_true, ev_b1, inner, b1_sumL, intsD_map, Option.map_some, stbIt, gd_triv]
      rfl) (by
      refine Nat.le_trans (List.length_filterMap_le _ _) ?_
      rw [rng_len]; omega)
  have hout : (rngD 0 ((r.length + 1 : Nat) : Int)).filterMap (loadF ws c) = (lds ws 0 r).map D.int := by
    rw [lds_get, rngD_zero, List.filterMap_map, List.map_map, hc]
    have : ((loadF ws c) ∘ fun (k : Nat) => D.int (k : Int)) = fun k => some (D.int (seg ws (c.getD k 0) (c.getD (k + 1) 0))) := by
      funext k
      show some (D.int (seg ws (c.getD (k : Int).toNat 0) (c.getD ((k : Int).toNat + 1) 0))) = _
      rw [Int.toNat_natCast]
    rw [this, fm_some]
    rfl
  rw [hout] at outer
  simp [d5, startE, outer]
/-! ### works -/
theorem at3 (v : Int) (h0 : 0 ≤ v) (h1 : v < 3) : ∃ t : Int, atI [D.int 3, D.int 10, D.int 101] v = some (.int t) ∧ 1 ≤ t ∧ t ≤ 101 := by
  have : v = 0 ∨ v = 1 ∨ v = 2 := by omega
  rcases this with rfl | rfl | rfl
  · exact ⟨3, rfl, by decide, by decide⟩
  · exact ⟨10, rfl, by decide, by decide⟩
  · exact ⟨101, rfl, by decide, by decide⟩
theorem at2 (a b v : Int) (h0 : 0 ≤ v) (h1 : v < 2) : atI [D.int a, D.int b] v = some (.int (if v = 0 then a else b)) := by
  have : v = 0 ∨ v = 1 := by omega
  rcases this with rfl | rfl <;> rfl
theorem run_works {N k : Nat} {p : D} (hp : PoolOk p) : ∃ (ws : List Int) (p' : D), run N T (k + 3) 2 [p] = some (.tup (ws.map .int), [p']) ∧ PoolOk p' ∧ ws ≠ [] ∧ ws.length ≤ 12 ∧ ∀ w ∈ ws, 0 ≤ w ∧ w ≤ 100 := by
  rw [run_eq (d := d2) rfl rfl]
  have dr : ∀ {p : D}, PoolOk p → ∀ many : Int, 1 ≤ many → many < 1073741824 → ∃ (v : Int) (p' : D), run N T (k + 2) 3 [p, .int many] = some (.int v, [p']) ∧ PoolOk p' ∧ 0 ≤ v ∧ v < many := fun hp many h1 h2 => run_draw (j := 8) rfl rfl hp many h1 h2
  obtain ⟨v1, p1, e1, hp1, a1, b1⟩ := dr hp 3 (by decide) (by decide)
  obtain ⟨top, et, t1, t2⟩ := at3 v1 a1 b1
  obtain ⟨v2, p2, e2, hp2, a2, b2⟩ := dr hp1 2 (by decide) (by decide)
  have et2 := at2 6 12 v2 a2 b2
  generalize hL : (if v2 = 0 then (6 : Int) else 12) = L at et2
  have hLb : 1 ≤ L ∧ L ≤ 12 := by subst hL; split <;> omega
  obtain ⟨v3, p3, e3, hp3, a3, b3⟩ := dr hp2 L hLb.1 (by omega)
  obtain ⟨xs, r', h1, p4, j, rfl, hp4, vs, rfl, hvl, hvs⟩ := lc_inv (g := lcT (run N T (k + 2)) (.call 3 [.bor 0, .var 1]) (.nm 2) (.rng1 (.bin .Add (.int 1) (.call 3 [.bor 0, .idx (.tup [.int 6, .int 12]) (.call 3 [.bor 0, .int 2])]))) [] [2] [some p3, some (.int top), none]) (ds := rngD 0 (1 + v3)) (r := [some p3, some (.int top), none])
    (fun i xs r => ∃ (p : D) (j : Option D), r = [some p, some (.int top), j] ∧ PoolOk p ∧ ∃ vs : List Int, xs = vs.map .int ∧ vs.length = i ∧ ∀ v ∈ vs, 0 ≤ v ∧ v ≤ 100)
    ⟨p3, none, rfl, hp3, [], rfl, rfl, fun v hv => by cases hv⟩ (by
      rintro i d r xs hd ⟨p, j, rfl, hp, vs, rfl, hl, hv⟩
      obtain ⟨v, p', e, hp', a, b⟩ := dr hp top t1 (by omega)
      refine ⟨some (.int v), [some p', some (.int top), some d], by simp [lcT, e], p', _, rfl, hp', vs ++ [v], by simp, by simp [hl], fun x hx => ?_⟩
      rcases List.mem_append.mp hx with hx | hx
      · exact hv x hx
      · simp at hx; subst hx; omega)
  have hlen : (rngD 0 (1 + v3)).length = (1 + v3).toNat := by rw [rng_len]; congr 1; omega
  rw [hlen] at hvl
  have hs : (1000 : Nat) < sizeLine := by decide
  have hz : vs.length ≤ sizeLine := by omega
  have hm : mid (1 + v3) = true := by simp [mid]; omega
  have c3 : (3 : Nat) ≤ sizeLine := by decide
  have c2 : (2 : Nat) ≤ sizeLine := by decide
  refine ⟨vs, p4, ?_, hp4, fun z => by subst z; simp at hvl; omega, by omega, hvs⟩
  simp [d2, startE, ev_lc, gd_true c3, gd_true c2, e1, et, e2, et2, e3, hm, h1, gd_true hz, backE, slot]
/-! ### the order of shares with their loads -/
theorem lts_dn : ∀ xs ys : List Nat, ltsD (xs.map dn) (ys.map dn) = lexN xs ys
  | [], [] => rfl
  | [], _ :: _ => rfl
  | _ :: _, [] => rfl
  | x :: xs, y :: ys => by
    simp only [List.map_cons, ltsD, lexN, lts_dn xs ys]
    show (if ((x : Int) == (y : Int)) = true then _ else decide ((x : Int) < (y : Int))) = _
    by_cases e : x = y
    · subst e; simp
    · have : ¬ ((x : Int) == (y : Int)) = true := by simp; omega
      rw [if_neg this, if_neg e]
      exact decide_eq_decide.mpr (by omega)
theorem eqvs_dn : ∀ xs ys : List Nat, eqvs (xs.map dn) (ys.map dn) = true ↔ xs = ys
  | [], [] => by simp [eqvs]
  | [], _ :: _ => by simp [eqvs]
  | _ :: _, [] => by simp [eqvs]
  | x :: xs, y :: ys => by
    simp only [List.map_cons, eqvs, Bool.and_eq_true, eqvs_dn xs ys]
    show ((x : Int) == (y : Int)) = true ∧ _ ↔ _
    simp
    omega
theorem cmps_dn : ∀ xs ys : List Nat, cmpsD (xs.map dn) (ys.map dn) = true
  | [], _ => by simp [cmpsD]
  | _ :: _, [] => by simp [cmpsD]
  | x :: xs, y :: ys => by
    simp only [List.map_cons, cmpsD, cmps_dn xs ys, Bool.and_true]
    show (_ || cmpD (.int x) (.int y)) = true
    simp [cmpD]
theorem ords_dn : ∀ xs : List Nat, ordsD (xs.map dn) = true
  | [] => rfl
  | x :: xs => by simp only [List.map_cons, ordsD, ords_dn xs]; rfl
theorem dpts_dn : ∀ xs : List Nat, dpts (xs.map dn) = 0
  | [] => rfl
  | x :: xs => by simp only [List.map_cons, dpts, dpts_dn xs]; rfl
theorem lexN_irr : ∀ xs : List Nat, lexN xs xs = false
  | [] => rfl
  | x :: xs => by simp [lexN, lexN_irr xs]
theorem lexN_tot : ∀ {xs ys : List Nat}, lexN xs ys = false → lexN ys xs = false → xs = ys
  | [], [], _, _ => rfl
  | [], _ :: _, h, _ => by cases h
  | _ :: _, [], _, h => by cases h
  | x :: xs, y :: ys, h1, h2 => by
    simp only [lexN] at h1 h2
    by_cases e : x = y
    · subst e
      rw [if_pos rfl] at h1 h2
      rw [lexN_tot h1 h2]
    · rw [if_neg e] at h1
      rw [if_neg (Ne.symm e)] at h2
      simp at h1 h2
      omega
/-- a share with its load -/
def encB (ws : List Int) (r : List Nat) (l : Int) : D := .tup [.int l, .tup ((0 :: r).map dn ++ [dn ws.length])]
theorem lexN_trans : ∀ {xs ys zs : List Nat}, lexN xs ys = true → lexN ys zs = true → lexN xs zs = true
  | [], [], _, h, _ => by cases h
  | [], _ :: _, [], _, h => by cases h
  | [], _ :: _, _ :: _, _, _ => rfl
  | _ :: _, [], _, h, _ => by cases h
  | _ :: _, _ :: _, [], _, h => by cases h
  | x :: xs, y :: ys, z :: zs, h1, h2 => by
    simp only [lexN] at h1 h2 ⊢
    by_cases e1 : x = y
    · subst e1
      rw [if_pos rfl] at h1
      by_cases e2 : x = z
      · rw [if_pos e2] at h2 ⊢; exact lexN_trans h1 h2
      · rw [if_neg e2] at h2 ⊢; exact h2
    · rw [if_neg e1] at h1
      have h1 := of_decide_eq_true h1
      by_cases e2 : y = z
      · subst e2; rw [if_neg e1]; exact decide_eq_true h1
      · rw [if_neg e2] at h2
        have h2 := of_decide_eq_true h2
        rw [if_neg (by omega)]; exact decide_eq_true (by omega)
theorem enc_cat (r : List Nat) (n : Nat) : (0 :: r).map dn ++ [dn n] = (0 :: r ++ [n]).map dn := by simp
theorem lexN_app : ∀ {xs ys : List Nat} (n : Nat), xs.length = ys.length → lexN (xs ++ [n]) (ys ++ [n]) = lexN xs ys
  | [], [], n, _ => by simp [lexN]
  | [], _ :: _, n, h => by simp at h
  | _ :: _, [], n, h => by simp at h
  | x :: xs, y :: ys, n, h => by
    simp only [List.cons_append, lexN]
    rw [lexN_app n (by simpa using h)]
theorem lt_enc {ws : List Int} {r r' : List Nat} {l l' : Int} (h : r.length = r'.length) : dcmp .Lt (encB ws r l) (encB ws r' l') = some (if l = l' then lexN r r' else decide (l < l')) := by
  have hlex : lexN (0 :: r ++ [ws.length]) (0 :: r' ++ [ws.length]) = lexN r r' := by
    rw [lexN_app _ (by simp [h])]
    simp [lexN]
  unfold encB
  rw [enc_cat, enc_cat]
  show dord .Lt _ _ = _
  unfold dord
  rw [if_pos]
  · congr 1
    show (if ((l == l') = true) then (if eqvs _ _ = true then false else ltsD _ _) else decide (l < l')) = _
    by_cases e : l = l'
    · subst e
      simp only [beq_self_eq_true, if_true]
      rw [lts_dn, hlex]
      by_cases e2 : eqvs ((0 :: r ++ [ws.length]).map dn) ((0 :: r' ++ [ws.length]).map dn) = true
      · rw [if_pos e2]
        have := (eqvs_dn _ _).mp e2
        rw [← hlex, this, lexN_irr]
      · rw [if_neg e2]
    · rw [if_neg (by simpa using e), if_neg e]
  · simp only [ltOk, ordD, ordsD, ords_dn, cmpD, cmpsD, cmps_dn, dpt, dpts, dpts_dn, Bool.and_true, Bool.or_true, Bool.true_and]
    decide
theorem lds_ne (ws : List Int) : ∀ (s : Nat) (r : List Nat), lds ws s r ≠ []
  | _, [] => by simp [lds]
  | _, _ :: _ => by simp [lds]
theorem plains_dn : ∀ xs : List Nat, plainsD (xs.map dn) = true
  | [] => rfl
  | x :: xs => by simp only [List.map_cons, plainsD, plains_dn xs]; rfl
/-! ### the law -/
def bestBody : List S := [.asg 7 (.tup [.b1 .max (.call 5 [.var 3, .var 6]), .var 6]),
          .asg 5 (.ite (.or (.cmp .Is (.var 5) (.non)) (.cmp .Lt (.var 7) (.var 5))) (.var 7) (.var 5))]
def bestSt (ws : List Int) : Option (List Nat × Int) → D
  | none => .non
  | some (r, l) => encB ws r l
theorem run_fold {k C : Nat} {s0 p t : Option D} {j6 j7 : Option D} {rb : Fw.Env} (ws : List Int) (cD : D) (hz : ws.length < 1000) (rows : List (List Nat)) (hr : ∀ r ∈ rows, r.length = C ∧ ∀ x ∈ r, x ≤ ws.length) (hC : C < 1000) :
    ∃ (b : Option (List Nat × Int)) (j6' j7' : Option D), forLoop (turn (run 1000000 T (k + 1)) 1000000 (.nm 6) (.seq (.call 4 [.b1 .len (.var 3), .var 4])) bestBody rb) (rows.map fun r => .tup ((0 :: r).map dn ++ [dn ws.length])) [s0, p, t, some (.tup (ws.map .int)), some cD, some .non, j6, j7] =
      some (.nx [s0, p, t, some (.tup (ws.map .int)), some cD, some (bestSt ws b), j6', j7']) ∧
      (rows ≠ [] → ∃ r l, b = some (r, l) ∧ r ∈ rows ∧ maxI (lds ws 0 r) = some l ∧ ∀ r' ∈ rows, ∀ l', maxI (lds ws 0 r') = some l' → (if l' = l then lexN r' r else decide (l' < l)) = false) := by
  obtain ⟨r', h1, b, j6', j7', rfl, hb0, hb⟩ := for_inv (g := turn (run 1000000 T (k + 1)) 1000000 (.nm 6) (.seq (.call 4 [.b1 .len (.var 3), .var 4])) bestBody rb) (ds := rows.map fun r => D.tup ((0 :: r).map dn ++ [dn ws.length])) (r := [s0, p, t, some (.tup (ws.map .int)), some cD, some .non, j6, j7])
    (fun i r => ∃ (b : Option (List Nat × Int)) (j6' j7' : Option D), r = [s0, p, t, some (.tup (ws.map .int)), some cD, some (bestSt ws b), j6', j7'] ∧ (i = 0 → b = none) ∧
      (i ≠ 0 → ∃ r l, b = some (r, l) ∧ r ∈ rows.take i ∧ maxI (lds ws 0 r) = some l ∧ ∀ r' ∈ rows.take i, ∀ l', maxI (lds ws 0 r') = some l' → (if l' = l then lexN r' r else decide (l' < l)) = false))
    ⟨none, j6, j7, rfl, fun _ => rfl, fun h => absurd rfl h⟩ (by
      rintro i d r hd ⟨b, j6', j7', rfl, hb0, hb⟩
      rw [List.getElem?_map] at hd
      obtain ⟨row, hrow, rfl⟩ := Option.map_eq_some_iff.mp hd
      have hmem := List.mem_of_getElem? hrow
      obtain ⟨hl, hx⟩ := hr row hmem
      have hload := run_loads (N := 1000000) (k := k) ws row hz (by omega) hx
      obtain ⟨l, hmax, _⟩ := maxI_some (lds_ne ws 0 row)
      have h2 : (2 : Nat) ≤ sizeLine := by decide
      have htake : rows.take (i + 1) = rows.take i ++ [row] := by rw [List.take_add_one, hrow]; rfl
      by_cases hi : i = 0
      · subst hi
        have := hb0 rfl
        subst this
        refine ⟨[s0, p, t, some (.tup (ws.map .int)), some cD, some (encB ws row l), some (.tup ((0 :: row).map dn ++ [dn ws.length])), some (encB ws row l)], .inl ?_, some (row, l), _, _, rfl, fun z => absurd z (Nat.succ_ne_zero _), fun _ => ⟨row, l, rfl, by rw [htake]; simp, hmax, fun r' h' l' hl' => ?_⟩⟩
        · simp only [turn, put_nm, List.set_cons_succ, List.set_cons_zero, Option.bind_some, bestBody, exs_cons, ex_asg, ev_tup, evs_cons, ev_b1, ev_call, ev_var, slot_succ, slot_zero, Option.map_some, evs_nil, fill, hload, outs, b1_maxL, intsD_map, hmax, List.length_cons, List.length_nil, gd_true h2, seqK_nx, bestSt, ev_ite, ev_or, ev_cmp, ev_non, stb, gd_triv, dcmp_isn, selB_bl, if_true, tru_bl, exs_nil, stbIt]
          rfl
        · rw [htake] at h'
          simp at h'
          subst h'
          rw [hmax] at hl'
          cases hl'
          rw [if_pos rfl]; exact lexN_irr _
      · obtain ⟨r0, l0, rfl, g1, g2, g3⟩ := hb hi
        have hl0 := (hr r0 (List.mem_of_mem_take g1)).1
        have hlt := lt_enc (ws := ws) (r := row) (r' := r0) (l := l) (l' := l0) (by omega)
        have hnis : dcmp .Is (encB ws r0 l0) .non = some false := rfl
        have hset : (E.tup [E.b1 .max (.call 5 [.var 3, .var 6]), .var 6]) = (E.tup [E.b1 .max (.call 5 [.var 3, .var 6]), .var 6]) := rfl
        cases hcmp : (if l = l0 then lexN row r0 else decide (l < l0)) with
        | true =>
          rw [hcmp] at hlt
          refine ⟨[s0, p, t, some (.tup (ws.map .int)), some cD, some (encB ws row l), some (.tup ((0 :: row).map dn ++ [dn ws.length])), some (encB ws row l)], .inl ?_, some (row, l), _, _, rfl, fun z => absurd z (Nat.succ_ne_zero _), fun _ => ⟨row, l, rfl, by rw [htake]; simp, hmax, fun r' h' l' hl' => ?_⟩⟩
          · have e : encB ws row l = .tup [.int l, .tup ((0 :: row).map dn ++ [dn ws.length])] := rfl
            simp only [turn, put_nm, List.set_cons_succ, List.set_cons_zero, Option.bind_some, bestBody, exs_cons, ex_asg, ev_tup, evs_cons, ev_b1, ev_call, ev_var, slot_succ, slot_zero, Option.map_some, evs_nil, fill, hload, outs, b1_maxL, intsD_map, hmax, List.length_cons, List.length_nil, gd_true h2, seqK_nx, bestSt, ev_ite, ev_or, ev_cmp, ev_non, stb, gd_triv, hnis, selB_bl, ← e, hlt, if_true, if_false, Bool.false_eq_true, tru_bl, exs_nil, stbIt]
          · rw [htake] at h'
            rcases List.mem_append.mp h' with h' | h'
            · have := g3 r' h' l' hl'
              have hl' := (hr r' (List.mem_of_mem_take h')).1
              by_cases e1 : l = l0
              · rw [if_pos e1] at hcmp
                subst e1
                by_cases e2 : l' = l
                · rw [if_pos e2] at this ⊢
                  cases q : lexN r' row with
                  | false => rfl
                  | true => rw [lexN_trans q hcmp] at this; cases this
                · rw [if_neg e2] at this ⊢; exact this
              · rw [if_neg e1] at hcmp
                have hlt' := of_decide_eq_true hcmp
                by_cases e2 : l' = l0
                · rw [if_neg (by omega)]; exact decide_eq_false (by omega)
                · rw [if_neg e2] at this
                  have := of_decide_eq_false this
                  rw [if_neg (by omega)]; exact decide_eq_false (by omega)
            · simp at h'
              subst h'
              rw [hmax] at hl'
              cases hl'
              rw [if_pos rfl]; exact lexN_irr _
        | false =>
          rw [hcmp] at hlt
          refine ⟨[s0, p, t, some (.tup (ws.map .int)), some cD, some (encB ws r0 l0), some (.tup ((0 :: row).map dn ++ [dn ws.length])), some (encB ws row l)], .inl ?_, some (r0, l0), _, _, rfl, fun z => absurd z (Nat.succ_ne_zero _), fun _ => ⟨r0, l0, rfl, by rw [htake]; exact List.mem_append_left _ g1, g2, fun r' h' l' hl' => ?_⟩⟩
          · have e : encB ws row l = .tup [.int l, .tup ((0 :: row).map dn ++ [dn ws.length])] := rfl
            simp only [turn, put_nm, List.set_cons_succ, List.set_cons_zero, Option.bind_some, bestBody, exs_cons, ex_asg, ev_tup, evs_cons, ev_b1, ev_call, ev_var, slot_succ, slot_zero, Option.map_some, evs_nil, fill, hload, outs, b1_maxL, intsD_map, hmax, List.length_cons, List.length_nil, gd_true h2, seqK_nx, bestSt, ev_ite, ev_or, ev_cmp, ev_non, stb, gd_triv, hnis, selB_bl, ← e, hlt, if_true, if_false, Bool.false_eq_true, tru_bl, exs_nil, stbIt]
          · rw [htake] at h'
            rcases List.mem_append.mp h' with h' | h'
            · exact g3 r' h' l' hl'
            · simp at h'
              subst h'
              rw [hmax] at hl'
              cases hl'
              exact hcmp)
  rw [List.length_map, List.take_length] at hb
  refine ⟨b, j6', j7', h1, fun hne => hb fun z => hne (List.length_eq_zero_iff.mp (by simpa using z))⟩
/-- one turn of the law -/
theorem run_turn {p : D} (hp : PoolOk p) (s0 : D) (t j3 j4 j5 j6 j7 : Option D) : ∃ (p' : D) (j3' j4' j5' j6' j7' : Option D), exs (run 1000000 T 39) 1000000 [.asg 3 (.call 2 [.bor 1]),
       .asg 4 (.bin .Add (.int 1) (.call 3 [.bor 1, .idx (.tup [.int 4, .int 6]) (.b1 .int (.cmp .Lt (.b1 .len (.var 3)) (.int 7)))])),
       .asg 5 (.non),
       .loop (.nm 6) (.seq (.call 4 [.b1 .len (.var 3), .var 4])) bestBody,
       .ife (.not (.call 7 [.call 6 [.var 3, .var 4], .idx (.var 5) (.int 1)]))
         [.ret (.bl false)]
         []] [some s0, some p, t, j3, j4, j5, j6, j7] = some (.nx [some s0, some p', t, j3', j4', j5', j6', j7']) ∧ PoolOk p' := by
  obtain ⟨ws, p1, e1, hp1, hne, hlen, hws⟩ := run_works (N := 1000000) (k := 36) hp
  have hidx : ∃ L : Int, atI [D.int 4, D.int 6] (if decide ((ws.length : Int) < 7) = true then 1 else 0) = some (.int L) ∧ 1 ≤ L ∧ L ≤ 6 := by
    by_cases h : (ws.length : Int) < 7
    · simp only [h, decide_true, if_true]; exact ⟨6, rfl, by decide, by decide⟩
    · simp only [h, decide_false, Bool.false_eq_true, if_false]; exact ⟨4, rfl, by decide, by decide⟩
  obtain ⟨L, eL, L1, L2⟩ := hidx
  obtain ⟨v, p2, e2, hp2, v0, v1⟩ := run_draw (n := 1000000) (k := 37) (i := 3) (j := 8) (T := T) rfl rfl hp1 L L1 (by omega)
  obtain ⟨C, rfl⟩ : ∃ C : Nat, v = (C : Int) := ⟨v.toNat, by omega⟩
  have hC : C ≤ 5 := by omega
  have e4 := run_shares (N := 1000000) (k := 38) ws.length C hlen hC
  obtain ⟨m, b, e6, hbs, hm0, hfit, hleast⟩ := run_best (k := 36) (C := C) ws (by omega) hne hws (by omega)
  have hnn : ∀ w ∈ ws, 0 ≤ w := fun w hw => (hws w hw).1
  obtain ⟨best, j6', j7', e5, hb⟩ := run_fold (k := 38) (C := C) (s0 := some s0) (p := some p2) (t := t) (j6 := j6) (j7 := j7) (rb := [some s0, some p2, t, some (.tup (ws.map .int)), some (.int (1 + (C : Int))), some .non, j6, j7]) ws (.int (1 + (C : Int))) (by omega) (rowsN ws.length C) (fun r hr => ⟨row_len hr, row_bnd (rows_mem.mp hr)⟩) (by omega)
  have hbr : b ∈ rowsN ws.length C := rows_mem.mpr (bs_row hbs)
  obtain ⟨r, l, rfl, hr, hl, hmin⟩ := hb (List.ne_nil_of_mem hbr)
  -- the best of the list is best_share's
  have hrow := rows_mem.mp hr
  have lb : ∀ x ∈ lds ws 0 b, x ≤ m := bs_lds hm0 hnn hbs (Nat.zero_le _) (by simpa using hfit)
  obtain ⟨lb', hlb, hlbm⟩ := maxI_some (lds_ne ws 0 b)
  have h1 : lb' ≤ m := (hlbm m).mpr lb
  obtain ⟨hlm, hlall⟩ := maxI_spec hl
  have least : ∀ {r' : List Nat} {l' : Int}, Row ws C 0 r' → maxI (lds ws 0 r') = some l' → m ≤ l' := fun {r' l'} hr' hl' => by
    rcases Int.lt_or_le l' m with z | z
    · have hall := (maxI_spec hl').2
      have hl0 : 0 ≤ l' := by
        have hm' := (maxI_spec hl').1
        rw [lds_get] at hm'
        obtain ⟨i, _, hi⟩ := List.mem_map.mp hm'
        rw [← hi]
        exact (sum_nn fun x hx => hnn x (List.mem_of_mem_drop (List.mem_of_mem_take hx))).1
      have := row_fits hnn hl0 hr' (Nat.zero_le _) hall
      rw [List.drop_zero, hleast l' z] at this
      cases this
    · exact z
  have hml := least hrow hl
  have hmb := least (bs_row hbs) hlb
  have ebm : lb' = m := by omega
  subst ebm
  have q := hmin b hbr lb' hlb
  have hll : l = lb' := by
    by_cases z : lb' = l
    · exact z.symm
    · rw [if_neg z] at q
      have := of_decide_eq_false q
      omega
  subst hll
  rw [if_pos rfl] at q
  have hle := bs_least hm0 hnn hbs hrow fun x hx => hlall x hx
  have erb : r = b := lexN_tot hle q
  subst erb
  have hsame := run_same (n := 1000000) (i := 7) (T := T) rfl 38 (.tup ((0 :: r).map dn ++ [dn ws.length])) (by
    rw [enc_cat]
    have hrl := row_len hr
    have hs : (1000 : Nat) < sizeLine := by decide
    simp only [plainD, plains_dn, Bool.true_and, decide_eq_true_eq]
    simp; omega) (by rw [enc_cat]; simp only [dpt, dpts_dn]; omega)
  have c2 : (2 : Nat) ≤ sizeLine := by decide
  have ix : didx (encB ws r l) (.int 1) = some (.tup ((0 :: r).map dn ++ [dn ws.length])) := rfl
  refine ⟨p2, some (.tup (ws.map .int)), some (.int (1 + (C : Int))), some (encB ws r l), j6', j7', ?_, hp2⟩
  have ecomm : (C : Int) + 1 = 1 + (C : Int) := Int.add_comm _ _
  rw [ecomm] at e4 e6
  have e5' : ex (run 1000000 T 39) 1000000 (.loop (.nm 6) (.seq (.call 4 [.b1 .len (.var 3), .var 4])) bestBody) [some s0, some p2, t, some (.tup (ws.map .int)), some (.int (1 + (C : Int))), some .non, j6, j7] = some (.nx [some s0, some p2, t, some (.tup (ws.map .int)), some (.int (1 + (C : Int))), some (encB ws r l), j6', j7']) := by
    rw [ex_loop]
    have : evIt (run 1000000 T 39) (.seq (.call 4 [.b1 .len (.var 3), .var 4])) [some s0, some p2, t, some (.tup (ws.map .int)), some (.int (1 + (C : Int))), some .non, j6, j7] = some ((rowsN ws.length C).map fun r => .tup ((0 :: r).map dn ++ [dn ws.length]), [some s0, some p2, t, some (.tup (ws.map .int)), some (.int (1 + (C : Int))), some .non, j6, j7]) := by
      simp only [evIt_seq, ev_call, evs_cons, evs_nil, ev_b1, ev_var, slot_succ, slot_zero, Option.map_some, Option.bind_some, b1_lenD, dlen_tup, List.length_map, fill, outs]
      show ((run 1000000 T (38 + 1) 4 [dn ws.length, .int (1 + (C : Int))]).bind _).bind _ = _
      rw [e4]
      rfl
    rw [this]
    exact e5
  have s1 : ex (run 1000000 T 39) 1000000 (.asg 3 (.call 2 [.bor 1])) [some s0, some p, t, j3, j4, j5, j6, j7] = some (.nx [some s0, some p1, t, some (.tup (ws.map .int)), j4, j5, j6, j7]) := by
    simp [e1]
  have s2 : ex (run 1000000 T 39) 1000000 (.asg 4 (.bin .Add (.int 1) (.call 3 [.bor 1, .idx (.tup [.int 4, .int 6]) (.b1 .int (.cmp .Lt (.b1 .len (.var 3)) (.int 7)))]))) [some s0, some p1, t, some (.tup (ws.map .int)), j4, j5, j6, j7] = some (.nx [some s0, some p2, t, some (.tup (ws.map .int)), some (.int (1 + (C : Int))), j5, j6, j7]) := by
    have hb2 : b1 .int (.bl (decide ((ws.length : Int) < 7))) = some (.int (if decide ((ws.length : Int) < 7) = true then 1 else 0)) := rfl
    simp only [ex_asg, ev_bin, ev_int, ev_call, evs_cons, evs_nil, ev_bor, ev_idx, ev_tup, ev_b1, ev_cmp, ev_var, slot_succ, slot_zero, Option.map_some, Option.bind_some, b1_lenD, dlen_tup, List.length_map, dcmp_lt, stb, gd_triv, List.length_cons, List.length_nil, gd_true c2, hb2, didx_tup, eL, fill, e2, outs, List.set_cons_succ, List.set_cons_zero, dbin_add]
  have s3 : ex (run 1000000 T 39) 1000000 (.asg 5 .non) [some s0, some p2, t, some (.tup (ws.map .int)), some (.int (1 + (C : Int))), j5, j6, j7] = some (.nx [some s0, some p2, t, some (.tup (ws.map .int)), some (.int (1 + (C : Int))), some .non, j6, j7]) := by simp
  have s5 : ex (run 1000000 T 39) 1000000 (.ife (.not (.call 7 [.call 6 [.var 3, .var 4], .idx (.var 5) (.int 1)])) [.ret (.bl false)] []) [some s0, some p2, t, some (.tup (ws.map .int)), some (.int (1 + (C : Int))), some (encB ws r l), j6', j7'] = some (.nx [some s0, some p2, t, some (.tup (ws.map .int)), some (.int (1 + (C : Int))), some (encB ws r l), j6', j7']) := by
    simp only [ex_ife, ev_not, ev_call, evs_cons, evs_nil, ev_var, ev_idx, ev_int, slot_succ, slot_zero, Option.map_some, Option.bind_some, fill, e6, outs, ix, stb, gd_triv]
    rw [hsame]
    simp
  simp only [exs_cons, s1, s2, s3, s5, e5', Option.bind_some, seqK_nx, exs_nil]
theorem main : ∀ ns : List Int, ns.length ≤ 63 → ∃ os, run 1000000 T 40 0 [.scr (ns.map .int)] = some (.bl true, os) := by
  intro ns _
  rw [run_eq (d := d0) rfl rfl]
  obtain ⟨p, e0, hp⟩ := run_pool (n := 1000000) (k := 38) (i := 1) (T := T) rfl ns
  obtain ⟨r', h1, p', t, j3, j4, j5, j6, j7, rfl, _⟩ := for_inv (g := turn (run 1000000 T 39) 1000000 (.nm 2) (.rng1 (.int 2)) [.asg 3 (.call 2 [.bor 1]),
       .asg 4 (.bin .Add (.int 1) (.call 3 [.bor 1, .idx (.tup [.int 4, .int 6]) (.b1 .int (.cmp .Lt (.b1 .len (.var 3)) (.int 7)))])),
       .asg 5 (.non),
       .loop (.nm 6) (.seq (.call 4 [.b1 .len (.var 3), .var 4])) bestBody,
       .ife (.not (.call 7 [.call 6 [.var 3, .var 4], .idx (.var 5) (.int 1)]))
         [.ret (.bl false)]
         []] [some (.scr (ns.map .int)), some p, none, none, none, none, none, none]) (ds := rngD 0 2) (r := [some (.scr (ns.map .int)), some p, none, none, none, none, none, none])
    (fun i r => ∃ (p' : D) (t j3 j4 j5 j6 j7 : Option D), r = [some (.scr (ns.map .int)), some p', t, j3, j4, j5, j6, j7] ∧ PoolOk p')
    ⟨p, none, none, none, none, none, none, rfl, hp⟩ (by
      rintro i d r hd ⟨p', t, j3, j4, j5, j6, j7, rfl, hp'⟩
      obtain ⟨p2, k3, k4, k5, k6, k7, e, hp2⟩ := run_turn hp' (.scr (ns.map .int)) (some d) j3 j4 j5 j6 j7
      exact ⟨_, .inl (by simp only [turn, put_nm, List.set_cons_succ, List.set_cons_zero, Option.bind_some, e, stbIt, gd_triv]), p2, some d, k3, k4, k5, k6, k7, rfl, hp2⟩)
  refine ⟨[], ?_⟩
  have hpl : ∃ ds, p = .lst ds := by obtain ⟨cs, a, b, c, s, rfl, _⟩ := hp; exact ⟨_, rfl⟩
  obtain ⟨ds, rfl⟩ := hpl
  have m2 : mid 2 = true := rfl
  simp only [bestBody] at h1
  simp [d0, startE, e0, ex_loop, m2, h1]
theorem all_mk {l : PySem.W.OpenLaw} {w : World} {K : PySem.W.Frag} {h : Heap} {mg : Str → Option Value} {fa f0 f1 f2 f3 f4 f5 f6 f7 f8 f9 f10 f11 : Addr} (KX : K.In h) (HN : h.Ns mainGlobals mg) (hfa : mg "law" = some (.ref fa))
    {od0 an0 : Option Addr} {sl0 : Array (Option Value)} {oc0 kV0 dc0 pm0 cd0 ct0 : Value}
    (a0 : PySem.W.nsIn K mainGlobals "law" = some (some (.ref f0))) (l0 : K.lookup f0 = some ⟨oc0, od0, .func (PySem.W.fnOf "law" "law" (defArgs (top 13)) (defBody (top 13)) (defScope (top 13)) .none kV0 dc0 pm0 an0 cd0 ct0), sl0⟩) (c0 : PySem.W.codeIn K cd0 "law" = true) (k0 : PySem.W.keepIn K (.ref f0) = true)
    {od1 an1 : Option Addr} {sl1 : Array (Option Value)} {oc1 kV1 dc1 pm1 cd1 ct1 : Value}
    (a1 : PySem.W.nsIn K mainGlobals "_law_pool" = some (some (.ref f1))) (l1 : K.lookup f1 = some ⟨oc1, od1, .func (PySem.W.fnOf "_law_pool" "_law_pool" (defArgs (top 7)) (defBody (top 7)) (defScope (top 7)) .none kV1 dc1 pm1 an1 cd1 ct1), sl1⟩) (c1 : PySem.W.codeIn K cd1 "_law_pool" = true) (k1 : PySem.W.keepIn K (.ref f1) = true)
    {od2 an2 : Option Addr} {sl2 : Array (Option Value)} {oc2 kV2 dc2 pm2 cd2 ct2 : Value}
    (a2 : PySem.W.nsIn K mainGlobals "_law_works" = some (some (.ref f2))) (l2 : K.lookup f2 = some ⟨oc2, od2, .func (PySem.W.fnOf "_law_works" "_law_works" (defArgs (top 10)) (defBody (top 10)) (defScope (top 10)) .none kV2 dc2 pm2 an2 cd2 ct2), sl2⟩) (c2 : PySem.W.codeIn K cd2 "_law_works" = true) (k2 : PySem.W.keepIn K (.ref f2) = true)
    {od3 an3 : Option Addr} {sl3 : Array (Option Value)} {oc3 kV3 dc3 pm3 cd3 ct3 : Value}
    (a3 : PySem.W.nsIn K mainGlobals "_law_draw" = some (some (.ref f3))) (l3 : K.lookup f3 = some ⟨oc3, od3, .func (PySem.W.fnOf "_law_draw" "_law_draw" (defArgs (top 9)) (defBody (top 9)) (defScope (top 9)) .none kV3 dc3 pm3 an3 cd3 ct3), sl3⟩) (c3 : PySem.W.codeIn K cd3 "_law_draw" = true) (k3 : PySem.W.keepIn K (.ref f3) = true)
    {od4 an4 : Option Addr} {sl4 : Array (Option Value)} {oc4 kV4 dc4 pm4 cd4 ct4 : Value}
    (a4 : PySem.W.nsIn K mainGlobals "_law_shares" = some (some (.ref f4))) (l4 : K.lookup f4 = some ⟨oc4, od4, .func (PySem.W.fnOf "_law_shares" "_law_shares" (defArgs (top 12)) (defBody (top 12)) (defScope (top 12)) .none kV4 dc4 pm4 an4 cd4 ct4), sl4⟩) (c4 : PySem.W.codeIn K cd4 "_law_shares" = true) (k4 : PySem.W.keepIn K (.ref f4) = true)
    {od5 an5 : Option Addr} {sl5 : Array (Option Value)} {oc5 kV5 dc5 pm5 cd5 ct5 : Value}
    (a5 : PySem.W.nsIn K mainGlobals "_law_loads" = some (some (.ref f5))) (l5 : K.lookup f5 = some ⟨oc5, od5, .func (PySem.W.fnOf "_law_loads" "_law_loads" (defArgs (top 11)) (defBody (top 11)) (defScope (top 11)) .none kV5 dc5 pm5 an5 cd5 ct5), sl5⟩) (c5 : PySem.W.codeIn K cd5 "_law_loads" = true) (k5 : PySem.W.keepIn K (.ref f5) = true)
    {od6 an6 : Option Addr} {sl6 : Array (Option Value)} {oc6 kV6 dc6 pm6 cd6 ct6 : Value}
    (a6 : PySem.W.nsIn K mainGlobals "best_share" = some (some (.ref f6))) (l6 : K.lookup f6 = some ⟨oc6, od6, .func (PySem.W.fnOf "best_share" "best_share" (defArgs (top 4)) (defBody (top 4)) (defScope (top 4)) .none kV6 dc6 pm6 an6 cd6 ct6), sl6⟩) (c6 : PySem.W.codeIn K cd6 "best_share" = true) (k6 : PySem.W.keepIn K (.ref f6) = true)
    {od7 an7 : Option Addr} {sl7 : Array (Option Value)} {oc7 kV7 dc7 pm7 cd7 ct7 : Value}
    (a7 : PySem.W.nsIn K mainGlobals "_law_same" = some (some (.ref f7))) (l7 : K.lookup f7 = some ⟨oc7, od7, .func (PySem.W.fnOf "_law_same" "_law_same" (defArgs (top 6)) (defBody (top 6)) (defScope (top 6)) .none kV7 dc7 pm7 an7 cd7 ct7), sl7⟩) (c7 : PySem.W.codeIn K cd7 "_law_same" = true) (k7 : PySem.W.keepIn K (.ref f7) = true)
    {od8 an8 : Option Addr} {sl8 : Array (Option Value)} {oc8 kV8 dc8 pm8 cd8 ct8 : Value}
    (a8 : PySem.W.nsIn K mainGlobals "_law_spread" = some (some (.ref f8))) (l8 : K.lookup f8 = some ⟨oc8, od8, .func (PySem.W.fnOf "_law_spread" "_law_spread" (defArgs (top 8)) (defBody (top 8)) (defScope (top 8)) .none kV8 dc8 pm8 an8 cd8 ct8), sl8⟩) (c8 : PySem.W.codeIn K cd8 "_law_spread" = true) (k8 : PySem.W.keepIn K (.ref f8) = true)
    {od9 an9 : Option Addr} {sl9 : Array (Option Value)} {oc9 kV9 dc9 pm9 cd9 ct9 : Value}
    (a9 : PySem.W.nsIn K mainGlobals "least_load" = some (some (.ref f9))) (l9 : K.lookup f9 = some ⟨oc9, od9, .func (PySem.W.fnOf "least_load" "least_load" (defArgs (top 2)) (defBody (top 2)) (defScope (top 2)) .none kV9 dc9 pm9 an9 cd9 ct9), sl9⟩) (c9 : PySem.W.codeIn K cd9 "least_load" = true) (k9 : PySem.W.keepIn K (.ref f9) = true)
    {od10 an10 : Option Addr} {sl10 : Array (Option Value)} {oc10 kV10 dc10 pm10 cd10 ct10 : Value}
    (a10 : PySem.W.nsIn K mainGlobals "fits_in" = some (some (.ref f10))) (l10 : K.lookup f10 = some ⟨oc10, od10, .func (PySem.W.fnOf "fits_in" "fits_in" (defArgs (top 3)) (defBody (top 3)) (defScope (top 3)) .none kV10 dc10 pm10 an10 cd10 ct10), sl10⟩) (c10 : PySem.W.codeIn K cd10 "fits_in" = true) (k10 : PySem.W.keepIn K (.ref f10) = true)
    {od11 an11 : Option Addr} {sl11 : Array (Option Value)} {oc11 kV11 dc11 pm11 cd11 ct11 : Value}
    (a11 : PySem.W.nsIn K mainGlobals "greedy" = some (some (.ref f11))) (l11 : K.lookup f11 = some ⟨oc11, od11, .func (PySem.W.fnOf "greedy" "greedy" (defArgs (top 1)) (defBody (top 1)) (defScope (top 1)) .none kV11 dc11 pm11 an11 cd11 ct11), sl11⟩) (c11 : PySem.W.codeIn K cd11 "greedy" = true) (k11 : PySem.W.keepIn K (.ref f11) = true)
    (z0 : PySem.W.nsIn K mainGlobals "len" = some none) (z1 : PySem.W.nsIn K mainGlobals "int" = some none) (z2 : PySem.W.nsIn K mainGlobals "bool" = some none) (z3 : PySem.W.nsIn K mainGlobals "abs" = some none) (z4 : PySem.W.nsIn K mainGlobals "sum" = some none) (z5 : PySem.W.nsIn K mainGlobals "sorted" = some none) (z6 : PySem.W.nsIn K mainGlobals "list" = some none) (z7 : PySem.W.nsIn K mainGlobals "tuple" = some none) (z8 : PySem.W.nsIn K mainGlobals "all" = some none) (z9 : PySem.W.nsIn K mainGlobals "any" = some none) (z10 : PySem.W.nsIn K mainGlobals "min" = some none) (z11 : PySem.W.nsIn K mainGlobals "max" = some none) (z12 : PySem.W.nsIn K mainGlobals "isinstance" = some none) (z13 : PySem.W.nsIn K mainGlobals "range" = some none) (z14 : PySem.W.nsIn K mainGlobals "zip" = some none) (z15 : PySem.W.nsIn K mainGlobals "set" = some none) (z16 : PySem.W.nsIn K mainGlobals "str" = some none) (z17 : PySem.W.nsIn K mainGlobals "dict" = some none) (z18 : PySem.W.nsIn K mainGlobals "enumerate" = some none) (z19 : PySem.W.nsIn K mainGlobals "reversed" = some none) (z20 : PySem.W.nsIn K mainGlobals "repr" = some none) (z21 : PySem.W.nsIn K mainGlobals "divmod" = some none) :
    ∃ fd : FuncData, (∀ (s : Shared) (v : Value), BindsTo s fd ⟨[v], []⟩ [("script", v)]) ∧ ∀ base : Heap, K.In base → base.Ns mainGlobals mg → FnOk l.prog w K mg base CX0 40 fa fd ["script"] (spF K d0 (run 1000000 T 40 0)) := by
  have e := hfa.symm.trans (PySem.W.mg_of KX HN a0)
  cases e
  have q0 := df_mk (d := d0) (st := top 13) (T := T) (G := G) KX HN ck0 (fun _ _ _ _ _ _ us hl => match us, hl with | [_], _ => rfl) a0 l0 c0 k0
  have q1 := df_mk (d := d1) (st := top 7) (T := T) (G := G) KX HN ck1 (fun _ _ _ _ _ _ us hl => match us, hl with | [_], _ => rfl) a1 l1 c1 k1
  have q2 := df_mk (d := d2) (st := top 10) (T := T) (G := G) KX HN ck2 (fun _ _ _ _ _ _ us hl => match us, hl with | [_], _ => rfl) a2 l2 c2 k2
  have q3 := df_mk (d := d3) (st := top 9) (T := T) (G := G) KX HN ck3 (fun _ _ _ _ _ _ us hl => match us, hl with | [_, _], _ => rfl) a3 l3 c3 k3
  have q4 := df_mk (d := d4) (st := top 12) (T := T) (G := G) KX HN ck4 (fun _ _ _ _ _ _ us hl => match us, hl with | [_, _], _ => rfl) a4 l4 c4 k4
  have q5 := df_mk (d := d5) (st := top 11) (T := T) (G := G) KX HN ck5 (fun _ _ _ _ _ _ us hl => match us, hl with | [_, _], _ => rfl) a5 l5 c5 k5
  have q6 := df_mk (d := d6) (st := top 4) (T := T) (G := G) KX HN ck6 (fun _ _ _ _ _ _ us hl => match us, hl with | [_, _], _ => rfl) a6 l6 c6 k6
  have q7 := df_mk (d := d7) (st := top 6) (T := T) (G := G) KX HN ck7 (fun _ _ _ _ _ _ us hl => match us, hl with | [_, _], _ => rfl) a7 l7 c7 k7
  have q8 := df_mk (d := d8) (st := top 8) (T := T) (G := G) KX HN ck8 (fun _ _ _ _ _ _ us hl => match us, hl with | [_], _ => rfl) a8 l8 c8 k8
  have q9 := df_mk (d := d9) (st := top 2) (T := T) (G := G) KX HN ck9 (fun _ _ _ _ _ _ us hl => match us, hl with | [_, _], _ => rfl) a9 l9 c9 k9
  have q10 := df_mk (d := d10) (st := top 3) (T := T) (G := G) KX HN ck10 (fun _ _ _ _ _ _ us hl => match us, hl with | [_, _, _], _ => rfl) a10 l10 c10 k10
  have q11 := df_mk (d := d11) (st := top 1) (T := T) (G := G) KX HN ck11 (fun _ _ _ _ _ _ us hl => match us, hl with | [_, _], _ => rfl) a11 l11 c11 k11
  have hb : ∀ x ∈ bltNames, mg x = none := by
    intro x hx
    simp only [bltNames, List.mem_cons, List.not_mem_nil, or_false] at hx
    rcases hx with rfl | rfl | rfl | rfl | rfl | rfl | rfl | rfl | rfl | rfl | rfl | rfl | rfl | rfl | rfl | rfl | rfl | rfl | rfl | rfl | rfl | rfl
    · exact PySem.W.mg_none_of KX HN z0
    · exact PySem.W.mg_none_of KX HN z1
    · exact PySem.W.mg_none_of KX HN z2
    · exact PySem.W.mg_none_of KX HN z3
    · exact PySem.W.mg_none_of KX HN z4
    · exact PySem.W.mg_none_of KX HN z5
    · exact PySem.W.mg_none_of KX HN z6
    · exact PySem.W.mg_none_of KX HN z7
    · exact PySem.W.mg_none_of KX HN z8
    · exact PySem.W.mg_none_of KX HN z9
    · exact PySem.W.mg_none_of KX HN z10
    · exact PySem.W.mg_none_of KX HN z11
    · exact PySem.W.mg_none_of KX HN z12
    · exact PySem.W.mg_none_of KX HN z13
    · exact PySem.W.mg_none_of KX HN z14
    · exact PySem.W.mg_none_of KX HN z15
    · exact PySem.W.mg_none_of KX HN z16
    · exact PySem.W.mg_none_of KX HN z17
    · exact PySem.W.mg_none_of KX HN z18
    · exact PySem.W.mg_none_of KX HN z19
    · exact PySem.W.mg_none_of KX HN z20
    · exact PySem.W.mg_none_of KX HN z21
  have hD : ∀ d ∈ T, ∃ f fd st, Df K mg T G d f fd st := by
    exact List.forall_mem_cons.mpr ⟨⟨_, _, _, q0⟩, List.forall_mem_cons.mpr ⟨⟨_, _, _, q1⟩, List.forall_mem_cons.mpr ⟨⟨_, _, _, q2⟩, List.forall_mem_cons.mpr ⟨⟨_, _, _, q3⟩, List.forall_mem_cons.mpr ⟨⟨_, _, _, q4⟩, List.forall_mem_cons.mpr ⟨⟨_, _, _, q5⟩, List.forall_mem_cons.mpr ⟨⟨_, _, _, q6⟩, List.forall_mem_cons.mpr ⟨⟨_, _, _, q7⟩, List.forall_mem_cons.mpr ⟨⟨_, _, _, q8⟩, List.forall_mem_cons.mpr ⟨⟨_, _, _, q9⟩, List.forall_mem_cons.mpr ⟨⟨_, _, _, q10⟩, List.forall_mem_cons.mpr ⟨⟨_, _, _, q11⟩, fun d hd => by cases hd⟩⟩⟩⟩⟩⟩⟩⟩⟩⟩⟩⟩
  exact ⟨_, fun s v => .of_eq rfl, fun base _ _ => defs_ok hb (fun x d hx => by cases hx) (fun i d h => hD d (List.mem_of_getElem? h)) 40 0 d0 rfl _ _ _ q0⟩
theorem walk {l : PySem.W.OpenLaw} {q : Program} {loose : List Str} {XP : (Str → Option Value) → Heap → Prop} {YP : World → Heap → Prop} {d : DefRec} {K : Params → PySem.W.Frag} (hn : l.most = some 63) (hdf : d.params.defaults = [])
    (hY : ∀ (w : World) (h : Heap), YP w h → (K w.params).In h)
    (F : ∀ (w : World) (mg : Str → Option Value) (fa : Addr) (h : Heap), (K w.params).In h → h.Ns mainGlobals mg → mg d.name = some (.ref fa) →
      ∃ fd : FuncData, (∀ (s : Shared) (u : Value), BindsTo s fd ⟨[u], []⟩ [("script", u)]) ∧ ∀ base : Heap, (K w.params).In base → base.Ns mainGlobals mg → FnOk l.prog w (K w.params) mg base CX0 40 fa fd ["script"] (spF (K w.params) d0 (run 1000000 T 40 0))) :
    PySem.W.WalkO q loose XP YP l.row.toRowW d [] (fun f vs => PySem.call f vs) :=
  law_walk (n := 63) hn (by decide) hdf ⟨rfl, by decide, by decide⟩ hY rfl ⟨_, rfl⟩ rfl F main
end K03
open PySem PySem.W PyProof.Rows
set_option maxRecDepth 100000 in
set_option maxHeartbeats 0 in
theorem PySem.Challenge.cw_everyhaven_k03_whole_best_shares_holds : PySem.Challenge.rw_everyhaven_k03_whole_best_shares.Holds := by
  w_on; o_law; k_head; (case hw => w_witness2)
  k_fill
  refine K03.walk (l := PySem.Challenge.rw_everyhaven_k03_whole_best_shares) rfl rfl (fun w h Y => PySem.W.kIn_of Y) ?F
  case F =>
    intro w mg fa h KX HN hmg
    refine' K03.all_mk KX HN hmg ?a0 ?l0 ?c0 ?k0 ?a1 ?l1 ?c1 ?k1 ?a2 ?l2 ?c2 ?k2 ?a3 ?l3 ?c3 ?k3 ?a4 ?l4 ?c4 ?k4 ?a5 ?l5 ?c5 ?k5 ?a6 ?l6 ?c6 ?k6 ?a7 ?l7 ?c7 ?k7 ?a8 ?l8 ?c8 ?k8 ?a9 ?l9 ?c9 ?k9 ?a10 ?l10 ?c10 ?k10 ?a11 ?l11 ?c11 ?k11 ?z0 ?z1 ?z2 ?z3 ?z4 ?z5 ?z6 ?z7 ?z8 ?z9 ?z10 ?z11 ?z12 ?z13 ?z14 ?z15 ?z16 ?z17 ?z18 ?z19 ?z20 ?z21
    (case a0 => k_is)
    (case l0 => k_is)
    (case c0 => k_is)
    (case k0 => k_is)
    (case a1 => k_is)
    (case l1 => k_is)
    (case c1 => k_is)
    (case k1 => k_is)
    (case a2 => k_is)
    (case l2 => k_is)
    (case c2 => k_is)
    (case k2 => k_is)
    (case a3 => k_is)
    (case l3 => k_is)
    (case c3 => k_is)
    (case k3 => k_is)
    (case a4 => k_is)
    (case l4 => k_is)
    (case c4 => k_is)
    (case k4 => k_is)
    (case a5 => k_is)
    (case l5 => k_is)
    (case c5 => k_is)
    (case k5 => k_is)
    (case a6 => k_is)
    (case l6 => k_is)
    (case c6 => k_is)
    (case k6 => k_is)
    (case a7 => k_is)
    (case l7 => k_is)
    (case c7 => k_is)
    (case k7 => k_is)
    (case a8 => k_is)
    (case l8 => k_is)
    (case c8 => k_is)
    (case k8 => k_is)
    (case a9 => k_is)
    (case l9 => k_is)
    (case c9 => k_is)
    (case k9 => k_is)
    (case a10 => k_is)
    (case l10 => k_is)
    (case c10 => k_is)
    (case k10 => k_is)
    (case a11 => k_is)
    (case l11 => k_is)
    (case c11 => k_is)
    (case k11 => k_is)
    (case z0 => k_is)
    (case z1 => k_is)
    (case z2 => k_is)
    (case z3 => k_is)
    (case z4 => k_is)
    (case z5 => k_is)
    (case z6 => k_is)
    (case z7 => k_is)
    (case z8 => k_is)
    (case z9 => k_is)
    (case z10 => k_is)
    (case z11 => k_is)
    (case z12 => k_is)
    (case z13 => k_is)
    (case z14 => k_is)
    (case z15 => k_is)
    (case z16 => k_is)
    (case z17 => k_is)
    (case z18 => k_is)
    (case z19 => k_is)
    (case z20 => k_is)
    (case z21 => k_is)
