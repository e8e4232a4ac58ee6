import PyProof.Rows.All
import Wide.All
import OpenK.AllK
import Wide.FinOn
import HandS.ForMost
import HandS.IsInst
import HandS.Wide
import HandS.Style
import HandS.Deep
import KE.DataFind
import HandS.DictEq
import PySem.Challenge.RW_farthestcut_k85_whole_stops_and_cuts
set_option Elab.async false
set_option linter.all false
set_option maxRecDepth 100000
set_option maxHeartbeats 4000000
/-! Sy: a symbolic layer over the readings: a frozen view G of the heap, data, slots, known objects. -/
namespace Sy
open PySem PySem.Spec PyProof.Rows L2

abbrev D := PyData
abbrev Fg := PySem.W.Frag

/-! ### data that stands still -/
mutual
inductive Is (K : Fg) (G : Hp) : V → D → Prop
  | non : Is K G .non .none
  | bl (b : Bool) : Is K G (.bl b) (.bool b)
  | int (i : Int) : Is K G (.int i) (.int i)
  | str (x : Str) : Is K G (.str x) (.str x)
  | lst {a : Addr} {xs : List V} {ds : List D} : G a = some (.lst xs) → IsA K G xs ds → Is K G (.ref a) (.list ds)
  | tup {a : Addr} {xs : List V} {ds : List D} : SqT K G a xs → IsA K G xs ds → Is K G (.ref a) (.tuple ds)
  | any (v : V) : Is K G v (.dict [])
  | scr {a : Addr} {ns : List Int} : SqL K G a (ns.map V.int) → Is K G (.ref a) (.dict [(.none, .list (ns.map .int))])
inductive IsA (K : Fg) (G : Hp) : List V → List D → Prop
  | nil : IsA K G [] []
  | cons {v : V} {vs : List V} {d : D} {ds : List D} : Is K G v d → IsA K G vs ds → IsA K G (v :: vs) (d :: ds)
end

theorem same_t {K : Fg} {G G' : Hp} {a : Addr} {xs : List V} (e : Same G G') (h : SqT K G a xs) : SqT K G' a xs := by
  rcases h with (h | ⟨o, h⟩) | h
  · exact .inl (.inl (e _ _ h))
  · exact .inl (.inr ⟨o, e _ _ h⟩)
  · exact .inr h
theorem same_l {K : Fg} {G G' : Hp} {a : Addr} {xs : List V} (e : Same G G') (h : SqL K G a xs) : SqL K G' a xs := by
  rcases h with (h | ⟨o, h⟩) | h
  · exact .inl (.inl (e _ _ h))
  · exact .inl (.inr ⟨o, e _ _ h⟩)
  · exact .inr h
mutual
theorem Is.mono {K : Fg} {G G' : Hp} (e : Same G G') : ∀ {v : V} {d : D}, Is K G v d → Is K G' v d
  | _, _, .non => .non
  | _, _, .bl b => .bl b
  | _, _, .int i => .int i
  | _, _, .str x => .str x
  | _, _, .lst h ha => .lst (e _ _ h) (IsA.mono e ha)
  | _, _, .tup h ha => .tup (same_t e h) (IsA.mono e ha)
  | _, _, .any v => .any v
  | _, _, .scr h => .scr (same_l e h)
theorem IsA.mono {K : Fg} {G G' : Hp} (e : Same G G') : ∀ {vs : List V} {ds : List D}, IsA K G vs ds → IsA K G' vs ds
  | _, _, .nil => .nil
  | _, _, .cons h t => .cons (Is.mono e h) (IsA.mono e t)
end
section
variable {K : Fg} {G : Hp}
theorem IsA.length : ∀ {vs : List V} {ds : List D}, IsA K G vs ds → vs.length = ds.length
  | _, _, .nil => rfl
  | _, _, .cons _ t => by rw [List.length_cons, List.length_cons, IsA.length t]
theorem IsA.get : ∀ {vs : List V} {ds : List D} {i : Nat} {d : D}, IsA K G vs ds → ds[i]? = some d → ∃ v, vs[i]? = some v ∧ Is K G v d
  | _, _, _, _, .nil, e => by simp at e
  | _, _, 0, _, .cons h _, e => by simp at e; subst e; exact ⟨_, rfl, h⟩
  | _, _, i + 1, d, .cons _ t, e => by
    obtain ⟨v, h1, h2⟩ := IsA.get (i := i) (d := d) t (by simpa using e)
    exact ⟨v, by simpa using h1, h2⟩
theorem IsA.append : ∀ {vs ws : List V} {ds es : List D}, IsA K G vs ds → IsA K G ws es → IsA K G (vs ++ ws) (ds ++ es)
  | _, _, _, _, .nil, s => s
  | _, _, _, _, .cons r t, s => .cons r (IsA.append t s)
theorem IsA.one {v : V} {d : D} (h : Is K G v d) : IsA K G [v] [d] := .cons h .nil
theorem IsA.set : ∀ {vs : List V} {ds : List D} {v : V} {d : D} (i : Nat), IsA K G vs ds → Is K G v d → IsA K G (vs.set i v) (ds.set i d)
  | _, _, _, _, _, .nil, _ => .nil
  | _, _, _, _, 0, .cons _ t, h => .cons h t
  | _, _, _, _, i + 1, .cons r t, h => .cons r (IsA.set i t h)
theorem IsA.eraseIdx : ∀ {vs : List V} {ds : List D} (i : Nat), IsA K G vs ds → IsA K G (vs.eraseIdx i) (ds.eraseIdx i)
  | _, _, _, .nil => .nil
  | _, _, 0, .cons _ t => t
  | _, _, i + 1, .cons r t => .cons r (IsA.eraseIdx i t)
theorem IsA.take : ∀ {vs : List V} {ds : List D} (n : Nat), IsA K G vs ds → IsA K G (vs.take n) (ds.take n)
  | _, _, 0, _ => .nil
  | _, _, _ + 1, .nil => .nil
  | _, _, n + 1, .cons r t => .cons r (IsA.take n t)
theorem IsA.drop : ∀ {vs : List V} {ds : List D} (n : Nat), IsA K G vs ds → IsA K G (vs.drop n) (ds.drop n)
  | _, _, 0, r => r
  | _, _, _ + 1, .nil => .nil
  | _, _, n + 1, .cons _ t => IsA.drop n t
theorem IsA.snoc {vs : List V} {ds : List D} {v : V} {d : D} (h : IsA K G vs ds) (x : Is K G v d) : IsA K G (vs ++ [v]) (ds ++ [d]) := h.append (.cons x .nil)
theorem IsA.reverse : ∀ {vs : List V} {ds : List D}, IsA K G vs ds → IsA K G vs.reverse ds.reverse
  | _, _, .nil => .nil
  | _, _, .cons r t => by
    rw [List.reverse_cons, List.reverse_cons]
    exact (IsA.reverse t).snoc r
theorem IsA.rep {v : V} {d : D} (h : Is K G v d) : ∀ n : Nat, IsA K G (List.replicate n v) (List.replicate n d)
  | 0 => .nil
  | n + 1 => .cons h (IsA.rep h n)
/-- ints -/
theorem IsA.ints : ∀ {vs : List V} {ns : List Int}, IsA K G vs (ns.map PyData.int) → vs = ns.map V.int
  | _, [], .nil => rfl
  | _, n :: ns, .cons h t => by
    cases h
    rw [IsA.ints t] <;> rfl
theorem IsA.ofInts (ns : List Int) : IsA K G (ns.map V.int) (ns.map PyData.int) := by
  induction ns with
  | nil => exact .nil
  | cons n r ih => exact .cons (.int n) ih
theorem IsA.strs : ∀ {vs : List V} {ns : List Str}, IsA K G vs (ns.map PyData.str) → vs = ns.map V.str
  | _, [], .nil => rfl
  | _, n :: ns, .cons h t => by
    cases h
    rw [IsA.strs t] <;> rfl
theorem IsA.ofStrs (ns : List Str) : IsA K G (ns.map V.str) (ns.map PyData.str) := by
  induction ns with
  | nil => exact .nil
  | cons n r ih => exact .cons (.str n) ih
end

/-! ### slots, known objects -/
inductive SC where
  | no | dat (d : D) | ref (a : Addr)
def SlP (K : Fg) (G : Hp) (o : Option V) : SC → Prop
  | .no => True
  | .dat d => ∃ v, o = some v ∧ Is K G v d
  | .ref a => o = some (.ref a)
def Sl (K : Fg) (G : Hp) (σ : L2.St) (ds : List SC) : Prop := Paired (SlP K G) σ ds
theorem SlP.mono {K : Fg} {G G' : Hp} (e : Same G G') {o : Option V} {c : SC} (h : SlP K G o c) : SlP K G' o c := by
  cases c with
  | no => exact h
  | dat d =>
    obtain ⟨v, e1, h1⟩ := h
    exact ⟨v, e1, h1.mono e⟩
  | ref a => exact h
theorem Sl.mono {K : Fg} {G G' : Hp} (e : Same G G') {σ : L2.St} {ds : List SC} (h : Sl K G σ ds) : Sl K G' σ ds := Paired.mapP h fun _ _ x => SlP.mono e x
theorem pget {α β : Type} {F : α → β → Prop} : ∀ {xs : List α} {ys : List β} {i : Nat} {b : β}, Paired F xs ys → ys[i]? = some b → ∃ a, xs[i]? = some a ∧ F a b
  | _, _, _, _, .nil, e => by simp at e
  | _, _, 0, _, .cons h _, e => by simp at e; subst e; exact ⟨_, rfl, h⟩
  | _, _, i + 1, b, .cons _ t, e => by
    obtain ⟨v, h1, h2⟩ := pget (i := i) (b := b) t (by simpa using e)
    exact ⟨v, by simpa using h1, h2⟩
theorem pset {α β : Type} {F : α → β → Prop} {a : α} {b : β} (r : F a b) : ∀ {xs : List α} {ys : List β} (i : Nat), Paired F xs ys → Paired F (xs.set i a) (ys.set i b)
  | _, _, _, .nil => .nil
  | _, _, 0, .cons _ t => .cons r t
  | _, _, i + 1, .cons q t => .cons q (pset r i t)

inductive MO where
  | lst (ds : List D) | dct (kvs : List (Str × D)) | ins (C dx : Addr) (fs : List (Str × SC)) | fdc (od : Obj) (kv : List (Key × V)) (kvs : List (Str × D))
def MOk (K : Fg) (G H : Hp) (a : Addr) : MO → Prop
  | .lst ds => ∃ xs, H a = some (.lst xs) ∧ IsA K G xs ds
  | .dct kvs => ∃ kv : List (Key × V), H a = some (.dK kv) ∧ Paired (fun (p : Key × V) (q : Str × D) => p.1 = .inr q.1 ∧ Is K G p.2 q.2) kv kvs
  | .ins C dx fs => ∃ fv : List (Str × V), H a = some (.ins C dx fv) ∧ Paired (fun (p : Str × V) (q : Str × SC) => p.1 = q.1 ∧ SlP K G (some p.2) q.2) fv fs
  | .fdc od kv kvs => H a = some (.frz od (.dK kv)) ∧ Paired (fun (p : Key × V) (q : Str × D) => p.1 = .inr q.1 ∧ Is K G p.2 q.2) kv kvs
theorem MOk.has {K : Fg} {G H : Hp} {a : Addr} {m : MO} (h : MOk K G H a m) : ∃ o, H a = some o := by
  cases m with
  | lst ds => obtain ⟨xs, e, _⟩ := h; exact ⟨_, e⟩
  | dct ds => obtain ⟨xs, e, _⟩ := h; exact ⟨_, e⟩
  | ins C dx fs => obtain ⟨xs, e, _⟩ := h; exact ⟨_, e⟩
  | fdc od kv kvs => obtain ⟨e, _⟩ := h; exact ⟨_, e⟩
theorem MOk.mono {K : Fg} {G H G' H' : Hp} {a : Addr} {m : MO} (h : MOk K G H a m) (e : Same G G') (eh : ∀ o, H a = some o → H' a = some o) : MOk K G' H' a m := by
  cases m with
  | lst ds => obtain ⟨xs, e1, h1⟩ := h; exact ⟨xs, eh _ e1, h1.mono e⟩
  | dct ds => obtain ⟨xs, e1, h1⟩ := h; exact ⟨xs, eh _ e1, Paired.mapP h1 fun p q z => ⟨z.1, z.2.mono e⟩⟩
  | ins C dx fs => obtain ⟨xs, e1, h1⟩ := h; exact ⟨xs, eh _ e1, Paired.mapP h1 fun p q z => ⟨z.1, z.2.mono e⟩⟩
  | fdc od kv kvs => obtain ⟨e1, h1⟩ := h; exact ⟨eh _ e1, Paired.mapP h1 fun p q z => ⟨z.1, z.2.mono e⟩⟩

/-! ### a step: what is frozen stays, what is new is new -/
structure Stp (mu : Addr → Prop) (G H G' H' : Hp) : Prop where
  gg : Same G G'
  gh : Same G' H'
  hh : ∀ a o, ¬ mu a → H a = some o → H' a = some o
  nw : ∀ a, G a = none → H a ≠ none → G' a = none
  st : ∀ a, H a ≠ none → H' a ≠ none
theorem Stp.refl {mu : Addr → Prop} {G H : Hp} (e : Same G H) : Stp mu G H G H := ⟨Same.refl G, e, fun _ _ _ h => h, fun _ h _ => h, fun _ h => h⟩
theorem Stp.trans {mu : Addr → Prop} {G H G1 H1 G2 H2 : Hp} (a : Stp mu G H G1 H1) (b : Stp mu G1 H1 G2 H2) : Stp mu G H G2 H2 :=
  ⟨a.gg.trans b.gg, b.gh, fun c o n h => b.hh c o n (a.hh c o n h), fun c h n => b.nw c (a.nw c h n) (a.st c n), fun c h => b.st c (a.st c h)⟩
theorem Stp.mono {mu nu : Addr → Prop} {G H G1 H1 : Hp} (a : Stp mu G H G1 H1) (h : ∀ c, mu c → nu c) : Stp nu G H G1 H1 :=
  ⟨a.gg, a.gh, fun c o n => a.hh c o fun m => n (h c m), a.nw, a.st⟩
abbrev mu0 : Addr → Prop := fun _ => False
def isS (s : Option Addr) : Addr → Prop := fun a => s = some a
theorem Stp.of0 {mu : Addr → Prop} {G H G1 H1 : Hp} (a : Stp mu0 G H G1 H1) : Stp mu G H G1 H1 := a.mono fun _ h => h.elim
/-- the union of two views of one heap -/
def un (G1 G2 : Hp) : Hp := fun a => match G1 a with
  | some o => some o
  | none => G2 a
theorem un_l (G1 G2 : Hp) : Same G1 (un G1 G2) := fun a o h => by unfold un; rw [h]
theorem un_r {G1 G2 H : Hp} (a : Same G1 H) (b : Same G2 H) : Same G2 (un G1 G2) := fun c o h => by
  unfold un
  cases e : G1 c with
  | none => exact h
  | some u =>
    have h1 := a c u e
    have h2 := b c o h
    rw [h1] at h2
    exact h2
theorem un_to {G1 G2 H : Hp} (a : Same G1 H) (b : Same G2 H) : Same (un G1 G2) H := fun c o h => by
  unfold un at h
  cases e : G1 c with
  | none =>
    rw [e] at h
    exact b c o h
  | some u =>
    rw [e] at h
    exact a c o (e.trans h)
/-- a step made with a smaller view, told for a greater one -/
theorem Stp.wide {mu : Addr → Prop} {G0 G H G0' H' : Hp} (a : Stp mu G0 H G0' H') (e : Same G0 G) (eh : Same G H) (hk : ∀ c o, mu c → G c = some o → H' c = some o) : Stp mu G H (un G G0') H' ∧ Same G0' (un G G0') := by
  have gH : Same G H' := fun c o h => by
    by_cases m : mu c
    · exact hk c o m h
    · exact a.hh c o m (eh c o h)
  refine ⟨⟨un_l _ _, un_to gH a.gh, a.hh, fun c h n => ?_, a.st⟩, un_r gH a.gh⟩
  unfold un
  rw [h]
  refine a.nw c ?_ n
  cases q : G0 c with
  | none => rfl
  | some o => rw [e c o q] at h; cases h

/-- the drawing state: [a whole number, another one, a truth] -/
def StAt (H : Hp) (a : Addr) : Prop := ∃ (n m : Int) (b : Bool), H a = some (.lst [.int n, .int m, .bl b]) ∧ 0 ≤ n ∧ 0 ≤ m ∧ m < 2147483647
def StOk (s : Option Addr) (H : Hp) : Prop := ∀ a, s = some a → StAt H a

structure Kn (K : Fg) (s : Option Addr) (ds : List SC) (ms : List (Addr × MO)) (σ : L2.St) (G H : Hp) : Prop where
  gh : Same G H
  sl : Sl K G σ ds
  mo : ∀ p ∈ ms, MOk K G H p.1 p.2 ∧ G p.1 = none ∧ ¬ isS s p.1
  nd : (ms.map (·.1)).Nodup
  vo : StOk s H
  vg : ∀ a, s = some a → G a = none
theorem Kn.step {K : Fg} {s : Option Addr} {ds : List SC} {ms : List (Addr × MO)} {σ : L2.St} {G H G' H' : Hp} (k : Kn K s ds ms σ G H) (a : Stp (isS s) G H G' H') (vo : StOk s H') : Kn K s ds ms σ G' H' := by
  refine ⟨a.gh, k.sl.mono a.gg, fun p hp => ?_, k.nd, vo, fun c e => ?_⟩
  · obtain ⟨h1, h2, h3⟩ := k.mo p hp
    refine ⟨MOk.mono h1 a.gg fun o e => a.hh _ o h3 e, ?_, h3⟩
    obtain ⟨o, e⟩ := (MOk.has h1)
    exact a.nw _ h2 (by rw [e]; exact fun z => nomatch z)
  · obtain ⟨n, m, b, e1, _⟩ := k.vo c e
    exact a.nw c (k.vg c e) (by rw [e1]; exact fun z => nomatch z)
theorem Kn.slot {K : Fg} {s : Option Addr} {ds : List SC} {ms : List (Addr × MO)} {σ : L2.St} {G H : Hp} (k : Kn K s ds ms σ G H) {i : Nat} {c : SC} {v : V} (h : SlP K G (some v) c) : Kn K s (ds.set i c) ms (σ.set i (some v)) G H :=
  ⟨k.gh, pset h i k.sl, k.mo, k.nd, k.vo, k.vg⟩
theorem Kn.get {K : Fg} {s : Option Addr} {ds : List SC} {ms : List (Addr × MO)} {σ : L2.St} {G H : Hp} (k : Kn K s ds ms σ G H) {a : Addr} {m : MO} (h : (a, m) ∈ ms) : MOk K G H a m := (k.mo (a, m) h).1

/-! ### what evaluates to what -/
def CP (K : Fg) (G : Hp) (v : V) (c : SC) : Prop := SlP K G (some v) c
def EvC (K : Fg) (s : Option Addr) (te : TE) (ds : List SC) (ms : List (Addr × MO)) (c : SC) : Prop :=
  ∀ σ G H, Kn K s ds ms σ G H → ∀ Q : VK, (∀ v G' H', Stp (isS s) G H G' H' → StOk s H' → CP K G' v c → Q v H') → te σ H Q
abbrev EvD (K : Fg) (s : Option Addr) (te : TE) (ds : List SC) (ms : List (Addr × MO)) (d : D) : Prop := EvC K s te ds ms (.dat d)
/-- told by a property alone -/
def EvR (K : Fg) (s : Option Addr) (te : TE) (ds : List SC) (ms : List (Addr × MO)) (Φ : D → Prop) : Prop :=
  ∀ σ G H, Kn K s ds ms σ G H → ∀ Q : VK, (∀ v G' H' d, Stp (isS s) G H G' H' → StOk s H' → Is K G' v d → Φ d → Q v H') → te σ H Q
def EvT (K : Fg) (s : Option Addr) (tt : TT) (ds : List SC) (ms : List (Addr × MO)) (b : Bool) : Prop :=
  ∀ σ G H, Kn K s ds ms σ G H → ∀ Q : Bool → Hp → Prop, (∀ G' H', Stp (isS s) G H G' H' → StOk s H' → Q b H') → tt σ H Q
def EvTR (K : Fg) (s : Option Addr) (tt : TT) (ds : List SC) (ms : List (Addr × MO)) (Φ : Bool → Prop) : Prop :=
  ∀ σ G H, Kn K s ds ms σ G H → ∀ Q : Bool → Hp → Prop, (∀ b G' H', Stp (isS s) G H G' H' → StOk s H' → Φ b → Q b H') → tt σ H Q
def ArgP (K : Fg) (G : Hp) : List V → List SC → Prop := Paired (CP K G)
def EvA (K : Fg) (s : Option Addr) (ta : TA) (ds : List SC) (ms : List (Addr × MO)) (cs : List SC) : Prop :=
  ∀ σ G H, Kn K s ds ms σ G H → ∀ Q : List V → Hp → Prop, (∀ vs G' H', Stp (isS s) G H G' H' → StOk s H' → ArgP K G' vs cs → Q vs H') → ta σ H Q
def EvAR (K : Fg) (s : Option Addr) (ta : TA) (ds : List SC) (ms : List (Addr × MO)) (Φ : List SC → Prop) : Prop :=
  ∀ σ G H, Kn K s ds ms σ G H → ∀ Q : List V → Hp → Prop, (∀ vs G' H' cs, Stp (isS s) G H G' H' → StOk s H' → ArgP K G' vs cs → Φ cs → Q vs H') → ta σ H Q
theorem CP.mono {K : Fg} {G G' : Hp} {v : V} {c : SC} (h : CP K G v c) (e : Same G G') : CP K G' v c := SlP.mono e h
theorem CP.dat {K : Fg} {G : Hp} {v : V} {d : D} (h : Is K G v d) : CP K G v (.dat d) := ⟨v, rfl, h⟩
theorem CP.is {K : Fg} {G : Hp} {v : V} {d : D} (h : CP K G v (.dat d)) : Is K G v d := by
  obtain ⟨u, e, h⟩ := h
  cases e
  exact h
theorem CP.ref {K : Fg} {G : Hp} {v : V} {a : Addr} (h : CP K G v (.ref a)) : v = .ref a := Option.some.inj h
theorem ArgP.mono {K : Fg} {G G' : Hp} {vs : List V} {cs : List SC} (h : ArgP K G vs cs) (e : Same G G') : ArgP K G' vs cs := Paired.mapP h fun _ _ x => CP.mono x e
theorem ArgP.dats {K : Fg} {G : Hp} {vs : List V} {dl : List D} (h : ArgP K G vs (dl.map .dat)) : IsA K G vs dl := by
  induction dl generalizing vs with
  | nil => cases h; exact .nil
  | cons d r ih =>
    cases h with
    | cons h t => exact .cons (CP.is h) (ih t)
theorem IsA.args {K : Fg} {G : Hp} {vs : List V} {dl : List D} (h : IsA K G vs dl) : ArgP K G vs (dl.map .dat) := by
  induction dl generalizing vs with
  | nil => cases h; exact .nil
  | cons d r ih =>
    cases h with
    | cons h t => exact .cons (CP.dat h) (ih t)

section
variable {K : Fg} {s : Option Addr} {ds : List SC} {ms : List (Addr × MO)} {te ta tb : TE} {tt uu : TT} {c : SC} {d : D}
theorem ev_var {i : Nat} (h : ds[i]? = some c) (hc : c ≠ .no := by exact fun z => nomatch z) : EvC K s (tVar i) ds ms c := fun σ G H k Q q => by
  obtain ⟨o, e, h1⟩ := pget k.sl h
  cases c with
  | no => exact absurd rfl hc
  | dat d =>
    obtain ⟨v, rfl, hv⟩ := h1
    exact ⟨v, e, q v G H (.refl k.gh) k.vo (.dat hv)⟩
  | ref a =>
    have e1 : o = some (.ref a) := h1
    subst e1
    exact ⟨.ref a, e, q _ G H (.refl k.gh) k.vo rfl⟩
/-- a constant -/
theorem ev_k {v : V} (h : Is K (fun _ => none) v d) : EvD K s (tC v) ds ms d := fun σ G H k Q q =>
  q v G H (.refl k.gh) k.vo (.dat (h.mono fun _ _ z => by cases z))
theorem ev_int {i : Int} : EvD K s (tC (.int i)) ds ms (.int i) := ev_k (.int i)
theorem ev_str {i : Str} : EvD K s (tC (.str i)) ds ms (.str i) := ev_k (.str i)
theorem ev_bl {i : Bool} : EvD K s (tC (.bl i)) ds ms (.bool i) := ev_k (.bl i)
theorem ev_non : EvD K s (tC .non) ds ms .none := ev_k .non
/-- a written tuple (a constant of the module) -/
theorem ev_wr {a : Addr} {xs : List V} {dl : List D} (h : SqT K (fun _ => none) a xs) (ha : IsA K (fun _ => none) xs dl) : EvD K s (tC (.ref a)) ds ms (.tuple dl) := ev_k (.tup h ha)
theorem EvC.r (h : EvD K s te ds ms d) : EvR K s te ds ms (fun e => e = d) := fun σ G H k Q q => h σ G H k Q fun v G' H' a b e => q v G' H' d a b e.is rfl
theorem EvR.imp {Φ Ψ : D → Prop} (h : EvR K s te ds ms Φ) (f : ∀ d, Φ d → Ψ d) : EvR K s te ds ms Ψ := fun σ G H k Q q => h σ G H k Q fun v G' H' d a b e x => q v G' H' d a b e (f d x)
theorem EvT.r {b : Bool} (h : EvT K s tt ds ms b) : EvTR K s tt ds ms (fun e => e = b) := fun σ G H k Q q => h σ G H k Q fun G' H' a b' => q b G' H' a b' rfl
theorem EvC.to {c' : SC} (h : EvC K s te ds ms c) (e : c = c') : EvC K s te ds ms c' := e ▸ h
theorem EvT.to {b b' : Bool} (h : EvT K s tt ds ms b) (e : b = b') : EvT K s tt ds ms b' := e ▸ h

/-! ### operators by data -/
def OpD (K : Fg) (r : R2) (x y z : D) : Prop := ∀ G H vx vy, Same G H → Is K G vx x → Is K G vy y → ∀ Q : VK, (∀ v G' H', Stp mu0 G H G' H' → Is K G' v z → Q v H') → r vx vy H Q
theorem Kn.stO {σ : L2.St} {G H G' H' : Hp} (k : Kn K s ds ms σ G H) (a : Stp mu0 G H G' H') : StOk s H' := fun b e => by
  obtain ⟨n, m, t, h, r⟩ := k.vo b e
  exact ⟨n, m, t, a.hh b _ (fun z => z) h, r⟩
theorem ev_op {r : R2} {x y z : D} (ha : EvD K s ta ds ms x) (hb : EvD K s tb ds ms y) (hr : OpD K r x y z) : EvD K s (tOp r ta tb) ds ms z := fun σ G H k Q q =>
  ha σ G H k _ fun vx G1 H1 a1 o1 x1 => hb σ G1 H1 (k.step a1 o1) _ fun vy G2 H2 a2 o2 x2 =>
    hr G2 H2 vx vy a2.gh (x1.is.mono a2.gg) x2.is Q fun v G3 H3 a3 x3 => q v G3 H3 ((a1.trans a2).trans a3.of0) (((k.step a1 o1).step a2 o2).stO a3) (.dat x3)
/-- .. told by properties -/
theorem ev_opR {r : R2} {Φ Ψ Θ : D → Prop} (ha : EvR K s ta ds ms Φ) (hb : EvR K s tb ds ms Ψ) (hr : ∀ x y, Φ x → Ψ y → ∃ z, Θ z ∧ OpD K r x y z) : EvR K s (tOp r ta tb) ds ms Θ := fun σ G H k Q q =>
  ha σ G H k _ fun vx G1 H1 x a1 o1 x1 p1 => hb σ G1 H1 (k.step a1 o1) _ fun vy G2 H2 y a2 o2 x2 p2 => by
    obtain ⟨z, pz, hz⟩ := hr x y p1 p2
    exact hz G2 H2 vx vy a2.gh (x1.mono a2.gg) x2 Q fun v G3 H3 a3 x3 => q v G3 H3 z ((a1.trans a2).trans a3.of0) (((k.step a1 o1).step a2 o2).stO a3) x3 pz
theorem od_I0 {g : Int → Int → V} {i j : Int} {z : D} (h : ∀ G, Is K G (g i j) z) : OpD K (rI0 g) (.int i) (.int j) z := fun G H vx vy e hx hy Q q => by
  cases hx
  cases hy
  exact ⟨i, j, rfl, rfl, q _ G H (.refl e) (h G)⟩
theorem od_I {C : Int → Int → Prop} {g : Int → Int → V} {i j : Int} {z : D} (hc : C i j) (h : ∀ G, Is K G (g i j) z) : OpD K (rI C g) (.int i) (.int j) z := fun G H vx vy e hx hy Q q => by
  cases hx
  cases hy
  exact ⟨i, j, rfl, rfl, hc, q _ G H (.refl e) (h G)⟩
end
end Sy
/-! Sy: expressions. -/
namespace Sy
open PySem PySem.Spec PyProof.Rows L2

theorem Stp.new {mu : Addr → Prop} {G H : Hp} {p : Addr} {o : HO} (e : Same G H) (hp : H p = none) : Stp mu G H (upd G p o) (upd H p o) := by
  have gp : G p = none := Same.free e hp
  refine ⟨fun a u h => ?_, fun a u h => ?_, fun a u _ h => ?_, fun a h n => ?_, fun a n => ?_⟩
  · rw [upd_ne (ne_of_none h gp)]
    exact h
  · by_cases ha : a = p
    · subst ha
      rw [upd_same] at h
      rw [upd_same]
      exact h
    · rw [upd_ne ha] at h
      rw [upd_ne ha]
      exact e a u h
  · rw [upd_ne (ne_of_none h hp)]
    exact h
  · have ha : a ≠ p := fun z => by subst z; exact n hp
    rw [upd_ne ha]
    exact h
  · have ha : a ≠ p := fun z => by subst z; exact n hp
    rw [upd_ne ha]
    exact n
theorem is_newL {K : Fg} {G : Hp} {p : Addr} {xs : List V} {dl : List D} (gp : G p = none) (h : IsA K G xs dl) : Is K (upd G p (.lst xs)) (.ref p) (.list dl) :=
  .lst upd_same (h.mono fun a u e => by rw [upd_ne (ne_of_none e gp)]; exact e)
theorem is_newT {K : Fg} {G : Hp} {p : Addr} {xs : List V} {dl : List D} (gp : G p = none) (h : IsA K G xs dl) : Is K (upd G p (.tup xs)) (.ref p) (.tuple dl) :=
  .tup (SqT.of upd_same) (h.mono fun a u e => by rw [upd_ne (ne_of_none e gp)]; exact e)

section
variable {K : Fg} {s : Option Addr} {ds : List SC} {ms : List (Addr × MO)} {te ta tb tl tx : TE} {tt uu : TT} {tr : TA} {c : SC} {d : D}

/-! ### ints -/
def rAddI : R2 := rI0 fun i j => .int (i + j)
def rSubI : R2 := rI0 fun i j => .int (i - j)
def rMulW : R2 := rI CMulW fun i j => .int (i * j)
def rMulI : R2 := rI CMul fun i j => .int (i * j)
def rDivW : R2 := rI CDivW fun i j => .int (i / j)
def rModI : R2 := rI (fun _ j => 0 < j) fun i j => .int (i % j)
def rLtI : R2 := rI0 fun i j => .bl (decide (i < j))
def rLeI : R2 := rI0 fun i j => .bl (decide (i ≤ j))
def rGtI : R2 := rI0 fun i j => .bl (decide (j < i))
def rGeI : R2 := rI0 fun i j => .bl (decide (j ≤ i))

theorem ev_add {i j : Int} (ha : EvD K s ta ds ms (.int i)) (hb : EvD K s tb ds ms (.int j)) : EvD K s (tOp rAddI ta tb) ds ms (.int (i + j)) := ev_op ha hb (od_I0 fun _ => .int _)
theorem ev_sub {i j : Int} (ha : EvD K s ta ds ms (.int i)) (hb : EvD K s tb ds ms (.int j)) : EvD K s (tOp rSubI ta tb) ds ms (.int (i - j)) := ev_op ha hb (od_I0 fun _ => .int _)
theorem ev_mulW {i j : Int} (ha : EvD K s ta ds ms (.int i)) (hb : EvD K s tb ds ms (.int j)) (hc : CMulW i j) : EvD K s (tOp rMulW ta tb) ds ms (.int (i * j)) := ev_op ha hb (od_I hc fun _ => .int _)
theorem ev_mul {i j : Int} (ha : EvD K s ta ds ms (.int i)) (hb : EvD K s tb ds ms (.int j)) (hc : CMul i j) : EvD K s (tOp rMulI ta tb) ds ms (.int (i * j)) := ev_op ha hb (od_I hc fun _ => .int _)
theorem ev_fdivW {i j : Int} (ha : EvD K s ta ds ms (.int i)) (hb : EvD K s tb ds ms (.int j)) (hc : CDivW i j) : EvD K s (tOp rDivW ta tb) ds ms (.int (i / j)) := ev_op ha hb (od_I hc fun _ => .int _)
theorem ev_mod {i j : Int} (ha : EvD K s ta ds ms (.int i)) (hb : EvD K s tb ds ms (.int j)) (hc : 0 < j) : EvD K s (tOp rModI ta tb) ds ms (.int (i % j)) := ev_op ha hb (od_I hc fun _ => .int _)
theorem ev_lt {i j : Int} (ha : EvD K s ta ds ms (.int i)) (hb : EvD K s tb ds ms (.int j)) : EvD K s (tOp rLtI ta tb) ds ms (.bool (decide (i < j))) := ev_op ha hb (od_I0 fun _ => .bl _)
theorem ev_le {i j : Int} (ha : EvD K s ta ds ms (.int i)) (hb : EvD K s tb ds ms (.int j)) : EvD K s (tOp rLeI ta tb) ds ms (.bool (decide (i ≤ j))) := ev_op ha hb (od_I0 fun _ => .bl _)
theorem ev_gt {i j : Int} (ha : EvD K s ta ds ms (.int i)) (hb : EvD K s tb ds ms (.int j)) : EvD K s (tOp rGtI ta tb) ds ms (.bool (decide (j < i))) := ev_op ha hb (od_I0 fun _ => .bl _)
theorem ev_ge {i j : Int} (ha : EvD K s ta ds ms (.int i)) (hb : EvD K s tb ds ms (.int j)) : EvD K s (tOp rGeI ta tb) ds ms (.bool (decide (j ≤ i))) := ev_op ha hb (od_I0 fun _ => .bl _)
/-! ### == and != of scalars -/
theorem od_eqI {i j : Int} : OpD K rEq (.int i) (.int j) (.bool (decide (i = j))) := fun G H vx vy e hx hy Q q => by
  cases hx; cases hy
  refine ⟨rfl, q _ G H (.refl e) ?_⟩
  rw [dec_int, Bool.beq_eq_decide_eq]
  exact .bl _
theorem od_neI {i j : Int} : OpD K rNe (.int i) (.int j) (.bool (decide (i ≠ j))) := fun G H vx vy e hx hy Q q => by
  cases hx; cases hy
  refine ⟨rfl, q _ G H (.refl e) ?_⟩
  rw [dec_int, Bool.beq_eq_decide_eq, decide_not]
  exact .bl _
theorem od_eqS {i j : Str} : OpD K rEq (.str i) (.str j) (.bool (decide (i = j))) := fun G H vx vy e hx hy Q q => by
  cases hx; cases hy
  refine ⟨rfl, q _ G H (.refl e) ?_⟩
  have e2 : decide (V.str i = V.str j) = decide (i = j) := decide_eq_decide.mpr ⟨fun z => V.str.inj z, fun z => by rw [z]⟩
  rw [e2]
  exact .bl _
theorem od_neS {i j : Str} : OpD K rNe (.str i) (.str j) (.bool (decide (i ≠ j))) := fun G H vx vy e hx hy Q q => by
  cases hx; cases hy
  refine ⟨rfl, q _ G H (.refl e) ?_⟩
  have e2 : decide (V.str i = V.str j) = decide (i = j) := decide_eq_decide.mpr ⟨fun z => V.str.inj z, fun z => by rw [z]⟩
  rw [e2, decide_not]
  exact .bl _
theorem od_neB {i j : Bool} : OpD K rNe (.bool i) (.bool j) (.bool (decide (i ≠ j))) := fun G H vx vy e hx hy Q q => by
  cases hx; cases hy
  refine ⟨rfl, q _ G H (.refl e) ?_⟩
  have e2 : decide (V.bl i = V.bl j) = decide (i = j) := decide_eq_decide.mpr ⟨fun z => V.bl.inj z, fun z => by rw [z]⟩
  rw [e2, decide_not]
  exact .bl _
theorem ev_eqI {i j : Int} (ha : EvD K s ta ds ms (.int i)) (hb : EvD K s tb ds ms (.int j)) : EvD K s (tOp rEq ta tb) ds ms (.bool (decide (i = j))) := ev_op ha hb od_eqI
theorem ev_neI {i j : Int} (ha : EvD K s ta ds ms (.int i)) (hb : EvD K s tb ds ms (.int j)) : EvD K s (tOp rNe ta tb) ds ms (.bool (decide (i ≠ j))) := ev_op ha hb od_neI
theorem ev_eqS {i j : Str} (ha : EvD K s ta ds ms (.str i)) (hb : EvD K s tb ds ms (.str j)) : EvD K s (tOp rEq ta tb) ds ms (.bool (decide (i = j))) := ev_op ha hb od_eqS
theorem ev_neS {i j : Str} (ha : EvD K s ta ds ms (.str i)) (hb : EvD K s tb ds ms (.str j)) : EvD K s (tOp rNe ta tb) ds ms (.bool (decide (i ≠ j))) := ev_op ha hb od_neS
theorem ev_neB {i j : Bool} (ha : EvD K s ta ds ms (.bool i)) (hb : EvD K s tb ds ms (.bool j)) : EvD K s (tOp rNe ta tb) ds ms (.bool (decide (i ≠ j))) := ev_op ha hb od_neB
/-! ### == and != of lists and tuples -/
mutual
def pln : D → Bool
  | .list ds => plnA ds
  | .tuple ds => plnA ds
  | .dict _ => false
  | _ => true
def plnA : List D → Bool
  | [] => true
  | d :: ds => pln d && plnA ds
end
mutual
theorem Is.dp {G : Hp} : ∀ {v : V} {d : D}, Is K G v d → pln d = true → Dp K G v d
  | _, _, .non, _ => .non
  | _, _, .bl b, _ => .bl b
  | _, _, .int b, _ => .int b
  | _, _, .str b, _ => .str b
  | _, _, .lst h ha, e => .lst (SqL.of h) (IsA.dp ha (by simpa [pln] using e))
  | _, _, .tup h ha, e => .tup h (IsA.dp ha (by simpa [pln] using e))
  | _, _, .any v, e => by simp [pln] at e
  | _, _, .scr h, e => by simp [pln] at e
theorem IsA.dp {G : Hp} : ∀ {vs : List V} {dl : List D}, IsA K G vs dl → plnA dl = true → DpAll K G vs dl
  | _, _, .nil, _ => .nil
  | _, _, .cons h t, e => by
    simp only [plnA, Bool.and_eq_true] at e
    exact .cons (Is.dp h e.1) (IsA.dp t e.2)
end
theorem od_eqD {x y : D} (px : pln x = true) (py : pln y = true) (sx : SeqAt.shaped x = true) (sy : SeqAt.shaped y = true) : OpD K (rEqD K) x y (.bool (PyData.eqv x y)) := fun G H vx vy e hx hy Q q =>
  ⟨x, y, (hx.mono e).dp px, (hy.mono e).dp py, sx, sy, q _ G H (.refl e) (.bl _)⟩
theorem od_neD {x y : D} (px : pln x = true) (py : pln y = true) (sx : SeqAt.shaped x = true) (sy : SeqAt.shaped y = true) : OpD K (rNeD K) x y (.bool (!PyData.eqv x y)) := fun G H vx vy e hx hy Q q =>
  ⟨x, y, (hx.mono e).dp px, (hy.mono e).dp py, sx, sy, q _ G H (.refl e) (.bl _)⟩
/-! ### is None -/
def rIsN : R2 := fun x y H Q => y = .non ∧ Q (.bl (decide (x = .non))) H
def rNotN : R2 := fun x y H Q => y = .non ∧ Q (.bl (!decide (x = .non))) H
def isN : D → Bool
  | .none => true
  | _ => false
def noAny : D → Bool
  | .dict _ => false
  | _ => true
theorem Is.isN {G : Hp} {v : V} {x : D} (h : Is K G v x) (hx : noAny x = true) : decide (v = .non) = Sy.isN x := by
  cases h with
  | any v => cases hx
  | scr h => cases hx
  | non => rfl
  | bl b => rfl
  | int b => rfl
  | str b => rfl
  | lst h ha => rfl
  | tup h ha => rfl
theorem ev_isN {x : D} (ha : EvD K s ta ds ms x) (hx : noAny x = true := by rfl) : EvD K s (tOp rIsN ta (tC .non)) ds ms (.bool (isN x)) := ev_op ha ev_non fun G H vx vy e hx' hy Q q => by
  cases hy
  refine ⟨rfl, q _ G H (.refl e) ?_⟩
  rw [hx'.isN hx]
  exact .bl _
theorem ev_notN {x : D} (ha : EvD K s ta ds ms x) (hx : noAny x = true := by rfl) : EvD K s (tOp rNotN ta (tC .non)) ds ms (.bool (!isN x)) := ev_op ha ev_non fun G H vx vy e hx' hy Q q => by
  cases hy
  refine ⟨rfl, q _ G H (.refl e) ?_⟩
  rw [hx'.isN hx]
  exact .bl _
/-! ### items -/
theorem IsA.at {G : Hp} {vs : List V} {dl : List D} {i : Int} (h : IsA K G vs dl) (e : atI dl i = some d) : ∃ v, atI vs i = some v ∧ Is K G v d := by
  unfold atI at e ⊢
  rw [h.length]
  cases q : ixN dl.length i with
  | none => rw [q] at e; cases e
  | some j =>
    rw [q] at e
    exact h.get e
theorem od_ixT {xs : List D} {i : Int} (h : atI xs i = some d) : OpD K (rIxT K) (.tuple xs) (.int i) d := fun G H vx vy e hx hy Q q => by
  cases hy
  cases hx with
  | tup ht ha =>
    obtain ⟨v, e1, h1⟩ := ha.at h
    exact ⟨_, _, i, v, rfl, rfl, same_t e ht, e1, q v G H (.refl e) h1⟩
theorem od_ixL {xs : List D} {i : Int} (h : atI xs i = some d) : OpD K (rIxL K) (.list xs) (.int i) d := fun G H vx vy e hx hy Q q => by
  cases hy
  cases hx with
  | lst ht ha =>
    obtain ⟨v, e1, h1⟩ := ha.at h
    exact ⟨_, _, i, v, rfl, rfl, SqL.of (e _ _ ht), e1, q v G H (.refl e) h1⟩
theorem ev_ixT {xs : List D} {i : Int} (ha : EvD K s ta ds ms (.tuple xs)) (hb : EvD K s tb ds ms (.int i)) (h : atI xs i = some d) : EvD K s (tOp (rIxT K) ta tb) ds ms d := ev_op ha hb (od_ixT h)
theorem ev_ixL {xs : List D} {i : Int} (ha : EvD K s ta ds ms (.list xs)) (hb : EvD K s tb ds ms (.int i)) (h : atI xs i = some d) : EvD K s (tOp (rIxL K) ta tb) ds ms d := ev_op ha hb (od_ixL h)
theorem ev_ixT0 {xs : List D} (ha : EvD K s ta ds ms (.tuple xs)) (h : xs[0]? = some d) : EvD K s (tOp (rIxT K) ta (tC (.int 0))) ds ms d := ev_ixT ha ev_int (atI_nat (j := 0) h)
theorem ev_ixT1 {xs : List D} (ha : EvD K s ta ds ms (.tuple xs)) (h : xs[1]? = some d) : EvD K s (tOp (rIxT K) ta (tC (.int 1))) ds ms d := ev_ixT ha ev_int (atI_nat (j := 1) h)
theorem ev_ixT2 {xs : List D} (ha : EvD K s ta ds ms (.tuple xs)) (h : xs[2]? = some d) : EvD K s (tOp (rIxT K) ta (tC (.int 2))) ds ms d := ev_ixT ha ev_int (atI_nat (j := 2) h)
theorem ev_ixT3 {xs : List D} (ha : EvD K s ta ds ms (.tuple xs)) (h : xs[3]? = some d) : EvD K s (tOp (rIxT K) ta (tC (.int 3))) ds ms d := ev_ixT ha ev_int (atI_nat (j := 3) h)
theorem ev_ixT4 {xs : List D} (ha : EvD K s ta ds ms (.tuple xs)) (h : xs[4]? = some d) : EvD K s (tOp (rIxT K) ta (tC (.int 4))) ds ms d := ev_ixT ha ev_int (atI_nat (j := 4) h)
theorem ev_ixL0 {xs : List D} (ha : EvD K s ta ds ms (.list xs)) (h : xs[0]? = some d) : EvD K s (tOp (rIxL K) ta (tC (.int 0))) ds ms d := ev_ixL ha ev_int (atI_nat (j := 0) h)
theorem ev_ixLn {xs : List D} {j : Nat} (ha : EvD K s ta ds ms (.list xs)) (hb : EvD K s tb ds ms (.int (j : Nat))) (h : xs[j]? = some d) : EvD K s (tOp (rIxL K) ta tb) ds ms d := ev_ixL ha hb (atI_nat h)
theorem od_ixS {z : Str} {i : Int} {ch : Nat} (hz : z.length ≤ sizeLine) (h : atI z.cps.toList i = some ch) : OpD K rIxS (.str z) (.int i) (.str ⟨#[ch]⟩) := fun G H vx vy e hx hy Q q => by
  cases hy
  cases hx
  exact ⟨z, i, ch, rfl, rfl, hz, h, q _ G H (.refl e) (.str _)⟩
/-- an item of a known list that may change -/
theorem ev_ixM {a : Addr} {xs : List D} {i : Int} (ha : EvC K s ta ds ms (.ref a)) (hm : (a, MO.lst xs) ∈ ms) (hb : EvD K s tb ds ms (.int i)) (h : atI xs i = some d) : EvD K s (tOp (rIxL K) ta tb) ds ms d := fun σ G H k Q q =>
  ha σ G H k _ fun vx G1 H1 a1 o1 x1 => hb σ G1 H1 (k.step a1 o1) _ fun vy G2 H2 a2 o2 x2 => by
    have k2 := (k.step a1 o1).step a2 o2
    obtain ⟨vs, e1, h1⟩ := k2.get hm
    obtain ⟨v, e2, h2⟩ := h1.at h
    cases x1.ref
    cases x2.is
    exact ⟨a, vs, i, v, rfl, rfl, SqL.of e1, e2, q v G2 H2 (a1.trans a2) o2 (.dat h2)⟩
/-! ### argument lists of data -/
def EvL (K : Fg) (s : Option Addr) (ta : TA) (ds : List SC) (ms : List (Addr × MO)) (dl : List D) : Prop :=
  ∀ σ G H, Kn K s ds ms σ G H → ∀ Q : List V → Hp → Prop, (∀ vs G' H', Stp (isS s) G H G' H' → StOk s H' → IsA K G' vs dl → Q vs H') → ta σ H Q
def EvLR (K : Fg) (s : Option Addr) (ta : TA) (ds : List SC) (ms : List (Addr × MO)) (Φ : List D → Prop) : Prop :=
  ∀ σ G H, Kn K s ds ms σ G H → ∀ Q : List V → Hp → Prop, (∀ vs G' H' dl, Stp (isS s) G H G' H' → StOk s H' → IsA K G' vs dl → Φ dl → Q vs H') → ta σ H Q
theorem el_nil : EvL K s tNil ds ms [] := fun σ G H k Q q => q [] G H (.refl k.gh) k.vo .nil
theorem el_cons {dl : List D} (h : EvD K s te ds ms d) (hr : EvL K s tr ds ms dl) : EvL K s (tCons te tr) ds ms (d :: dl) := fun σ G H k Q q =>
  h σ G H k _ fun v G1 H1 a1 o1 x1 => hr σ G1 H1 (k.step a1 o1) _ fun vs G2 H2 a2 o2 x2 => q _ G2 H2 (a1.trans a2) o2 (.cons (x1.is.mono a2.gg) x2)
theorem elr_nil : EvLR K s tNil ds ms (fun dl => dl = []) := fun σ G H k Q q => q [] G H [] (.refl k.gh) k.vo .nil rfl
theorem elr_cons {Φ : D → Prop} {Ψ : List D → Prop} (h : EvR K s te ds ms Φ) (hr : EvLR K s tr ds ms Ψ) : EvLR K s (tCons te tr) ds ms (fun dl => ∃ d r, dl = d :: r ∧ Φ d ∧ Ψ r) := fun σ G H k Q q =>
  h σ G H k _ fun v G1 H1 d a1 o1 x1 p1 => hr σ G1 H1 (k.step a1 o1) _ fun vs G2 H2 r a2 o2 x2 p2 => q _ G2 H2 (d :: r) (a1.trans a2) o2 (.cons (x1.mono a2.gg) x2) ⟨d, r, rfl, p1, p2⟩
theorem EvL.r {dl : List D} (h : EvL K s tr ds ms dl) : EvLR K s tr ds ms (fun e => e = dl) := fun σ G H k Q q => h σ G H k Q fun v G' H' a b e => q v G' H' dl a b e rfl
theorem EvLR.imp {Φ Ψ : List D → Prop} (h : EvLR K s tr ds ms Φ) (f : ∀ d, Φ d → Ψ d) : EvLR K s tr ds ms Ψ := fun σ G H k Q q => h σ G H k Q fun v G' H' d a b e x => q v G' H' d a b e (f d x)
theorem EvL.to {dl dl' : List D} (h : EvL K s tr ds ms dl) (e : dl = dl') : EvL K s tr ds ms dl' := e ▸ h
theorem ea_nil : EvA K s tNil ds ms [] := fun σ G H k Q q => q [] G H (.refl k.gh) k.vo .nil
theorem ea_cons {cs : List SC} (h : EvC K s te ds ms c) (hr : EvA K s tr ds ms cs) : EvA K s (tCons te tr) ds ms (c :: cs) := fun σ G H k Q q =>
  h σ G H k _ fun v G1 H1 a1 o1 x1 => hr σ G1 H1 (k.step a1 o1) _ fun vs G2 H2 a2 o2 x2 => q _ G2 H2 (a1.trans a2) o2 (.cons (x1.mono a2.gg) x2)
/-! ### displays -/
theorem ev_tup {dl : List D} (h : EvL K s tr ds ms dl) (hz : dl.length ≤ 1000 := by exact Nat.le_of_ble_eq_true rfl) : EvD K s (tTup tr) ds ms (.tuple dl) := fun σ G H k Q q =>
  h σ G H k _ fun vs G1 H1 a1 o1 x1 => by
    have hz1 := x1.length
    refine ⟨Nat.le_of_lt (small1000 (by omega)), fun p hp => ?_⟩
    have a2 : Stp mu0 G1 H1 _ _ := Stp.new (o := .tup vs) a1.gh hp
    exact q _ _ _ (a1.trans a2.of0) ((k.step a1 o1).stO a2) (.dat (is_newT (Same.free a1.gh hp) x1))
theorem ev_lst {dl : List D} (h : EvL K s tr ds ms dl) (hz : dl.length ≤ 1000 := by exact Nat.le_of_ble_eq_true rfl) : EvD K s (tLst tr) ds ms (.list dl) := fun σ G H k Q q =>
  h σ G H k _ fun vs G1 H1 a1 o1 x1 => by
    have hz1 := x1.length
    refine ⟨Nat.le_of_lt (small1000 (by omega)), fun p hp => ?_⟩
    have a2 : Stp mu0 G1 H1 _ _ := Stp.new (o := .lst vs) a1.gh hp
    exact q _ _ _ (a1.trans a2.of0) ((k.step a1 o1).stO a2) (.dat (is_newL (Same.free a1.gh hp) x1))
theorem evr_tup {Φ : List D → Prop} (h : EvLR K s tr ds ms Φ) (hz : ∀ dl, Φ dl → dl.length ≤ 1000) : EvR K s (tTup tr) ds ms (fun d => ∃ dl, d = .tuple dl ∧ Φ dl) := fun σ G H k Q q =>
  h σ G H k _ fun vs G1 H1 dl a1 o1 x1 p1 => by
    have hz1 := x1.length
    have hz2 := hz dl p1
    refine ⟨Nat.le_of_lt (small1000 (by omega)), fun p hp => ?_⟩
    have a2 : Stp mu0 G1 H1 _ _ := Stp.new (o := .tup vs) a1.gh hp
    exact q _ _ _ (.tuple dl) (a1.trans a2.of0) ((k.step a1 o1).stO a2) (is_newT (Same.free a1.gh hp) x1) ⟨dl, rfl, p1⟩
theorem evr_lst {Φ : List D → Prop} (h : EvLR K s tr ds ms Φ) (hz : ∀ dl, Φ dl → dl.length ≤ 1000) : EvR K s (tLst tr) ds ms (fun d => ∃ dl, d = .list dl ∧ Φ dl) := fun σ G H k Q q =>
  h σ G H k _ fun vs G1 H1 dl a1 o1 x1 p1 => by
    have hz1 := x1.length
    have hz2 := hz dl p1
    refine ⟨Nat.le_of_lt (small1000 (by omega)), fun p hp => ?_⟩
    have a2 : Stp mu0 G1 H1 _ _ := Stp.new (o := .lst vs) a1.gh hp
    exact q _ _ _ (.list dl) (a1.trans a2.of0) ((k.step a1 o1).stO a2) (is_newL (Same.free a1.gh hp) x1) ⟨dl, rfl, p1⟩
/-! ### lists joined, cut -/
theorem od_cat {xs ys : List D} (hz : xs.length + ys.length ≤ 1000) : OpD K rCat (.list xs) (.list ys) (.list (xs ++ ys)) := fun G H vx vy e hx hy Q q => by
  cases hx with
  | lst h1 a1 =>
    cases hy with
    | lst h2 a2 =>
      have l1 := a1.length
      have l2 := a2.length
      exact ⟨_, _, _, _, rfl, rfl, e _ _ h1, e _ _ h2, Nat.le_of_lt (small1000 (by omega)), fun p hp => q _ _ _ (Stp.new e hp) (is_newL (Same.free e hp) (a1.append a2))⟩
theorem ev_cat {xs ys : List D} (ha : EvD K s ta ds ms (.list xs)) (hb : EvD K s tb ds ms (.list ys)) (hz : xs.length + ys.length ≤ 1000) : EvD K s (tOp rCat ta tb) ds ms (.list (xs ++ ys)) := ev_op ha hb (od_cat hz)
/-- a known list behind a frozen one -/
theorem ev_catM {a : Addr} {xs ys : List D} (ha : EvD K s ta ds ms (.list xs)) (hb : EvC K s tb ds ms (.ref a)) (hm : (a, MO.lst ys) ∈ ms) (hz : xs.length + ys.length ≤ 1000) : EvD K s (tOp rCat ta tb) ds ms (.list (xs ++ ys)) := fun σ G H k Q q =>
  ha σ G H k _ fun vx G1 H1 a1 o1 x1 => hb σ G1 H1 (k.step a1 o1) _ fun vy G2 H2 a2 o2 x2 => by
    have k2 := (k.step a1 o1).step a2 o2
    obtain ⟨vs, e1, h1⟩ := k2.get hm
    cases x2.ref
    have x3 := x1.is.mono a2.gg
    cases x3 with
    | @lst b ws _ h2 a3 =>
      have l1 := a3.length
      have l2 := h1.length
      refine ⟨_, _, _, _, rfl, rfl, a2.gh _ _ h2, e1, Nat.le_of_lt (small1000 (by omega)), fun p hp => ?_⟩
      have a4 : Stp mu0 G2 H2 _ _ := Stp.new (o := .lst (ws ++ vs)) a2.gh hp
      exact q _ _ _ ((a1.trans a2).trans a4.of0) (k2.stO a4) (.dat (is_newL (Same.free a2.gh hp) (a3.append h1)))
def cutD {α : Type} (xs : List α) (lo hi : Option Int) : List α := (xs.drop (HT.sIx xs.length 0 lo)).take (HT.sIx xs.length xs.length hi - HT.sIx xs.length 0 lo)
theorem IsA.cut {G : Hp} {vs : List V} {dl : List D} (h : IsA K G vs dl) (lo hi : Option Int) : IsA K G (cutV vs lo hi) (cutD dl lo hi) := by
  unfold cutV cutD
  rw [h.length]
  exact (h.drop _).take _
def EvO (K : Fg) (s : Option Addr) (to : TO) (ds : List SC) (ms : List (Addr × MO)) (o : Option Int) : Prop :=
  ∀ σ G H, Kn K s ds ms σ G H → ∀ Q : Option Int → Hp → Prop, (∀ G' H', Stp (isS s) G H G' H' → StOk s H' → Q o H') → to σ H Q
theorem eo_none : EvO K s tNoPart ds ms none := fun σ G H k Q q => q G H (.refl k.gh) k.vo
theorem eo_some {i : Int} (h : EvD K s te ds ms (.int i)) : EvO K s (tPart te) ds ms (some i) := fun σ G H k Q q => h σ G H k _ fun v G1 H1 a1 o1 x1 => by
  cases x1.is
  exact ⟨i, rfl, q G1 H1 a1 o1⟩
variable {tlo thi : TO} {lo hi : Option Int}
theorem ev_slL {xs : List D} (ha : EvD K s te ds ms (.list xs)) (hl : EvO K s tlo ds ms lo) (hh : EvO K s thi ds ms hi) : EvD K s (tSl (rSlL K) te tlo thi) ds ms (.list (cutD xs lo hi)) := fun σ G H k Q q =>
  ha σ G H k _ fun vx G1 H1 a1 o1 x1 => hl σ G1 H1 (k.step a1 o1) _ fun G2 H2 a2 o2 => hh σ G2 H2 ((k.step a1 o1).step a2 o2) _ fun G3 H3 a3 o3 => by
    have k3 := ((k.step a1 o1).step a2 o2).step a3 o3
    have x3 := (x1.is.mono a2.gg).mono a3.gg
    cases x3 with
    | @lst a vs _ h2 h3 =>
      refine ⟨_, _, rfl, SqL.of (a3.gh _ _ h2), fun p hp => ?_⟩
      have a4 : Stp mu0 G3 H3 _ _ := Stp.new (o := .lst (cutV vs lo hi)) a3.gh hp
      exact q _ _ _ (((a1.trans a2).trans a3).trans a4.of0) (k3.stO a4) (.dat (is_newL (Same.free a3.gh hp) (h3.cut lo hi)))
theorem ev_slT {xs : List D} (ha : EvD K s te ds ms (.tuple xs)) (hl : EvO K s tlo ds ms lo) (hh : EvO K s thi ds ms hi) (hw : ¬ (HT.sIx xs.length 0 lo = 0 ∧ HT.sIx xs.length xs.length hi = xs.length)) :
    EvD K s (tSl (rSlT K) te tlo thi) ds ms (.tuple (cutD xs lo hi)) := fun σ G H k Q q =>
  ha σ G H k _ fun vx G1 H1 a1 o1 x1 => hl σ G1 H1 (k.step a1 o1) _ fun G2 H2 a2 o2 => hh σ G2 H2 ((k.step a1 o1).step a2 o2) _ fun G3 H3 a3 o3 => by
    have k3 := ((k.step a1 o1).step a2 o2).step a3 o3
    have x3 := (x1.is.mono a2.gg).mono a3.gg
    cases x3 with
    | @tup a vs _ h2 h3 =>
      refine ⟨_, _, rfl, same_t a3.gh h2, by rw [h3.length]; exact hw, fun p hp => ?_⟩
      have a4 : Stp mu0 G3 H3 _ _ := Stp.new (o := .tup (cutV vs lo hi)) a3.gh hp
      exact q _ _ _ (((a1.trans a2).trans a3).trans a4.of0) (k3.stO a4) (.dat (is_newT (Same.free a3.gh hp) (h3.cut lo hi)))
theorem ev_slS {z : Str} (ha : EvD K s te ds ms (.str z)) (hl : EvO K s tlo ds ms lo) (hh : EvO K s thi ds ms hi) (hz : z.length ≤ sizeLine) : EvD K s (tSl rSlS te tlo thi) ds ms (.str (cutS z lo hi)) := fun σ G H k Q q =>
  ha σ G H k _ fun vx G1 H1 a1 o1 x1 => hl σ G1 H1 (k.step a1 o1) _ fun G2 H2 a2 o2 => hh σ G2 H2 ((k.step a1 o1).step a2 o2) _ fun G3 H3 a3 o3 => by
    cases x1.is
    exact ⟨z, rfl, hz, q _ _ _ ((a1.trans a2).trans a3) o3 (.dat (.str _))⟩
/-! ### tests -/
theorem et_test {b : Bool} (h : EvD K s te ds ms (.bool b)) : EvT K s (tTest te) ds ms b := fun σ G H k Q q => h σ G H k _ fun v G1 H1 a1 o1 x1 => by
  cases x1.is
  exact ⟨b, rfl, q G1 H1 a1 o1⟩
theorem et_B {b : Bool} (h : EvD K s te ds ms (.bool b)) : EvT K s (tB te) ds ms b := fun σ G H k Q q => h σ G H k _ fun v G1 H1 a1 o1 x1 => by
  cases x1.is
  exact ⟨b, rfl, q G1 H1 a1 o1⟩
theorem et_and {a b : Bool} (h1 : EvT K s tt ds ms a) (h2 : a = true → EvT K s uu ds ms b) : EvT K s (tAnd tt uu) ds ms (a && b) := fun σ G H k Q q => h1 σ G H k _ fun G1 H1 a1 o1 => by
  cases a with
  | true =>
    show uu σ H1 Q
    exact h2 rfl σ G1 H1 (k.step a1 o1) Q fun G2 H2 a2 o2 => q G2 H2 (a1.trans a2) o2
  | false =>
    show Q false H1
    exact q G1 H1 a1 o1
theorem et_or {a b : Bool} (h1 : EvT K s tt ds ms a) (h2 : a = false → EvT K s uu ds ms b) : EvT K s (tOr tt uu) ds ms (a || b) := fun σ G H k Q q => h1 σ G H k _ fun G1 H1 a1 o1 => by
  cases a with
  | true =>
    show Q true H1
    exact q G1 H1 a1 o1
  | false =>
    show uu σ H1 Q
    exact h2 rfl σ G1 H1 (k.step a1 o1) Q fun G2 H2 a2 o2 => q G2 H2 (a1.trans a2) o2
theorem et_not {a : Bool} (h1 : EvT K s tt ds ms a) : EvT K s (tNot tt) ds ms (!a) := fun σ G H k Q q => h1 σ G H k _ fun G1 H1 a1 o1 => q G1 H1 a1 o1
theorem et_yes : EvT K s tYes ds ms true := fun σ G H k Q q => q G H (.refl k.gh) k.vo
theorem ev_andV {a b : Bool} (h1 : EvD K s ta ds ms (.bool a)) (h2 : a = true → EvD K s tb ds ms (.bool b)) : EvD K s (tAndV ta tb) ds ms (.bool (a && b)) := fun σ G H k Q q => h1 σ G H k _ fun v G1 H1 a1 o1 x1 => by
  cases x1.is
  refine ⟨a, rfl, ?_⟩
  cases a with
  | true =>
    show tb σ H1 Q
    exact h2 rfl σ G1 H1 (k.step a1 o1) Q fun v G2 H2 a2 o2 x2 => q v G2 H2 (a1.trans a2) o2 x2
  | false =>
    show Q (.bl false) H1
    exact q _ G1 H1 a1 o1 (.dat (.bl _))
theorem ev_orV {a b : Bool} (h1 : EvD K s ta ds ms (.bool a)) (h2 : a = false → EvD K s tb ds ms (.bool b)) : EvD K s (tOrV ta tb) ds ms (.bool (a || b)) := fun σ G H k Q q => h1 σ G H k _ fun v G1 H1 a1 o1 x1 => by
  cases x1.is
  refine ⟨a, rfl, ?_⟩
  cases a with
  | true =>
    show Q (.bl true) H1
    exact q _ G1 H1 a1 o1 (.dat (.bl _))
  | false =>
    show tb σ H1 Q
    exact h2 rfl σ G1 H1 (k.step a1 o1) Q fun v G2 H2 a2 o2 x2 => q v G2 H2 (a1.trans a2) o2 x2
theorem ev_notV {a : Bool} (h1 : EvD K s ta ds ms (.bool a)) : EvD K s (tNotV ta) ds ms (.bool (!a)) := fun σ G H k Q q => h1 σ G H k _ fun v G1 H1 a1 o1 x1 => by
  cases x1.is
  exact ⟨a, rfl, q _ G1 H1 a1 o1 (.dat (.bl _))⟩
/-- a < b < c, the first known -/
theorem ev_chain {r r' : R2} {tc : TE} {x y z : D} {b b' : Bool} (ha : EvD K s ta ds ms x) (hb : EvD K s tb ds ms y) (hr : OpD K r x y (.bool b)) (hc : b = true → EvD K s tc ds ms z) (hr' : b = true → OpD K r' y z (.bool b')) :
    EvD K s (tChain r r' ta tb tc) ds ms (.bool (b && b')) := fun σ G H k Q q =>
  ha σ G H k _ fun vx G1 H1 a1 o1 x1 => hb σ G1 H1 (k.step a1 o1) _ fun vy G2 H2 a2 o2 x2 =>
    hr G2 H2 vx vy a2.gh (x1.is.mono a2.gg) x2.is _ fun v G3 H3 a3 x3 => by
      have k3 := ((k.step a1 o1).step a2 o2).step a3.of0 (((k.step a1 o1).step a2 o2).stO a3)
      cases x3
      refine ⟨b, rfl, ?_⟩
      cases b with
      | true =>
        show tc σ H3 _
        exact hc rfl σ G3 H3 k3 _ fun w G4 H4 a4 o4 x4 => hr' rfl G4 H4 vy w a4.gh ((x2.is.mono a3.gg).mono a4.gg) x4.is Q fun v G5 H5 a5 x5 => q v G5 H5 ((((a1.trans a2).trans a3.of0).trans a4).trans a5.of0) ((k3.step a4 o4).stO a5) (.dat x5)
      | false =>
        show Q (.bl false) H3
        exact q _ G3 H3 ((a1.trans a2).trans a3.of0) k3.vo (.dat (.bl _))
theorem od_leI {i j : Int} : OpD K rLeI (.int i) (.int j) (.bool (decide (i ≤ j))) := od_I0 fun _ => .bl _
theorem od_ltI {i j : Int} : OpD K rLtI (.int i) (.int j) (.bool (decide (i < j))) := od_I0 fun _ => .bl _
end
end Sy
/-! Sy: statements, loops, comprehensions, calls. -/
namespace Sy
open PySem PySem.Spec PyProof.Rows L2

/-- where a def's body stands: what is known, how it came from the entry, which objects may change, views that stay -/
structure At (K : Fg) (s : Option Addr) (mu : Addr → Prop) (G0 H0 : Hp) (gs : List Hp) (ds : List SC) (ms : List (Addr × MO)) (σ : L2.St) (G H : Hp) : Prop where
  kn : Kn K s ds ms σ G H
  sp : Stp mu G0 H0 G H
  sm : ∀ a, isS s a → mu a ∨ H0 a = none
  ke : ∀ g ∈ gs, Same g G
section
variable {K : Fg} {s : Option Addr} {mu : Addr → Prop} {G0 H0 G H G' H' : Hp} {gs : List Hp} {ds : List SC} {ms : List (Addr × MO)} {σ : L2.St} {D : Ends} {te ta tb tl : TE} {tt : TT} {t u tz tu tw : TS} {c : SC} {d : Sy.D} {g : TG}
theorem At.step (A : At K s mu G0 H0 gs ds ms σ G H) (a : Stp (isS s) G H G' H') (vo : StOk s H') : At K s mu G0 H0 gs ds ms σ G' H' :=
  ⟨A.kn.step a vo, ⟨A.sp.gg.trans a.gg, a.gh, fun c u n h => a.hh c u (fun z => (A.sm c z).elim n fun z => by rw [z] at h; cases h) (A.sp.hh c u n h), fun c h n => a.nw c (A.sp.nw c h n) (A.sp.st c n), fun c n => a.st c (A.sp.st c n)⟩, A.sm, fun g hg => (A.ke g hg).trans a.gg⟩
theorem At.slot (A : At K s mu G0 H0 gs ds ms σ G H) {i : Nat} {v : V} (h : CP K G v c) : At K s mu G0 H0 gs (ds.set i c) ms (σ.set i (some v)) G H :=
  ⟨A.kn.slot h, A.sp, A.sm, A.ke⟩
/-- the view now stays -/
theorem At.pin (A : At K s mu G0 H0 gs ds ms σ G H) : At K s mu G0 H0 (G :: gs) ds ms σ G H :=
  ⟨A.kn, A.sp, A.sm, fun g hg => (List.mem_cons.mp hg).elim (fun e => e ▸ Same.refl _) (A.ke g)⟩
theorem At.unpin {g : Hp} (A : At K s mu G0 H0 (g :: gs) ds ms σ G H) : At K s mu G0 H0 gs ds ms σ G H := ⟨A.kn, A.sp, A.sm, fun x hx => A.ke x (List.mem_cons_of_mem _ hx)⟩
/-- a new object that may change -/
theorem At.newM (A : At K s mu G0 H0 gs ds ms σ G H) {p : Addr} {o : HO} {m : MO} (hp : H p = none) (hm : MOk K G (upd H p o) p m) : At K s mu G0 H0 gs ds ((p, m) :: ms) σ G (upd H p o) := by
  have gp : G p = none := Same.free A.kn.gh hp
  have nes : ∀ a, isS s a → a ≠ p := fun a e z => by
    subst z
    obtain ⟨n, m, b, e1, _⟩ := A.kn.vo a e
    rw [hp] at e1
    cases e1
  have nem : ∀ q ∈ ms, q.1 ≠ p := fun q hq z => by
    obtain ⟨o', e'⟩ := (A.kn.mo q hq).1.has
    rw [z, hp] at e'
    cases e'
  refine ⟨⟨fun a u h => ?_, A.kn.sl, fun q hq => ?_, ?_, fun a e => ?_, A.kn.vg⟩, ⟨A.sp.gg, fun a u h => ?_, fun a u n h => ?_, A.sp.nw, fun a n => ?_⟩, A.sm, A.ke⟩
  · rw [upd_ne (ne_of_none h gp)]
    exact A.kn.gh a u h
  · rcases List.mem_cons.mp hq with rfl | hq
    · exact ⟨hm, gp, fun e => nes p e rfl⟩
    · obtain ⟨h1, h2, h3⟩ := A.kn.mo q hq
      exact ⟨MOk.mono h1 (Same.refl G) (fun o' e' => by rw [upd_ne (nem q hq)]; exact e'), h2, h3⟩
  · rw [List.map_cons]
    refine List.nodup_cons.mpr ⟨fun hm' => ?_, A.kn.nd⟩
    obtain ⟨q, hq, e⟩ := List.mem_map.mp hm'
    exact nem q hq e
  · obtain ⟨n, m, b, e1, r⟩ := A.kn.vo a e
    exact ⟨n, m, b, by rw [upd_ne (nes a e)]; exact e1, r⟩
  · rw [upd_ne (ne_of_none h gp)]
    exact A.kn.gh a u h
  · have e1 := A.sp.hh a u n h
    rw [upd_ne (ne_of_none e1 hp)]
    exact e1
  · have e1 := A.sp.st a n
    by_cases z : a = p
    · subst z
      rw [upd_same]
      exact fun q => nomatch q
    · rw [upd_ne z]
      exact e1
/-- a known object changed -/
theorem At.write (A : At K s mu G0 H0 gs ds ms σ G H) {i : Nat} {p : Addr} {o : HO} {m m' : MO} (ho : H0 p = none ∨ mu p) (hi : ms[i]? = some (p, m)) (hm : MOk K G (upd H p o) p m') : At K s mu G0 H0 gs ds (ms.set i (p, m')) σ G (upd H p o) := by
  have hin : (p, m) ∈ ms := List.mem_of_getElem? hi
  obtain ⟨hm0, gp, nsp⟩ := A.kn.mo (p, m) hin
  have gp : G p = none := gp
  have nsp : ¬ isS s p := nsp
  obtain ⟨o0, e0⟩ := MOk.has hm0
  have e0 : H p = some o0 := e0
  obtain ⟨hil, hie⟩ := List.getElem?_eq_some_iff.mp hi
  have nem : ∀ (j : Nat) (q : Addr × MO), ms[j]? = some q → j ≠ i → q.1 ≠ p := fun j q hj ne z => by
    obtain ⟨hjl, hje⟩ := List.getElem?_eq_some_iff.mp hj
    have h1 : (ms.map (·.1))[j]'(by simpa using hjl) = (ms.map (·.1))[i]'(by simpa using hil) := by
      simp only [List.getElem_map, hje, hie, z]
    exact ne ((List.getElem_inj A.kn.nd).mp h1)
  have mem : ∀ q ∈ ms.set i (p, m'), q = (p, m') ∨ (q ∈ ms ∧ q.1 ≠ p) := fun q hq => by
    obtain ⟨j, hj⟩ := List.getElem?_of_mem hq
    by_cases hji : j = i
    · subst hji
      rw [List.getElem?_set_self hil] at hj
      exact .inl (Option.some.inj hj).symm
    · rw [List.getElem?_set_ne (Ne.symm hji)] at hj
      exact .inr ⟨List.mem_of_getElem? hj, nem j q hj hji⟩
  have key : (ms.set i (p, m')).map (·.1) = ms.map (·.1) := by
    rw [List.map_set]
    refine List.ext_getElem? fun j => ?_
    by_cases hji : i = j
    · subst hji
      rw [List.getElem?_set_self (by simpa using hil), List.getElem?_map, hi] <;> rfl
    · rw [List.getElem?_set_ne hji]
  refine ⟨⟨fun a u h => ?_, A.kn.sl, fun q hq => ?_, ?_, fun a e => ?_, A.kn.vg⟩, ⟨A.sp.gg, fun a u h => ?_, fun a u n h => ?_, A.sp.nw, fun a n => ?_⟩, A.sm, A.ke⟩
  · rw [upd_ne (ne_of_none h gp)]
    exact A.kn.gh a u h
  · rcases mem q hq with rfl | ⟨hq, ne⟩
    · exact ⟨hm, gp, nsp⟩
    · obtain ⟨h1, h2, h3⟩ := A.kn.mo q hq
      exact ⟨MOk.mono h1 (Same.refl G) (fun o' e' => by rw [upd_ne ne]; exact e'), h2, h3⟩
  · rw [key]
    exact A.kn.nd
  · obtain ⟨n, m, b, e1, r⟩ := A.kn.vo a e
    refine ⟨n, m, b, ?_, r⟩
    rw [upd_ne (fun z => nsp (by rw [← z]; exact e))]
    exact e1
  · rw [upd_ne (ne_of_none h gp)]
    exact A.kn.gh a u h
  · by_cases z : a = p
    · subst z
      rcases ho with h0 | h0
      · rw [show H0 a = none from h0] at h
        cases h
      · exact absurd h0 n
    · rw [upd_ne z]
      exact A.sp.hh a u n h
  · have e1 := A.sp.st a n
    by_cases z : a = p
    · subst z
      rw [upd_same]
      exact fun q => nomatch q
    · rw [upd_ne z]
      exact e1
/-- a list of our own is frozen: it becomes data, in a slot -/
theorem At.freeze (A : At K s mu G0 H0 gs ds ms σ G H) {p : Addr} {xs : List Sy.D} (hp : (p, MO.lst xs) ∈ ms) (h0p : H0 p = none) : ∃ G', At K s mu G0 H0 gs ds (ms.filter fun q => q.1 ≠ p) σ G' H ∧ Is K G' (.ref p) (.list xs) ∧ Same G G' := by
  obtain ⟨hm0, gp, nsp⟩ := A.kn.mo (p, _) hp
  obtain ⟨vs, e1, h1⟩ := hm0
  have e1 : H p = some (.lst vs) := e1
  have gp : G p = none := gp
  have sm : Same G (upd G p (.lst vs)) := fun a u h => by
    rw [upd_ne (ne_of_none h gp)]
    exact h
  have smH : Same (upd G p (.lst vs)) H := fun a u h => by
    by_cases z : a = p
    · subst z
      rw [upd_same] at h
      exact e1.trans h
    · rw [upd_ne z] at h
      exact A.kn.gh a u h
  refine ⟨upd G p (.lst vs), ⟨⟨smH, A.kn.sl.mono sm, fun q hq => ?_, ?_, A.kn.vo, fun a e => ?_⟩, ⟨A.sp.gg.trans sm, smH, A.sp.hh, fun a h n => ?_, A.sp.st⟩, A.sm, fun g hg => (A.ke g hg).trans sm⟩, .lst upd_same (h1.mono sm), sm⟩
  · obtain ⟨hq1, hq2⟩ := List.mem_filter.mp hq
    have ne : q.1 ≠ p := by simpa using hq2
    obtain ⟨h1, h2, h3⟩ := A.kn.mo q hq1
    exact ⟨MOk.mono h1 sm (fun o' e' => e'), by rw [upd_ne ne]; exact h2, h3⟩
  · exact (List.filter_sublist.map _).nodup A.kn.nd
  · rw [upd_ne (fun z => nsp (by rw [← z]; exact e))]
    exact A.kn.vg a e
  · have ne : a ≠ p := fun z => by
      subst z
      exact n h0p
    rw [upd_ne ne]
    exact A.sp.nw a h n

/-- known objects forgotten -/
theorem At.sub {ms' : List (Addr × MO)} (A : At K s mu G0 H0 gs ds ms σ G H) (h : ms'.Sublist ms) : At K s mu G0 H0 gs ds ms' σ G H :=
  ⟨⟨A.kn.gh, A.kn.sl, fun p hp => A.kn.mo p (h.subset hp), (h.map _).nodup A.kn.nd, A.kn.vo, A.kn.vg⟩, A.sp, A.sm, A.ke⟩
/-- a call has changed one known object -/
theorem At.eff {i : Nat} {p : Addr} {m m' : MO} (A : At K s mu G0 H0 gs ds ms σ G H) (ho : H0 p = none ∨ mu p) (hi : ms[i]? = some (p, m)) (a : Stp (fun c => c = p) G H G' H') (hm : MOk K G' H' p m') : At K s mu G0 H0 gs ds (ms.set i (p, m')) σ G' H' := by
  have hin : (p, m) ∈ ms := List.mem_of_getElem? hi
  obtain ⟨hm0, gp, nsp⟩ := A.kn.mo (p, m) hin
  have gp : G p = none := gp
  have nsp : ¬ isS s p := nsp
  obtain ⟨o0, e0⟩ := MOk.has hm0
  have e0 : H p = some o0 := e0
  have hpn : H p ≠ none := by
    rw [e0]
    exact fun q => nomatch q
  obtain ⟨hil, hie⟩ := List.getElem?_eq_some_iff.mp hi
  have nem : ∀ (j : Nat) (q : Addr × MO), ms[j]? = some q → j ≠ i → q.1 ≠ p := fun j q hj ne z => by
    obtain ⟨hjl, hje⟩ := List.getElem?_eq_some_iff.mp hj
    have h1 : (ms.map (·.1))[j]'(by simpa using hjl) = (ms.map (·.1))[i]'(by simpa using hil) := by
      simp only [List.getElem_map, hje, hie, z]
    exact ne ((List.getElem_inj A.kn.nd).mp h1)
  have mem : ∀ q ∈ ms.set i (p, m'), q = (p, m') ∨ (q ∈ ms ∧ q.1 ≠ p) := fun q hq => by
    obtain ⟨j, hj⟩ := List.getElem?_of_mem hq
    by_cases hji : j = i
    · subst hji
      rw [List.getElem?_set_self hil] at hj
      exact .inl (Option.some.inj hj).symm
    · rw [List.getElem?_set_ne (Ne.symm hji)] at hj
      exact .inr ⟨List.mem_of_getElem? hj, nem j q hj hji⟩
  have key : (ms.set i (p, m')).map (·.1) = ms.map (·.1) := by
    rw [List.map_set]
    refine List.ext_getElem? fun j => ?_
    by_cases hji : i = j
    · subst hji
      rw [List.getElem?_set_self (by simpa using hil), List.getElem?_map, hi] <;> rfl
    · rw [List.getElem?_set_ne hji]
  have gone : ∀ q ∈ ms, q.1 ≠ p → MOk K G' H' q.1 q.2 ∧ G' q.1 = none := fun q hq ne => by
    obtain ⟨h1, h2, h3⟩ := A.kn.mo q hq
    obtain ⟨o', e'⟩ := MOk.has h1
    exact ⟨MOk.mono h1 a.gg (fun o e => a.hh _ _ ne e), a.nw _ h2 (by rw [e']; exact fun z => nomatch z)⟩
  refine ⟨⟨a.gh, A.kn.sl.mono a.gg, fun q hq => ?_, by rw [key]; exact A.kn.nd, fun c e => ?_, fun c e => ?_⟩, ⟨A.sp.gg.trans a.gg, a.gh, fun c u n h => ?_, fun c h n => a.nw c (A.sp.nw c h n) (A.sp.st c n), fun c n => a.st c (A.sp.st c n)⟩, A.sm, fun g hg => (A.ke g hg).trans a.gg⟩
  · rcases mem q hq with rfl | ⟨hq, ne⟩
    · exact ⟨hm, a.nw p gp hpn, nsp⟩
    · exact ⟨(gone q hq ne).1, (gone q hq ne).2, (A.kn.mo q hq).2.2⟩
  · obtain ⟨n, m, b, e1, r⟩ := A.kn.vo c e
    exact ⟨n, m, b, a.hh c _ (fun z => nsp (by rw [← z]; exact e)) e1, r⟩
  · obtain ⟨n, m, b, e1, r⟩ := A.kn.vo c e
    exact a.nw c (A.kn.vg c e) (by rw [e1]; exact fun z => nomatch z)
  · have h1 := A.sp.hh c u n h
    by_cases z : c = p
    · subst z
      rcases ho with h0 | h0
      · rw [h0] at h
        cases h
      · exact absurd h0 n
    · exact a.hh c u z h1
/-- a new object that a call has made -/
theorem At.got {p : Addr} {m : MO} {mu0' : Addr → Prop} (A : At K s mu G0 H0 gs ds ms σ G H) (a : Stp mu0' G H G' H') (hp : H p = none) (gp : G' p = none) (hm : MOk K G' H' p m) (hmu : ∀ c, ¬ mu0' c) : At K s mu G0 H0 gs ds ((p, m) :: ms) σ G' H' ∧ H0 p = none := by
  have so : StOk s H' := fun b e => by
    obtain ⟨n, m, t, h, r⟩ := A.kn.vo b e
    exact ⟨n, m, t, a.hh b _ (hmu b) h, r⟩
  have A1 := A.step (a.mono fun c h => (hmu c h).elim) so
  have h0 : H0 p = none := by
    cases e0 : H0 p with
    | none => rfl
    | some z => exact absurd hp (A.sp.st p (by rw [e0]; exact fun q => nomatch q))
  have nem : ∀ q ∈ ms, q.1 ≠ p := fun q hq z => by
    obtain ⟨o', e'⟩ := MOk.has (A.kn.mo q hq).1
    rw [z, hp] at e'
    cases e'
  have nes : ¬ isS s p := fun e' => by
    obtain ⟨n, m, b, e1, _⟩ := A.kn.vo p e'
    rw [hp] at e1
    cases e1
  refine ⟨⟨⟨A1.kn.gh, A1.kn.sl, fun q hq => ?_, ?_, A1.kn.vo, A1.kn.vg⟩, A1.sp, A1.sm, A1.ke⟩, h0⟩
  · rcases List.mem_cons.mp hq with rfl | hq
    · exact ⟨hm, gp, nes⟩
    · exact A1.kn.mo q hq
  · rw [List.map_cons]
    refine List.nodup_cons.mpr ⟨fun hm' => ?_, A.kn.nd⟩
    obtain ⟨q, hq, e⟩ := List.mem_map.mp hm'
    exact nem q hq e

/-! ### statements -/
theorem s_set {i : Nat} (A : At K s mu G0 H0 gs ds ms σ G H) (h : EvC K s te ds ms c) (k : ∀ σ' G' H', At K s mu G0 H0 gs (ds.set i c) ms σ' G' H' → D.nx σ' H') : tAsg te (gName i) D σ H :=
  h σ G H A.kn _ fun v G1 H1 a o x => k _ G1 H1 ((A.step a o).slot x)
theorem q_set {i : Nat} (A : At K s mu G0 H0 gs ds ms σ G H) (h : EvC K s te ds ms c) (k : ∀ σ' G' H', At K s mu G0 H0 gs (ds.set i c) ms σ' G' H' → tz D σ' H') : tSeq (tAsg te (gName i)) tz D σ H := s_set (D := { D with nx := tz D }) A h k
theorem s_setR {i : Nat} {Φ : Sy.D → Prop} (A : At K s mu G0 H0 gs ds ms σ G H) (h : EvR K s te ds ms Φ) (k : ∀ d σ' G' H', Φ d → At K s mu G0 H0 gs (ds.set i (.dat d)) ms σ' G' H' → D.nx σ' H') : tAsg te (gName i) D σ H :=
  h σ G H A.kn _ fun v G1 H1 d a o x p => k d _ G1 H1 p ((A.step a o).slot (.dat x))
theorem q_setR {i : Nat} {Φ : Sy.D → Prop} (A : At K s mu G0 H0 gs ds ms σ G H) (h : EvR K s te ds ms Φ) (k : ∀ d σ' G' H', Φ d → At K s mu G0 H0 gs (ds.set i (.dat d)) ms σ' G' H' → tz D σ' H') : tSeq (tAsg te (gName i)) tz D σ H := s_setR (D := { D with nx := tz D }) A h k
theorem s_if {b : Bool} (A : At K s mu G0 H0 gs ds ms σ G H) (h : EvT K s tt ds ms b) (h1 : b = true → ∀ G' H', At K s mu G0 H0 gs ds ms σ G' H' → t D σ H') (h2 : b = false → ∀ G' H', At K s mu G0 H0 gs ds ms σ G' H' → u D σ H') : tIfS tt t u D σ H :=
  h σ G H A.kn _ fun G1 H1 a o => by
    cases b with
    | true => exact iteT (h1 rfl G1 H1 (A.step a o))
    | false => exact iteF (h2 rfl G1 H1 (A.step a o))
theorem q_if {b : Bool} (A : At K s mu G0 H0 gs ds ms σ G H) (h : EvT K s tt ds ms b) (h1 : b = true → ∀ G' H', At K s mu G0 H0 gs ds ms σ G' H' → t { D with nx := tz D } σ H') (h2 : b = false → ∀ G' H', At K s mu G0 H0 gs ds ms σ G' H' → u { D with nx := tz D } σ H') : tSeq (tIfS tt t u) tz D σ H := s_if (D := { D with nx := tz D }) A h h1 h2
/-- an if without else -/
theorem q_when {b : Bool} (A : At K s mu G0 H0 gs ds ms σ G H) (h : EvT K s tt ds ms b) (h1 : b = true → ∀ G' H', At K s mu G0 H0 gs ds ms σ G' H' → t { D with nx := tz D } σ H') (h2 : b = false → ∀ G' H', At K s mu G0 H0 gs ds ms σ G' H' → tz D σ H') : tSeq (tIfS tt t tNext) tz D σ H := s_if (D := { D with nx := tz D }) A h h1 h2
/-- the test is known to fail: the branch is not looked at -/
theorem q_no (A : At K s mu G0 H0 gs ds ms σ G H) (h : EvT K s tt ds ms false) (h2 : ∀ G' H', At K s mu G0 H0 gs ds ms σ G' H' → tz D σ H') : tSeq (tIfS tt t tNext) tz D σ H := s_if (D := { D with nx := tz D }) A h (fun e => nomatch e) fun _ => h2
theorem s_no (A : At K s mu G0 H0 gs ds ms σ G H) (h : EvT K s tt ds ms false) (h2 : ∀ G' H', At K s mu G0 H0 gs ds ms σ G' H' → D.nx σ H') : tIfS tt t tNext D σ H := s_if A h (fun e => nomatch e) fun _ => h2
theorem q_yes (A : At K s mu G0 H0 gs ds ms σ G H) (h : EvT K s tt ds ms true) (h2 : ∀ G' H', At K s mu G0 H0 gs ds ms σ G' H' → t { D with nx := tz D } σ H') : tSeq (tIfS tt t u) tz D σ H := s_if (D := { D with nx := tz D }) A h (fun _ => h2) fun e => nomatch e
theorem s_ifR {Φ : Bool → Prop} (A : At K s mu G0 H0 gs ds ms σ G H) (h : EvTR K s tt ds ms Φ) (h1 : Φ true → ∀ G' H', At K s mu G0 H0 gs ds ms σ G' H' → t D σ H') (h2 : Φ false → ∀ G' H', At K s mu G0 H0 gs ds ms σ G' H' → u D σ H') : tIfS tt t u D σ H :=
  h σ G H A.kn _ fun b G1 H1 a o p => by
    cases b with
    | true => exact iteT (h1 p G1 H1 (A.step a o))
    | false => exact iteF (h2 p G1 H1 (A.step a o))
theorem q_ifR {Φ : Bool → Prop} (A : At K s mu G0 H0 gs ds ms σ G H) (h : EvTR K s tt ds ms Φ) (h1 : Φ true → ∀ G' H', At K s mu G0 H0 gs ds ms σ G' H' → t { D with nx := tz D } σ H') (h2 : Φ false → ∀ G' H', At K s mu G0 H0 gs ds ms σ G' H' → u { D with nx := tz D } σ H') : tSeq (tIfS tt t u) tz D σ H := s_ifR (D := { D with nx := tz D }) A h h1 h2
theorem s_next (k : D.nx σ H) : tNext D σ H := k
theorem s_ret (A : At K s mu G0 H0 gs ds ms σ G H) (h : EvC K s te ds ms c) (k : ∀ v G' H', Stp mu G0 H0 G' H' → StOk s H' → CP K G' v c → D.rt v H') : tRet te D σ H :=
  h σ G H A.kn _ fun v G1 H1 a o x => k v G1 H1 (A.step a o).sp o x
theorem s_retD (A : At K s mu G0 H0 gs ds ms σ G H) (h : EvD K s te ds ms d) (k : ∀ v G' H', Stp mu G0 H0 G' H' → Is K G' v d → D.rt v H') : tRet te D σ H :=
  h σ G H A.kn _ fun v G1 H1 a o x => k v G1 H1 (A.step a o).sp x.is
theorem s_retR {Φ : Sy.D → Prop} (A : At K s mu G0 H0 gs ds ms σ G H) (h : EvR K s te ds ms Φ) (k : ∀ v G' H' d, Stp mu G0 H0 G' H' → StOk s H' → Is K G' v d → Φ d → D.rt v H') : tRet te D σ H :=
  h σ G H A.kn _ fun v G1 H1 d a o x p => k v G1 H1 d (A.step a o).sp o x p
theorem q_drop (A : At K s mu G0 H0 gs ds ms σ G H) (h : EvC K s te ds ms c) (k : ∀ G' H', At K s mu G0 H0 gs ds ms σ G' H' → tz D σ H') : tSeq (tDrop te) tz D σ H :=
  h σ G H A.kn _ fun v G1 H1 a o x => k G1 H1 (A.step a o)
theorem s_drop (A : At K s mu G0 H0 gs ds ms σ G H) (h : EvC K s te ds ms c) (k : ∀ G' H', At K s mu G0 H0 gs ds ms σ G' H' → D.nx σ H') : tDrop te D σ H :=
  h σ G H A.kn _ fun v G1 H1 a o x => k G1 H1 (A.step a o)
theorem s_par {i j : Nat} {x y : Sy.D} {ta : TA} (A : At K s mu G0 H0 gs ds ms σ G H) (h : EvL K s ta ds ms [x, y]) (k : ∀ σ' G' H', At K s mu G0 H0 gs ((ds.set i (.dat x)).set j (.dat y)) ms σ' G' H' → D.nx σ' H') : tPar i j ta D σ H :=
  h σ G H A.kn _ fun vs G1 H1 a o e => by
    cases e with
    | cons h1 t =>
      cases t with
      | cons h2 t =>
        cases t
        exact ⟨_, _, rfl, k _ G1 H1 (((A.step a o).slot (.dat h1)).slot (.dat h2))⟩
theorem q_par {i j : Nat} {x y : Sy.D} {ta : TA} (A : At K s mu G0 H0 gs ds ms σ G H) (h : EvL K s ta ds ms [x, y]) (k : ∀ σ' G' H', At K s mu G0 H0 gs ((ds.set i (.dat x)).set j (.dat y)) ms σ' G' H' → tz D σ' H') : tSeq (tPar i j ta) tz D σ H := s_par (D := { D with nx := tz D }) A h k
theorem s_aug {i : Nat} {f : Int → Int → Int} {a b : Int} (A : At K s mu G0 H0 gs ds ms σ G H) (hx : ds[i]? = some (.dat (.int a))) (h : EvD K s te ds ms (.int b)) (k : ∀ σ' G' H', At K s mu G0 H0 gs (ds.set i (.dat (.int (f a b)))) ms σ' G' H' → D.nx σ' H') : tAug i te (ipI f) D σ H := by
  obtain ⟨o, e, h1⟩ := pget A.kn.sl hx
  obtain ⟨v, rfl, hv⟩ := h1
  cases hv
  refine ⟨_, e, h σ G H A.kn _ fun w G1 H1 a1 o1 x1 => ?_⟩
  cases x1.is
  exact ⟨a, b, rfl, rfl, k _ G1 H1 ((A.step a1 o1).slot (.dat (.int _)))⟩
theorem q_aug {i : Nat} {f : Int → Int → Int} {a b : Int} (A : At K s mu G0 H0 gs ds ms σ G H) (hx : ds[i]? = some (.dat (.int a))) (h : EvD K s te ds ms (.int b)) (k : ∀ σ' G' H', At K s mu G0 H0 gs (ds.set i (.dat (.int (f a b)))) ms σ' G' H' → tz D σ' H') : tSeq (tAug i te (ipI f)) tz D σ H := s_aug (D := { D with nx := tz D }) A hx h k
/-! ### targets -/
def TgP (K : Fg) (g : TG) (e : Sy.D) (f : List SC → List SC) : Prop := ∀ ds σ G H v (Q : L2.St → Hp → Prop), Sl K G σ ds → Same G H → Is K G v e → (∀ σ', Sl K G σ' (f ds) → Q σ' H) → g v σ H Q
theorem tg_name {i : Nat} {e : Sy.D} : TgP K (gName i) e (fun ds => ds.set i (.dat e)) := fun ds σ G H v Q hs eh hv k => k _ (pset (show SlP K G (some v) (.dat e) from CP.dat hv) i hs)
def gNms : List Nat → TGs
  | [] => gNil
  | i :: r => gCons (gName i) (gNms r)
def setAll : List SC → List Nat → List Sy.D → List SC
  | ds, i :: is, d :: dl => setAll (ds.set i (.dat d)) is dl
  | ds, _, _ => ds
theorem tg_tup {n : Nat} (is : List Nat) {dl : List Sy.D} (hn : dl.length = n) (hi : is.length = n) : TgP K (gTup K n (gNms is)) (.tuple dl) (fun ds => setAll ds is dl) := fun ds σ G H v Q hs e hv k => by
  cases hv with
  | @tup a xs _ ht ha =>
    refine ⟨a, xs, rfl, same_t e ht, ha.length.trans hn, ?_⟩
    clear ht e
    induction is generalizing ds σ xs dl n with
    | nil =>
      cases dl with
      | nil => cases ha; exact ⟨rfl, k _ hs⟩
      | cons d r => simp at hn hi; omega
    | cons i r ih =>
      cases dl with
      | nil => simp at hn hi; omega
      | cons d dr =>
        cases ha with
        | @cons v vs _ _ h1 h2 =>
          refine ⟨v, vs, rfl, ?_⟩
          exact ih (n := n - 1) (by simp at hn; omega) (by simp at hi; omega) (ds.set i (.dat d)) (σ.set i (some v)) (pset (show SlP K G (some v) (.dat d) from CP.dat h1) i hs) k h2
theorem At.tgt {e : Sy.D} {f : List SC → List SC} {v : V} {Q : L2.St → Hp → Prop} (A : At K s mu G0 H0 gs ds ms σ G H) (hg : TgP K g e f) (hv : Is K G v e) (k : ∀ σ', At K s mu G0 H0 gs (f ds) ms σ' G H → Q σ' H) : g v σ H Q :=
  hg ds σ G H v Q A.kn.sl A.kn.gh hv fun σ' hs => k σ' ⟨⟨A.kn.gh, hs, A.kn.mo, A.kn.nd, A.kn.vo, A.kn.vg⟩, A.sp, A.sm, A.ke⟩
/-- a, b, .. = e -/
theorem s_unp {f : List SC → List SC} (A : At K s mu G0 H0 gs ds ms σ G H) (h : EvD K s te ds ms d) (hg : TgP K g d f) (k : ∀ σ' G' H', At K s mu G0 H0 gs (f ds) ms σ' G' H' → D.nx σ' H') : tAsg te g D σ H :=
  h σ G H A.kn _ fun v G1 H1 a o x => (A.step a o).tgt hg x.is fun σ' A' => k σ' G1 H1 A'
theorem q_unp {f : List SC → List SC} (A : At K s mu G0 H0 gs ds ms σ G H) (h : EvD K s te ds ms d) (hg : TgP K g d f) (k : ∀ σ' G' H', At K s mu G0 H0 gs (f ds) ms σ' G' H' → tz D σ' H') : tSeq (tAsg te g) tz D σ H := s_unp (D := { D with nx := tz D }) A h hg k
theorem q_unpR {Φ : Sy.D → Prop} {f : Sy.D → List SC → List SC} (A : At K s mu G0 H0 gs ds ms σ G H) (h : EvR K s te ds ms Φ) (hg : ∀ d, Φ d → TgP K g d (f d)) (k : ∀ d σ' G' H', Φ d → At K s mu G0 H0 gs (f d ds) ms σ' G' H' → tz D σ' H') : tSeq (tAsg te g) tz D σ H :=
  h σ G H A.kn _ fun v G1 H1 d a o x p => (A.step a o).tgt (hg d p) x fun σ' A' => k d σ' G1 H1 p A'
/-! ### what is walked -/
def ItD (K : Fg) (s : Option Addr) (wi : TI) (ds : List SC) (ms : List (Addr × MO)) (es : List Sy.D) (C : List (Addr × MO) → Prop) : Prop :=
  ∀ σ G H, Kn K s ds ms σ G H → ∀ R : It → Hp → Prop, (∀ J G1 H1, Stp (isS s) G H G1 H1 → StOk s H1 →
    (∀ i ds' ms' σ' G' H', Kn K s ds' ms' σ' G' H' → Same G1 G' → C ms' → (es.length ≤ i → J.stop i H') ∧ (i < es.length → J.go i H' ∧ ∀ x H'', J.yld i H' x H'' → H'' = H' ∧ ∃ e, es[i]? = some e ∧ Is K G' x e)) → R J H1) → wi σ H R
theorem it_list {es : List Sy.D} (h : EvD K s tl ds ms (.list es)) : ItD K s (iList K tl) ds ms es (fun _ => True) := fun σ G H k R q =>
  h σ G H k _ fun v G1 H1 a o x => by
    have x1 := x.is
    cases x1 with
    | @lst p xs _ hp ha =>
      refine ⟨p, rfl, ⟨xs, SqL.of (a.gh _ _ hp)⟩, q _ G1 H1 a o fun i ds' ms' σ' G' H' k' e _ => ?_⟩
      have hp' : SqL K H' p xs := SqL.of (k'.gh _ _ (e _ _ hp))
      have hl := ha.length
      refine ⟨fun hi => ⟨xs, hp', by omega⟩, fun hi => ?_⟩
      obtain ⟨v, e1, h1⟩ := ha.get (List.getElem?_eq_getElem hi)
      refine ⟨⟨xs, v, hp', e1⟩, fun y H'' hy => ⟨hy.1, _, List.getElem?_eq_getElem hi, ?_⟩⟩
      have e2 := hy.2 xs hp'
      rw [e1] at e2
      cases e2
      exact h1.mono e
/-- over a known list that may change, but does not -/
theorem it_known {p : Addr} {es : List Sy.D} (h : EvC K s tl ds ms (.ref p)) (hm : (p, MO.lst es) ∈ ms) : ItD K s (iList K tl) ds ms es (fun ms' => (p, MO.lst es) ∈ ms') := fun σ G H k R q =>
  h σ G H k _ fun v G1 H1 a o x => by
    cases x.ref
    obtain ⟨xs, e0, h0⟩ := (k.step a o).get hm
    refine ⟨p, rfl, ⟨xs, SqL.of e0⟩, q _ G1 H1 a o fun i ds' ms' σ' G' H' k' e hC => ?_⟩
    obtain ⟨xs, e1, ha⟩ := k'.get hC
    have hp' : SqL K H' p xs := SqL.of e1
    have hl := ha.length
    refine ⟨fun hi => ⟨xs, hp', by omega⟩, fun hi => ?_⟩
    obtain ⟨v, e1, h1⟩ := ha.get (List.getElem?_eq_getElem hi)
    refine ⟨⟨xs, v, hp', e1⟩, fun y H'' hy => ⟨hy.1, _, List.getElem?_eq_getElem hi, ?_⟩⟩
    have e2 := hy.2 xs hp'
    rw [e1] at e2
    cases e2
    exact h1
def rngD (lo : Int) (n : Nat) : List Sy.D := (List.range n).map fun i => .int (lo + (i : Nat))
theorem rngD_len (lo : Int) (n : Nat) : (rngD lo n).length = n := by simp [rngD]
theorem rngD_get {lo : Int} {n i : Nat} {e : Sy.D} (h : (rngD lo n)[i]? = some e) : i < n ∧ e = .int (lo + (i : Nat)) := by
  unfold rngD at h
  rw [List.getElem?_map] at h
  by_cases hi : i < n
  · rw [List.getElem?_range hi] at h
    exact ⟨hi, (Option.some.inj h).symm⟩
  · rw [List.getElem?_eq_none (by simpa using hi)] at h
    cases h
theorem rngD_at {lo : Int} {n i : Nat} (hi : i < n) : (rngD lo n)[i]? = some (.int (lo + (i : Nat))) := by
  unfold rngD
  rw [List.getElem?_map, List.getElem?_range hi] <;> rfl
theorem it_rng1 {ta : TA} {j : Int} (h : EvL K s ta ds ms [.int j]) (h0 : 0 ≤ j) (h1 : j < 2 ^ 62) : ItD K s (iRng1 ta) ds ms (rngD 0 j.toNat) (fun _ => True) := fun σ G H k R q =>
  h σ G H k _ fun vs G1 H1 a o x => by
    cases x with
    | cons x1 x2 =>
      cases x1
      cases x2
      refine ⟨j, rfl, Int.le_trans (by decide) h0, h1, q _ G1 H1 a o fun i ds' ms' σ' G' H' k' e _ => ?_⟩
      rw [rngD_len]
      exact ⟨fun hi => hi, fun hi => ⟨hi, fun y H'' hy => ⟨hy.1, _, rngD_at hi, by rw [hy.2]; exact .int _⟩⟩⟩
theorem it_rng2 {ta : TA} {l j : Int} (h : EvL K s ta ds ms [.int l, .int j]) (h0 : 0 ≤ l ∧ l < 2 ^ 62 ∧ 0 ≤ j ∧ j < 2 ^ 62) : ItD K s (iRng2 ta) ds ms (rngD l (j - l).toNat) (fun _ => True) := fun σ G H k R q =>
  h σ G H k _ fun vs G1 H1 a o x => by
    cases x with
    | cons x1 x2 =>
      cases x1
      cases x2 with
      | cons x2 x3 =>
        cases x2
        cases x3
        refine ⟨l, j, rfl, ⟨Int.le_trans (by decide) h0.1, h0.2.1, Int.le_trans (by decide) h0.2.2.1, h0.2.2.2⟩, q _ G1 H1 a o fun i ds' ms' σ' G' H' k' e _ => ?_⟩
        rw [rngD_len]
        exact ⟨fun hi => hi, fun hi => ⟨hi, fun y H'' hy => ⟨hy.1, _, rngD_at hi, by rw [hy.2]; exact .int _⟩⟩⟩
theorem it_str {x : Str} (h : EvD K s te ds ms (.str x)) : ItD K s (iStr te) ds ms (x.cps.toList.map fun c => .str ⟨#[c]⟩) (fun _ => True) := fun σ G H k R q =>
  h σ G H k _ fun vs G1 H1 a o e => by
    cases e.is
    refine ⟨x, rfl, q _ G1 H1 a o fun i ds' ms' σ' G' H' k' e _ => ?_⟩
    rw [List.length_map, Array.length_toList]
    refine ⟨fun hi => hi, fun hi => ⟨hi, fun y H'' hy => ?_⟩⟩
    obtain ⟨e1, ch, e2, rfl⟩ := hy
    refine ⟨e1, .str ⟨#[ch]⟩, ?_, .str _⟩
    rw [List.getElem?_map, Array.getElem?_toList, e2] <;> rfl
/-! ### loops -/
theorem s_for {wi : TI} {es : List Sy.D} {C : List (Addr × MO) → Prop} {f : Sy.D → List SC → List SC} (A : At K s mu G0 H0 gs ds ms σ G H) (hw : ItD K s wi ds ms es C) (hg : ∀ (i : Nat) (e : Sy.D), es[i]? = some e → TgP K g e (f e)) (J : Nat → List SC → List (Addr × MO) → Prop) (h0 : J 0 ds ms) (hC : ∀ i ds' ms', i ≤ es.length → J i ds' ms' → C ms')
    (hs : ∀ gs' i e ds' ms' σ' G' H' (L : L2.St → Hp → Prop), es[i]? = some e → J i ds' ms' → At K s mu G0 H0 gs' (f e ds') ms' σ' G' H' → (∀ ds2 ms2 σ2 G2 H2, J (i + 1) ds2 ms2 → At K s mu G0 H0 gs' ds2 ms2 σ2 G2 H2 → L σ2 H2) → t { D with nx := L, ct := L, bk := D.nx } σ' H')
    (hd : ∀ ds' ms' σ' G' H', J es.length ds' ms' → At K s mu G0 H0 gs ds' ms' σ' G' H' → D.nx σ' H') : tFor wi g t D σ H := by
  refine hw σ G H A.kn _ fun Jt G1 H1 a o turn => ?_
  have A1 := (A.step a o).pin
  refine ⟨fun i m σ' H' => m = es.length - i ∧ i ≤ es.length ∧ ∃ ds' ms' G', At K s mu G0 H0 (G1 :: gs) ds' ms' σ' G' H' ∧ J i ds' ms', ⟨es.length, by simp, Nat.zero_le _, ds, ms, G1, A1, h0⟩, ?_⟩
  rintro i m σ' H' ⟨rfl, hi, ds', ms', G', A', j⟩
  have kG : Same G1 G' := A'.ke G1 (List.mem_cons_self)
  obtain ⟨t1, t2⟩ := turn i ds' ms' σ' G' H' A'.kn kG (hC i ds' ms' hi j)
  by_cases hlt : i < es.length
  · obtain ⟨go, y⟩ := t2 hlt
    refine .inr ⟨go, fun σ2 H2 => ∃ ds2 ms2 G2, At K s mu G0 H0 (G1 :: gs) ds2 ms2 σ2 G2 H2 ∧ J (i + 1) ds2 ms2, ?_, fun x H'' hy => ?_⟩
    · rintro σ2 H2 ⟨ds2, ms2, G2, A2, j2⟩
      exact ⟨es.length - (i + 1), by omega, rfl, hlt, ds2, ms2, G2, A2, j2⟩
    · obtain ⟨rfl, e, he, hx⟩ := y x H'' hy
      exact A'.tgt (hg i e he) hx fun σ2 A2 => hs (G1 :: gs) i e ds' ms' σ2 G' H'' _ he j A2 fun ds3 ms3 σ3 G3 H3 j3 A3 => ⟨ds3, ms3, G3, A3, j3⟩
  · have e : i = es.length := by omega
    subst e
    exact .inl ⟨t1 (Nat.le_refl _), hd ds' ms' σ' G' H' j A'.unpin⟩
theorem q_for {wi : TI} {es : List Sy.D} {C : List (Addr × MO) → Prop} {f : Sy.D → List SC → List SC} (A : At K s mu G0 H0 gs ds ms σ G H) (hw : ItD K s wi ds ms es C) (hg : ∀ (i : Nat) (e : Sy.D), es[i]? = some e → TgP K g e (f e)) (J : Nat → List SC → List (Addr × MO) → Prop) (h0 : J 0 ds ms) (hC : ∀ i ds' ms', i ≤ es.length → J i ds' ms' → C ms')
    (hs : ∀ gs' i e ds' ms' σ' G' H' (L : L2.St → Hp → Prop), es[i]? = some e → J i ds' ms' → At K s mu G0 H0 gs' (f e ds') ms' σ' G' H' → (∀ ds2 ms2 σ2 G2 H2, J (i + 1) ds2 ms2 → At K s mu G0 H0 gs' ds2 ms2 σ2 G2 H2 → L σ2 H2) → t { D with nx := L, ct := L, bk := tz D } σ' H')
    (hd : ∀ ds' ms' σ' G' H', J es.length ds' ms' → At K s mu G0 H0 gs ds' ms' σ' G' H' → tz D σ' H') : tSeq (tFor wi g t) tz D σ H := s_for (D := { D with nx := tz D }) A hw hg J h0 hC hs hd
theorem s_while (A : At K s mu G0 H0 gs ds ms σ G H) (J : Nat → List SC → List (Addr × MO) → Prop) (m0 : Nat) (h0 : J m0 ds ms)
    (hs : ∀ m ds' ms' σ' G' H', J m ds' ms' → At K s mu G0 H0 gs ds' ms' σ' G' H' → ∃ b, EvT K s tt ds' ms' b ∧
      (b = true → ∀ G2 H2 (L : L2.St → Hp → Prop), At K s mu G0 H0 gs ds' ms' σ' G2 H2 → (∀ m3 ds3 ms3 σ3 G3 H3, m3 < m → J m3 ds3 ms3 → At K s mu G0 H0 gs ds3 ms3 σ3 G3 H3 → L σ3 H3) → t { D with nx := L, ct := L, bk := D.nx } σ' H2) ∧
      (b = false → ∀ G2 H2, At K s mu G0 H0 gs ds' ms' σ' G2 H2 → D.nx σ' H2)) : tWhile tt t D σ H := by
  refine ⟨fun m σ' H' => ∃ ds' ms' G', At K s mu G0 H0 gs ds' ms' σ' G' H' ∧ J m ds' ms', ⟨m0, ds, ms, G, A, h0⟩, ?_⟩
  rintro m σ' H' ⟨ds', ms', G', A', j⟩
  obtain ⟨b, hb, h1, h2⟩ := hs m ds' ms' σ' G' H' j A'
  refine hb σ' G' H' A'.kn _ fun G2 H2 a o => ?_
  have A2 := A'.step a o
  cases b with
  | true =>
    refine iteT ⟨fun σ3 H3 => ∃ m3 ds3 ms3 G3, m3 < m ∧ J m3 ds3 ms3 ∧ At K s mu G0 H0 gs ds3 ms3 σ3 G3 H3, ?_, h1 rfl G2 H2 _ A2 fun m3 ds3 ms3 σ3 G3 H3 hm j3 A3 => ⟨m3, ds3, ms3, G3, hm, j3, A3⟩⟩
    rintro σ3 H3 ⟨m3, ds3, ms3, G3, hm, j3, A3⟩
    exact ⟨m3, hm, ds3, ms3, G3, A3, j3⟩
  | false => exact iteF (h2 rfl G2 H2 A2)
theorem q_while (A : At K s mu G0 H0 gs ds ms σ G H) (J : Nat → List SC → List (Addr × MO) → Prop) (m0 : Nat) (h0 : J m0 ds ms)
    (hs : ∀ m ds' ms' σ' G' H', J m ds' ms' → At K s mu G0 H0 gs ds' ms' σ' G' H' → ∃ b, EvT K s tt ds' ms' b ∧
      (b = true → ∀ G2 H2 (L : L2.St → Hp → Prop), At K s mu G0 H0 gs ds' ms' σ' G2 H2 → (∀ m3 ds3 ms3 σ3 G3 H3, m3 < m → J m3 ds3 ms3 → At K s mu G0 H0 gs ds3 ms3 σ3 G3 H3 → L σ3 H3) → t { D with nx := L, ct := L, bk := tz D } σ' H2) ∧
      (b = false → ∀ G2 H2, At K s mu G0 H0 gs ds' ms' σ' G2 H2 → tz D σ' H2)) : tSeq (tWhile tt t) tz D σ H := s_while (D := { D with nx := tz D }) A J m0 h0 hs
end
end Sy
/-! Sy: promises, calls, comprehensions, built-ins, lists that change. -/
namespace Sy
open PySem PySem.Spec PyProof.Rows L2

/-! ### names for what built-ins ask -/
def rLen (K : Fg) : List V → Hp → VK → Prop := fun xs H Q => ∃ p ys, xs = [.ref p] ∧ (SqL K H p ys ∨ SqT K H p ys) ∧ Q (.int ys.length) H
def rLenS : List V → Hp → VK → Prop := fun xs H Q => ∃ z, xs = [.str z] ∧ z.length ≤ sizeLine ∧ Q (.int z.length) H
def rAbs : List V → Hp → VK → Prop := fun xs H Q => ∃ i, xs = [.int i] ∧ Q (.int (if i < 0 then -i else i)) H
def rMin2 : List V → Hp → VK → Prop := fun xs H Q => ∃ i j, xs = [.int i, .int j] ∧ Q (.int (if j < i then j else i)) H
def rMax2 : List V → Hp → VK → Prop := fun xs H Q => ∃ i j, xs = [.int i, .int j] ∧ Q (.int (if j > i then j else i)) H
def rIntB : List V → Hp → VK → Prop := fun xs H Q => (∃ i, xs = [.int i] ∧ Q (.int i) H) ∨ ∃ k, xs = [.bl k] ∧ Q (.int (if k then 1 else 0)) H
def rListOf (K : Fg) : List V → Hp → VK → Prop := fun xs H Q => ∃ p ys, xs = [.ref p] ∧ (SqL K H p ys ∨ SqT K H p ys) ∧ ∀ l, H l = none → Q (.ref l) (upd H l (.lst ys))
def rNotSign : R2 := fun x y H Q => ∃ (c : Nat) (z : Str), x = .str ⟨#[c]⟩ ∧ y = .str z ∧ Q (.bl (!decide (c ∈ z.cps.toList))) H
/-! ### promises over data -/
def SpD (K : Fg) {α : Type} (enc : α → List D) (pre : α → Prop) (post : α → D → Prop) : Sp := fun vs H Q _ => ∃ (a : α) (G : Hp), Same G H ∧ IsA K G vs (enc a) ∧ pre a ∧
  ∀ v G' H' d, Stp mu0 G H G' H' → Is K G' v d → post a d → Q v H'
/-- .. the first argument being the drawing state -/
def SpS (K : Fg) {α : Type} (enc : α → List D) (pre : α → Prop) (post : α → D → Prop) : Sp := fun vs H Q _ => ∃ (a : α) (G : Hp) (sa : Addr) (vr : List V), vs = .ref sa :: vr ∧ Same G H ∧ G sa = none ∧ StAt H sa ∧ IsA K G vr (enc a) ∧ pre a ∧
  ∀ v G' H' d, Stp (isS (some sa)) G H G' H' → StAt H' sa → Is K G' v d → post a d → Q v H'
theorem sl_start {K : Fg} {G : Hp} : ∀ {vs : List V} {dl : List D} (m : Nat), IsA K G vs dl → Sl K G (vs.map some ++ List.replicate m none) (dl.map .dat ++ List.replicate m .no)
  | [], _, m, h => by
    cases h
    induction m with
    | zero => exact .nil
    | succ m ih => exact .cons True.intro ih
  | v :: vs, _, m, h => by
    cases h with
    | cons h t => exact .cons ⟨v, rfl, h⟩ (sl_start m t)
theorem kn_nil {K : Fg} {ds : List SC} {σ : L2.St} {G H : Hp} (gh : Same G H) (sl : Sl K G σ ds) : Kn K none ds [] σ G H where
  gh := gh
  sl := sl
  mo := fun p h => absurd h (by simp)
  nd := List.nodup_nil
  vo := fun a e => absurd e (by simp)
  vg := fun a e => absurd e (by simp)
theorem at_nil {K : Fg} {ds : List SC} {σ : L2.St} {G H : Hp} (gh : Same G H) (sl : Sl K G σ ds) : At K none mu0 G H [] ds [] σ G H where
  kn := kn_nil gh sl
  sp := .refl gh
  sm := fun a e => absurd (show (none : Option Addr) = some a from e) (by simp)
  ke := fun p h => absurd h (by simp)
theorem at_start {K : Fg} {N : List Str} {G H : Hp} {vs : List V} {dl : List D} {ds : List SC} (hg : Same G H) (h : IsA K G vs dl) (hds : ds = dl.map .dat ++ List.replicate (N.length - dl.length) .no := by rfl) : At K none mu0 G H [] ds [] (L2.start N vs) G H := by
  subst hds
  refine at_nil hg ?_
  unfold L2.start
  rw [h.length]
  exact sl_start _ h
theorem kn_nilS {K : Fg} {ds : List SC} {σ : L2.St} {G H : Hp} {sa : Addr} (gh : Same G H) (sl : Sl K G σ ds) (hsa : G sa = none) (hst : StAt H sa) : Kn K (some sa) ds [] σ G H where
  gh := gh
  sl := sl
  mo := fun p h => absurd h (by simp)
  nd := List.nodup_nil
  vo := fun a e => by
    cases e
    exact hst
  vg := fun a e => by
    cases e
    exact hsa
theorem at_startS {K : Fg} {N : List Str} {G H : Hp} {sa : Addr} {vr : List V} {dl : List D} {ds : List SC} (hg : Same G H) (hsa : G sa = none) (hst : StAt H sa) (h : IsA K G vr dl) (hds : ds = .ref sa :: (dl.map .dat ++ List.replicate (N.length - (dl.length + 1)) .no) := by rfl) : At K (some sa) (isS (some sa)) G H [] ds [] (L2.start N (.ref sa :: vr)) G H := by
  subst hds
  refine ⟨kn_nilS hg ?_ hsa hst, .refl hg, fun a e => .inl e, fun p h => absurd h (by simp)⟩
  unfold L2.start
  rw [List.length_cons, h.length]
  exact .cons rfl (sl_start _ h)

section
variable {K : Fg} {s : Option Addr} {mu : Addr → Prop} {G0 H0 G H G' H' : Hp} {gs : List Hp} {ds : List SC} {ms : List (Addr × MO)} {σ : L2.St} {D : Ends} {te ta tb tl to : TE} {tt : TT} {tr : TA} {t u tz tu tw : TS} {c : SC} {d : Sy.D} {g : TG} {E : XK}
variable {α : Type} {enc : α → List Sy.D} {pre : α → Prop} {post : α → Sy.D → Prop}
/-! ### calls -/
theorem evr_call {a : α} (h : EvL K s tr ds ms (enc a)) (hp : pre a) : EvR K s (tCall (SpD K enc pre post) [] E tr) ds ms (post a) := fun σ G H k Q q =>
  h σ G H k _ fun vs G1 H1 a1 o1 x1 => by
    refine ⟨a, G1, a1.gh, by rw [List.append_nil]; exact x1, hp, fun v G2 H2 d a2 x2 p2 => q v G2 H2 d (a1.trans a2.of0) ((k.step a1 o1).stO a2) x2 p2⟩
theorem evd_call {a : α} (h : EvL K s tr ds ms (enc a)) (hp : pre a) (e : ∀ x, post a x → x = d) : EvD K s (tCall (SpD K enc pre post) [] E tr) ds ms d := fun σ G H k Q q =>
  evr_call (post := post) h hp σ G H k Q fun v G' H' d' a o x p => q v G' H' a o (.dat (e d' p ▸ x))
theorem evr_callR {Φ : List Sy.D → Prop} (h : EvLR K s tr ds ms Φ) (hp : ∀ dl, Φ dl → ∃ a, dl = enc a ∧ pre a) : EvR K s (tCall (SpD K enc pre post) [] E tr) ds ms (fun d => ∃ a, Φ (enc a) ∧ post a d) := fun σ G H k Q q =>
  h σ G H k _ fun vs G1 H1 dl a1 o1 x1 p1 => by
    obtain ⟨a, e, hp⟩ := hp dl p1
    subst e
    refine ⟨a, G1, a1.gh, by rw [List.append_nil]; exact x1, hp, fun v G2 H2 d a2 x2 p2 => q v G2 H2 d (a1.trans a2.of0) ((k.step a1 o1).stO a2) x2 ⟨a, p1, p2⟩⟩
theorem evr_callS {sa : Addr} {t0 : TE} {a : α} (h0 : EvC K (some sa) t0 ds ms (.ref sa)) (h : EvL K (some sa) tr ds ms (enc a)) (hp : pre a) : EvR K (some sa) (tCall (SpS K enc pre post) [] E (tCons t0 tr)) ds ms (post a) := fun σ G H k Q q =>
  h0 σ G H k _ fun v0 G1 H1 a1 o1 x1 => h σ G1 H1 (k.step a1 o1) _ fun vs G2 H2 a2 o2 x2 => by
    have k2 := (k.step a1 o1).step a2 o2
    cases x1.ref
    refine ⟨a, G2, sa, vs, by rw [List.append_nil], a2.gh, k2.vg sa rfl, k2.vo sa rfl, x2, hp, fun v G3 H3 d a3 s3 x3 p3 => q v G3 H3 d ((a1.trans a2).trans a3) (fun b e => ?_) x3 p3⟩
    cases e
    exact s3
theorem evr_callSR {sa : Addr} {t0 : TE} {Φ : List Sy.D → Prop} (h0 : EvC K (some sa) t0 ds ms (.ref sa)) (h : EvLR K (some sa) tr ds ms Φ) (hp : ∀ dl, Φ dl → ∃ a, dl = enc a ∧ pre a) : EvR K (some sa) (tCall (SpS K enc pre post) [] E (tCons t0 tr)) ds ms (fun d => ∃ a, Φ (enc a) ∧ post a d) := fun σ G H k Q q =>
  h0 σ G H k _ fun v0 G1 H1 a1 o1 x1 => h σ G1 H1 (k.step a1 o1) _ fun vs G2 H2 dl a2 o2 x2 p2 => by
    have k2 := (k.step a1 o1).step a2 o2
    cases x1.ref
    obtain ⟨a, e, hp⟩ := hp dl p2
    subst e
    refine ⟨a, G2, sa, vs, by rw [List.append_nil], a2.gh, k2.vg sa rfl, k2.vo sa rfl, x2, hp, fun v G3 H3 d a3 s3 x3 p3 => q v G3 H3 d ((a1.trans a2).trans a3) (fun b e => ?_) x3 ⟨a, p2, p3⟩⟩
    cases e
    exact s3
/-! ### a new list that may change -/
def EvN (K : Fg) (s : Option Addr) (te : TE) (ds : List SC) (ms : List (Addr × MO)) (Φ : List Sy.D → Prop) : Prop :=
  ∀ σ G H, Kn K s ds ms σ G H → ∀ Q : VK, (∀ p G' H' vs dl, Stp (isS s) G H G' H' → StOk s H' → H p = none → G' p = none → H' p = some (.lst vs) → IsA K G' vs dl → Φ dl → Q (.ref p) H') → te σ H Q
theorem Stp.frz {mu : Addr → Prop} {G H G' H' : Hp} {p : Addr} {o : HO} (a : Stp mu G H G' H') (hp : H p = none) (gp : G' p = none) (e : H' p = some o) : Stp mu G H (upd G' p o) H' ∧ Same G' (upd G' p o) := by
  have sm : Same G' (upd G' p o) := fun b u h => by
    rw [upd_ne (ne_of_none h gp)]
    exact h
  refine ⟨⟨a.gg.trans sm, fun b u h => ?_, a.hh, fun b h n => ?_, a.st⟩, sm⟩
  · by_cases z : b = p
    · subst z
      rw [upd_same] at h
      exact e.trans h
    · rw [upd_ne z] at h
      exact a.gh b u h
  · have ne : b ≠ p := fun z => by
      subst z
      exact n hp
    rw [upd_ne ne]
    exact a.nw b h n
theorem EvN.r {Φ : List Sy.D → Prop} (h : EvN K s te ds ms Φ) : EvR K s te ds ms (fun d => ∃ dl, d = .list dl ∧ Φ dl) := fun σ G H k Q q =>
  h σ G H k Q fun p G' H' vs dl a o hp gp e x px => by
    obtain ⟨a2, sm⟩ := a.frz hp gp e
    exact q _ _ H' _ a2 o (.lst upd_same (x.mono sm)) ⟨dl, rfl, px⟩
theorem EvN.dat {dl : List Sy.D} (h : EvN K s te ds ms (fun l => l = dl)) : EvD K s te ds ms (.list dl) := fun σ G H k Q q =>
  h.r σ G H k Q fun v G' H' d a o x ⟨l, e1, e2⟩ => by
    subst e1
    subst e2
    exact q v G' H' a o (.dat x)
theorem EvN.imp {Φ Ψ : List Sy.D → Prop} (h : EvN K s te ds ms Φ) (f : ∀ d, Φ d → Ψ d) : EvN K s te ds ms Ψ := fun σ G H k Q q => h σ G H k Q fun p G' H' vs dl a o hp gp e x px => q p G' H' vs dl a o hp gp e x (f dl px)
theorem q_new {i : Nat} {Φ : List Sy.D → Prop} (A : At K s mu G0 H0 gs ds ms σ G H) (h : EvN K s te ds ms Φ) (k : ∀ p dl σ' G' H', Φ dl → H0 p = none → At K s mu G0 H0 gs (ds.set i (.ref p)) ((p, .lst dl) :: ms) σ' G' H' → tz D σ' H') : tSeq (tAsg te (gName i)) tz D σ H :=
  h σ G H A.kn _ fun p G1 H1 vs dl a o hp gp e x px => by
    have A1 := A.step a o
    have h0 : H0 p = none := by
      cases e0 : H0 p with
      | none => rfl
      | some z => exact absurd hp (A.sp.st p (by rw [e0]; exact fun q => nomatch q))
    have nem : ∀ q ∈ ms, q.1 ≠ p := fun q hq z => by
      obtain ⟨o', e'⟩ := MOk.has (A.kn.mo q hq).1
      rw [z, hp] at e'
      cases e'
    have nes : ¬ isS s p := fun e' => by
      obtain ⟨n, m, b, e1, _⟩ := A.kn.vo p e'
      rw [hp] at e1
      cases e1
    refine k p dl _ G1 H1 px h0 (At.slot ⟨⟨A1.kn.gh, A1.kn.sl, fun q hq => ?_, ?_, A1.kn.vo, A1.kn.vg⟩, A1.sp, A1.sm, A1.ke⟩ rfl)
    · rcases List.mem_cons.mp hq with rfl | hq
      · exact ⟨⟨vs, e, x⟩, gp, nes⟩
      · exact A1.kn.mo q hq
    · rw [List.map_cons]
      refine List.nodup_cons.mpr ⟨fun hm' => ?_, A.kn.nd⟩
      obtain ⟨q, hq, e⟩ := List.mem_map.mp hm'
      exact nem q hq e
theorem en_lst {dl : List Sy.D} (h : EvL K s tr ds ms dl) (hz : dl.length ≤ 1000 := by exact Nat.le_of_ble_eq_true rfl) : EvN K s (tLst tr) ds ms (fun l => l = dl) := fun σ G H k Q q =>
  h σ G H k _ fun vs G1 H1 a1 o1 x1 => by
    have hz1 := x1.length
    refine ⟨Nat.le_of_lt (small1000 (by omega)), fun p hp => ?_⟩
    have a2 : Stp mu0 G1 H1 _ _ := Stp.new (o := .lst vs) a1.gh hp
    have g1 : G1 p = none := Same.free a1.gh hp
    have hp0 : H p = none := by
      cases e : H p with
      | none => rfl
      | some z => exact absurd hp (a1.st p (by rw [e]; exact fun q => nomatch q))
    refine q p G1 _ vs dl ⟨a1.gg, fun b u h => ?_, fun b u n h => ?_, a1.nw, fun b n => a2.st b (a1.st b n)⟩ ((k.step a1 o1).stO a2) hp0 g1 upd_same x1 rfl
    · rw [upd_ne (ne_of_none h g1)]
      exact a1.gh b u h
    · exact a2.hh b u (fun z => z) (a1.hh b u n h)
theorem en_listof {dl : List Sy.D} (h : EvD K s te ds ms (.list dl)) : EvN K s (tCB (rListOf K) (tCons te tNil)) ds ms (fun l => l = dl) := fun σ G H k Q q =>
  h σ G H k _ fun v G1 H1 a1 o1 x1 => by
    have x1 := x1.is
    cases x1 with
    | @lst b vs _ hb x1 =>
      refine ⟨b, vs, rfl, .inl (SqL.of (a1.gh _ _ hb)), fun p hp => ?_⟩
      have a2 : Stp mu0 G1 H1 _ _ := Stp.new (o := .lst vs) a1.gh hp
      have g1 : G1 p = none := Same.free a1.gh hp
      have hp0 : H p = none := by
        cases e : H p with
        | none => rfl
        | some z => exact absurd hp (a1.st p (by rw [e]; exact fun q => nomatch q))
      refine q p G1 _ vs dl ⟨a1.gg, fun b u h => ?_, fun b u n h => ?_, a1.nw, fun b n => a2.st b (a1.st b n)⟩ ((k.step a1 o1).stO a2) hp0 g1 upd_same x1 rfl
      · rw [upd_ne (ne_of_none h g1)]
        exact a1.gh b u h
      · exact a2.hh b u (fun z => z) (a1.hh b u n h)
/-! ### comprehensions -/
theorem wipe_len (σ : L2.St) : ∀ vs : List Nat, (wipe σ vs).length = σ.length := wipe_length σ
theorem wipe_at {σ : L2.St} {i : Nat} : ∀ vs : List Nat, (wipe σ vs)[i]? = if i ∈ vs then σ[i]?.map (fun _ => none) else σ[i]?
  | [] => by simp [wipe]
  | v :: vs => by
    unfold wipe
    by_cases h : v = i
    · subst h
      rw [if_pos (List.mem_cons_self)]
      by_cases hl : v < σ.length
      · rw [List.getElem?_set_self (by rw [wipe_length]; exact hl), List.getElem?_eq_getElem hl] <;> rfl
      · rw [List.getElem?_eq_none (by rw [List.length_set, wipe_length]; omega), List.getElem?_eq_none (by omega)] <;> rfl
    · rw [List.getElem?_set_ne h, wipe_at vs]
      by_cases h2 : i ∈ vs
      · rw [if_pos h2, if_pos (List.mem_cons_of_mem _ h2)]
      · rw [if_neg h2, if_neg (fun z => (List.mem_cons.mp z).elim (fun e => h e.symm) h2)]
theorem wipe_idem (σ : L2.St) (vs : List Nat) : wipe (wipe σ vs) vs = wipe σ vs := by
  refine List.ext_getElem? fun i => ?_
  rw [wipe_at, wipe_at]
  by_cases h : i ∈ vs
  · simp only [if_pos h]
    cases σ[i]? <;> rfl
  · simp only [if_neg h]
theorem wipe_set {σ : L2.St} {vs : List Nat} {j : Nat} {x : Option V} (h : j ∈ vs) : wipe (σ.set j x) vs = wipe σ vs := by
  refine List.ext_getElem? fun i => ?_
  rw [wipe_at, wipe_at]
  by_cases hi : i ∈ vs
  · simp only [if_pos hi]
    by_cases hj : j = i
    · subst hj
      by_cases hl : j < σ.length
      · rw [List.getElem?_set_self hl, List.getElem?_eq_getElem hl] <;> rfl
      · rw [List.getElem?_eq_none (by rw [List.length_set]; omega), List.getElem?_eq_none (by omega)]
    · rw [List.getElem?_set_ne hj]
  · simp only [if_neg hi]
    have hj : j ≠ i := fun z => hi (z ▸ h)
    rw [List.getElem?_set_ne hj]
def wipeD (ds : List SC) : List Nat → List SC
  | [] => ds
  | v :: vs => (wipeD ds vs).set v .no
theorem Sl.wipe {K : Fg} {G : Hp} {σ : L2.St} {ds : List SC} (h : Sl K G σ ds) : ∀ vs : List Nat, Sl K G (L2.wipe σ vs) (wipeD ds vs)
  | [] => h
  | v :: vs => pset (show SlP K G none .no from True.intro) v (Sl.wipe h vs)
def TgW (K : Fg) (g : TG) (e : Sy.D) (f : List SC → List SC) (vs : List Nat) : Prop := ∀ ds σ G H v (Q : L2.St → Hp → Prop), Sl K G σ ds → Same G H → Is K G v e → (∀ σ', Sl K G σ' (f ds) → wipe σ' vs = wipe σ vs → Q σ' H) → g v σ H Q
theorem tw_name {i : Nat} {e : Sy.D} : TgW K (gName i) e (fun ds => ds.set i (.dat e)) [i] := fun ds σ G H v Q hs eh hv k => k _ (pset (show SlP K G (some v) (.dat e) from CP.dat hv) i hs) (wipe_set (List.mem_singleton.mpr rfl))
theorem tw_two {i j : Nat} {x y : Sy.D} : TgW K (gTup K 2 (gNms [i, j])) (.tuple [x, y]) (fun ds => (ds.set i (.dat x)).set j (.dat y)) [i, j] := fun ds σ G H v Q hs e hv k => by
  cases hv with
  | @tup a xs _ ht ha =>
    refine ⟨a, xs, rfl, same_t e ht, ha.length, ?_⟩
    cases ha with
    | @cons v1 r1 _ _ h1 h2 =>
      cases h2 with
      | @cons v2 r2 _ _ h2 h3 =>
        cases h3
        refine ⟨v1, _, rfl, v2, _, rfl, rfl, k _ (pset (show SlP K G (some v2) (.dat y) from CP.dat h2) j (pset (show SlP K G (some v1) (.dat x) from CP.dat h1) i hs)) ?_⟩
        rw [wipe_set (by simp), wipe_set (by simp)]
theorem filter_take {β : Type} (p : β → Bool) {l : List β} {i : Nat} {e : β} (h : l[i]? = some e) : (l.take (i + 1)).filter p = (l.take i).filter p ++ (if p e then [e] else []) := by
  rw [List.take_add_one, h, List.filter_append]
  show _ ++ List.filter p [e] = _
  rw [List.filter_cons]
  rfl
theorem psnoc {α β : Type} {F : α → β → Prop} {a : α} {b : β} : ∀ {xs : List α} {ys : List β}, Paired F xs ys → F a b → Paired F (xs ++ [a]) (ys ++ [b])
  | _, _, .nil, h => .cons h .nil
  | _, _, .cons r t, h => .cons r (psnoc t h)
theorem en_lc {wi : TI} {vs : List Nat} {es : List Sy.D} {C : List (Addr × MO) → Prop} {f : Sy.D → List SC → List SC} {p : Sy.D → Bool} {Φ : Sy.D → Sy.D → Prop} (hw : ItD K s wi ds ms es C) (hC : C ms) (hg : ∀ (i : Nat) (e : Sy.D), es[i]? = some e → TgW K g e (f e) vs)
    (ht : ∀ (i : Nat) (e : Sy.D), es[i]? = some e → EvT K s tt (f e (wipeD ds vs)) ms (p e)) (he : ∀ (i : Nat) (e : Sy.D), es[i]? = some e → p e = true → EvR K s te (f e (wipeD ds vs)) ms (Φ e)) (hz : es.length ≤ 1000) :
    EvN K s (tLc wi g tt te vs) ds ms (Paired Φ (es.filter p)) := fun σ G H k Q q =>
  hw σ G H k _ fun J G1 H1 a1 o1 turn Dl hD => by
    have k1 := k.step a1 o1
    have g1 : G1 Dl = none := Same.free a1.gh hD
    have hD0 : H Dl = none := by
      cases e : H Dl with
      | none => rfl
      | some z => exact absurd hD (a1.st Dl (by rw [e]; exact fun q => nomatch q))
    have nes : ¬ isS s Dl := fun e' => by
      obtain ⟨n, m, b, e1, _⟩ := k1.vo Dl e'
      rw [hD] at e1
      cases e1
    -- putting at Dl
    have put : ∀ {G' H' : Hp} (o : HO), Stp (isS s) G1 H1 G' H' → StOk s H' → G' Dl = none → Stp (isS s) G1 H1 G' (upd H' Dl o) ∧ StOk s (upd H' Dl o) := fun {G' H'} o a so gd => by
      refine ⟨⟨a.gg, fun b u h => ?_, fun b u n h => ?_, a.nw, fun b n => ?_⟩, fun b e => ?_⟩
      · rw [upd_ne (ne_of_none h gd)]
        exact a.gh b u h
      · rw [upd_ne (ne_of_none h hD)]
        exact a.hh b u n h
      · have ne : b ≠ Dl := fun z => by
          subst z
          exact n hD
        rw [upd_ne ne]
        exact a.st b n
      · obtain ⟨n, m, t, e1, r⟩ := so b e
        refine ⟨n, m, t, ?_, r⟩
        rw [upd_ne (fun z => nes (by rw [← z]; exact e))]
        exact e1
    obtain ⟨b1, b2⟩ := put (.lst []) (.refl k1.gh) o1 g1
    refine ⟨fun i m H' => m = es.length - i ∧ i ≤ es.length ∧ ∃ G' xs dl, Stp (isS s) G1 H1 G' H' ∧ StOk s H' ∧ G' Dl = none ∧ H' Dl = some (.lst xs) ∧ IsA K G' xs dl ∧ Paired Φ ((es.take i).filter p) dl,
      ⟨es.length, by simp, Nat.zero_le _, G1, [], [], b1, b2, g1, upd_same, .nil, .nil⟩, ?_⟩
    rintro i m H' ⟨rfl, hi, G', xs, dl, sp, so, gd, hd, hx, pd⟩
    have k' := k1.step sp so
    obtain ⟨t1, t2⟩ := turn i ds ms σ G' H' k' sp.gg hC
    by_cases hlt : i < es.length
    · obtain ⟨go, y⟩ := t2 hlt
      refine .inr ⟨go, fun H2 => ∃ G2 xs dl, Stp (isS s) G1 H1 G2 H2 ∧ StOk s H2 ∧ G2 Dl = none ∧ H2 Dl = some (.lst xs) ∧ IsA K G2 xs dl ∧ Paired Φ ((es.take (i + 1)).filter p) dl, ?_, fun x H'' hy => ?_⟩
      · intro H2 r
        exact ⟨es.length - (i + 1), by omega, rfl, hlt, r⟩
      · obtain ⟨rfl, e, hee, hxe⟩ := y x H'' hy
        refine hg i e hee (wipeD ds vs) (wipe σ vs) G' H'' x _ (k'.sl.wipe vs) k'.gh hxe fun σ2 hs2 hw2 => ?_
        refine ⟨hw2.trans (wipe_idem σ vs), ?_⟩
        have kb : Kn K s (f e (wipeD ds vs)) ms σ2 G' H'' := ⟨k'.gh, hs2, k'.mo, k'.nd, k'.vo, k'.vg⟩
        refine ht i e hee σ2 G' H'' kb _ fun G3 H3 a3 o3 => ?_
        have hDn : H'' Dl ≠ none := by
          rw [hd]
          exact fun q => nomatch q
        have g3 : G3 Dl = none := a3.nw Dl gd hDn
        have h3 : H3 Dl = some (.lst xs) := a3.hh Dl _ nes hd
        have ft := filter_take p hee
        cases hp : p e with
        | true =>
          refine iteT ?_
          refine he i e hee hp σ2 G3 H3 (kb.step a3 o3) _ fun v G4 H4 d a4 o4 x4 p4 => ?_
          have g4 : G4 Dl = none := a4.nw Dl g3 (by rw [h3]; exact fun q => nomatch q)
          have h4 : H4 Dl = some (.lst xs) := a4.hh Dl _ nes h3
          have hxl := hx.length
          have hpl := Paired.length pd
          have hfl := List.length_filter_le p (es.take i)
          rw [List.length_take] at hfl
          have sp4 := (sp.trans a3).trans a4
          obtain ⟨c1, c2⟩ := put (.lst (xs ++ [v])) sp4 o4 g4
          refine ⟨xs, h4, Nat.lt_of_le_of_lt (show xs.length ≤ 1000 by omega) (by decide), G4, xs ++ [v], dl ++ [d], c1, c2, g4, upd_same, ((hx.mono a3.gg).mono a4.gg).snoc x4, ?_⟩
          rw [ft, hp]
          exact psnoc pd p4
        | false =>
          refine iteF ⟨G3, xs, dl, sp.trans a3, o3, g3, h3, hx.mono a3.gg, ?_⟩
          rw [ft, hp]
          show Paired Φ ((es.take i).filter p ++ []) dl
          rw [List.append_nil]
          exact pd
    · have e : i = es.length := by omega
      subst e
      rw [List.take_length] at pd
      exact .inl ⟨t1 (Nat.le_refl _), q Dl G' H' xs dl (a1.trans sp) so hD0 gd hd hx pd⟩
theorem paired_map {F : Sy.D → Sy.D} : ∀ {es dl : List Sy.D}, Paired (fun e d => d = F e) es dl → dl = es.map F
  | _, _, .nil => rfl
  | _, _, .cons h t => by rw [h, paired_map t] <;> rfl
theorem en_lcD {wi : TI} {vs : List Nat} {es : List Sy.D} {C : List (Addr × MO) → Prop} {f : Sy.D → List SC → List SC} {p : Sy.D → Bool} {F : Sy.D → Sy.D} (hw : ItD K s wi ds ms es C) (hC : C ms) (hg : ∀ (i : Nat) (e : Sy.D), es[i]? = some e → TgW K g e (f e) vs)
    (ht : ∀ (i : Nat) (e : Sy.D), es[i]? = some e → EvT K s tt (f e (wipeD ds vs)) ms (p e)) (he : ∀ (i : Nat) (e : Sy.D), es[i]? = some e → p e = true → EvD K s te (f e (wipeD ds vs)) ms (F e)) (hz : es.length ≤ 1000) :
    EvN K s (tLc wi g tt te vs) ds ms (fun l => l = (es.filter p).map F) :=
  (en_lc hw hC hg ht (fun i e h hp => (he i e h hp).r) hz).imp fun _ => paired_map
/-! ### built-ins -/
theorem ev_lenL {xs : List Sy.D} (h : EvD K s te ds ms (.list xs)) : EvD K s (tCB (rLen K) (tCons te tNil)) ds ms (.int (xs.length : Nat)) := fun σ G H k Q q =>
  h σ G H k _ fun v G1 H1 a1 o1 x1 => by
    have x1 := x1.is
    cases x1 with
    | @lst b vs _ hb x1 =>
      refine ⟨b, vs, rfl, .inl (SqL.of (a1.gh _ _ hb)), q _ G1 H1 a1 o1 ?_⟩
      rw [x1.length]
      exact .dat (.int _)
theorem ev_lenT {xs : List Sy.D} (h : EvD K s te ds ms (.tuple xs)) : EvD K s (tCB (rLen K) (tCons te tNil)) ds ms (.int (xs.length : Nat)) := fun σ G H k Q q =>
  h σ G H k _ fun v G1 H1 a1 o1 x1 => by
    have x1 := x1.is
    cases x1 with
    | @tup b vs _ hb x1 =>
      refine ⟨b, vs, rfl, .inr (same_t a1.gh hb), q _ G1 H1 a1 o1 ?_⟩
      rw [x1.length]
      exact .dat (.int _)
theorem ev_lenM {p : Addr} {xs : List Sy.D} (h : EvC K s te ds ms (.ref p)) (hm : (p, MO.lst xs) ∈ ms) : EvD K s (tCB (rLen K) (tCons te tNil)) ds ms (.int (xs.length : Nat)) := fun σ G H k Q q =>
  h σ G H k _ fun v G1 H1 a1 o1 x1 => by
    cases x1.ref
    obtain ⟨vs, e1, h1⟩ := (k.step a1 o1).get hm
    refine ⟨p, vs, rfl, .inl (SqL.of e1), q _ G1 H1 a1 o1 ?_⟩
    rw [h1.length]
    exact .dat (.int _)
theorem ev_lenS {x : Str} (h : EvD K s te ds ms (.str x)) (hz : x.length ≤ sizeLine) : EvD K s (tCB rLenS (tCons te tNil)) ds ms (.int (x.length : Nat)) := fun σ G H k Q q =>
  h σ G H k _ fun v G1 H1 a1 o1 x1 => by
    cases x1.is
    exact ⟨x, rfl, hz, q _ G1 H1 a1 o1 (.dat (.int _))⟩
theorem ev_abs {i : Int} (h : EvD K s te ds ms (.int i)) : EvD K s (tCB rAbs (tCons te tNil)) ds ms (.int (if i < 0 then -i else i)) := fun σ G H k Q q =>
  h σ G H k _ fun v G1 H1 a1 o1 x1 => by
    cases x1.is
    exact ⟨i, rfl, q _ G1 H1 a1 o1 (.dat (.int _))⟩
theorem ev_min2 {i j : Int} (h : EvD K s ta ds ms (.int i)) (h' : EvD K s tb ds ms (.int j)) : EvD K s (tCB rMin2 (tCons ta (tCons tb tNil))) ds ms (.int (if j < i then j else i)) := fun σ G H k Q q =>
  h σ G H k _ fun v G1 H1 a1 o1 x1 => h' σ G1 H1 (k.step a1 o1) _ fun w G2 H2 a2 o2 x2 => by
    cases x1.is
    cases x2.is
    exact ⟨i, j, rfl, q _ G2 H2 (a1.trans a2) o2 (.dat (.int _))⟩
theorem evr_min2 {Φ : Sy.D → Prop} {j : Int} (h : EvR K s ta ds ms Φ) (h' : EvD K s tb ds ms (.int j)) (hi : ∀ d, Φ d → ∃ i, d = .int i) : EvR K s (tCB rMin2 (tCons ta (tCons tb tNil))) ds ms (fun d => ∃ i, Φ (.int i) ∧ d = .int (if j < i then j else i)) := fun σ G H k Q q =>
  h σ G H k _ fun v G1 H1 d a1 o1 x1 p1 => h' σ G1 H1 (k.step a1 o1) _ fun w G2 H2 a2 o2 x2 => by
    obtain ⟨i, rfl⟩ := hi d p1
    cases x1
    cases x2.is
    exact ⟨i, j, rfl, q _ G2 H2 _ (a1.trans a2) o2 (.int _) ⟨i, p1, rfl⟩⟩
theorem ev_max2 {i j : Int} (h : EvD K s ta ds ms (.int i)) (h' : EvD K s tb ds ms (.int j)) : EvD K s (tCB rMax2 (tCons ta (tCons tb tNil))) ds ms (.int (if j > i then j else i)) := fun σ G H k Q q =>
  h σ G H k _ fun v G1 H1 a1 o1 x1 => h' σ G1 H1 (k.step a1 o1) _ fun w G2 H2 a2 o2 x2 => by
    cases x1.is
    cases x2.is
    exact ⟨i, j, rfl, q _ G2 H2 (a1.trans a2) o2 (.dat (.int _))⟩
theorem ev_intB {b : Bool} (h : EvD K s ta ds ms (.bool b)) : EvD K s (tCB rIntB (tCons ta tNil)) ds ms (.int (if b then 1 else 0)) := fun σ G H k Q q =>
  h σ G H k _ fun v G1 H1 a1 o1 x1 => by
    cases x1.is
    exact .inr ⟨b, rfl, q _ G1 H1 a1 o1 (.dat (.int _))⟩
/-- isinstance(x, T) -/
def tyD : Sy.D → String
  | .none => "NoneType"
  | .bool _ => "bool"
  | .int _ => "int"
  | .str _ => "str"
  | .list _ => "list"
  | .tuple _ => "tuple"
  | .dict _ => "dict"
theorem Is.ty {H : Hp} {v : V} {x : Sy.D} (h : Is K H v x) (hx : noAny x = true) : TyX K H v (.type (tyD x)) := by
  cases h with
  | any v => cases hx
  | scr h => cases hx
  | non => exact .base .non
  | bl b => exact .base (.bl b)
  | int b => exact .base (.int b)
  | str b => exact .base (.str b)
  | lst h ha => exact .base (.lst h)
  | tup h ha =>
    rcases h with (h | ⟨o, h⟩) | ⟨o, its, n, e, c, _⟩
    · exact .base (.tup h)
    · exact .fTuple h
    · exact .kTuple e c
theorem ev_isi {T : String} {x : Sy.D} {b : Bool} (h : EvD K s te ds ms x) (hb : kitB (tyD x) T = some b := by decide +kernel) (hx : noAny x = true := by rfl) : EvD K s (tCB (rIsi K) (tCons te (tCons (tC (.ty T)) tNil))) ds ms (.bool b) := fun σ G H k Q q =>
  h σ G H k _ fun v G1 H1 a1 o1 x1 =>
    ⟨v, .ty T, .type (tyD x), .type T, b, rfl, .ty T, (x1.is.mono a1.gh).ty hx, kit_ty hb, q _ G1 H1 a1 o1 (.dat (.bl b))⟩
theorem evr_sorted {ns : List Int} (h : EvD K s te ds ms (.list (ns.map .int))) (hz : ns.length < 64) : EvR K s (tCB (rSorted K) (tCons te tNil)) ds ms (fun d => ∃ ns' : List Int, d = .list (ns'.map .int) ∧ ns'.Perm ns ∧ ns'.Pairwise (· ≤ ·)) := fun σ G H k Q q =>
  h σ G H k _ fun v G1 H1 a1 o1 x1 => by
    have x1 := x1.is
    cases x1 with
    | @lst b vs _ hb x1 =>
      have e := x1.ints
      subst e
      refine ⟨b, ns, rfl, SqL.of (a1.gh _ _ hb), hz, fun ns' p h1 h2 hp => ?_⟩
      have a4 : Stp mu0 G1 H1 _ _ := Stp.new (o := .lst (ns'.map V.int)) a1.gh hp
      exact q _ _ _ _ (a1.trans a4.of0) ((k.step a1 o1).stO a4) (is_newL (Same.free a1.gh hp) (IsA.ofInts ns')) ⟨ns', rfl, h1, h2⟩
theorem evr_min {ns : List Int} (h : EvD K s te ds ms (.list (ns.map .int))) (hz : 0 < ns.length) : EvR K s (tCB (rMin K) (tCons te tNil)) ds ms (fun d => ∃ m : Int, d = .int m ∧ m ∈ ns ∧ ∀ y ∈ ns, m ≤ y) := fun σ G H k Q q =>
  h σ G H k _ fun v G1 H1 a1 o1 x1 => by
    have x1 := x1.is
    cases x1 with
    | @lst b vs _ hb x1 =>
      have e := x1.ints
      subst e
      exact ⟨b, ns, rfl, SqL.of (a1.gh _ _ hb), hz, fun m h1 h2 => q _ G1 H1 _ a1 o1 (.int m) ⟨m, rfl, h1, h2⟩⟩
/-! ### x in xs, of flat things -/
theorem inV_int (i : Int) (ns : List Int) : inV (.int i) (ns.map V.int) = decide (i ∈ ns) := by
  induction ns with
  | nil => rfl
  | cons n r ih =>
    show (eqV (.int n) (.int i) || inV (.int i) (r.map V.int)) = _
    rw [ih]
    show ((n == i) || decide (i ∈ r)) = _
    by_cases h : i = n
    · subst h
      simp
    · have h' : ¬ n = i := fun z => h z.symm
      simp [h, h']
theorem flat_ints (ns : List Int) : (ns.map V.int).all flatV = true := by
  induction ns with
  | nil => rfl
  | cons n r ih => exact ih
theorem inV_str (i : Str) (ns : List Str) : inV (.str i) (ns.map V.str) = decide (i ∈ ns) := by
  induction ns with
  | nil => rfl
  | cons n r ih =>
    show (eqV (.str n) (.str i) || inV (.str i) (r.map V.str)) = _
    rw [ih]
    show ((n == i) || decide (i ∈ r)) = _
    by_cases h : i = n
    · subst h
      simp
    · have h' : ¬ n = i := fun z => h z.symm
      simp [h, h']
theorem flat_strs (ns : List Str) : (ns.map V.str).all flatV = true := by
  induction ns with
  | nil => rfl
  | cons n r ih => exact ih
theorem od_inI {i : Int} {ns : List Int} {neg : Bool} : OpD K (rIn K neg) (.int i) (.list (ns.map .int)) (.bool (if neg then !decide (i ∈ ns) else decide (i ∈ ns))) := fun G H vx vy e hx hy Q q => by
  cases hx
  cases hy with
  | @lst b vs _ hb x1 =>
    have e1 := x1.ints
    subst e1
    refine ⟨b, _, rfl, .inl (SqL.of (e _ _ hb)), rfl, flat_ints ns, q _ G H (.refl e) ?_⟩
    rw [inV_int]
    exact .bl _
theorem od_inS {i : Str} {ns : List Str} {neg : Bool} : OpD K (rIn K neg) (.str i) (.list (ns.map .str)) (.bool (if neg then !decide (i ∈ ns) else decide (i ∈ ns))) := fun G H vx vy e hx hy Q q => by
  cases hx
  cases hy with
  | @lst b vs _ hb x1 =>
    have e1 := x1.strs
    subst e1
    refine ⟨b, _, rfl, .inl (SqL.of (e _ _ hb)), rfl, flat_strs ns, q _ G H (.refl e) ?_⟩
    rw [inV_str]
    exact .bl _
theorem od_inST {i : Str} {ns : List Str} {neg : Bool} : OpD K (rIn K neg) (.str i) (.tuple (ns.map .str)) (.bool (if neg then !decide (i ∈ ns) else decide (i ∈ ns))) := fun G H vx vy e hx hy Q q => by
  cases hx
  cases hy with
  | @tup b vs _ hb x1 =>
    have e1 := x1.strs
    subst e1
    refine ⟨b, _, rfl, .inr (same_t e hb), rfl, flat_strs ns, q _ G H (.refl e) ?_⟩
    rw [inV_str]
    exact .bl _
theorem ev_inI {i : Int} {ns : List Int} (ha : EvD K s ta ds ms (.int i)) (hb : EvD K s tb ds ms (.list (ns.map .int))) : EvD K s (tOp (rIn K false) ta tb) ds ms (.bool (decide (i ∈ ns))) := ev_op ha hb (od_inI (neg := false))
theorem ev_niI {i : Int} {ns : List Int} (ha : EvD K s ta ds ms (.int i)) (hb : EvD K s tb ds ms (.list (ns.map .int))) : EvD K s (tOp (rIn K true) ta tb) ds ms (.bool (!decide (i ∈ ns))) := ev_op ha hb (od_inI (neg := true))
theorem ev_inS {i : Str} {ns : List Str} (ha : EvD K s ta ds ms (.str i)) (hb : EvD K s tb ds ms (.list (ns.map .str))) : EvD K s (tOp (rIn K false) ta tb) ds ms (.bool (decide (i ∈ ns))) := ev_op ha hb (od_inS (neg := false))
theorem ev_niS {i : Str} {ns : List Str} (ha : EvD K s ta ds ms (.str i)) (hb : EvD K s tb ds ms (.list (ns.map .str))) : EvD K s (tOp (rIn K true) ta tb) ds ms (.bool (!decide (i ∈ ns))) := ev_op ha hb (od_inS (neg := true))
theorem ev_niST {i : Str} {ns : List Str} (ha : EvD K s ta ds ms (.str i)) (hb : EvD K s tb ds ms (.tuple (ns.map .str))) : EvD K s (tOp (rIn K true) ta tb) ds ms (.bool (!decide (i ∈ ns))) := ev_op ha hb (od_inST (neg := true))
/-- a sign in a text -/
theorem ev_notSign {ch : Nat} {z : Str} (ha : EvD K s ta ds ms (.str ⟨#[ch]⟩)) (hb : EvD K s tb ds ms (.str z)) : EvD K s (tOp rNotSign ta tb) ds ms (.bool (!decide (ch ∈ z.cps.toList))) := ev_op ha hb fun G H vx vy e hx hy Q q => by
  cases hx
  cases hy
  exact ⟨ch, z, rfl, rfl, q _ G H (.refl e) (.bl _)⟩
/-! ### lists that change -/
theorem tyV_lst {p : Addr} {vs : List V} (e : H p = some (.lst vs)) : tyV K "list" (.ref p) H := .inl ⟨rfl, vs, SqL.of e⟩
theorem q_app {i : Nat} {p : Addr} {xs : List Sy.D} (ho : H0 p = none ∨ mu p) (A : At K s mu G0 H0 gs ds ms σ G H) (ha : EvC K s to ds ms (.ref p)) (hi : ms[i]? = some (p, .lst xs)) (h : EvD K s te ds ms d) (hz : xs.length < 1000) (k : ∀ G' H', At K s mu G0 H0 gs ds (ms.set i (p, .lst (xs ++ [d]))) σ G' H' → tz D σ H') :
    tSeq (tDrop (tBM K "list" rAppend to (tCons te tNil))) tz D σ H :=
  ha σ G H A.kn _ fun v G1 H1 a1 o1 x1 => by
    have A1 := A.step a1 o1
    cases x1.ref
    obtain ⟨vs, e1, h1⟩ := A1.kn.get (List.mem_of_getElem? hi)
    refine ⟨tyV_lst e1, h σ G1 H1 A1.kn _ fun w G2 H2 a2 o2 x2 => ?_⟩
    have A2 := A1.step a2 o2
    obtain ⟨vs, e1, h1⟩ := A2.kn.get (List.mem_of_getElem? hi)
    refine ⟨p, vs, w, rfl, rfl, e1, small1000 (by rw [h1.length]; omega), k _ _ (A2.write ho hi ?_)⟩
    exact ⟨_, upd_same, h1.snoc x2.is⟩
theorem q_appR {i : Nat} {p : Addr} {xs : List Sy.D} {Φ : Sy.D → Prop} (ho : H0 p = none ∨ mu p) (A : At K s mu G0 H0 gs ds ms σ G H) (ha : EvC K s to ds ms (.ref p)) (hi : ms[i]? = some (p, .lst xs)) (h : EvR K s te ds ms Φ) (hz : xs.length < 1000) (k : ∀ d G' H', Φ d → At K s mu G0 H0 gs ds (ms.set i (p, .lst (xs ++ [d]))) σ G' H' → tz D σ H') :
    tSeq (tDrop (tBM K "list" rAppend to (tCons te tNil))) tz D σ H :=
  ha σ G H A.kn _ fun v G1 H1 a1 o1 x1 => by
    have A1 := A.step a1 o1
    cases x1.ref
    obtain ⟨vs, e1, h1⟩ := A1.kn.get (List.mem_of_getElem? hi)
    refine ⟨tyV_lst e1, h σ G1 H1 A1.kn _ fun w G2 H2 d a2 o2 x2 p2 => ?_⟩
    have A2 := A1.step a2 o2
    obtain ⟨vs, e1, h1⟩ := A2.kn.get (List.mem_of_getElem? hi)
    refine ⟨p, vs, w, rfl, rfl, e1, small1000 (by rw [h1.length]; omega), k d _ _ p2 (A2.write ho hi ?_)⟩
    exact ⟨_, upd_same, h1.snoc x2⟩
theorem s_app {i : Nat} {p : Addr} {xs : List Sy.D} (ho : H0 p = none ∨ mu p) (A : At K s mu G0 H0 gs ds ms σ G H) (ha : EvC K s to ds ms (.ref p)) (hi : ms[i]? = some (p, .lst xs)) (h : EvD K s te ds ms d) (hz : xs.length < 1000) (k : ∀ G' H', At K s mu G0 H0 gs ds (ms.set i (p, .lst (xs ++ [d]))) σ G' H' → D.nx σ H') :
    tDrop (tBM K "list" rAppend to (tCons te tNil)) D σ H := q_app (D := D) (tz := fun D => D.nx) ho A ha hi h hz k
theorem ixN_nat {n j : Nat} (h : j < n) : ixN n (j : Int) = some j := by
  unfold ixN
  rw [if_pos (Int.natCast_nonneg j), if_pos (by omega)]
  rfl
/-- xs[j] = e -/
theorem q_setI {i j : Nat} {ti : TE} {p : Addr} {xs : List Sy.D} (ho : H0 p = none ∨ mu p) (A : At K s mu G0 H0 gs ds ms σ G H) (h : EvD K s te ds ms d) (ha : EvC K s to ds ms (.ref p)) (hj : EvD K s ti ds ms (.int (j : Int))) (hi : ms[i]? = some (p, .lst xs)) (hl : j < xs.length) (k : ∀ G' H', At K s mu G0 H0 gs ds (ms.set i (p, .lst (xs.set j d))) σ G' H' → tz D σ H') :
    tSeq (tAsg te (gSub to ti rSetL)) tz D σ H :=
  h σ G H A.kn _ fun w G1 H1 a1 o1 x1 => ha σ G1 H1 (A.step a1 o1).kn _ fun v G2 H2 a2 o2 x2 => hj σ G2 H2 ((A.step a1 o1).step a2 o2).kn _ fun u G3 H3 a3 o3 x3 => by
    have A3 := ((A.step a1 o1).step a2 o2).step a3 o3
    cases x2.ref
    cases x3.is
    obtain ⟨vs, e1, h1⟩ := A3.kn.get (List.mem_of_getElem? hi)
    refine ⟨p, vs, j, j, rfl, rfl, e1, ixN_nat (by rw [h1.length]; exact hl), k _ _ (A3.write ho hi ?_)⟩
    exact ⟨_, upd_same, h1.set j ((x1.is.mono a2.gg).mono a3.gg)⟩
end
end Sy
/-! Sy: rules for pieces of syntax that the layer lacks, short words for calls. -/
namespace Sy
open PySem PySem.Spec PyProof.Rows L2

/-! ### what a caller knows of a def, of a method, of a class -/
structure Cal (P : Program) (w : World) (K : Fg) (mg : Str → Option Value) (base : Heap) (x : Str) (k : Nat) (ps : List Str) (sp : Sp) : Prop where
  ex : ∃ (f : Addr) (fd : FuncData), mg x = some (.ref f) ∧ PySem.W.keepIn K (.ref f) = true ∧ Binds K fd ps [] ∧ FnOk P w K mg base CX0 k f fd ps sp
structure CalM (P : Program) (w : World) (K : Fg) (mg : Str → Option Value) (base : Heap) (C : Addr) (m : Str) (k : Nat) (ps : List Str) (sp : Sp) : Prop where
  cl : Cls K C
  ex : ∃ (f : Addr) (fd : FuncData), Meth K C m f ∧ Binds K fd ps [] ∧ FnOk P w K mg base CX0 k f fd ps sp
structure CalC (P : Program) (w : World) (K : Fg) (mg : Str → Option Value) (base : Heap) (x : Str) (C : Addr) (k : Nat) (ps : List Str) (sp : Sp) : Prop where
  gx : mg x = some (.ref C)
  ex : ∃ (f : Addr) (fd : FuncData), Mk K C f ∧ Binds K fd ps [] ∧ FnOk P w K mg base CX0 k f fd ps sp
/-- the built-in names that the text leaves alone -/
structure Bl (mg : Str → Option Value) : Prop where
  len_ : mg "len" = none
  abs_ : mg "abs" = none
  isinstance_ : mg "isinstance" = none
  min_ : mg "min" = none
  max_ : mg "max" = none
  sorted_ : mg "sorted" = none
  range_ : mg "range" = none
  int_ : mg "int" = none
  str_ : mg "str" = none
  list_ : mg "list" = none
  tuple_ : mg "tuple" = none
  bool_ : mg "bool" = none
theorem hu65_of {A : Around} {k : Nat} (hr : Room k A) : A.units + 65 < cLine := by
  have := hr.un
  omega
section
variable {X : Cx} {k : Nat} {f C : Addr} {fd : FuncData} {ps : List Str} {sp : Sp} {x m : Str} {p pos apos : Pos} {e o : Expr} {es : List Expr} {ta te ti to : TE} {t : TA}
theorem p_call (c : Cal X.prog X.w X.K X.mg X.base x k ps sp) (hr : Room k X.A) (ha : PA X (e :: es) t) (hg : Gl X x := by rfl)
    (hdb : (x == ("__debug__" : Str)) = false := by decide) (he : starEach (e :: es) X.env = (false, eval e X.env) :: starEach es X.env := by rfl) (hpl : (backTo pos (starEach es X.env)).any (·.1) = false := by rfl) :
    PE X (.Call (.Name x p) (e :: es) [] pos) (tCall sp [] E0 t) := by
  obtain ⟨f, fd, h1, h2, h3, h4⟩ := c.ex
  exact pe_call h4 hr hg h1 h2 h3 .nil pass0 ha hdb he hpl
theorem p_meth (c : CalM X.prog X.w X.K X.mg X.base C m k ps sp) {pl : Sem Bool} (hr : Room k X.A) (he : PE X o ta) (ha : PA X (e :: es) t)
    (hst : starEach (e :: es) X.env = (false, eval e X.env) :: starEach es X.env := by rfl) (hpl : (backTo pos (starEach es X.env)).any (·.1) = false := by rfl)
    (ht : eval (.Call (.Attribute o m apos) (e :: es) [] pos) X.env = (do
      let ov ← eval o X.env
      standAt apos.atName
      let (f, first) ← holding [ov] (getMethod ov m pl)
      callWith pos f first (backTo pos (starEach (e :: es) X.env)) (backToKw pos (keywordEach [] X.env))) := by rfl) :
    PE X (.Call (.Attribute o m apos) (e :: es) [] pos) (tMeth C m sp [] E0 ta t) := by
  obtain ⟨f, fd, h1, h2, h3⟩ := c.ex
  exact pe_meth he c.cl h1 h3 hr h2 .nil pass0 ha hst hpl ht
theorem p_meth0 (c : CalM X.prog X.w X.K X.mg X.base C m k ps sp) {pl : Sem Bool} (hr : Room k X.A) (he : PE X o ta)
    (ht : eval (.Call (.Attribute o m apos) [] [] pos) X.env = (do
      let ov ← eval o X.env
      standAt apos.atName
      let (f, first) ← holding [ov] (getMethod ov m pl)
      callWith pos f first (backTo pos (starEach [] X.env)) (backToKw pos (keywordEach [] X.env))) := by rfl) :
    PE X (.Call (.Attribute o m apos) [] [] pos) (tMeth C m sp [] E0 ta tNil) := by
  obtain ⟨f, fd, h1, h2, h3⟩ := c.ex
  exact pe_meth0 he c.cl h1 h3 hr h2 .nil pass0 ht
theorem p_make (c : CalC X.prog X.w X.K X.mg X.base x C k ps sp) (hr : Room (k + 1) X.A) (ha : PA X (e :: es) t) (hg : Gl X x := by rfl) (hdb : (x == ("__debug__" : Str)) = false := by decide) (he : starEach (e :: es) X.env = (false, eval e X.env) :: starEach es X.env := by rfl) (hpl : (backTo pos (starEach es X.env)).any (·.1) = false := by rfl) :
    PE X (.Call (.Name x p) (e :: es) [] pos) (tMake C sp [] E0 t) := by
  obtain ⟨f, fd, h1, h2, h3⟩ := c.ex
  exact pe_make h1 h3 hr hg c.gx h2 .nil pass0 ha hdb he hpl
/-! ### powers of great numbers -/
def CPowW (i j : Int) : Prop := 0 ≤ j ∧ (Builtin.Int.intBits i : Int) * j ≤ 2 ^ 27
theorem op_powW : OpR X (binaryOp .Pow) (rI CPowW fun i j => .int (i ^ j.toNat)) := opI fun _ _ _ _ _ _ _ hc q => pow_int hc.1 hc.2 q
/-! ### xs.remove(y), data at any depth -/
def rRemD (K : Fg) : V → List V → Hp → VK → Prop := fun x xs H Q => ∃ (a : Addr) (y : V) (d : PyData) (vs : List V) (ds : List PyData) (j : Nat) (z : PyData), x = V.ref a ∧ xs = [y] ∧ H a = some (.lst vs) ∧ DpAll K H vs ds ∧ Dp K H y d ∧
  SeqAt.shaped (.list ds) = true ∧ SeqAt.shaped d = true ∧ ds[j]? = some z ∧ PyData.eqv z d = true ∧ (∀ (m : Nat) (z' : PyData), m < j → ds[m]? = some z' → PyData.eqv z' d = false) ∧ Q .non (upd H a (.lst (vs.eraseIdx j)))
theorem mt_removeD (hu : X.A.units + 65 < cLine) : MtR X "list.remove" (rRemD X.K) := by
  intro pins s σ H x xs v us Q I rx rxs h
  obtain ⟨a, y, d, vs, ds, j, z, rfl, rfl, hH, ha, hy, sl, sd, hz, hzj, hno, q⟩ := h
  cases rx
  cases rxs with
  | cons ry rt =>
    rename_i uy ut
    cases rt
    obtain ⟨bs, r1⟩ := Dp.reads I d y uy hy ry
    have hxs : PyData.canLayAll0 ds = true := SeqAt.canLay_of_shaped sl
    have hroom : X.A.units + 1 + min (PyData.depthAll ds) d.depth < cLine := room_in_shaped sd hu
    obtain ⟨hz2, its, n, rv, hl, ho⟩ := I.lstM hH
    obtain ⟨as, h4⟩ := Dp.readsAll I ds _ its ha rv
    have hn : its.length = ds.length := SeqAt.ReadsAll.length ds its as h4
    have hmap : its.map (SeqAt.readOf s.heap) = ds := SeqAt.readsAll_map ds its as hxs h4
    have hsl := sizeLine_eq
    obtain ⟨hjd, _⟩ := List.getElem?_eq_some_iff.mp hz
    have hjl : j < its.length := by omega
    have hj : j < its.toArray.size := by simpa using hjl
    have at_ : ∀ (m : Nat) (hm : m < its.toArray.size) (z' : PyData), ds[m]? = some z' → SeqAt.readOf s.heap its.toArray[m] = z' := by
      intro m hm z' hz'
      have hml : m < its.length := by simpa using hm
      rw [← hmap, List.getElem?_map, List.getElem?_eq_getElem hml] at hz'
      have e1 : SeqAt.readOf s.heap its[m] = z' := Option.some.inj (show some (SeqAt.readOf s.heap its[m]) = some z' from hz')
      simpa using e1
    refine call_meets PySem.F.slot_list_remove ⟨_, ho, rfl⟩ PySem.F.entry_list_remove (PySem.F.args_list_remove_2 _ _)
      (SeqAt.list_removeAt a its.toArray n none #[] uy (fun u => PyData.eqv (SeqAt.readOf s.heap u) d) j hj ?_ ?_ (by rw [List.size_toArray]; omega)) ⟨ho, SeqAt.items_eqAt (vs := its.toArray) (show ReadsAll s.heap its.toArray.toList ds as from h4) r1 hxs (SeqAt.canLay_of_shaped sd) hroom, ?_⟩
    · show PyData.eqv (SeqAt.readOf s.heap its.toArray[j]) d = true
      rw [at_ j hj z hz]
      exact hzj
    · intro m hm hmj
      have hmd : m < ds.length := by
        have : its.toArray.size = its.length := by simp
        omega
      have hz' : ds[m]? = some ds[m] := List.getElem?_eq_getElem hmd
      show PyData.eqv (SeqAt.readOf s.heap its.toArray[m]) d = false
      rw [at_ m hm _ hz']
      exact hno m _ hmj hz'
    · refine ⟨.non, _, I.lset (its' := its.eraseIdx j) (t' := s.toks) hH ho ?_ (rv.eraseIdx j) ?_, rfl, q⟩
      · show its.toArray.eraseIdxIfInBounds j = (its.eraseIdx j).toArray
        rw [List.eraseIdxIfInBounds_toArray]
      · have := List.length_eraseIdx_le vs j
        omega
/-! ### xs[i] op= e -/
def gLst (K : Fg) : V → V → Hp → VK → Prop := fun o i H Q => ∃ p xs j v, o = .ref p ∧ i = .int ((j : Nat) : Int) ∧ SqL K H p xs ∧ xs[j]? = some v ∧ Q v H
theorem get_list : PGet X (gLst X.K) := by
  intro pins s σ H o i ov iv Q I ro ri h
  obtain ⟨p, xs, j, v, rfl, rfl, hq, he, q⟩ := h
  cases ro
  obtain ⟨t, rfl⟩ := ri
  obtain ⟨its, r, pl, hz⟩ := I.list hq
  obtain ⟨w, ew, rw'⟩ := r.get he
  have hl := r.length
  have hn := line63
  obtain ⟨hj, _⟩ := List.getElem?_eq_some_iff.mp he
  exact wpAny_getItem_list pl.isList (Int.natCast_nonneg j) (by omega) (by simpa using ew) ⟨v, H, I, rw', q⟩
/-! ### the layer's rules, told by K itself -/
section
variable {K : Fg}
theorem o_add : OpR X (binaryOp .Add) rAddI := op_add
theorem o_sub : OpR X (binaryOp .Sub) rSubI := op_sub
theorem o_mulW : OpR X (binaryOp .Mult) rMulW := op_mulW
theorem o_mul : OpR X (binaryOp .Mult) rMulI := op_mul
theorem o_fdivW : OpR X (binaryOp .FloorDiv) rDivW := op_fdivW
theorem o_mod : OpR X (binaryOp .Mod) rModI := op_mod
theorem o_lt : OpR X (compareOp .Lt) rLtI := op_lt
theorem o_le : OpR X (compareOp .LtE) rLeI := op_le
theorem o_gt : OpR X (compareOp .Gt) rGtI := op_gt
theorem o_ge : OpR X (compareOp .GtE) rGeI := op_ge
theorem o_isN : OpR X (compareOp .Is) rIsN := op_isN
theorem o_notN : OpR X (compareOp .IsNot) rNotN := op_notN
theorem o_notSign : OpR X (compareOp .NotIn) rNotSign := op_notIn_sign
theorem w_ixT (hK : X.K = K := by rfl) : IxR X (rIxT K) := by subst hK; exact ix_tup
theorem w_ixL (hK : X.K = K := by rfl) : IxR X (rIxL K) := by subst hK; exact ix_list
theorem w_slL (hK : X.K = K := by rfl) : SlR X (rSlL K) := by subst hK; exact sl_list
theorem w_slT (hK : X.K = K := by rfl) : SlR X (rSlT K) := by subst hK; exact sl_tup
theorem w_eqD (hu : X.A.units + 64 < cLine) (hK : X.K = K := by rfl) : OpR X (compareOp .Eq) (rEqD K) := by subst hK; exact op_eqD hu
theorem w_neD (hu : X.A.units + 64 < cLine) (hK : X.K = K := by rfl) : OpR X (compareOp .NotEq) (rNeD K) := by subst hK; exact op_neD hu
theorem w_in (hK : X.K = K := by rfl) : OpR X (compareOp .In) (rIn K false) := by subst hK; exact op_in_seq
theorem w_ni (hK : X.K = K := by rfl) : OpR X (compareOp .NotIn) (rIn K true) := by subst hK; exact op_notIn_seq
theorem w_len (hK : X.K = K := by rfl) : CallR X (.builtin "len") (rLen K) := by subst hK; exact call_len_seq
theorem w_lenS : CallR X (.builtin "len") rLenS := call_len_str
theorem w_abs : CallR X (.builtin "abs") rAbs := call_abs
theorem w_min2 (hc : X.calm = true) : CallR X (.builtin "min") rMin2 := call_min2 hc
theorem w_max2 (hc : X.calm = true) : CallR X (.builtin "max") rMax2 := call_max2 hc
theorem w_intB : CallR X (.type "int") rIntB := call_int1
theorem w_isi (hK : X.K = K := by rfl) : CallR X (.builtin "isinstance") (rIsi K) := by subst hK; exact call_isi
theorem w_sorted (hK : X.K = K := by rfl) : CallR X (.builtin "sorted") (rSorted K) := by subst hK; exact cr_sorted
theorem w_min (hc : X.calm = true) (hK : X.K = K := by rfl) : CallR X (.builtin "min") (rMin K) := by subst hK; exact cr_min hc
theorem w_listof (hK : X.K = K := by rfl) : CallR X (.type "list") (rListOf K) := by subst hK; exact call_list_of
theorem w_rem (hu : X.A.units + 65 < cLine) (hK : X.K = K := by rfl) : MtR X "list.remove" (rRemD K) := by subst hK; exact mt_removeD hu
theorem w_get (hK : X.K = K := by rfl) : PGet X (gLst K) := by subst hK; exact get_list
theorem w_list {tg l : Expr} {tl : TE} (hl : PE X l tl) (hK : X.K = K := by rfl) : PI X tg l (iList K tl) := by subst hK; exact pi_list hl
theorem w_tup {es : List Expr} {k : Nat} {t : TGs} {n : Nat} (hc : X.calm = true) (h : PGs X es t) (hK : X.K = K := by rfl) (hn : (assignEach es X.env).length = n := by rfl) (hst : (assignEach es X.env).findIdx? (·.1) = none := by rfl) : PG X (.Tuple es k pos) (gTup K n t) := by subst hK; exact pg_tup hc h hn hst
theorem w_fld {f : Str} (he : PE X e ta) (hb : attributeBase e f X.env (eval e X.env) = eval e X.env) (hK : X.K = K := by rfl) : PE X (.Attribute e f pos) (tFld K ta f) := by subst hK; exact pe_fld he hb
theorem w_sfld {f : Str} {value : Expr} {tv : TE} {pos' : Pos} (ha : PE X o ta) (hv : PE X value tv) (hs : swapsWith value (some (.Attribute o f pos')) pos.line X.env = pure false) (hK : X.K = K := by rfl) : PS X (.Assign [.Attribute o f pos'] value pos) (sFld K ta tv f) := by subst hK; exact ps_fld ha hv hs
theorem w_bm {T id : String} {name : Str} {cpos : Pos} {r : V → List V → Hp → VK → Prop} (pa : PlainAttrs T) (slot : Slot T name id) (hty : typeOf (.builtin id) = pure (.type "method_descriptor")) (hm : MtR X id r) (ho : PE X o to) (ha : PA X (e :: es) t) (hK : X.K = K := by rfl)
    (hbase : attributeBase o name X.env (eval o X.env) = eval o X.env := by rfl)
    (hfew : ((backTo cpos (starEach (e :: es) X.env)).all (fun x => !x.1) && (backToKw cpos (keywordEach [] X.env)).all (fun x => x.1.isSome)
      && decide ((e :: es).length + ([] : List Keyword).length + (if ([] : List Keyword).isEmpty then 0 else 1) < 30)) = true := by rfl)
    (hline : (apos.endLine == cpos.line) = true := by rfl) (hs : starEach (e :: es) X.env = (false, eval e X.env) :: starEach es X.env := by rfl) (hplain : (backTo cpos (starEach es X.env)).any (·.1) = false := by rfl) :
    PE X (.Call (.Attribute o name apos) (e :: es) [] cpos) (tBM K T r to t) := by subst hK; exact pe_bm pa slot hty hm ho ha hbase hfew hline hs hplain
theorem w_revL {k : Nat} {p1 p2 p3 : Pos} (he : PE X e te) (hK : X.K = K := by rfl) : PE X (.Subscript e (.Slice none none (some (.UnaryOp .USub (.Constant (.int 1) k p1) p2)) p3) pos) (tRevL K te) := by subst hK; exact pe_revL he
def rJoin (K : Fg) : V → List V → Hp → VK → Prop := fun x xs H Q => ∃ a p, ∃ ys : List Str, x = .str a ∧ xs = [.ref p] ∧ (SqL K H p (ys.map V.str) ∨ SqT K H p (ys.map V.str)) ∧ (ys.map (·.length)).sum + ys.length * a.length ≤ 16777216 ∧ Q (.str (Txt.join a ys)) H
theorem w_join (ho : PE X o to) (he : PE X e te) (hK : X.K = K := by rfl) (hs : starEach [e] X.env = [(false, eval e X.env)] := by rfl) (hbase : attributeBase o "join" X.env (eval o X.env) = eval o X.env := by rfl) (hline : (apos.endLine == pos.line) = true := by rfl) :
    PE X (.Call (.Attribute o "join" apos) [e] [] pos) (tM1 (rJoin K) to te) := by subst hK; exact pe_join ho he hs hbase hline
end
end
end Sy
/-! Fractions: core's Rat; bounds. -/
namespace Fc
/-- the whole numbers' line -/
def LN : Nat := 2 ^ 3000
theorem low_num (t : Int) (b : Nat) (h : 0 < b) : (mkRat t b).num = t / ((Int.gcd t b : Nat) : Int) := by
  rw [Rat.num_mkRat, if_neg (by omega), Nat.gcd_comm]
  rfl
theorem low_den (t : Int) (b : Nat) (h : 0 < b) : (((mkRat t b).den : Nat) : Int) = (b : Int) / ((Int.gcd t b : Nat) : Int) := by
  rw [Rat.den_mkRat, if_neg (by omega), Nat.gcd_comm, Int.natCast_ediv]
  rfl
/-! ### bounds -/
def MB : Nat := 10 ^ 70
def Bd (n : Nat) (q : Rat) : Prop := ∃ k : Int, q = mkRat k 1008 ∧ k.natAbs ≤ n * MB
theorem Bd.mono {n m : Nat} {q : Rat} (h : Bd n q) (hm : n ≤ m) : Bd m q := by
  obtain ⟨k, e, h⟩ := h
  exact ⟨k, e, Nat.le_trans h (Nat.mul_le_mul_right _ hm)⟩
theorem Bd.zero : Bd 0 0 := ⟨0, by decide +kernel, by omega⟩
theorem mk_add (k l : Int) : mkRat k 1008 + mkRat l 1008 = mkRat (k + l) 1008 := by
  rw [Rat.mkRat_add_mkRat k l (by decide) (by decide), ← Int.add_mul, Rat.mkRat_mul_right (by decide)]
theorem mk_sub (k l : Int) : mkRat k 1008 - mkRat l 1008 = mkRat (k - l) 1008 := by
  rw [Rat.sub_eq_add_neg, Rat.neg_mkRat, mk_add]
  rfl
theorem Bd.add {n m : Nat} {p q : Rat} (h : Bd n p) (h' : Bd m q) : Bd (n + m) (p + q) := by
  obtain ⟨k, e, h⟩ := h
  obtain ⟨l, e', h'⟩ := h'
  refine ⟨k + l, by rw [e, e', mk_add], ?_⟩
  have := Int.natAbs_add_le k l
  rw [Nat.add_mul]
  omega
theorem Bd.sub {n m : Nat} {p q : Rat} (h : Bd n p) (h' : Bd m q) : Bd (n + m) (p - q) := by
  obtain ⟨k, e, h⟩ := h
  obtain ⟨l, e', h'⟩ := h'
  refine ⟨k - l, by rw [e, e', mk_sub], ?_⟩
  have := Int.natAbs_sub_le k l
  rw [Nat.add_mul]
  omega
theorem Bd.den {n : Nat} {q : Rat} (h : Bd n q) : q.den ∣ 1008 := by
  obtain ⟨k, e, _⟩ := h
  rw [e, Rat.den_mkRat, if_neg (by decide)]
  exact Nat.div_dvd_of_dvd (Nat.gcd_dvd_left _ _)
theorem Bd.den_le {n : Nat} {q : Rat} (h : Bd n q) : q.den ≤ 1008 := Nat.le_of_dvd (by decide) h.den
theorem Bd.num_le {n : Nat} {q : Rat} (h : Bd n q) : q.num.natAbs ≤ n * MB := by
  obtain ⟨k, e, h⟩ := h
  rw [e, Rat.num_mkRat, if_neg (by decide)]
  refine Nat.le_trans ?_ h
  exact Int.natAbs_ediv_le_natAbs _ _
/-- small enough for the machine -/
def Sz (q : Rat) : Prop := q.num.natAbs < LN ∧ q.den < LN
theorem Bd.sz {n : Nat} {q : Rat} (h : Bd n q) (hn : n ≤ 1000000) : Sz q := by
  have h1 := h.num_le
  have h2 := h.den_le
  have e : 1000000 * MB < LN := by decide +kernel
  have e2 : 1008 < LN := by decide +kernel
  refine ⟨?_, by omega⟩
  have : n * MB ≤ 1000000 * MB := Nat.mul_le_mul_right _ hn
  omega
end Fc
/-! The text by places; data of the program. -/
namespace Fc
open PySem PySem.Spec PyProof.Rows L2 Sy
def topS (i : Nat) : Stmt := PySem.Challenge.pw_farthestcut_k85_whole_stops_and_cuts.main.body.getD i (.Pass ⟨0, 0, 0, 0⟩)
/-- a fraction as data -/
def frD (q : Rat) : D := .tuple [.int q.num, .int (q.den : Nat)]
theorem mulW {i j : Int} (hi : i.natAbs < LN) (hj : j.natAbs < LN) : CMulW i j := wide_mul (a := 3000) (b := 3000) hi hj (by decide) (by decide) (by decide)
theorem divW {i j : Int} (h : 0 < j) (hj : j.natAbs < LN) : CDivW i j := wide_div (b := 3000) h hj (by decide) (by decide)
theorem Sz.n {q : Rat} (h : Sz q) : q.num.natAbs < LN := h.1
theorem Sz.d {q : Rat} (h : Sz q) : ((q.den : Nat) : Int).natAbs < LN := by
  rw [Int.natAbs_natCast]
  exact h.2
/-- the constants of the text -/
structure Cst (K : Fg) (mg : Str → Option Value) : Prop where
  nought : ∃ a, mg "NOUGHT" = some (.ref a) ∧ SqT K (fun _ => none) a [.int 0, .int 1]
  letters : ∃ t, mg "LETTERS" = some (.str "abcdefghijklmnopqrstuvwxyz" t)
  signs : ∃ t, mg "MOST_SIGNS" = some (.int 8 t)
  least : ∃ t, mg "LEAST_PLACES" = some (.int 2 t)
  most : ∃ t, mg "MOST_PLACES" = some (.int 7 t)
  ties : ∃ t, mg "MOST_TIES" = some (.int 14 t)
  stops : ∃ t, mg "MOST_AT_ONCE_stops" = some (.int 2 t)
  ready : ∃ t, mg "MOST_AT_ONCE_ready" = some (.int 3 t)
end Fc
namespace Fc
open PySem PySem.Spec PyProof.Rows L2 Sy
section
variable {K : Fg} {s : Option Addr} {ds : List SC} {ms : List (Addr × MO)} {te : TE}
theorem ev_isiT {l : List D} (h : EvD K s te ds ms (.tuple l)) : EvD K s (tCB (rIsi K) (tCons te (tCons (tC (.ty "tuple")) tNil))) ds ms (.bool true) := ev_isi h (show kitB "tuple" "tuple" = some true by decide +kernel) rfl
theorem ev_isiL {l : List D} (h : EvD K s te ds ms (.list l)) : EvD K s (tCB (rIsi K) (tCons te (tCons (tC (.ty "list")) tNil))) ds ms (.bool true) := ev_isi h (show kitB "list" "list" = some true by decide +kernel) rfl
theorem ev_isiI {l : Int} (h : EvD K s te ds ms (.int l)) : EvD K s (tCB (rIsi K) (tCons te (tCons (tC (.ty "int")) tNil))) ds ms (.bool true) := ev_isi h (show kitB "int" "int" = some true by decide +kernel) rfl
theorem ev_isiS {l : Str} (h : EvD K s te ds ms (.str l)) : EvD K s (tCB (rIsi K) (tCons te (tCons (tC (.ty "str")) tNil))) ds ms (.bool true) := ev_isi h (show kitB "str" "str" = some true by decide +kernel) rfl
theorem ev_isiB {l : Int} (h : EvD K s te ds ms (.int l)) : EvD K s (tCB (rIsi K) (tCons te (tCons (tC (.ty "bool")) tNil))) ds ms (.bool false) := ev_isi h (show kitB "int" "bool" = some false by decide +kernel) rfl
end
/-! ### webs -/
def wordS (b : Bool) : Str := if b then "both" else "one"
structure Tie where
  one : Str
  other : Str
  both : Bool
  len : Rat
  worth : Option Rat
def optD : Option Rat → D
  | none => .none
  | some q => frD q
def tieD (t : Tie) : D := .tuple [.str t.one, .str t.other, .str (wordS t.both), frD t.len, optD t.worth]
structure Web where
  places : List Str
  ties : List Tie
  first : Str
  last : Str
def webD (W : Web) : D := .tuple [.list (W.places.map .str), .list (W.ties.map tieD), .str W.first, .str W.last]
def lettersL : List Nat := ("abcdefghijklmnopqrstuvwxyz" : Str).cps.toList
structure NameOk (x : Str) : Prop where
  lo : 1 ≤ x.length
  hi : x.length ≤ 8
  le : ∀ c ∈ x.cps.toList, c ∈ lettersL
structure TieOk (ps : List Str) (t : Tie) : Prop where
  one : t.one ∈ ps
  other : t.other ∈ ps
  ne : t.one ≠ t.other
  len0 : 0 ≤ t.len
  lenB : Bd 1 t.len
  worth0 : ∀ q, t.worth = some q → 0 < q
  worthB : ∀ q, t.worth = some q → Bd 1 q
structure WebOk (W : Web) : Prop where
  lo : 2 ≤ W.places.length
  hi : W.places.length ≤ 7
  nd : W.places.Nodup
  nm : ∀ x ∈ W.places, NameOk x
  tl : W.ties.length ≤ 14
  tk : ∀ t ∈ W.ties, TieOk W.places t
  fi : W.first ∈ W.places
  la : W.last ∈ W.places
  ne : W.last ≠ W.first
theorem small8 {n : Nat} (h : n ≤ 1000) : n ≤ sizeLine := Nat.le_of_lt (small1000 h)
/-- a body's end without return -/
theorem s_end {K : Fg} {s : Option Addr} {mu : Addr → Prop} {G0 H0 G H : Hp} {gs : List Hp} {ds : List SC} {ms : List (Addr × MO)} {σ : L2.St} {Q : VK} (A : At K s mu G0 H0 gs ds ms σ G H) (q : ∀ v G' H' d, Stp mu G0 H0 G' H' → Is K G' v d → d = .none → Q v H') : Q .non H := q _ G H _ A.sp .non rfl
theorem smap_get {α : Type} {f : α → D} {l : List α} {i : Nat} {e : D} (h : (l.map f)[i]? = some e) : ∃ x, l[i]? = some x ∧ e = f x := by
  rw [List.getElem?_map] at h
  cases q : l[i]? with
  | none => rw [q] at h; cases h
  | some x =>
    rw [q] at h
    exact ⟨x, rfl, (Option.some.inj h).symm⟩
theorem smap_at {α : Type} {f : α → D} {l : List α} {i : Nat} {x : α} (h : l[i]? = some x) : (l.map f)[i]? = some (f x) := by
  rw [List.getElem?_map, h] <;> rfl
end Fc
namespace Fc
open PySem PySem.Spec PyProof.Rows L2 Sy
def natsD (T : List Nat) : List D := T.map fun k => .int ((k : Nat) : Int)
def natD (T : List Nat) : D := .list (natsD T)
theorem natsD_get {T : List Nat} {i : Nat} {e : D} (h : (natsD T)[i]? = some e) : ∃ k, T[i]? = some k ∧ e = .int ((k : Nat) : Int) := smap_get h
theorem natsD_at {T : List Nat} {i k : Nat} (h : T[i]? = some k) : (natsD T)[i]? = some (.int ((k : Nat) : Int)) := smap_at h
theorem natsD_len (T : List Nat) : (natsD T).length = T.length := by simp [natsD]
theorem natsD_ints (T : List Nat) : natsD T = (T.map Int.ofNat).map PyData.int := by
  unfold natsD
  rw [List.map_map]
  rfl
theorem range_get {n i k : Nat} (h : (List.range n)[i]? = some k) : i < n ∧ k = i := by
  by_cases hi : i < n
  · rw [List.getElem?_range hi] at h
    exact ⟨hi, (Option.some.inj h).symm⟩
  · rw [List.getElem?_eq_none (by simpa using hi)] at h
    cases h
theorem it_nats {K : Fg} {s : Option Addr} {ds : List SC} {ms : List (Addr × MO)} {ta : TA} {n : Nat} (h : EvL K s ta ds ms [.int ((n : Nat) : Int)]) (hz : n ≤ 100000) : ItD K s (iRng1 ta) ds ms (natsD (List.range n)) (fun _ => True) := by
  have e : natsD (List.range n) = rngD 0 (((n : Nat) : Int)).toNat := by
    rw [Int.toNat_natCast]
    unfold natsD rngD
    refine List.map_congr_left fun i _ => ?_
    rw [Int.zero_add]
  rw [e]
  exact it_rng1 h (Int.natCast_nonneg n) (by omega)
theorem cut_take {α β : Type} (f : α → β) (l : List α) {k : Nat} (h : k ≤ l.length) : Sy.cutD (l.map f) none (some ((k : Nat) : Int)) = (l.take k).map f := by
  unfold Sy.cutD
  rw [HT.sIx_none, HT.sIx_nat, List.length_map, List.drop_zero, Nat.min_eq_left h, Nat.sub_zero, List.map_take]
theorem cut_drop {α β : Type} (f : α → β) (l : List α) {k : Nat} (h : k ≤ l.length) : Sy.cutD (l.map f) (some ((k : Nat) : Int)) none = (l.drop k).map f := by
  unfold Sy.cutD
  rw [HT.sIx_none, HT.sIx_nat, List.length_map, Nat.min_eq_left h, List.map_drop, List.take_of_length_le]
  rw [List.length_drop, List.length_map]
  omega
/-- a taking: rising numbers of ties that aren't watched -/
structure TakOk (W : Web) (T : List Nat) : Prop where
  up : T.Pairwise (· < ·)
  tie : ∀ k ∈ T, ∃ t q, W.ties[k]? = some t ∧ t.worth = some q
end Fc
/-! What the small defs compute, in plain terms. -/
namespace Fc
open PySem PySem.Spec PyProof.Rows L2 Sy
def sumR (l : List Rat) : Rat := l.foldl (· + ·) 0
theorem foldl_add (l : List Rat) (a : Rat) : l.foldl (· + ·) a = a + sumR l := by
  unfold sumR
  induction l generalizing a with
  | nil => simp [Rat.add_zero]
  | cons x r ih =>
    rw [List.foldl_cons, List.foldl_cons, ih, ih (0 + x), Rat.zero_add, Rat.add_assoc]
theorem sumR_cons (x : Rat) (l : List Rat) : sumR (x :: l) = x + sumR l := by
  show l.foldl (· + ·) (0 + x) = _
  rw [foldl_add, Rat.zero_add]
theorem sumR_append (l m : List Rat) : sumR (l ++ m) = sumR l + sumR m := by
  unfold sumR
  rw [List.foldl_append, foldl_add]
  rfl
theorem sumR_nil : sumR [] = 0 := rfl
theorem sumR_snoc (l : List Rat) (x : Rat) : sumR (l ++ [x]) = sumR l + x := by
  rw [sumR_append, sumR_cons, sumR_nil, Rat.add_zero]
theorem sumR_take {l : List Rat} {i : Nat} {x : Rat} (h : l[i]? = some x) : sumR (l.take (i + 1)) = sumR (l.take i) + x := by
  rw [List.take_add_one, h]
  exact sumR_snoc _ _
theorem Bd.sum {n : Nat} {l : List Rat} (h : ∀ q ∈ l, Bd n q) : Bd (l.length * n) (sumR l) := by
  induction l with
  | nil => exact Bd.zero.mono (Nat.zero_le _)
  | cons x r ih =>
    rw [sumR_cons]
    refine (Bd.add (h x (List.mem_cons_self)) (ih fun q hq => h q (List.mem_cons_of_mem _ hq))).mono ?_
    rw [List.length_cons, Nat.add_mul]
    omega
/-! takings -/
def wOf (W : Web) (k : Nat) : Rat := ((W.ties[k]?).bind Tie.worth).getD 0
def worthOf (W : Web) (T : List Nat) : Rat := sumR (T.map (wOf W))
/-- ties that can be taken -/
def Tk (W : Web) (T : List Nat) : Prop := ∀ k ∈ T, ∃ t q, W.ties[k]? = some t ∧ t.worth = some q
theorem wOf_at {W : Web} {k : Nat} {t : Tie} {q : Rat} (h : W.ties[k]? = some t) (e : t.worth = some q) : wOf W k = q := by
  unfold wOf
  rw [h]
  show (t.worth).getD 0 = q
  rw [e] <;> rfl
def askb (W : Web) (p : Rat) (taken kept : List Nat) (k : Nat) : Bool :=
  (((W.ties[k]?).bind Tie.worth).isSome && (!decide (k ∈ taken) && (!decide (k ∈ kept) && !decide (p < worthOf W (taken ++ [k])))))
def askL (W : Web) (p : Rat) (ties taken kept : List Nat) : List Nat := ties.filter (askb W p taken kept)
/-! at once -/
def worths (W : Web) : List Rat := W.ties.filterMap Tie.worth
def minR (x : Rat) (l : List Rat) : Rat := l.foldl (fun a b => if b < a then b else a) x
theorem minR_mem (x : Rat) (l : List Rat) : minR x l = x ∨ minR x l ∈ l := by
  induction l generalizing x with
  | nil => exact .inl rfl
  | cons b r ih =>
    have e : minR x (b :: r) = minR (if b < x then b else x) r := rfl
    rw [e]
    rcases ih (if b < x then b else x) with h | h
    · rw [h]
      by_cases hb : b < x
      · rw [if_pos hb]
        exact .inr List.mem_cons_self
      · rw [if_neg hb]
        exact .inl rfl
    · exact .inr (List.mem_cons_of_mem _ h)
theorem minR_le (x : Rat) (l : List Rat) : minR x l ≤ x ∧ ∀ y ∈ l, minR x l ≤ y := by
  induction l generalizing x with
  | nil => exact ⟨Rat.le_refl, fun y h => absurd h (by simp)⟩
  | cons b r ih =>
    show minR (if b < x then b else x) r ≤ x ∧ ∀ y ∈ b :: r, minR (if b < x then b else x) r ≤ y
    obtain ⟨h1, h2⟩ := ih (if b < x then b else x)
    have h3 : (if b < x then b else x) ≤ x ∧ (if b < x then b else x) ≤ b := by split <;> grind
    refine ⟨Rat.le_trans h1 h3.1, fun y hy => ?_⟩
    rcases List.mem_cons.mp hy with rfl | hy
    · exact Rat.le_trans h1 h3.2
    · exact h2 y hy
def leastR : List Rat → Rat
  | [] => 0
  | x :: r => minR x (x :: r)
theorem leastR_mem {l : List Rat} (h : l ≠ []) : leastR l ∈ l := by
  cases l with
  | nil => exact absurd rfl h
  | cons x r =>
    rcases minR_mem x (x :: r) with e | e
    · show minR x (x :: r) ∈ _
      rw [e]
      exact List.mem_cons_self
    · exact e
theorem leastR_le {l : List Rat} : ∀ y ∈ l, leastR l ≤ y := by
  cases l with
  | nil => exact fun y h => absurd h (by simp)
  | cons x r => exact (minR_le x (x :: r)).2
def atOnceL (p : Rat) : Nat → List Rat → Rat → Nat → Nat
  | 0, _, _, m => m
  | n + 1, l, sp, m => if p < sp + leastR l then m else atOnceL p n (l.erase (leastR l)) (sp + leastR l) (m + 1)
def atOnce (W : Web) (p : Rat) : Nat := atOnceL p (worths W).length (worths W) 0 0
/-! flows -/
def goStep (x : Str) (a : Rat) (p : Tie × Rat) : Rat := if p.1.one = x then a + p.2 else if p.1.other = x then a - p.2 else a
def goR (W : Web) (fl : List Rat) (x : Str) : Rat := (W.ties.zip fl).foldl (goStep x) 0
def lcmF (l : List Rat) : Nat := l.foldl (fun a q => Nat.lcm a q.den) 1
theorem lcm_dvd' {l : List Rat} {a : Nat} (h : ∀ q ∈ l, q.den ∣ 1008) (ha : a ∣ 1008) : l.foldl (fun a q => Nat.lcm a q.den) a ∣ 1008 := by
  induction l generalizing a with
  | nil => exact ha
  | cons x r ih => exact ih (fun q hq => h q (List.mem_cons_of_mem _ hq)) (Nat.lcm_dvd ha (h x List.mem_cons_self))
theorem lcmF_dvd {l : List Rat} (h : ∀ q ∈ l, q.den ∣ 1008) : lcmF l ∣ 1008 := lcm_dvd' h (Nat.one_dvd _)
theorem lcm_up {l : List Rat} {a : Nat} : a ∣ l.foldl (fun a q => Nat.lcm a q.den) a ∧ ∀ q ∈ l, q.den ∣ l.foldl (fun a q => Nat.lcm a q.den) a := by
  induction l generalizing a with
  | nil => exact ⟨Nat.dvd_refl _, fun q h => absurd h (by simp)⟩
  | cons x r ih =>
    obtain ⟨h1, h2⟩ := ih (a := Nat.lcm a x.den)
    refine ⟨Nat.dvd_trans (Nat.dvd_lcm_left _ _) h1, fun q hq => ?_⟩
    rcases List.mem_cons.mp hq with rfl | hq
    · exact Nat.dvd_trans (Nat.dvd_lcm_right _ _) h1
    · exact h2 q hq
theorem dvd_lcmF {l : List Rat} {q : Rat} (h : q ∈ l) : q.den ∣ lcmF l := lcm_up.2 q h
def bhd (t : Tie) (x : Str) : Option Str := if t.one = x then some t.other else if t.other = x ∧ t.both = true then some t.one else none
def optS : Option Str → D
  | none => .none
  | some x => .str x
def lngr (a b : Option Rat) : Bool := match a, b with
  | none, some _ => true
  | some x, some y => decide (y < x)
  | _, none => false
end Fc
/-! Fractions in lists: ==, remove. -/
namespace Fc
open PySem PySem.Spec PyProof.Rows L2 Sy
theorem eqv_fr (a b : Rat) : PyData.eqv (frD a) (frD b) = decide (a = b) := by
  have e : PyData.eqv (frD a) (frD b) = ((a.num == b.num) && ((((a.den : Nat) : Int) == ((b.den : Nat) : Int)) && true)) := by
    simp only [frD, PyData.eqv, PyData.eqvAll]
  rw [e, Bool.and_true]
  by_cases h : a = b
  · subst h
    simp
  · rw [decide_eq_false h]
    by_cases h1 : a.num = b.num
    · have h2 : a.den ≠ b.den := fun z => h (Rat.ext h1 z)
      have h3 : (((a.den : Nat) : Int) == ((b.den : Nat) : Int)) = false := by
        rw [beq_eq_false_iff_ne]
        omega
      rw [h3, Bool.and_false]
    · have h3 : (a.num == b.num) = false := by rw [beq_eq_false_iff_ne]; exact h1
      rw [h3, Bool.false_and]
theorem pln_fr (a : Rat) : pln (frD a) = true := by simp [frD, pln, plnA]
theorem plnA_fr : ∀ l : List Rat, plnA (l.map frD) = true
  | [] => by simp [plnA]
  | a :: r => by simp [plnA, pln_fr a, plnA_fr r]
theorem lay_fr (a : Rat) : (frD a).canLay0 = true := by simp [frD, PyData.canLay0, PyData.canLayAll0]
theorem layA_fr : ∀ l : List Rat, PyData.canLayAll0 (l.map frD) = true
  | [] => by simp [PyData.canLayAll0]
  | a :: r => by simp [PyData.canLayAll0, lay_fr a, layA_fr r]
theorem dep_fr (a : Rat) : (frD a).depth = 1 := by simp [frD, PyData.depth, PyData.depthAll]
theorem depA_fr : ∀ l : List Rat, PyData.depthAll (l.map frD) ≤ 1
  | [] => by simp [PyData.depthAll]
  | a :: r => by
    have h1 := depA_fr r
    have h2 := dep_fr a
    simp only [List.map_cons, PyData.depthAll]
    omega
theorem shp_fr (a : Rat) : SeqAt.shaped (frD a) = true := by
  have h := dep_fr a
  show ((frD a).canLay0 && decide ((frD a).depth ≤ 64)) = true
  rw [Bool.and_eq_true]
  exact ⟨lay_fr a, decide_eq_true (by omega)⟩
theorem shpL_fr (l : List Rat) : SeqAt.shaped (.list (l.map frD)) = true := by
  have h1 := depA_fr l
  have h2 : PyData.depth (.list (l.map frD)) ≤ 64 := by
    simp only [PyData.depth]
    omega
  show (PyData.canLay0 (.list (l.map frD)) && decide (PyData.depth (.list (l.map frD)) ≤ 64)) = true
  rw [Bool.and_eq_true]
  exact ⟨by simp only [PyData.canLay0]; exact layA_fr l, decide_eq_true h2⟩
theorem first_fr : ∀ {l : List Rat} {x : Rat}, x ∈ l → ∃ j, l[j]? = some x ∧ (∀ i, i < j → l[i]? ≠ some x) ∧ l.eraseIdx j = l.erase x
  | [], x, h => absurd h (by simp)
  | a :: r, x, h => by
    by_cases e : a = x
    · subst e
      exact ⟨0, rfl, fun i hi => absurd hi (Nat.not_lt_zero _), by rw [List.erase_cons_head] <;> rfl⟩
    · have hr : x ∈ r := by
        rcases List.mem_cons.mp h with z | z
        · exact absurd z.symm e
        · exact z
      obtain ⟨j, h2, h3, h4⟩ := first_fr hr
      refine ⟨j + 1, h2, fun i hi => ?_, ?_⟩
      · cases i with
        | zero =>
          intro z
          exact e (Option.some.inj z)
        | succ i => exact h3 i (Nat.lt_of_succ_lt_succ hi)
      · rw [List.erase_cons_tail (by rw [beq_iff_eq]; exact e), ← h4] <;> rfl
theorem map_erase (f : Rat → D) : ∀ (ns : List Rat) (j : Nat), (ns.map f).eraseIdx j = (ns.eraseIdx j).map f
  | [], _ => rfl
  | _ :: _, 0 => rfl
  | n :: r, j + 1 => by
    show f n :: (r.map f).eraseIdx j = f n :: (r.eraseIdx j).map f
    rw [map_erase f r j]
section
variable {K : Fg} {s : Option Addr} {mu : Addr → Prop} {G0 H0 G H : Hp} {gs : List Hp} {ds : List SC} {ms : List (Addr × MO)} {σ : L2.St} {D : Ends} {te ta tb to : TE} {tz : TS}
/-- xs.remove(x), fractions -/
theorem q_remF {i : Nat} {p : Addr} {l : List Rat} {x : Rat} (ho : H0 p = none ∨ mu p) (A : At K s mu G0 H0 gs ds ms σ G H) (ha : EvC K s to ds ms (.ref p)) (hi : ms[i]? = some (p, .lst (l.map frD))) (h : EvD K s te ds ms (frD x)) (hx : x ∈ l) (k : ∀ G' H', At K s mu G0 H0 gs ds (ms.set i (p, .lst ((l.erase x).map frD))) σ G' H' → tz D σ H') :
    tSeq (tDrop (tBM K "list" (rRemD K) to (tCons te tNil))) tz D σ H :=
  ha σ G H A.kn _ fun v G1 H1 a1 o1 x1 => by
    have A1 := A.step a1 o1
    cases x1.ref
    obtain ⟨vs, e1, h1⟩ := A1.kn.get (List.mem_of_getElem? hi)
    refine ⟨tyV_lst e1, h σ G1 H1 A1.kn _ fun w G2 H2 a2 o2 x2 => ?_⟩
    have A2 := A1.step a2 o2
    obtain ⟨vs, e1, h1⟩ := A2.kn.get (List.mem_of_getElem? hi)
    obtain ⟨j, j1, j2, j3⟩ := first_fr hx
    refine ⟨p, w, frD x, vs, l.map frD, j, frD x, rfl, rfl, e1, (h1.mono A2.kn.gh).dp (plnA_fr l), (x2.is.mono A2.kn.gh).dp (pln_fr x), shpL_fr l, shp_fr x, smap_at j1, by rw [eqv_fr]; exact decide_eq_true rfl, fun m z hm hz => ?_, k _ _ (A2.write ho hi ?_)⟩
    · obtain ⟨y, hy, rfl⟩ := smap_get hz
      rw [eqv_fr]
      exact decide_eq_false fun e => j2 m hm (by rw [hy, e])
    · refine ⟨_, upd_same, ?_⟩
      rw [← j3, ← map_erase]
      exact h1.eraseIdx j
/-- xs != [] -/
theorem ev_neNil {p : Addr} {l : List Rat} (ha : EvC K s ta ds ms (.ref p)) (hm : (p, MO.lst (l.map frD)) ∈ ms) : EvD K s (tOp (rNeD K) ta (tLst tNil)) ds ms (.bool (!l.isEmpty)) := fun σ G H k Q q =>
  ha σ G H k _ fun v G1 H1 a1 o1 x1 => (ev_lst (dl := []) el_nil) σ G1 H1 (k.step a1 o1) _ fun w G2 H2 a2 o2 x2 => by
    have k2 := (k.step a1 o1).step a2 o2
    obtain ⟨vs, e1, h1⟩ := k2.get hm
    cases x1.ref
    refine ⟨.list (l.map frD), .list [], .lst (SqL.of e1) ((h1.mono k2.gh).dp (plnA_fr l)), (x2.is.mono k2.gh).dp (by simp [pln, plnA]), shpL_fr l, shpL_fr [], q _ G2 H2 (a1.trans a2) o2 ?_⟩
    have e : PyData.eqv (.list (l.map frD)) (.list []) = l.isEmpty := by
      cases l with
      | nil => simp [PyData.eqv, PyData.eqvAll]
      | cons a r => simp [PyData.eqv, PyData.eqvAll]
    rw [e]
    exact .dat (.bl _)
theorem ev_eqF {a b : Rat} (ha : EvD K s ta ds ms (frD a)) (hb : EvD K s tb ds ms (frD b)) : EvD K s (tOp (rEqD K) ta tb) ds ms (.bool (decide (a = b))) := (ev_op ha hb (od_eqD (pln_fr a) (pln_fr b) (shp_fr a) (shp_fr b))).to (by rw [eqv_fr])
theorem ev_neF {a b : Rat} (ha : EvD K s ta ds ms (frD a)) (hb : EvD K s tb ds ms (frD b)) : EvD K s (tOp (rNeD K) ta tb) ds ms (.bool (!decide (a = b))) := (ev_op ha hb (od_neD (pln_fr a) (pln_fr b) (shp_fr a) (shp_fr b))).to (by rw [eqv_fr])
/-- return of a list of our own -/
theorem s_retM {p : Addr} {xs : List Sy.D} (A : At K s mu G0 H0 gs ds ms σ G H) (h : EvC K s te ds ms (.ref p)) (hm : (p, MO.lst xs) ∈ ms) (h0 : H0 p = none) (k : ∀ v G' H', Stp mu G0 H0 G' H' → StOk s H' → Is K G' v (.list xs) → D.rt v H') : tRet te D σ H :=
  h σ G H A.kn _ fun v G1 H1 a o x => by
    obtain ⟨G2, A2, i2, _⟩ := (A.step a o).freeze hm h0
    cases x.ref
    exact k _ G2 H1 A2.sp o i2
end
end Fc
/-! Sy: dicts with text keys, fields, methods. -/
namespace Sy
open PySem PySem.Spec PyProof.Rows L2
/-! ### pairs -/
def aget {β : Type} : List (Str × β) → Str → Option β
  | [], _ => none
  | p :: r, x => if p.1 = x then some p.2 else aget r x
def aput {β : Type} : List (Str × β) → Str → β → List (Str × β)
  | [], x, v => [(x, v)]
  | p :: r, x, v => if p.1 = x then (p.1, v) :: r else p :: aput r x v
def adel {β : Type} (l : List (Str × β)) (x : Str) : List (Str × β) := l.filter fun p => decide (p.1 ≠ x)
theorem aget_map {β γ : Type} (g : β → γ) (x : Str) : ∀ l : List (Str × β), aget (l.map fun p => (p.1, g p.2)) x = (aget l x).map g
  | [] => rfl
  | p :: r => by
    show (if p.1 = x then some (g p.2) else aget (r.map fun p => (p.1, g p.2)) x) = (if p.1 = x then some p.2 else aget r x).map g
    rw [aget_map g x r]
    split <;> rfl
theorem aput_map {β γ : Type} (g : β → γ) (x : Str) (v : β) : ∀ l : List (Str × β), aput (l.map fun p => (p.1, g p.2)) x (g v) = (aput l x v).map fun p => (p.1, g p.2)
  | [] => rfl
  | p :: r => by
    show (if p.1 = x then (p.1, g v) :: (r.map fun p => (p.1, g p.2)) else (p.1, g p.2) :: aput (r.map fun p => (p.1, g p.2)) x (g v)) = (if p.1 = x then (p.1, v) :: r else p :: aput r x v).map _
    rw [aput_map g x v r]
    split <;> rfl
theorem adel_map {β γ : Type} (g : β → γ) (x : Str) (l : List (Str × β)) : adel (l.map fun p => (p.1, g p.2)) x = (adel l x).map fun p => (p.1, g p.2) := by
  unfold adel
  rw [List.filter_map]
  rfl
theorem aput_new {β : Type} {x : Str} {v : β} : ∀ {l : List (Str × β)}, aget l x = none → aput l x v = l ++ [(x, v)]
  | [], _ => rfl
  | p :: r, h => by
    by_cases e : p.1 = x
    · simp [aget, e] at h
    · have h' : aget r x = none := by simpa [aget, e] using h
      simp [aput, e, aput_new h']
theorem aget_mem {β : Type} {x : Str} {v : β} : ∀ {l : List (Str × β)}, aget l x = some v → (x, v) ∈ l
  | p :: r, h => by
    by_cases e : p.1 = x
    · have : some p.2 = some v := by simpa [aget, e] using h
      rw [← e, ← Option.some.inj this]
      exact List.mem_cons_self
    · have h' : aget r x = some v := by simpa [aget, e] using h
      exact List.mem_cons_of_mem _ (aget_mem h')
theorem aget_none {β : Type} {x : Str} : ∀ {l : List (Str × β)}, aget l x = none ↔ x ∉ l.map (·.1)
  | [] => by simp [aget]
  | p :: r => by
    by_cases e : p.1 = x
    · simp [aget, e]
    · have := aget_none (x := x) (l := r)
      simp only [aget, if_neg e, this, List.map_cons, List.mem_cons, not_or]
      exact ⟨fun h => ⟨fun z => e z.symm, h⟩, fun h => h.2⟩
theorem aget_some {β : Type} {x : Str} {l : List (Str × β)} : (aget l x).isSome = decide (x ∈ l.map (·.1)) := by
  cases h : aget l x with
  | none =>
    rw [decide_eq_false (aget_none.mp h)]
    rfl
  | some v =>
    rw [decide_eq_true (List.mem_map.mpr ⟨_, aget_mem h, rfl⟩)]
    rfl
/-- a dict's pairs as data -/
def DR (K : Fg) (G : Hp) (kv : List (Key × V)) (kvs : List (Str × D)) : Prop := Paired (fun (p : Key × V) (q : Str × D) => p.1 = .inr q.1 ∧ Is K G p.2 q.2) kv kvs
theorem DR.get {K : Fg} {G : Hp} (x : Str) : ∀ {kv : List (Key × V)} {kvs : List (Str × D)}, DR K G kv kvs → (aget kvs x = none → valV kv (Sum.inr x) = none) ∧ ∀ d, aget kvs x = some d → ∃ v, valV kv (Sum.inr x) = some v ∧ Is K G v d
  | _, _, .nil => ⟨fun _ => rfl, fun d h => by cases h⟩
  | _, _, .cons (a := p) (b := q) h t => by
    obtain ⟨h1, h2⟩ := h
    obtain ⟨i1, i2⟩ := DR.get x t
    by_cases e : q.1 = x
    · have ep : p.1 = Sum.inr x := by rw [h1, e]
      refine ⟨fun z => ?_, fun d z => ?_⟩
      · simp [aget, e] at z
      · have : some q.2 = some d := by simpa [aget, e] using z
        cases Option.some.inj this
        exact ⟨p.2, valV_pos ep, h2⟩
    · have ep : ¬ p.1 = Sum.inr x := fun z => e (by rw [h1] at z; exact Sum.inr.inj z)
      refine ⟨fun z => ?_, fun d z => ?_⟩
      · rw [valV_neg ep]
        exact i1 (by simpa [aget, e] using z)
      · rw [valV_neg ep]
        exact i2 d (by simpa [aget, e] using z)
theorem DR.isSome {K : Fg} {G : Hp} {x : Str} {kv : List (Key × V)} {kvs : List (Str × D)} (r : DR K G kv kvs) : (valV kv (Sum.inr x)).isSome = (aget kvs x).isSome := by
  obtain ⟨h1, h2⟩ := r.get x
  cases h : aget kvs x with
  | none => rw [h1 h] <;> rfl
  | some d =>
    obtain ⟨v, e, _⟩ := h2 d h
    rw [e] <;> rfl
theorem DR.snoc {K : Fg} {G : Hp} {kv : List (Key × V)} {kvs : List (Str × D)} (r : DR K G kv kvs) {x : Str} {v : V} {d : D} (h : Is K G v d) : DR K G (kv ++ [(Sum.inr x, v)]) (kvs ++ [(x, d)]) := psnoc r ⟨rfl, h⟩
theorem DR.repl {K : Fg} {G : Hp} {x : Str} {v : V} {d : D} (h : Is K G v d) : ∀ {kv : List (Key × V)} {kvs : List (Str × D)}, DR K G kv kvs → (kvs.map (·.1)).Nodup → (aget kvs x).isSome = true → DR K G (kv.map fun p => if p.1 = Sum.inr x then (p.1, v) else p) (aput kvs x d)
  | _, _, .nil, _, z => by cases z
  | _, _, .cons (a := p) (b := q) (l₁ := l1) (l₂ := l2) hh t, nd, z => by
    obtain ⟨h1, h2⟩ := hh
    rw [List.map_cons] at nd
    obtain ⟨n1, n2⟩ := List.nodup_cons.mp nd
    by_cases e : q.1 = x
    · have ep : p.1 = Sum.inr x := by rw [h1, e]
      have same : ∀ {kv : List (Key × V)} {kvs : List (Str × D)}, DR K G kv kvs → x ∉ kvs.map (·.1) → (kv.map fun p => if p.1 = Sum.inr x then (p.1, v) else p) = kv := by
        intro kv kvs r hx
        induction r with
        | nil => rfl
        | cons hh t ih =>
          rename_i p' q' _ _
          rw [List.map_cons, List.mem_cons, not_or] at hx
          rw [List.map_cons, ih hx.2, if_neg (fun z => hx.1 (by rw [hh.1] at z; exact (Sum.inr.inj z).symm))]
      show DR K G ((if p.1 = Sum.inr x then (p.1, v) else p) :: List.map _ _) (if q.1 = x then (q.1, d) :: _ else q :: aput _ x d)
      rw [if_pos ep, if_pos e, same t (by rw [← e]; exact n1)]
      exact .cons ⟨h1, h⟩ t
    · have ep : ¬ p.1 = Sum.inr x := fun z => e (by rw [h1] at z; exact Sum.inr.inj z)
      have z' : (aget l2 x).isSome = true := by simpa [aget, e] using z
      show DR K G ((if p.1 = Sum.inr x then (p.1, v) else p) :: List.map _ _) (if q.1 = x then (q.1, d) :: _ else q :: aput _ x d)
      rw [if_neg ep, if_neg e]
      exact .cons ⟨h1, h2⟩ (DR.repl h t n2 z')
theorem DR.len {K : Fg} {G : Hp} {kv : List (Key × V)} {kvs : List (Str × D)} (r : DR K G kv kvs) : kv.length = kvs.length := Paired.length r
theorem DR.put {K : Fg} {G : Hp} {x : Str} {v : V} {d : D} (h : Is K G v d) {kv : List (Key × V)} {kvs : List (Str × D)} (r : DR K G kv kvs) (nd : (kvs.map (·.1)).Nodup) : DR K G (putK kv (Sum.inr x) v) (aput kvs x d) := by
  cases e : aget kvs x with
  | none =>
    rw [aput_new e, putK_new v ((r.get x).1 e)]
    exact r.snoc h
  | some d' =>
    have h1 : (kv.any fun p => decide (p.1 = Sum.inr x)) = true := by
      rw [valV_any, r.isSome, e] <;> rfl
    have h2 : putK kv (Sum.inr x) v = kv.map fun p => if p.1 = Sum.inr x then (p.1, v) else p := by
      unfold putK
      rw [if_pos h1]
    rw [h2]
    exact DR.repl h r nd (by rw [e] <;> rfl)
theorem DR.del {K : Fg} {G : Hp} {x : Str} : ∀ {kv : List (Key × V)} {kvs : List (Str × D)}, DR K G kv kvs → DR K G (dropK kv (Sum.inr x)) (adel kvs x)
  | _, _, .nil => .nil
  | _, _, .cons (a := p) (b := q) (l₁ := l1) (l₂ := l2) h t => by
    obtain ⟨h1, h2⟩ := h
    by_cases e : q.1 = x
    · have ep : p.1 = Sum.inr x := by rw [h1, e]
      have e1 : adel (q :: l2) x = adel l2 x := List.filter_cons_of_neg (by simp [e])
      rw [dropK_pos ep, e1]
      exact DR.del t
    · have ep : ¬ p.1 = Sum.inr x := fun z => e (by rw [h1] at z; exact Sum.inr.inj z)
      have e1 : adel (q :: l2) x = q :: adel l2 x := List.filter_cons_of_pos (by simp [e])
      rw [dropK_neg ep, e1]
      exact .cons ⟨h1, h2⟩ (DR.del t)
section
variable {K : Fg} {s : Option Addr} {mu : Addr → Prop} {G0 H0 G H G' H' : Hp} {gs : List Hp} {ds : List SC} {ms : List (Addr × MO)} {σ : L2.St} {D : Ends} {te ta tb td ty tv : TE} {tt : TT} {tr : TA} {t u tz : TS} {c : SC} {d : Sy.D} {p : Addr} {kvs : List (Str × Sy.D)} {x : Str}
theorem ev_din (hy : EvD K s ty ds ms (.str x)) (hd : EvC K s td ds ms (.ref p)) (hm : (p, MO.dct kvs) ∈ ms) : EvD K s (tDIn ty td) ds ms (.bool (aget kvs x).isSome) := fun σ G H k Q q =>
  hy σ G H k _ fun v G1 H1 a1 o1 x1 => hd σ G1 H1 (k.step a1 o1) _ fun w G2 H2 a2 o2 x2 => by
    obtain ⟨kv, e1, r⟩ := ((k.step a1 o1).step a2 o2).get hm
    cases x1.is
    cases x2.ref
    refine ⟨p, _, rfl, DGet.k (k := Sum.inr x) e1, q _ G2 H2 (a1.trans a2) o2 ?_⟩
    rw [DR.isSome r]
    exact .dat (.bl _)
theorem ev_dni (hy : EvD K s ty ds ms (.str x)) (hd : EvC K s td ds ms (.ref p)) (hm : (p, MO.dct kvs) ∈ ms) : EvD K s (tDNotIn ty td) ds ms (.bool (!(aget kvs x).isSome)) := fun σ G H k Q q =>
  hy σ G H k _ fun v G1 H1 a1 o1 x1 => hd σ G1 H1 (k.step a1 o1) _ fun w G2 H2 a2 o2 x2 => by
    obtain ⟨kv, e1, r⟩ := ((k.step a1 o1).step a2 o2).get hm
    cases x1.is
    cases x2.ref
    refine ⟨p, _, rfl, DGet.k (k := Sum.inr x) e1, q _ G2 H2 (a1.trans a2) o2 ?_⟩
    rw [DR.isSome r]
    exact .dat (.bl _)
theorem ev_dget (hd : EvC K s td ds ms (.ref p)) (hy : EvD K s ty ds ms (.str x)) (hm : (p, MO.dct kvs) ∈ ms) (h : aget kvs x = some d) : EvD K s (tDGet td ty) ds ms d := fun σ G H k Q q =>
  hd σ G H k _ fun v G1 H1 a1 o1 x1 => hy σ G1 H1 (k.step a1 o1) _ fun w G2 H2 a2 o2 x2 => by
    obtain ⟨kv, e1, r⟩ := ((k.step a1 o1).step a2 o2).get hm
    cases x1.ref
    cases x2.is
    obtain ⟨v, e2, h2⟩ := (DR.get x r).2 d h
    exact ⟨p, v, rfl, by rw [← e2]; exact DGet.k (k := Sum.inr x) e1, q _ G2 H2 (a1.trans a2) o2 (.dat h2)⟩
/-- d[x] = e -/
theorem s_dput {i : Nat} (ho : H0 p = none ∨ mu p) (A : At K s mu G0 H0 gs ds ms σ G H) (hv : EvD K s tv ds ms d) (hd : EvC K s td ds ms (.ref p)) (hy : EvD K s ty ds ms (.str x)) (hi : ms[i]? = some (p, .dct kvs)) (nd : (kvs.map (·.1)).Nodup) (hz : kvs.length < 1000) (k : ∀ G' H', At K s mu G0 H0 gs ds (ms.set i (p, .dct (aput kvs x d))) σ G' H' → D.nx σ H') : sDPut td ty tv D σ H :=
  hv σ G H A.kn _ fun v G1 H1 a1 o1 x1 => hd σ G1 H1 (A.step a1 o1).kn _ fun w G2 H2 a2 o2 x2 => hy σ G2 H2 ((A.step a1 o1).step a2 o2).kn _ fun u G3 H3 a3 o3 x3 => by
    have A3 := ((A.step a1 o1).step a2 o2).step a3 o3
    obtain ⟨kv, e1, r⟩ := A3.kn.get (List.mem_of_getElem? hi)
    cases x2.ref
    cases x3.is
    refine ⟨p, _, rfl, DPut.k (k := Sum.inr x) e1 (small1000 (by rw [DR.len r]; omega)), k _ _ (A3.write ho hi ⟨_, upd_same, ?_⟩)⟩
    exact DR.put ((x1.is.mono a2.gg).mono a3.gg) r nd
theorem q_dput {i : Nat} (ho : H0 p = none ∨ mu p) (A : At K s mu G0 H0 gs ds ms σ G H) (hv : EvD K s tv ds ms d) (hd : EvC K s td ds ms (.ref p)) (hy : EvD K s ty ds ms (.str x)) (hi : ms[i]? = some (p, .dct kvs)) (nd : (kvs.map (·.1)).Nodup) (hz : kvs.length < 1000) (k : ∀ G' H', At K s mu G0 H0 gs ds (ms.set i (p, .dct (aput kvs x d))) σ G' H' → tz D σ H') : tSeq (sDPut td ty tv) tz D σ H :=
  s_dput (D := { D with nx := tz D }) ho A hv hd hy hi nd hz k
/-- y = {} -/
theorem q_newD {i : Nat} (A : At K s mu G0 H0 gs ds ms σ G H) (k : ∀ p σ' G' H', H0 p = none → At K s mu G0 H0 gs (ds.set i (.ref p)) ((p, .dct []) :: ms) σ' G' H' → tz D σ' H') : tSeq (tAsg tDNewK (gName i)) tz D σ H := fun p hp => by
  have h0 : H0 p = none := by
    cases e0 : H0 p with
    | none => rfl
    | some z => exact absurd hp (A.sp.st p (by rw [e0]; exact fun q => nomatch q))
  exact k p _ G _ h0 ((A.newM (m := .dct []) hp ⟨[], upd_same, .nil⟩).slot rfl)
/-- y = {e: e'}, one pair -/
theorem q_disp {i : Nat} (A : At K s mu G0 H0 gs ds ms σ G H) (hy : ∀ ms, EvD K s ty ds ms (.str x)) (hv : ∀ ms, EvD K s tv ds ms d) (k : ∀ p σ' G' H', H0 p = none → At K s mu G0 H0 gs (ds.set i (.ref p)) ((p, .dct [(x, d)]) :: ms) σ' G' H' → tz D σ' H') : tSeq (tAsg (tDisp [(ty, tv)]) (gName i)) tz D σ H := fun p hp => by
  have h0 : H0 p = none := by
    cases e0 : H0 p with
    | none => rfl
    | some z => exact absurd hp (A.sp.st p (by rw [e0]; exact fun q => nomatch q))
  have A1 := A.newM (m := .dct []) hp ⟨[], upd_same, .nil⟩
  refine hy _ σ _ _ A1.kn _ fun w G2 H2 a2 o2 x2 => hv _ σ G2 H2 (A1.step a2 o2).kn _ fun v G3 H3 a3 o3 x3 => ?_
  have A3 := (A1.step a2 o2).step a3 o3
  obtain ⟨kv, e1, r⟩ := A3.kn.get (List.mem_cons_self)
  cases r
  cases x2.is
  refine ⟨e1, [(Sum.inr x, v)], rfl, Nat.le_of_ble_eq_true rfl, k p _ G3 _ h0 ?_⟩
  have A4 := A3.write (i := 0) (o := .dK (mergeK [] [(Sum.inr x, v)])) (m' := .dct [(x, d)]) (.inl h0) rfl ⟨_, upd_same, .cons ⟨rfl, x3.is⟩ .nil⟩
  exact A4.slot rfl
/-! ### fields -/
theorem flook {K : Fg} {G : Hp} {f : Str} : ∀ {fv : List (Str × V)} {fs : List (Str × SC)}, Paired (fun (p : Str × V) (q : Str × SC) => p.1 = q.1 ∧ SlP K G (some p.2) q.2) fv fs → ∀ {c : SC}, fs.lookup f = some c → ∃ v, fv.lookup f = some v ∧ CP K G v c
  | _, _, .nil, c, h => by cases h
  | _, _, .cons (a := p) (b := q) hh t, c, h => by
    obtain ⟨p1, p2⟩ := p
    obtain ⟨q1, q2⟩ := q
    obtain ⟨h1, h2⟩ := hh
    have h1 : p1 = q1 := h1
    subst h1
    rw [List.lookup_cons] at h
    rw [List.lookup_cons]
    by_cases e : f == p1
    · rw [e] at h
      rw [e]
      exact ⟨p2, rfl, Option.some.inj h ▸ h2⟩
    · have e : (f == p1) = false := by simpa using e
      rw [e] at h
      rw [e]
      exact flook t h
theorem flook_none {K : Fg} {G : Hp} {f : Str} : ∀ {fv : List (Str × V)} {fs : List (Str × SC)}, Paired (fun (p : Str × V) (q : Str × SC) => p.1 = q.1 ∧ SlP K G (some p.2) q.2) fv fs → fs.lookup f = none → fv.lookup f = none
  | _, _, .nil, h => rfl
  | _, _, .cons (a := p) (b := q) hh t, h => by
    obtain ⟨p1, p2⟩ := p
    obtain ⟨q1, q2⟩ := q
    obtain ⟨h1, h2⟩ := hh
    have h1 : p1 = q1 := h1
    subst h1
    rw [List.lookup_cons] at h
    rw [List.lookup_cons]
    by_cases e : f == p1
    · rw [e] at h
      cases h
    · have e : (f == p1) = false := by simpa using e
      rw [e] at h
      rw [e]
      exact flook_none t h
theorem ev_fld {C dx : Addr} {fs : List (Str × SC)} {f : Str} (ha : EvC K s ta ds ms (.ref p)) (hc : Cls K C) (hn : NoAttr K C f) (hm : (p, MO.ins C dx fs) ∈ ms) (hl : fs.lookup f = some c) : EvC K s (tFld K ta f) ds ms c := fun σ G H k Q q =>
  ha σ G H k _ fun v G1 H1 a1 o1 x1 => by
    obtain ⟨fv, e1, r⟩ := (k.step a1 o1).get hm
    cases x1.ref
    obtain ⟨v, e2, h2⟩ := flook r hl
    exact ⟨p, C, dx, fv, v, rfl, e1, hc, hn, e2, q v G1 H1 a1 o1 h2⟩
/-- the fields behind a store -/
def putS (f : Str) (c : SC) : List (Str × SC) → List (Str × SC)
  | [] => [(f, c)]
  | (g, x) :: r => if g = f then (g, c) :: r else (g, x) :: putS f c r
theorem fput {K : Fg} {G : Hp} {f : Str} {v : V} {c : SC} (h : CP K G v c) : ∀ {fv : List (Str × V)} {fs : List (Str × SC)}, Paired (fun (p : Str × V) (q : Str × SC) => p.1 = q.1 ∧ SlP K G (some p.2) q.2) fv fs → Paired (fun (p : Str × V) (q : Str × SC) => p.1 = q.1 ∧ SlP K G (some p.2) q.2) (putF f v fv) (putS f c fs)
  | _, _, .nil => .cons ⟨rfl, h⟩ .nil
  | _, _, .cons (a := p) (b := q) hh t => by
    obtain ⟨p1, p2⟩ := p
    obtain ⟨q1, q2⟩ := q
    obtain ⟨h1, h2⟩ := hh
    have h1 : p1 = q1 := h1
    subst h1
    show Paired _ (if p1 = f then (p1, v) :: _ else (p1, p2) :: putF f v _) (if p1 = f then (p1, c) :: _ else (p1, q2) :: putS f c _)
    by_cases e : p1 = f
    · rw [if_pos e, if_pos e]
      exact .cons ⟨rfl, h⟩ t
    · rw [if_neg e, if_neg e]
      exact .cons ⟨rfl, h2⟩ (fput h t)
/-- o.f = e -/
theorem q_fld {i : Nat} {C dx : Addr} {fs : List (Str × SC)} {f : Str} (ho : H0 p = none ∨ mu p) (A : At K s mu G0 H0 gs ds ms σ G H) (hc : Cls K C) (hn : NoAttr K C f) (hv : EvC K s tv ds ms c) (ha : EvC K s ta ds ms (.ref p)) (hi : ms[i]? = some (p, .ins C dx fs)) (hz : fs.length < 1000) (k : ∀ G' H', At K s mu G0 H0 gs ds (ms.set i (p, .ins C dx (putS f c fs))) σ G' H' → tz D σ H') : tSeq (sFld K ta tv f) tz D σ H :=
  hv σ G H A.kn _ fun v G1 H1 a1 o1 x1 => ha σ G1 H1 (A.step a1 o1).kn _ fun w G2 H2 a2 o2 x2 => by
    have A2 := (A.step a1 o1).step a2 o2
    obtain ⟨fv, e1, r⟩ := A2.kn.get (List.mem_of_getElem? hi)
    cases x2.ref
    exact ⟨p, C, dx, fv, rfl, e1, hc, hn, by rw [Paired.length r]; exact hz, k _ _ (A2.write ho hi ⟨_, upd_same, fput (x1.mono a2.gg) r⟩)⟩
theorem s_fld {i : Nat} {C dx : Addr} {fs : List (Str × SC)} {f : Str} (ho : H0 p = none ∨ mu p) (A : At K s mu G0 H0 gs ds ms σ G H) (hc : Cls K C) (hn : NoAttr K C f) (hv : EvC K s tv ds ms c) (ha : EvC K s ta ds ms (.ref p)) (hi : ms[i]? = some (p, .ins C dx fs)) (hz : fs.length < 1000) (k : ∀ G' H', At K s mu G0 H0 gs ds (ms.set i (p, .ins C dx (putS f c fs))) σ G' H' → D.nx σ H') : sFld K ta tv f D σ H := q_fld (D := D) (tz := fun D => D.nx) ho A hc hn hv ha hi hz k
/-- o.f = a new list that may change -/
theorem q_fldN {i : Nat} {C dx : Addr} {fs : List (Str × SC)} {f : Str} {Φ : List Sy.D → Prop} (ho : H0 p = none ∨ mu p) (A : At K s mu G0 H0 gs ds ms σ G H) (hc : Cls K C) (hn : NoAttr K C f) (hv : EvN K s tv ds ms Φ) (ha : ∀ ms, EvC K s ta ds ms (.ref p)) (hi : ms[i]? = some (p, .ins C dx fs)) (hz : fs.length < 1000) (k : ∀ q dl G' H', Φ dl → H0 q = none → At K s mu G0 H0 gs ds ((q, .lst dl) :: ms.set i (p, .ins C dx (putS f (.ref q) fs))) σ G' H' → tz D σ H') : tSeq (sFld K ta tv f) tz D σ H :=
  hv σ G H A.kn _ fun q G1 H1 vs dl a1 o1 hq gq eq x1 px => by
    obtain ⟨A1, h0⟩ : At K s mu G0 H0 gs ds ((q, .lst dl) :: ms) σ G1 H1 ∧ H0 q = none := by
      have A1 := A.step a1 o1
      have h0 : H0 q = none := by
        cases e0 : H0 q with
        | none => rfl
        | some z => exact absurd hq (A.sp.st q (by rw [e0]; exact fun q => nomatch q))
      have nem : ∀ r ∈ ms, r.1 ≠ q := fun r hr z => by
        obtain ⟨o', e'⟩ := MOk.has (A.kn.mo r hr).1
        rw [z, hq] at e'
        cases e'
      have nes : ¬ isS s q := fun e' => by
        obtain ⟨n, m, b, e1, _⟩ := A.kn.vo q e'
        rw [hq] at e1
        cases e1
      refine ⟨⟨⟨A1.kn.gh, A1.kn.sl, fun r hr => ?_, ?_, A1.kn.vo, A1.kn.vg⟩, A1.sp, A1.sm, A1.ke⟩, h0⟩
      · rcases List.mem_cons.mp hr with rfl | hr
        · exact ⟨⟨vs, eq, x1⟩, gq, nes⟩
        · exact A1.kn.mo r hr
      · rw [List.map_cons]
        refine List.nodup_cons.mpr ⟨fun hm' => ?_, A.kn.nd⟩
        obtain ⟨r, hr, e⟩ := List.mem_map.mp hm'
        exact nem r hr e
    refine ha _ σ G1 H1 A1.kn _ fun w G2 H2 a2 o2 x2 => ?_
    have A2 := A1.step a2 o2
    obtain ⟨fv, e1, r⟩ := A2.kn.get (List.mem_cons_of_mem _ (List.mem_of_getElem? hi))
    cases x2.ref
    refine ⟨p, C, dx, fv, rfl, e1, hc, hn, by rw [Paired.length r]; exact hz, k q dl G2 _ px h0 ?_⟩
    exact A2.write (i := i + 1) ho (by simpa using hi) ⟨_, upd_same, fput (show CP K G2 (.ref q) (.ref q) from rfl) r⟩
/-! ### xs[i] op= e, a field's list -/
theorem s_augS {i j : Nat} {ti : TE} {f : Int → Int → Int} {ns : List Int} {a b : Int} (ho : H0 p = none ∨ mu p) (A : At K s mu G0 H0 gs ds ms σ G H) (ha : EvC K s ta ds ms (.ref p)) (hj : EvD K s ti ds ms (.int ((j : Nat) : Int))) (hi : ms[i]? = some (p, .lst (ns.map .int))) (hx : ns[j]? = some a) (h : EvD K s te ds ms (.int b))
    (k : ∀ G' H', At K s mu G0 H0 gs ds (ms.set i (p, .lst ((ns.set j (f a b)).map .int))) σ G' H' → D.nx σ H') : tAugS ta ti te (gLst K) (ipI f) rSetL D σ H :=
  ha σ G H A.kn _ fun v G1 H1 a1 o1 x1 => hj σ G1 H1 (A.step a1 o1).kn _ fun w G2 H2 a2 o2 x2 => by
    have A2 := (A.step a1 o1).step a2 o2
    cases x1.ref
    cases x2.is
    obtain ⟨vs, e1, h1⟩ := A2.kn.get (List.mem_of_getElem? hi)
    have e2 := h1.ints
    subst e2
    refine ⟨p, _, j, .int a, rfl, rfl, SqL.of e1, by rw [List.getElem?_map, hx] <;> rfl, h σ G2 H2 A2.kn _ fun u G3 H3 a3 o3 x3 => ?_⟩
    have A3 := A2.step a3 o3
    cases x3.is
    obtain ⟨vs, e1, h1⟩ := A3.kn.get (List.mem_of_getElem? hi)
    have e2 := h1.ints
    subst e2
    obtain ⟨hl, _⟩ := List.getElem?_eq_some_iff.mp hx
    refine ⟨a, b, rfl, rfl, p, _, j, j, rfl, rfl, e1, ixN_nat (by rw [List.length_map]; exact hl), k _ _ (A3.write ho hi ⟨_, upd_same, ?_⟩)⟩
    rw [List.map_set]
    exact h1.set j (.int _)
/-! ### a copy of an object's list of numbers -/
theorem en_rep {x : Sy.D} {n : Nat} (h : EvL K s tr ds ms [x]) (hn : EvD K s tb ds ms (.int ((n : Nat) : Int))) (hz : n ≤ 1000) : EvN K s (tOp rRep (tLst tr) tb) ds ms (fun l => l = List.replicate n x) := fun σ G H k Q q =>
  (ev_lst (dl := [x]) h) σ G H k _ fun v G1 H1 a1 o1 x1 => hn σ G1 H1 (k.step a1 o1) _ fun w G2 H2 a2 o2 x2 => by
    have x1 := x1.is.mono a2.gg
    cases x2.is
    cases x1 with
    | @lst b vs _ hb xs =>
      cases xs with
      | @cons v1 vr _ _ h1 h2 =>
        cases h2
        refine ⟨b, _, [v1], rfl, rfl, a2.gh _ _ hb, Int.le_trans (by decide) (Int.natCast_nonneg n), by omega, ?_, fun p hp => ?_⟩
        · rw [Int.toNat_natCast]
          show 1 * n ≤ sizeLine
          exact Nat.le_of_lt (small1000 (by omega))
        · rw [Int.toNat_natCast]
          have ef : (List.replicate n [v1]).flatten = List.replicate n v1 := by
            have hfl : ∀ n : Nat, (List.replicate n [v1]).flatten = List.replicate n v1 := fun n => by
              induction n with
              | zero => rfl
              | succ n ih =>
                rw [List.replicate_succ, List.flatten_cons, ih, List.replicate_succ]
                rfl
            exact hfl n
          rw [ef]
          have a3 : Stp mu0 G2 H2 _ _ := Stp.new (o := .lst (List.replicate n v1)) a2.gh hp
          have g1 : G2 p = none := Same.free a2.gh hp
          have a12 := a1.trans a2
          have hp0 : H p = none := by
            cases e : H p with
            | none => rfl
            | some z => exact absurd hp (a12.st p (by rw [e]; exact fun q => nomatch q))
          refine q p G2 _ (List.replicate n v1) _ ⟨a12.gg, fun b u h => ?_, fun b u n h => ?_, a12.nw, fun b n => a3.st b (a12.st b n)⟩ (((k.step a1 o1).step a2 o2).stO a3) hp0 g1 upd_same (IsA.rep h1 n) rfl
          · rw [upd_ne (ne_of_none h g1)]
            exact a2.gh b u h
          · exact a3.hh b u (fun z => z) (a12.hh b u n h)
end
end Sy
/-! Pipes: what is reached, steps, what is sent. -/
namespace Fc
open PySem L2 Sy
structure PData where
  W : Web
  b : Nat
  R : List Int
  A : List Int
def spareZ (pd : PData) (k : Nat) (x : Str) : Int := match pd.W.ties[k]? with
  | none => 0
  | some t => if x = t.one then pd.R.getD k 0 - pd.A.getD k 0 else if x = t.other ∧ t.both = true then pd.R.getD k 0 + pd.A.getD k 0 else if x = t.other then pd.A.getD k 0 else 0
def overZ (W : Web) (k : Nat) (x : Str) : Str := match W.ties[k]? with
  | none => x
  | some t => if x = t.one then t.other else t.one
abbrev Fnd := List (Str × Option (Nat × Str))
def keysF (f : Fnd) : List Str := f.map (·.1)
def stepD : Option (Nat × Str) → D
  | none => .none
  | some (k, x) => .tuple [.int ((k : Nat) : Int), .str x]
def kvD (f : Fnd) : List (Str × D) := f.map fun p => (p.1, stepD p.2)
theorem keys_kvD (f : Fnd) : (kvD f).map (·.1) = keysF f := by
  unfold kvD keysF
  rw [List.map_map]
  rfl
def bfsK (pd : PData) (x : Str) (st : Fnd × List Str) (k : Nat) : Fnd × List Str :=
  if 0 < spareZ pd k x ∧ overZ pd.W k x ∉ keysF st.1 then (st.1 ++ [(overZ pd.W k x, some (k, x))], st.2 ++ [overZ pd.W k x]) else st
/-- while the places are gone through: x is looked at now, its ties up to i are done -/
structure BI (pd : PData) (f : Fnd) (wt : List Str) (x : Str) (i : Nat) : Prop where
  hd : ∃ r, f = (pd.W.first, none) :: r
  nd : (keysF f).Nodup
  pl : ∀ y ∈ keysF f, y ∈ pd.W.places
  par : ∀ (j : Nat) (y : Str) (k : Nat) (z : Str), f[j]? = some (y, some (k, z)) → k < pd.W.ties.length ∧ 0 < spareZ pd k z ∧ overZ pd.W k z = y ∧ ∃ (m : Nat) (o : Option (Nat × Str)), m < j ∧ f[m]? = some (z, o)
  non : ∀ (j : Nat) (y : Str), f[j]? = some (y, none) → y = pd.W.first
  wk : ∀ y ∈ wt, y ∈ keysF f
  cl : ∀ y ∈ keysF f, y ∉ wt → ∀ k, k < pd.W.ties.length → 0 < spareZ pd k y → overZ pd.W k y ∈ keysF f ∨ (y = x ∧ i ≤ k)
theorem mem_keys {f : Fnd} {y : Str} (h : y ∈ keysF f) : ∃ (j : Nat) (o : Option (Nat × Str)), f[j]? = some (y, o) := by
  obtain ⟨p, hp, e⟩ := List.mem_map.mp h
  obtain ⟨j, hj⟩ := List.getElem?_of_mem hp
  exact ⟨j, p.2, by rw [hj, ← e]⟩
theorem keys_mem {f : Fnd} {j : Nat} {y : Str} {o : Option (Nat × Str)} (h : f[j]? = some (y, o)) : y ∈ keysF f := List.mem_map.mpr ⟨_, List.mem_of_getElem? h, rfl⟩
theorem keys_append (f : Fnd) (y : Str) (o : Option (Nat × Str)) : keysF (f ++ [(y, o)]) = keysF f ++ [y] := by
  unfold keysF
  rw [List.map_append]
  rfl
theorem BI.start {pd : PData} (h : WebOk pd.W) : BI pd [(pd.W.first, none)] [pd.W.first] pd.W.first pd.W.ties.length where
  hd := ⟨[], rfl⟩
  nd := by simp [keysF]
  pl := fun y hy => by
    cases List.mem_singleton.mp (show y ∈ [pd.W.first] from hy)
    exact h.fi
  par := fun j y k z e => by
    cases j with
    | zero => cases e
    | succ j => simp at e
  non := fun j y e => by
    cases j with
    | zero => cases e; rfl
    | succ j => simp at e
  wk := fun y hy => hy
  cl := fun y hy n => absurd hy n
theorem BI.pop {pd : PData} {f : Fnd} {wt : List Str} {x x' : Str} (b : BI pd f (x :: wt) x' pd.W.ties.length) : BI pd f wt x 0 where
  hd := b.hd
  nd := b.nd
  pl := b.pl
  par := b.par
  non := b.non
  wk := fun y hy => b.wk y (List.mem_cons_of_mem _ hy)
  cl := fun y hy n k hk hs => by
    by_cases e : y = x
    · exact .inr ⟨e, Nat.zero_le _⟩
    · rcases b.cl y hy (fun z => (List.mem_cons.mp z).elim e n) k hk hs with h | ⟨_, h⟩
      · exact .inl h
      · omega
theorem over_mem {W : Web} (h : WebOk W) {k : Nat} {x : Str} (hk : k < W.ties.length) : overZ W k x ∈ W.places := by
  have e := List.getElem?_eq_getElem hk
  have ht := h.tk _ (List.getElem_mem hk)
  unfold overZ
  rw [e]
  show (if x = W.ties[k].one then W.ties[k].other else W.ties[k].one) ∈ _
  split
  · exact ht.other
  · exact ht.one
theorem BI.step {pd : PData} {f : Fnd} {wt : List Str} {x : Str} {i : Nat} (hW : WebOk pd.W) (b : BI pd f wt x i) (hx : x ∈ keysF f) (hi : i < pd.W.ties.length) : BI pd (bfsK pd x (f, wt) i).1 (bfsK pd x (f, wt) i).2 x (i + 1) ∧ x ∈ keysF (bfsK pd x (f, wt) i).1 := by
  unfold bfsK
  by_cases c : 0 < spareZ pd i x ∧ overZ pd.W i x ∉ keysF (f, wt).1
  · rw [if_pos c]
    obtain ⟨c1, c2⟩ := c
    have c2 : overZ pd.W i x ∉ keysF f := c2
    refine ⟨⟨?_, ?_, ?_, ?_, ?_, ?_, ?_⟩, ?_⟩
    · obtain ⟨r, e⟩ := b.hd
      exact ⟨r ++ [(overZ pd.W i x, some (i, x))], by rw [e] <;> rfl⟩
    · show (keysF (f ++ _)).Nodup
      rw [keys_append]
      exact nd_snoc b.nd c2
    · intro y hy
      have hy : y ∈ keysF (f ++ [(overZ pd.W i x, some (i, x))]) := hy
      rw [keys_append] at hy
      rcases List.mem_append.mp hy with hy | hy
      · exact b.pl y hy
      · cases List.mem_singleton.mp hy
        exact over_mem hW hi
    · intro j y k z e
      have e : (f ++ [(overZ pd.W i x, some (i, x))])[j]? = some (y, some (k, z)) := e
      by_cases hj : j < f.length
      · rw [List.getElem?_append_left hj] at e
        obtain ⟨h1, h2, h3, m, o, h4, h5⟩ := b.par j y k z e
        exact ⟨h1, h2, h3, m, o, h4, show (f ++ _)[m]? = _ by rw [List.getElem?_append_left (by omega)]; exact h5⟩
      · rw [List.getElem?_append_right (by omega)] at e
        have hj0 : j - f.length = 0 := by
          obtain ⟨hl, _⟩ := List.getElem?_eq_some_iff.mp e
          simp at hl
          omega
        rw [hj0] at e
        cases e
        obtain ⟨m, o, hm⟩ := mem_keys hx
        obtain ⟨hml, _⟩ := List.getElem?_eq_some_iff.mp hm
        exact ⟨hi, c1, rfl, m, o, by omega, show (f ++ _)[m]? = _ by rw [List.getElem?_append_left hml]; exact hm⟩
    · intro j y e
      have e : (f ++ [(overZ pd.W i x, some (i, x))])[j]? = some (y, none) := e
      by_cases hj : j < f.length
      · rw [List.getElem?_append_left hj] at e
        exact b.non j y e
      · rw [List.getElem?_append_right (by omega)] at e
        have hj0 : j - f.length = 0 := by
          obtain ⟨hl, _⟩ := List.getElem?_eq_some_iff.mp e
          simp at hl
          omega
        rw [hj0] at e
        cases e
    · intro y hy
      show y ∈ keysF (f ++ _)
      rw [keys_append]
      rcases List.mem_append.mp (show y ∈ wt ++ [overZ pd.W i x] from hy) with hy | hy
      · exact List.mem_append_left _ (b.wk y hy)
      · exact List.mem_append_right _ hy
    · intro y hy n k hk hs
      have hy : y ∈ keysF (f ++ [(overZ pd.W i x, some (i, x))]) := hy
      show overZ pd.W k y ∈ keysF (f ++ _) ∨ _
      rw [keys_append] at hy ⊢
      have n1 : y ∉ wt := fun z => n (List.mem_append_left _ z)
      have n2 : y ≠ overZ pd.W i x := fun z => n (List.mem_append_right _ (List.mem_singleton.mpr z))
      rcases List.mem_append.mp hy with hy | hy
      · rcases b.cl y hy n1 k hk hs with h | ⟨h1, h2⟩
        · exact .inl (List.mem_append_left _ h)
        · by_cases hki : k = i
          · subst hki
            subst h1
            exact .inl (List.mem_append_right _ (List.mem_singleton.mpr rfl))
          · exact .inr ⟨h1, by omega⟩
      · exact absurd (List.mem_singleton.mp hy) n2
    · show x ∈ keysF (f ++ _)
      rw [keys_append]
      exact List.mem_append_left _ hx
  · rw [if_neg c]
    refine ⟨⟨b.hd, b.nd, b.pl, b.par, b.non, b.wk, fun y hy n k hk hs => ?_⟩, hx⟩
    rcases b.cl y hy n k hk hs with h | ⟨h1, h2⟩
    · exact .inl h
    · by_cases hki : k = i
      · subst hki
        subst h1
        exact .inl (Classical.byContradiction fun z => c ⟨hs, z⟩)
      · exact .inr ⟨h1, by omega⟩
/-- a list without repeats within another -/
theorem nodup_len {α : Type} [DecidableEq α] : ∀ {l m : List α}, l.Nodup → (∀ x ∈ l, x ∈ m) → l.length ≤ m.length
  | [], _, _, _ => Nat.zero_le _
  | x :: r, m, h, s => by
    obtain ⟨h1, h2⟩ := List.nodup_cons.mp h
    have hx : x ∈ m := s x List.mem_cons_self
    have ih := nodup_len (l := r) (m := m.erase x) h2 fun y hy => (List.mem_erase_of_ne (fun z => h1 (by rw [← z]; exact hy))).mpr (s y (List.mem_cons_of_mem _ hy))
    rw [List.length_erase_of_mem hx] at ih
    have : 0 < m.length := List.length_pos_of_mem hx
    rw [List.length_cons]
    omega
theorem BI.len {pd : PData} {f : Fnd} {wt : List Str} {x : Str} {i : Nat} (b : BI pd f wt x i) : f.length ≤ pd.W.places.length := by
  have := nodup_len b.nd b.pl
  unfold keysF at this
  rw [List.length_map] at this
  exact this
theorem bfs_meas (pd : PData) (x : Str) (f : Fnd) (wt : List Str) (k : Nat) : (bfsK pd x (f, wt) k).2.length + 2 * f.length ≤ wt.length + 2 * (bfsK pd x (f, wt) k).1.length := by
  unfold bfsK
  split
  · show (wt ++ [_]).length + 2 * f.length ≤ wt.length + 2 * (f ++ [_]).length
    simp
    omega
  · exact Nat.le_refl _
/-- all that can be reached, with how -/
abbrev FoundOk (pd : PData) (f : Fnd) : Prop := BI pd f [] pd.W.first pd.W.ties.length
theorem BI.fin {pd : PData} {f : Fnd} {x : Str} (b : BI pd f [] x pd.W.ties.length) : FoundOk pd f :=
  ⟨b.hd, b.nd, b.pl, b.par, b.non, b.wk, fun y hy n k hk hs => (b.cl y hy n k hk hs).elim .inl fun h => by omega⟩
theorem FoundOk.cl' {pd : PData} {f : Fnd} (b : FoundOk pd f) {y : Str} (hy : y ∈ keysF f) {k : Nat} (hk : k < pd.W.ties.length) (hs : 0 < spareZ pd k y) : overZ pd.W k y ∈ keysF f := by
  rcases b.cl y hy (by simp) k hk hs with h | ⟨_, h⟩
  · exact h
  · omega
theorem FoundOk.first {pd : PData} {f : Fnd} (b : FoundOk pd f) : pd.W.first ∈ keysF f := by
  obtain ⟨r, e⟩ := b.hd
  rw [e]
  exact List.mem_cons_self
/-! steps -/
def PathFrom (W : Web) : Str → List (Nat × Str) → Str → Prop
  | y0, [], y => y = y0
  | y0, p :: r, y => overZ W p.1 p.2 = y0 ∧ PathFrom W p.2 r y
theorem PathFrom.snoc {W : Web} : ∀ {y0 : Str} {st : List (Nat × Str)} {y : Str} {k : Nat} {x : Str}, PathFrom W y0 st y → overZ W k x = y → PathFrom W y0 (st ++ [(k, x)]) x
  | y0, [], y, k, x, h, e => ⟨by rw [e]; exact h, rfl⟩
  | y0, p :: r, y, k, x, h, e => ⟨h.1, PathFrom.snoc h.2 e⟩
/-- steps that can be gone, each to a place of a higher rank -/
structure PathOk (pd : PData) (st : List (Nat × Str)) : Prop where
  path : PathFrom pd.W pd.W.last st pd.W.first
  ok : ∀ p ∈ st, p.1 < pd.W.ties.length ∧ 0 < spareZ pd p.1 p.2
  rk : ∃ rk : Str → Nat, ∀ p ∈ st, rk p.2 < rk (overZ pd.W p.1 p.2)
def rkF (f : Fnd) (y : Str) : Nat := (keysF f).idxOf y
theorem rk_at {f : Fnd} (nd : (keysF f).Nodup) {j : Nat} {y : Str} {o : Option (Nat × Str)} (h : f[j]? = some (y, o)) : rkF f y = j := by
  obtain ⟨hl, e⟩ := List.getElem?_eq_some_iff.mp h
  have hm : (keysF f)[j]? = some y := by
    unfold keysF
    rw [List.getElem?_map, h] <;> rfl
  have hl2 : rkF f y < (keysF f).length := List.idxOf_lt_length_of_mem (keys_mem h)
  have h2 : (keysF f)[rkF f y]? = some y := by
    rw [List.getElem?_eq_getElem hl2]
    exact congrArg some (List.getElem_idxOf hl2)
  exact nd_ix nd h2 hm
theorem PathOk.ne {pd : PData} {st : List (Nat × Str)} (hW : WebOk pd.W) (h : PathOk pd st) : st ≠ [] := fun e => by
  have := h.path
  rw [e] at this
  exact hW.ne this.symm
end Fc
/-! Pipes as an object. -/
namespace Fc
open PySem PySem.Spec PyProof.Rows L2 Sy
structure PipeCls (K : Fg) (C : Addr) : Prop where
  cl : Cls K C
  net : NoAttr K C "net"
  bottom : NoAttr K C "bottom"
  rooms : NoAttr K C "rooms"
  amounts : NoAttr K C "amounts"
def intsD (ns : List Int) : List D := ns.map .int
def pipeFs (pd : PData) (o2 : Addr) : List (Str × SC) := [("net", .dat (webD pd.W)), ("bottom", .dat (.int ((pd.b : Nat) : Int))), ("rooms", .dat (.list (intsD pd.R))), ("amounts", .ref o2)]
def pipeMs (C dx p o2 : Addr) (pd : PData) : List (Addr × MO) := [(p, .ins C dx (pipeFs pd o2)), (o2, .lst (intsD pd.A))]
structure PipeOk (K : Fg) (G H : Hp) (C dx p o2 : Addr) (pd : PData) : Prop where
  ins : MOk K G H p (.ins C dx (pipeFs pd o2))
  lst : MOk K G H o2 (.lst (intsD pd.A))
  gp : G p = none
  go : G o2 = none
  ne : p ≠ o2
/-- sizes right -/
structure PLen (pd : PData) : Prop where
  tl : pd.W.ties.length ≤ 14
  r : pd.R.length = pd.W.ties.length
  a : pd.A.length = pd.W.ties.length
/-- promises of methods that only look -/
def SpPM (K : Fg) (C : Addr) {α : Type} (enc : α → List D) (pw : α → PData) (pre : α → Prop) (post : α → D → Prop) : Sp := fun vs H Q _ => ∃ (a : α) (G : Hp) (dx p o2 : Addr) (vr : List V), vs = .ref p :: vr ∧ Same G H ∧ PipeOk K G H C dx p o2 (pw a) ∧ IsA K G vr (enc a) ∧ pre a ∧
  ∀ v G' H' d, Stp mu0 G H G' H' → Is K G' v d → post a d → Q v H'
theorem at_startP {K : Fg} {N : List Str} {G H : Hp} {C dx p o2 : Addr} {pd : PData} {mu : Addr → Prop} {vr : List V} {dl : List D} {ds : List SC} (hg : Same G H) (hp : PipeOk K G H C dx p o2 pd) (h : IsA K G vr dl) (hds : ds = .ref p :: (dl.map .dat ++ List.replicate (N.length - (dl.length + 1)) .no) := by rfl) : At K none mu G H [] ds (pipeMs C dx p o2 pd) (L2.start N (.ref p :: vr)) G H := by
  subst hds
  refine ⟨⟨hg, ?_, fun q hq => ?_, ?_, fun a e => absurd e (by simp), fun a e => absurd e (by simp)⟩, .refl hg, fun a e => absurd (show (none : Option Addr) = some a from e) (by simp), fun p h => absurd h (by simp)⟩
  · unfold L2.start
    rw [List.length_cons, h.length]
    exact .cons rfl (sl_start _ h)
  · have ns : ∀ a, ¬ isS none a := fun a e => absurd (show (none : Option Addr) = some a from e) (by simp)
    rcases List.mem_cons.mp hq with rfl | hq
    · exact ⟨hp.ins, hp.gp, ns _⟩
    · cases List.mem_singleton.mp hq
      exact ⟨hp.lst, hp.go, ns _⟩
  · show [p, o2].Nodup
    have := hp.ne
    simp [this]
section
variable {K : Fg} {s : Option Addr} {mu : Addr → Prop} {G0 H0 G H : Hp} {gs : List Hp} {ds : List SC} {ms : List (Addr × MO)} {σ : L2.St} {D : Ends} {te ta tb to : TE} {tr : TA} {tz : TS} {C dx p o2 : Addr} {pd : PData} {m : Str} {E : XK}
variable {α : Type} {enc : α → List Sy.D} {pw : α → PData} {pre : α → Prop} {post : α → Sy.D → Prop}
theorem Kn.pipe {k : Kn K s ds ms σ G H} (h1 : (p, MO.ins C dx (pipeFs pd o2)) ∈ ms) (h2 : (o2, MO.lst (intsD pd.A)) ∈ ms) (hne : p ≠ o2) : PipeOk K G H C dx p o2 pd :=
  ⟨(k.mo _ h1).1, (k.mo _ h2).1, (k.mo _ h1).2.1, (k.mo _ h2).2.1, hne⟩
theorem evr_methP {a : α} (h0 : EvC K s ta ds ms (.ref p)) (h1 : (p, MO.ins C dx (pipeFs (pw a) o2)) ∈ ms) (h2 : (o2, MO.lst (intsD (pw a).A)) ∈ ms) (hne : p ≠ o2) (h : EvL K s tr ds ms (enc a)) (hp : pre a) (hl : (pipeFs (pw a) o2).lookup m = none := by rfl) : EvR K s (tMeth C m (SpPM K C enc pw pre post) [] E ta tr) ds ms (post a) := fun σ G H k Q q =>
  h0 σ G H k _ fun v0 G1 H1 a1 o1 x1 => by
    have k1 := k.step a1 o1
    obtain ⟨fv, e1, r⟩ := k1.get h1
    cases x1.ref
    refine ⟨p, dx, fv, rfl, e1, flook_none r hl, h σ G1 H1 k1 _ fun vs G2 H2 a2 o2' x2 => ?_⟩
    have k2 := k1.step a2 o2'
    refine ⟨a, G2, dx, p, o2, vs, by rw [List.append_nil], a2.gh, Kn.pipe (k := k2) h1 h2 hne, x2, hp, fun v G3 H3 d a3 x3 p3 => q v G3 H3 d ((a1.trans a2).trans a3.of0) (k2.stO a3) x3 p3⟩
theorem evd_methP {a : α} {d : Sy.D} (h0 : EvC K s ta ds ms (.ref p)) (h1 : (p, MO.ins C dx (pipeFs (pw a) o2)) ∈ ms) (h2 : (o2, MO.lst (intsD (pw a).A)) ∈ ms) (hne : p ≠ o2) (h : EvL K s tr ds ms (enc a)) (hp : pre a) (e : ∀ x, post a x → x = d) (hl : (pipeFs (pw a) o2).lookup m = none := by rfl) : EvD K s (tMeth C m (SpPM K C enc pw pre post) [] E ta tr) ds ms d := fun σ G H k Q q =>
  evr_methP (post := post) h0 h1 h2 hne h hp hl σ G H k Q fun v G' H' d' a o x p => q v G' H' a o (.dat (e d' p ▸ x))
/-- a field of the object itself, which stands in slot 0 -/
theorem ev_pf {f : Str} {c : SC} (Z : PipeCls K C) (hn : NoAttr K C f) (h0 : ds[0]? = some (.ref p)) (h1 : (p, MO.ins C dx (pipeFs pd o2)) ∈ ms) (hl : (pipeFs pd o2).lookup f = some c := by rfl) : EvC K s (tFld K (tVar 0) f) ds ms c := ev_fld (ev_var h0) Z.cl hn h1 hl
end
end Fc
namespace Fc
open PySem PySem.Spec PyProof.Rows L2 Sy
section
variable {P : Program} {w : World} {K : Fg} {mg : Str → Option Value} {base : Heap}
abbrev s_divisor : Stmt := topS 11
theorem sc_divisor : FnScope ["one", "other"] ["one", "other"] (defScope s_divisor) := ⟨rfl, rfl, rfl, by decide +kernel, rfl, by decide +kernel, by decide +kernel⟩

def spDivisor (K : Fg) : Sp := SpD K (fun p : Int × Int => [.int p.1, .int p.2]) (fun _ => True) (fun p d => d = .int ((Int.gcd p.1 p.2 : Nat) : Int))
theorem ok_divisor {f : Addr} {fd : FuncData} (F : Fun K "divisor" "divisor" s_divisor f fd) (B : Bl mg) : FnOk P w K mg base CX0 1 f fd ["one", "other"] (spDivisor K) := by
  refine F.ok sc_divisor (fun vs H Q E h => ?_) (fun cdv A outer s H vs Q E hr h => ?_)
  · obtain ⟨a, G, hg, hI, hp, q⟩ := h
    exact hI.length
  · obtain ⟨⟨a, b⟩, G, hg, hI, hp, q⟩ := h
    have A0 := at_start (K := K) (N := ["one", "other"]) hg hI
    refine ⟨_, (pss_cons (ps_set (i := 0) sc_divisor.nd rfl (Or.inl rfl) (pe_callB w_abs (by rfl) B.abs_ (by decide +kernel) (pa_cons (pv 0) pa_nil)))
      (pss_cons (ps_set (i := 1) sc_divisor.nd rfl (Or.inl rfl) (pe_callB w_abs (by rfl) B.abs_ (by decide +kernel) (pa_cons (pv 1) pa_nil)))
      (pss_cons (ps_while PassesOwn.never (pt_cmpR op_ne (pv 1) pe_int (nomark _)) (pss_one (ps_par (i := 0) (j := 1) (by rfl) sc_divisor.nd rfl rfl (by decide) rfl rfl (pa_cons (pv 1) (pa_cons (pe_op o_mod (pv 0) (pv 1)) pa_nil)) (by rfl))))
      (pss_one (ps_ret (pv 0)))))), ?_⟩
    refine q_set A0 (ev_abs (ev_var rfl)) fun σ1 G1 H1 A1 => ?_
    refine q_set A1 (ev_abs (ev_var rfl)) fun σ2 G2 H2 A2 => ?_
    have ab : ∀ x : Int, (if x < 0 then -x else x) = ((x.natAbs : Nat) : Int) := fun x => by split <;> omega
    refine q_while A2 (fun m ds ms => ∃ x y : Nat, ds = [.dat (.int x), .dat (.int y)] ∧ ms = [] ∧ Nat.gcd x y = Int.gcd a b ∧ m = y) b.natAbs ⟨a.natAbs, b.natAbs, by
      show [SC.dat (.int (if a < 0 then -a else a)), SC.dat (.int (if b < 0 then -b else b))] = _
      rw [ab, ab], rfl, rfl, rfl⟩ fun m ds ms σ3 G3 H3 j A3 => ?_
    obtain ⟨x, y, rfl, rfl, e, hm⟩ := j
    subst m
    refine ⟨_, et_test (ev_neI (ev_var rfl) ev_int), fun hb G4 H4 L A4 hL => ?_, fun hb G4 H4 A4 => ?_⟩
    · have hy : ((y : Nat) : Int) ≠ 0 := of_decide_eq_true hb
      refine s_par A4 (el_cons (ev_var rfl) (el_cons (ev_mod (ev_var rfl) (ev_var rfl) (by omega)) el_nil)) fun σ5 G5 H5 A5 => ?_
      refine hL (x % y) _ [] _ _ _ (Nat.mod_lt _ (by omega)) ⟨y, x % y, rfl, rfl, ?_, rfl⟩ A5
      rw [← e, Nat.gcd_comm y, ← Nat.gcd_rec, Nat.gcd_comm]
    · have hy : ((y : Nat) : Int) = 0 := Classical.byContradiction fun z => absurd hb (by rw [decide_eq_true z]; exact fun q => nomatch q)
      have hy : y = 0 := by omega
      subst hy
      rw [Nat.gcd_zero_right] at e
      subst e
      exact s_retD A4 (ev_var rfl) fun v G' H' st iv => q v G' H' _ st iv rfl
end
end Fc
set_option hygiene false
local macro_rules | `(tactic| walk_at "e") => `(tactic| first | walk_at "ev" | ((with_reducible intro _); walk_at "e") | ((fail_if_success (with_reducible show EvC _ _ _ _ _ _)); (fail_if_success (with_reducible show EvT _ _ _ _ _ _)); first | rfl | assumption | exact Nat.le_of_ble_eq_true rfl | decide | omega | skip))
local macro_rules | `(tactic| walk_at "ev") => `(tactic| first
  | exact el_nil | exact ea_nil
  | (with_reducible apply el_cons) <;> walk_at "e"
  | (with_reducible apply ev_add) <;> walk_at "e"
  | (with_reducible apply ev_sub) <;> walk_at "e"
  | (with_reducible apply ev_mulW) <;> walk_at "e"
  | (with_reducible apply ev_mul) <;> walk_at "e"
  | (with_reducible apply ev_fdivW) <;> walk_at "e"
  | (with_reducible apply ev_mod) <;> walk_at "e"
  | (with_reducible apply ev_lt) <;> walk_at "e"
  | (with_reducible apply ev_le) <;> walk_at "e"
  | (with_reducible apply ev_gt) <;> walk_at "e"
  | (with_reducible apply ev_ge) <;> walk_at "e"
  | (with_reducible apply ev_isN) <;> walk_at "e"
  | (with_reducible apply ev_notN) <;> walk_at "e"
  | (with_reducible apply ev_ixT0) <;> walk_at "e"
  | (with_reducible apply ev_ixT1) <;> walk_at "e"
  | (with_reducible apply ev_ixT2) <;> walk_at "e"
  | (with_reducible apply ev_ixT3) <;> walk_at "e"
  | (with_reducible apply ev_ixT4) <;> walk_at "e"
  | (with_reducible apply ev_ixT) <;> walk_at "e"
  | (with_reducible apply ev_ixL) <;> walk_at "e"
  | (with_reducible apply ev_tup) <;> walk_at "e"
  | (with_reducible apply ev_lst) <;> walk_at "e"
  | (with_reducible apply ev_andV) <;> walk_at "e"
  | (with_reducible apply ev_orV) <;> walk_at "e"
  | (with_reducible apply ev_notV) <;> walk_at "e"
  | (with_reducible apply et_test) <;> walk_at "e"
  | (with_reducible apply et_B) <;> walk_at "e"
  | (with_reducible apply et_not) <;> walk_at "e"
  | (with_reducible apply et_and) <;> walk_at "e"
  | (with_reducible apply et_or) <;> walk_at "e"
  | (with_reducible apply ev_isiT) <;> walk_at "e"
  | (with_reducible apply ev_isiL) <;> walk_at "e"
  | (with_reducible apply ev_isiI) <;> walk_at "e"
  | (with_reducible apply ev_isiS) <;> walk_at "e"
  | (with_reducible apply ev_isiB) <;> walk_at "e"
  | (with_reducible apply ev_lenL) <;> walk_at "e"
  | (with_reducible apply ev_lenT) <;> walk_at "e"
  | (with_reducible apply ev_lenS) <;> walk_at "e"
  | (with_reducible apply ev_eqI) <;> walk_at "e"
  | (with_reducible apply ev_neI) <;> walk_at "e"
  | (with_reducible apply ev_eqS) <;> walk_at "e"
  | (with_reducible apply ev_neS) <;> walk_at "e"
  | (with_reducible apply ev_chain) <;> walk_at "e"
  | (with_reducible apply ev_notSign) <;> walk_at "e"
  | (with_reducible apply od_leI) <;> walk_at "e"
  | (with_reducible apply od_ltI) <;> walk_at "e"
  | (with_reducible apply ev_divisor) <;> walk_at "e"
  | (with_reducible apply ev_lowest) <;> walk_at "e"
  | (with_reducible apply ev_plus) <;> walk_at "e"
  | (with_reducible apply ev_minus) <;> walk_at "e"
  | (with_reducible apply ev_is_less) <;> walk_at "e"
  | (with_reducible apply ev_is_whole) <;> walk_at "e"
  | (with_reducible apply ev_is_ratio) <;> walk_at "e"
  | (with_reducible apply ev_is_name) <;> walk_at "e"
  | (with_reducible apply ev_is_length) <;> walk_at "e"
  | (with_reducible apply ev_is_worth) <;> walk_at "e"
  | (with_reducible apply ev_is_tie) <;> walk_at "e"
  | (with_reducible apply ev_slL) <;> walk_at "e"
  | (with_reducible apply ev_inS) <;> walk_at "e"
  | (with_reducible apply ev_niS) <;> walk_at "e"
  | (with_reducible apply ev_inI) <;> walk_at "e"
  | (with_reducible apply ev_niI) <;> walk_at "e"
  | (with_reducible apply ev_neNil) <;> walk_at "e"
  | (with_reducible apply ev_eqF) <;> walk_at "e"
  | (with_reducible apply ev_neF) <;> walk_at "e"
  | (with_reducible apply ev_sum_of) <;> walk_at "e"
  | (with_reducible apply ev_worth_in) <;> walk_at "e"
  | (with_reducible apply ev_fits) <;> walk_at "e"
  | (with_reducible exact et_yes)
  | exact ev_int | exact ev_str | exact ev_bl | exact ev_non | exact ev_var rfl | exact ev_nought (by assumption))
set_option hygiene true
namespace Fc
open PySem PySem.Spec PyProof.Rows L2 Sy
/-! numbers -/
def LN2 : Nat := 2 ^ 6001
theorem mulLN {a b : Nat} (ha : a < LN) (hb : b < LN) : a * b < LN2 := by
  have h1 : a * b < LN * LN := Nat.mul_lt_mul'' ha hb
  have h2 : LN * LN < LN2 := by decide +kernel
  omega
theorem den0 (a : Rat) : (0 : Int) < ((a.den : Nat) : Int) := by
  have := a.den_pos
  omega
theorem divW2 {i j : Int} (h : 0 < j) (hj : j.natAbs < LN2) : CDivW i j := wide_div (b := 6001) h hj (by decide) (by decide)
theorem mulW2 {i j : Int} (hi : i.natAbs < LN2) (hj : j.natAbs < LN2) : CMulW i j := wide_mul (a := 6001) (b := 6001) hi hj (by decide) (by decide) (by decide)
section
variable {P : Program} {w : World} {K : Fg} {mg : Str → Option Value} {base : Heap}
variable {s : Option Addr} {ds : List SC} {ms : List (Addr × MO)} {t : TA} {E : XK}
theorem ev_divisor {a b : Int} (h : EvL K s t ds ms [.int a, .int b]) : EvD K s (tCall (spDivisor K) [] E t) ds ms (.int ((Int.gcd a b : Nat) : Int)) := evd_call (a := (a, b)) h trivial fun x e => e
theorem ev_nought {a : Addr} (h : SqT K (fun _ => none) a [.int 0, .int 1]) : EvD K s (tC (.ref a)) ds ms (frD 0) := ev_wr h (.cons (.int 0) (.cons (.int 1) .nil))
/-! lowest -/
abbrev s_lowest : Stmt := topS 16
theorem sc_lowest : FnScope ["top", "bottom", "share"] ["top", "bottom"] (defScope s_lowest) := ⟨rfl, rfl, rfl, by decide +kernel, rfl, by decide +kernel, by decide +kernel⟩

def spLowest (K : Fg) : Sp := SpD K (fun p : Int × Int => [.int p.1, .int p.2]) (fun p => 0 < p.2 ∧ p.2.natAbs < LN2) (fun p d => d = frD (mkRat p.1 p.2.toNat))
theorem ok_lowest {f : Addr} {fd : FuncData} (F : Fun K "lowest" "lowest" s_lowest f fd) (c_divisor : Cal P w K mg base "divisor" 1 ["one", "other"] (spDivisor K)) : FnOk P w K mg base CX0 2 f fd ["top", "bottom"] (spLowest K) := by
  refine F.ok sc_lowest (fun vs H Q E h => ?_) (fun cdv A outer s H vs Q E hr h => ?_)
  · obtain ⟨a, G, hg, hI, hp, q⟩ := h
    exact hI.length
  · obtain ⟨⟨a, b'⟩, G, hg, hI, ⟨hb0, hbL⟩, q⟩ := h
    have hb0 : 0 < b' := hb0
    have hbL : b'.natAbs < LN2 := hbL
    obtain ⟨b, rfl⟩ : ∃ b : Nat, b' = b := ⟨b'.toNat, by omega⟩
    rw [Int.natAbs_natCast] at hbL
    have hb0 : 0 < b := by omega
    have A0 := at_start (K := K) (N := ["top", "bottom", "share"]) (ds := [.dat (.int a), .dat (.int (b : Nat)), .no]) hg hI
    refine ⟨_, (pss_cons (ps_set (i := 2) sc_lowest.nd rfl (Or.inl rfl) (p_call c_divisor (hr.mono (by first | exact Nat.le_refl _ | omega)) (pa_cons (pv 0) (pa_cons (pv 1) pa_nil))))
      (pss_cons (ps_if (pt_cmpR o_lt (pv 1) pe_int (nomark _)) (pss_one (ps_set (i := 2) sc_lowest.nd rfl (Or.inl rfl) (pe_op o_sub pe_int (pv 2)))) pss_nil)
      (pss_one (ps_ret (pe_tup (pa_cons (pe_op o_fdivW (pv 0) (pv 2)) (pa_cons (pe_op o_fdivW (pv 1) (pv 2)) pa_nil))))))), ?_⟩
    refine q_set A0 (ev_divisor (by walk_at "ev")) fun σ1 G1 H1 A1 => ?_
    have hgp : 0 < Int.gcd a b := Nat.pos_of_ne_zero fun z => by
      have := (Int.gcd_eq_zero_iff.mp z).2
      omega
    have hgl : Int.gcd a b ≤ b := by
      have := Int.gcd_dvd_right (a := a) (b := (b : Int))
      exact Nat.le_of_dvd hb0 (Int.natCast_dvd_natCast.mp this)
    refine q_no A1 (EvT.to (b := decide (((b : Nat) : Int) < 0)) (by walk_at "ev") (decide_eq_false (by omega))) fun G2 H2 A2 => ?_
    refine s_retD A2 (d := frD (mkRat a b)) ?_ fun v G' H' st iv => q v G' H' _ st iv rfl
    unfold frD
    rw [low_num a b hb0, low_den a b hb0]
    exact ev_tup (el_cons (ev_fdivW (ev_var rfl) (ev_var rfl) (divW2 (by omega) (by rw [Int.natAbs_natCast]; omega))) (el_cons (ev_fdivW (ev_var rfl) (ev_var rfl) (divW2 (by omega) (by rw [Int.natAbs_natCast]; omega))) el_nil))
theorem ev_lowest {a b : Int} (h : EvL K s t ds ms [.int a, .int b]) (h0 : 0 < b) (h1 : b.natAbs < LN2) : EvD K s (tCall (spLowest K) [] E t) ds ms (frD (mkRat a b.toNat)) := evd_call (a := (a, b)) h ⟨h0, h1⟩ fun x e => e
/-! plus, minus, is_less -/
abbrev s_plus : Stmt := topS 17
theorem sc_plus : FnScope ["one", "other"] ["one", "other"] (defScope s_plus) := ⟨rfl, rfl, rfl, by decide +kernel, rfl, by decide +kernel, by decide +kernel⟩

def spPlus (K : Fg) : Sp := SpD K (fun p : Rat × Rat => [frD p.1, frD p.2]) (fun p => Sz p.1 ∧ Sz p.2) (fun p d => d = frD (p.1 + p.2))
theorem ok_plus {f : Addr} {fd : FuncData} (F : Fun K "plus" "plus" s_plus f fd) (c_lowest : Cal P w K mg base "lowest" 2 ["top", "bottom"] (spLowest K)) : FnOk P w K mg base CX0 3 f fd ["one", "other"] (spPlus K) := by
  refine F.ok sc_plus (fun vs H Q E h => ?_) (fun cdv A outer s H vs Q E hr h => ?_)
  · obtain ⟨a, G, hg, hI, hp, q⟩ := h
    exact hI.length
  · obtain ⟨⟨a, b⟩, G, hg, hI, ⟨ha, hb⟩, q⟩ := h
    have ha : Sz a := ha
    have hb : Sz b := hb
    have A0 := at_start (K := K) (N := ["one", "other"]) (ds := [.dat (frD a), .dat (frD b)]) hg hI
    refine ⟨_, (pss_one (ps_ret (p_call c_lowest (hr.mono (by first | exact Nat.le_refl _ | omega)) (pa_cons (pe_op o_add (pe_op o_mulW (pe_ix (w_ixT (K := K)) (pv 0) pe_int (fun _ _ => rfl)) (pe_ix (w_ixT (K := K)) (pv 1) pe_int (fun _ _ => rfl))) (pe_op o_mulW (pe_ix (w_ixT (K := K)) (pv 1) pe_int (fun _ _ => rfl)) (pe_ix (w_ixT (K := K)) (pv 0) pe_int (fun _ _ => rfl)))) (pa_cons (pe_op o_mulW (pe_ix (w_ixT (K := K)) (pv 0) pe_int (fun _ _ => rfl)) (pe_ix (w_ixT (K := K)) (pv 1) pe_int (fun _ _ => rfl))) pa_nil))))), ?_⟩
    have h1 := mulW ha.n hb.d
    have h2 := mulW hb.n ha.d
    have h3 := mulW ha.d hb.d
    refine s_retD A0 (ev_lowest (by walk_at "ev") (Int.mul_pos (den0 a) (den0 b)) (by rw [Int.natAbs_mul, Int.natAbs_natCast, Int.natAbs_natCast]; exact mulLN ha.2 hb.2)) fun v G' H' st iv => q v G' H' _ st iv ?_
    show frD _ = frD (a + b)
    rw [Rat.add_def', ← Int.natCast_mul, Int.toNat_natCast]
theorem ev_plus {a b : Rat} (h : EvL K s t ds ms [frD a, frD b]) (h0 : Sz a) (h1 : Sz b) : EvD K s (tCall (spPlus K) [] E t) ds ms (frD (a + b)) := evd_call (a := (a, b)) h ⟨h0, h1⟩ fun x e => e
abbrev s_minus : Stmt := topS 18
theorem sc_minus : FnScope ["one", "other"] ["one", "other"] (defScope s_minus) := ⟨rfl, rfl, rfl, by decide +kernel, rfl, by decide +kernel, by decide +kernel⟩

def spMinus (K : Fg) : Sp := SpD K (fun p : Rat × Rat => [frD p.1, frD p.2]) (fun p => Sz p.1 ∧ Sz p.2) (fun p d => d = frD (p.1 - p.2))
theorem ok_minus {f : Addr} {fd : FuncData} (F : Fun K "minus" "minus" s_minus f fd) (c_lowest : Cal P w K mg base "lowest" 2 ["top", "bottom"] (spLowest K)) : FnOk P w K mg base CX0 3 f fd ["one", "other"] (spMinus K) := by
  refine F.ok sc_minus (fun vs H Q E h => ?_) (fun cdv A outer s H vs Q E hr h => ?_)
  · obtain ⟨a, G, hg, hI, hp, q⟩ := h
    exact hI.length
  · obtain ⟨⟨a, b⟩, G, hg, hI, ⟨ha, hb⟩, q⟩ := h
    have ha : Sz a := ha
    have hb : Sz b := hb
    have A0 := at_start (K := K) (N := ["one", "other"]) (ds := [.dat (frD a), .dat (frD b)]) hg hI
    refine ⟨_, (pss_one (ps_ret (p_call c_lowest (hr.mono (by first | exact Nat.le_refl _ | omega)) (pa_cons (pe_op o_sub (pe_op o_mulW (pe_ix (w_ixT (K := K)) (pv 0) pe_int (fun _ _ => rfl)) (pe_ix (w_ixT (K := K)) (pv 1) pe_int (fun _ _ => rfl))) (pe_op o_mulW (pe_ix (w_ixT (K := K)) (pv 1) pe_int (fun _ _ => rfl)) (pe_ix (w_ixT (K := K)) (pv 0) pe_int (fun _ _ => rfl)))) (pa_cons (pe_op o_mulW (pe_ix (w_ixT (K := K)) (pv 0) pe_int (fun _ _ => rfl)) (pe_ix (w_ixT (K := K)) (pv 1) pe_int (fun _ _ => rfl))) pa_nil))))), ?_⟩
    have h1 := mulW ha.n hb.d
    have h2 := mulW hb.n ha.d
    have h3 := mulW ha.d hb.d
    refine s_retD A0 (ev_lowest (by walk_at "ev") (Int.mul_pos (den0 a) (den0 b)) (by rw [Int.natAbs_mul, Int.natAbs_natCast, Int.natAbs_natCast]; exact mulLN ha.2 hb.2)) fun v G' H' st iv => q v G' H' _ st iv ?_
    show frD _ = frD (a - b)
    rw [Rat.sub_def', ← Int.natCast_mul, Int.toNat_natCast]
theorem ev_minus {a b : Rat} (h : EvL K s t ds ms [frD a, frD b]) (h0 : Sz a) (h1 : Sz b) : EvD K s (tCall (spMinus K) [] E t) ds ms (frD (a - b)) := evd_call (a := (a, b)) h ⟨h0, h1⟩ fun x e => e
abbrev s_is_less : Stmt := topS 19
theorem sc_is_less : FnScope ["one", "other"] ["one", "other"] (defScope s_is_less) := ⟨rfl, rfl, rfl, by decide +kernel, rfl, by decide +kernel, by decide +kernel⟩

def spLess (K : Fg) : Sp := SpD K (fun p : Rat × Rat => [frD p.1, frD p.2]) (fun p => Sz p.1 ∧ Sz p.2) (fun p d => d = .bool (decide (p.1 < p.2)))
theorem less_dec (a b : Rat) : decide (a.num * b.den < b.num * a.den) = decide (a < b) := decide_eq_decide.mpr (Rat.lt_iff a b).symm
theorem ok_is_less {f : Addr} {fd : FuncData} (F : Fun K "is_less" "is_less" s_is_less f fd) : FnOk P w K mg base CX0 1 f fd ["one", "other"] (spLess K) := by
  refine F.ok sc_is_less (fun vs H Q E h => ?_) (fun cdv A outer s H vs Q E hr h => ?_)
  · obtain ⟨a, G, hg, hI, hp, q⟩ := h
    exact hI.length
  · obtain ⟨⟨a, b⟩, G, hg, hI, ⟨ha, hb⟩, q⟩ := h
    have ha : Sz a := ha
    have hb : Sz b := hb
    have A0 := at_start (K := K) (N := ["one", "other"]) (ds := [.dat (frD a), .dat (frD b)]) hg hI
    refine ⟨_, (pss_one (ps_ret (pe_cmpR o_lt (pe_op o_mulW (pe_ix (w_ixT (K := K)) (pv 0) pe_int (fun _ _ => rfl)) (pe_ix (w_ixT (K := K)) (pv 1) pe_int (fun _ _ => rfl))) (pe_op o_mulW (pe_ix (w_ixT (K := K)) (pv 1) pe_int (fun _ _ => rfl)) (pe_ix (w_ixT (K := K)) (pv 0) pe_int (fun _ _ => rfl))) (nomark _)))), ?_⟩
    have h1 := mulW ha.n hb.d
    have h2 := mulW hb.n ha.d
    refine s_retD A0 (by walk_at "ev") fun v G' H' st iv => q v G' H' _ st iv ?_
    show PyData.bool _ = _
    rw [less_dec]
theorem ev_is_less {a b : Rat} (h : EvL K s t ds ms [frD a, frD b]) (h0 : Sz a) (h1 : Sz b) : EvD K s (tCall (spLess K) [] E t) ds ms (.bool (decide (a < b))) := evd_call (a := (a, b)) h ⟨h0, h1⟩ fun x e => e
end
end Fc
namespace Fc
open PySem PySem.Spec PyProof.Rows L2 Sy
/-! names, webs, takings: what is valid is let by -/
theorem num_pos {r : Rat} (h : 0 < r) : 0 < r.num := by
  have h := (Rat.lt_iff 0 r).mp h
  simpa using h
section
variable {P : Program} {w : World} {K : Fg} {mg : Str → Option Value} {base : Heap}
variable {s : Option Addr} {ds : List SC} {ms : List (Addr × MO)} {t : TA} {E : XK}
abbrev s_is_whole : Stmt := topS 10
theorem sc_is_whole : FnScope ["thing"] ["thing"] (defScope s_is_whole) := ⟨rfl, rfl, rfl, by decide +kernel, rfl, by decide +kernel, by decide +kernel⟩

def spWhole (K : Fg) : Sp := SpD K (fun p : Int => [.int p]) (fun _ => True) (fun p d => d = .bool true)
theorem ok_is_whole {f : Addr} {fd : FuncData} (F : Fun K "is_whole" "is_whole" s_is_whole f fd) (B : Bl mg) : FnOk P w K mg base CX0 1 f fd ["thing"] (spWhole K) := by
  refine F.ok sc_is_whole (fun vs H Q E h => ?_) (fun cdv A outer s H vs Q E hr h => ?_)
  · obtain ⟨a, G, hg, hI, hp, q⟩ := h
    exact hI.length
  · obtain ⟨a, G, hg, hI, hp, q⟩ := h
    have A0 := at_start (K := K) (N := ["thing"]) (ds := [.dat (.int a)]) hg hI
    refine ⟨_, (pss_one (ps_ret (pe_and (pe_callB (w_isi (K := K)) (by rfl) B.isinstance_ (by decide +kernel) (pa_cons (pv 0) (pa_cons (pe_bltn (v := .ty "int") (by rfl) B.int_ (by decide +kernel) rfl) pa_nil))) (pe_one (pe_not (pe_callB (w_isi (K := K)) (by rfl) B.isinstance_ (by decide +kernel) (pa_cons (pv 0) (pa_cons (pe_bltn (v := .ty "bool") (by rfl) B.bool_ (by decide +kernel) rfl) pa_nil)))))))), ?_⟩
    refine s_retD A0 (by walk_at "ev") fun v G' H' st iv => q v G' H' _ st iv ?_
    rfl
theorem ev_is_whole {a : Int} (h : EvL K s t ds ms [.int a]) : EvD K s (tCall (spWhole K) [] E t) ds ms (.bool true) := evd_call (a := a) h trivial fun x e => e
abbrev s_is_ratio : Stmt := topS 12
theorem sc_is_ratio : FnScope ["thing"] ["thing"] (defScope s_is_ratio) := ⟨rfl, rfl, rfl, by decide +kernel, rfl, by decide +kernel, by decide +kernel⟩

def spRatio (K : Fg) : Sp := SpD K (fun p : Rat => [frD p]) (fun _ => True) (fun p d => d = .bool true)
theorem ok_is_ratio {f : Addr} {fd : FuncData} (F : Fun K "is_ratio" "is_ratio" s_is_ratio f fd) (B : Bl mg) (c_divisor : Cal P w K mg base "divisor" 1 ["one", "other"] (spDivisor K)) (c_is_whole : Cal P w K mg base "is_whole" 1 ["thing"] (spWhole K)) : FnOk P w K mg base CX0 2 f fd ["thing"] (spRatio K) := by
  refine F.ok sc_is_ratio (fun vs H Q E h => ?_) (fun cdv A outer s H vs Q E hr h => ?_)
  · obtain ⟨a, G, hg, hI, hp, q⟩ := h
    exact hI.length
  · obtain ⟨a, G, hg, hI, hp, q⟩ := h
    have A0 := at_start (K := K) (N := ["thing"]) (ds := [.dat (frD a)]) hg hI
    refine ⟨_, (pss_cons (ps_if (PW.pt (pw_or (pt_not (pt_val (pe_callB (w_isi (K := K)) (by rfl) B.isinstance_ (by decide +kernel) (pa_cons (pv 0) (pa_cons (pe_bltn (v := .ty "tuple") (by rfl) B.tuple_ (by decide +kernel) rfl) pa_nil))))) (pw_or1 (pt_cmpR op_ne (pe_callB (w_len (K := K)) (by rfl) B.len_ PySem.boot_len (pa_cons (pv 0) pa_nil)) pe_int (nomark _))))) (pss_one (ps_ret pe_bl)) pss_nil)
      (pss_cons (ps_if (PW.pt (pw_or (pt_not (pt_val (p_call c_is_whole (hr.mono (by first | exact Nat.le_refl _ | omega)) (pa_cons (pe_ix (w_ixT (K := K)) (pv 0) pe_int (fun _ _ => rfl)) pa_nil)))) (pw_or (pt_not (pt_val (p_call c_is_whole (hr.mono (by first | exact Nat.le_refl _ | omega)) (pa_cons (pe_ix (w_ixT (K := K)) (pv 0) pe_int (fun _ _ => rfl)) pa_nil)))) (pw_or1 (pt_cmpR o_lt (pe_ix (w_ixT (K := K)) (pv 0) pe_int (fun _ _ => rfl)) pe_int (nomark _)))))) (pss_one (ps_ret pe_bl)) pss_nil)
      (pss_one (ps_ret (pe_cmpR op_eq (p_call c_divisor (hr.mono (by first | exact Nat.le_refl _ | omega)) (pa_cons (pe_ix (w_ixT (K := K)) (pv 0) pe_int (fun _ _ => rfl)) (pa_cons (pe_ix (w_ixT (K := K)) (pv 0) pe_int (fun _ _ => rfl)) pa_nil))) pe_int (nomark _)))))), ?_⟩
    refine q_no A0 (EvT.to (by walk_at "ev") (by simp)) fun G1 H1 A1 => ?_
    have hd := den0 a
    refine q_no A1 (EvT.to (by walk_at "ev") (by simp; omega)) fun G2 H2 A2 => ?_
    refine s_retD A2 (by walk_at "ev") fun v G' H' st iv => q v G' H' _ st iv ?_
    have : Int.gcd a.num ((a.den : Nat) : Int) = 1 := a.reduced
    rw [this]
    rfl
theorem ev_is_ratio {a : Rat} (h : EvL K s t ds ms [frD a]) : EvD K s (tCall (spRatio K) [] E t) ds ms (.bool true) := evd_call (a := a) h trivial fun x e => e
abbrev s_is_name : Stmt := topS 13
theorem sc_is_name : FnScope ["thing", "sign"] ["thing"] (defScope s_is_name) := ⟨rfl, rfl, rfl, by decide +kernel, rfl, by decide +kernel, by decide +kernel⟩

def spName (K : Fg) : Sp := SpD K (fun p : Str => [.str p]) NameOk (fun p d => d = .bool true)
theorem ok_is_name {f : Addr} {fd : FuncData} (F : Fun K "is_name" "is_name" s_is_name f fd) (B : Bl mg) (Z : Cst K mg) : FnOk P w K mg base CX0 1 f fd ["thing"] (spName K) := by
  refine F.ok sc_is_name (fun vs H Q E h => ?_) (fun cdv A outer s H vs Q E hr h => ?_)
  · obtain ⟨a, G, hg, hI, hp, q⟩ := h
    exact hI.length
  · obtain ⟨a, G, hg, hI, hp, q⟩ := h
    obtain ⟨tL, g_LETTERS⟩ := Z.letters
    obtain ⟨tM, g_MOST_SIGNS⟩ := Z.signs
    have A0 := at_start (K := K) (N := ["thing", "sign"]) (ds := [.dat (.str a), .no]) hg hI
    refine ⟨_, (pss_cons (ps_if (PW.pt (pw_or (pt_not (pt_val (pe_callB (w_isi (K := K)) (by rfl) B.isinstance_ (by decide +kernel) (pa_cons (pv 0) (pa_cons (pe_bltn (v := .ty "str") (by rfl) B.str_ (by decide +kernel) rfl) pa_nil))))) (pw_or1 (pt_not (pt_chain o_le o_le pe_int (pe_callB w_lenS (by rfl) B.len_ PySem.boot_len (pa_cons (pv 0) pa_nil)) (pe_glob (v := .int 8) rfl g_MOST_SIGNS ⟨_, rfl⟩)))))) (pss_one (ps_ret pe_bl)) pss_nil)
      (pss_cons (ps_for PassesOwn.never rfl (pi_str (pv 0)) (pg_name (i := 1) sc_is_name.nd rfl (Or.inl rfl)) (pss_one (ps_if (pt_cmpR o_notSign (pv 1) (pe_glob (v := .str "abcdefghijklmnopqrstuvwxyz") rfl g_LETTERS ⟨_, rfl⟩) (by rfl)) (pss_one (ps_ret pe_bl)) pss_nil)))
      (pss_one (ps_ret pe_bl)))), ?_⟩
    have h1 := hp.lo
    have h2 := hp.hi
    have hz : a.length ≤ sizeLine := small8 (by omega)
    refine q_no A0 (EvT.to (by walk_at "ev") (by simp; omega)) fun G1 H1 A1 => ?_
    refine q_for A1 (it_str (ev_var rfl)) (fun i e he => tg_name) (fun i ds ms => ∃ c, ds = [.dat (.str a), c] ∧ ms = []) ⟨_, rfl, rfl⟩ (fun _ _ _ _ _ => trivial) (fun gs i e ds ms σ2 G2 H2 L he j A2 hL => ?_) fun ds ms σ2 G2 H2 j A2 => ?_
    · obtain ⟨c, rfl, rfl⟩ := j
      obtain ⟨ch, hc, rfl⟩ := smap_get he
      have hm : ch ∈ lettersL := hp.le ch (List.mem_of_getElem? hc)
      refine s_no A2 (EvT.to (by walk_at "ev") (by rw [show decide (ch ∈ ("abcdefghijklmnopqrstuvwxyz" : Str).cps.toList) = true from decide_eq_true hm]; rfl)) fun G3 H3 A3 => ?_
      exact hL _ _ _ _ _ ⟨_, rfl, rfl⟩ A3
    · obtain ⟨c, rfl, rfl⟩ := j
      exact s_retD A2 (by walk_at "ev") fun v G' H' st iv => q v G' H' _ st iv rfl
theorem ev_is_name {a : Str} (h : EvL K s t ds ms [.str a]) (ha : NameOk a) : EvD K s (tCall (spName K) [] E t) ds ms (.bool true) := evd_call (a := a) h ha fun x e => e
abbrev s_is_length : Stmt := topS 25
theorem sc_is_length : FnScope ["thing"] ["thing"] (defScope s_is_length) := ⟨rfl, rfl, rfl, by decide +kernel, rfl, by decide +kernel, by decide +kernel⟩

def spLength (K : Fg) : Sp := SpD K (fun p : Rat => [frD p]) (fun p => 0 ≤ p) (fun p d => d = .bool true)
theorem ok_is_length {f : Addr} {fd : FuncData} (F : Fun K "is_length" "is_length" s_is_length f fd) (c_is_ratio : Cal P w K mg base "is_ratio" 2 ["thing"] (spRatio K)) : FnOk P w K mg base CX0 3 f fd ["thing"] (spLength K) := by
  refine F.ok sc_is_length (fun vs H Q E h => ?_) (fun cdv A outer s H vs Q E hr h => ?_)
  · obtain ⟨a, G, hg, hI, hp, q⟩ := h
    exact hI.length
  · obtain ⟨a, G, hg, hI, hp, q⟩ := h
    have A0 := at_start (K := K) (N := ["thing"]) (ds := [.dat (frD a)]) hg hI
    refine ⟨_, (pss_one (ps_ret (pe_and (p_call c_is_ratio (hr.mono (by first | exact Nat.le_refl _ | omega)) (pa_cons (pv 0) pa_nil)) (pe_one (pe_cmpR o_ge (pe_ix (w_ixT (K := K)) (pv 0) pe_int (fun _ _ => rfl)) pe_int (nomark _)))))), ?_⟩
    refine s_retD A0 (by walk_at "ev") fun v G' H' st iv => q v G' H' _ st iv ?_
    have h0 : 0 ≤ a.num := Rat.num_nonneg.mpr hp
    show PyData.bool (true && decide (0 ≤ a.num)) = _
    rw [decide_eq_true h0]
    rfl
theorem ev_is_length {a : Rat} (h : EvL K s t ds ms [frD a]) (ha : 0 ≤ a) : EvD K s (tCall (spLength K) [] E t) ds ms (.bool true) := evd_call (a := a) h ha fun x e => e
abbrev s_is_worth : Stmt := topS 26
theorem sc_is_worth : FnScope ["thing"] ["thing"] (defScope s_is_worth) := ⟨rfl, rfl, rfl, by decide +kernel, rfl, by decide +kernel, by decide +kernel⟩

def spWorthy (K : Fg) : Sp := SpD K (fun p : Option Rat => [optD p]) (fun p => ∀ q, p = some q → 0 < q) (fun p d => d = .bool true)
theorem ok_is_worth {f : Addr} {fd : FuncData} (F : Fun K "is_worth" "is_worth" s_is_worth f fd) (c_is_ratio : Cal P w K mg base "is_ratio" 2 ["thing"] (spRatio K)) : FnOk P w K mg base CX0 3 f fd ["thing"] (spWorthy K) := by
  refine F.ok sc_is_worth (fun vs H Q E h => ?_) (fun cdv A outer s H vs Q E hr h => ?_)
  · obtain ⟨a, G, hg, hI, hp, q⟩ := h
    exact hI.length
  · obtain ⟨a, G, hg, hI, hp, q⟩ := h
    have A0 := at_start (K := K) (N := ["thing"]) (ds := [.dat (optD a)]) hg hI
    refine ⟨_, (pss_one (ps_ret (pe_or (pe_cmpR o_isN (pv 0) pe_non (nomark _)) (pe_one (pe_and (p_call c_is_ratio (hr.mono (by first | exact Nat.le_refl _ | omega)) (pa_cons (pv 0) pa_nil)) (pe_one (pe_cmpR o_gt (pe_ix (w_ixT (K := K)) (pv 0) pe_int (fun _ _ => rfl)) pe_int (nomark _)))))))), ?_⟩
    cases a with
    | none =>
      refine s_retD A0 (ev_orV (a := true) (b := true) (ev_isN (x := .none) (ev_var rfl)) fun z => nomatch z) fun v G' H' st iv => q v G' H' _ st iv rfl
    | some r =>
      have h0 : 0 < r.num := num_pos (hp r rfl)
      refine s_retD A0 (ev_orV (a := false) (ev_isN (x := frD r) (ev_var rfl)) fun z => (by walk_at "ev")) fun v G' H' st iv => q v G' H' _ st iv ?_
      show PyData.bool (true && decide (0 < r.num)) = _
      rw [decide_eq_true h0]
      rfl
theorem ev_is_worth {a : Option Rat} (h : EvL K s t ds ms [optD a]) (ha : ∀ q, a = some q → 0 < q) : EvD K s (tCall (spWorthy K) [] E t) ds ms (.bool true) := evd_call (a := a) h ha fun x e => e
abbrev s_is_tie : Stmt := topS 27
theorem sc_is_tie : FnScope ["thing", "one", "other", "word", "length", "worth"] ["thing"] (defScope s_is_tie) := ⟨rfl, rfl, rfl, by decide +kernel, rfl, by decide +kernel, by decide +kernel⟩

def spTie (K : Fg) : Sp := SpD K (fun p : List Str × Tie => [tieD p.2]) (fun p => TieOk p.1 p.2 ∧ ∀ x ∈ p.1, NameOk x) (fun p d => d = .bool true)
theorem word_in (b : Bool) : wordS b ∈ (["one", "both"] : List Str) := by cases b <;> decide
theorem ok_is_tie {f : Addr} {fd : FuncData} (F : Fun K "is_tie" "is_tie" s_is_tie f fd) (B : Bl mg) (c_is_name : Cal P w K mg base "is_name" 1 ["thing"] (spName K)) (c_is_length : Cal P w K mg base "is_length" 3 ["thing"] (spLength K)) (c_is_worth : Cal P w K mg base "is_worth" 3 ["thing"] (spWorthy K)) : FnOk P w K mg base CX0 4 f fd ["thing"] (spTie K) := by
  refine F.ok sc_is_tie (fun vs H Q E h => ?_) (fun cdv A outer s H vs Q E hr h => ?_)
  · obtain ⟨a, G, hg, hI, hp, q⟩ := h
    exact hI.length
  · obtain ⟨⟨ps, a⟩, G, hg, hI, ⟨hp, hn⟩, q⟩ := h
    have hp : TieOk ps a := hp
    have A0 := at_start (K := K) (N := ["thing", "one", "other", "word", "length", "worth"]) (ds := [.dat (tieD a), .no, .no, .no, .no, .no]) hg hI
    refine ⟨_, (pss_cons (ps_if (PW.pt (pw_or (pt_not (pt_val (pe_callB (w_isi (K := K)) (by rfl) B.isinstance_ (by decide +kernel) (pa_cons (pv 0) (pa_cons (pe_bltn (v := .ty "tuple") (by rfl) B.tuple_ (by decide +kernel) rfl) pa_nil))))) (pw_or1 (pt_cmpR op_ne (pe_callB (w_len (K := K)) (by rfl) B.len_ PySem.boot_len (pa_cons (pv 0) pa_nil)) pe_int (nomark _))))) (pss_one (ps_ret pe_bl)) pss_nil)
      (pss_cons (ps_asg (pv 0) (w_tup (K := K) (by rfl) (pgs_cons (pg_name (i := 1) sc_is_tie.nd rfl (Or.inl rfl)) (pgs_cons (pg_name (i := 2) sc_is_tie.nd rfl (Or.inl rfl)) (pgs_cons (pg_name (i := 3) sc_is_tie.nd rfl (Or.inl rfl)) (pgs_cons (pg_name (i := 4) sc_is_tie.nd rfl (Or.inl rfl)) (pgs_cons (pg_name (i := 5) sc_is_tie.nd rfl (Or.inl rfl)) pgs_nil)))))))
      (pss_cons (ps_if (PW.pt (pw_or (pt_not (pt_val (p_call c_is_name (hr.mono (by first | exact Nat.le_refl _ | omega)) (pa_cons (pv 1) pa_nil)))) (pw_or (pt_not (pt_val (p_call c_is_name (hr.mono (by first | exact Nat.le_refl _ | omega)) (pa_cons (pv 2) pa_nil)))) (pw_or1 (pt_cmpR op_eq (pv 1) (pv 2) (nomark _)))))) (pss_one (ps_ret pe_bl)) pss_nil)
      (pss_cons (ps_if (PW.pt (pw_or (pt_not (pt_val (pe_callB (w_isi (K := K)) (by rfl) B.isinstance_ (by decide +kernel) (pa_cons (pv 3) (pa_cons (pe_bltn (v := .ty "str") (by rfl) B.str_ (by decide +kernel) rfl) pa_nil))))) (pw_or1 (pt_cmpR (w_ni (K := K)) (pv 3) (pe_tup (pa_cons pe_str (pa_cons pe_str pa_nil))) (by rfl))))) (pss_one (ps_ret pe_bl)) pss_nil)
      (pss_one (ps_ret (pe_and (p_call c_is_length (hr.mono (by first | exact Nat.le_refl _ | omega)) (pa_cons (pv 4) pa_nil)) (pe_one (p_call c_is_worth (hr.mono (by first | exact Nat.le_refl _ | omega)) (pa_cons (pv 5) pa_nil)))))))))), ?_⟩
    refine q_no A0 (EvT.to (by walk_at "ev") (by simp)) fun G1 H1 A1 => ?_
    refine q_unp A1 (ev_var rfl) (tg_tup [1, 2, 3, 4, 5] rfl rfl) fun σ2 G2 H2 A2 => ?_
    have n1 := hn _ hp.one
    have n2 := hn _ hp.other
    refine q_no A2 (EvT.to (et_or (et_not (et_B (ev_is_name (el_cons (ev_var rfl) el_nil) n1))) fun _ => et_or (et_not (et_B (ev_is_name (el_cons (ev_var rfl) el_nil) n2))) fun _ => et_test (ev_eqS (ev_var rfl) (ev_var rfl))) (by simp [hp.ne])) fun G3 H3 A3 => ?_
    refine q_no A3 (EvT.to (et_or (et_not (et_B (ev_isiS (ev_var rfl)))) fun _ => et_test (ev_niST (ns := ["one", "both"]) (ev_var rfl) (ev_tup (el_cons ev_str (el_cons ev_str el_nil))))) (by rw [decide_eq_true (word_in a.both)]; rfl)) fun G4 H4 A4 => ?_
    refine s_retD A4 (ev_andV (ev_is_length (el_cons (ev_var rfl) el_nil) hp.len0) fun _ => ev_is_worth (el_cons (ev_var rfl) el_nil) hp.worth0) fun v G' H' st iv => q v G' H' _ st iv rfl
theorem ev_is_tie {ps : List Str} {a : Tie} (h : EvL K s t ds ms [tieD a]) (ha : TieOk ps a) (hn : ∀ x ∈ ps, NameOk x) : EvD K s (tCall (spTie K) [] E t) ds ms (.bool true) := evd_call (a := (ps, a)) h ⟨ha, hn⟩ fun x e => e
end
end Fc
namespace Fc
open PySem PySem.Spec PyProof.Rows L2 Sy
section
variable {P : Program} {w : World} {K : Fg} {mg : Str → Option Value} {base : Heap}
variable {s : Option Addr} {ds : List SC} {ms : List (Addr × MO)} {t : TA} {E : XK}
abbrev s_look_at_places : Stmt := topS 28
theorem sc_look_at_places : FnScope ["thing", "k"] ["thing"] (defScope s_look_at_places) := ⟨rfl, rfl, rfl, by decide +kernel, rfl, by decide +kernel, by decide +kernel⟩

structure PlacesOk (ps : List Str) : Prop where
  lo : 2 ≤ ps.length
  hi : ps.length ≤ 7
  nd : ps.Nodup
  nm : ∀ x ∈ ps, NameOk x
theorem WebOk.places {W : Web} (h : WebOk W) : PlacesOk W.places := ⟨h.lo, h.hi, h.nd, h.nm⟩
def spLPlaces (K : Fg) : Sp := SpD K (fun p : List Str => [.list (p.map .str)]) PlacesOk (fun p d => d = .none)
theorem nodup_take {l : List Str} (h : l.Nodup) {i : Nat} {x : Str} (e : l[i]? = some x) : x ∉ l.take i := fun hm => by
  obtain ⟨j, hj⟩ := List.getElem?_of_mem hm
  obtain ⟨hjl, _⟩ := List.getElem?_eq_some_iff.mp hj
  rw [List.length_take] at hjl
  rw [List.getElem?_take, if_pos (by omega)] at hj
  have := nd_ix h hj e
  omega
theorem ok_look_at_places {f : Addr} {fd : FuncData} (F : Fun K "look_at_places" "look_at_places" s_look_at_places f fd) (B : Bl mg) (Z : Cst K mg) (c_is_name : Cal P w K mg base "is_name" 1 ["thing"] (spName K)) : FnOk P w K mg base CX0 2 f fd ["thing"] (spLPlaces K) := by
  refine F.ok sc_look_at_places (fun vs H Q E h => ?_) (fun cdv A outer s H vs Q E hr h => ?_)
  · obtain ⟨a, G, hg, hI, hp, q⟩ := h
    exact hI.length
  · obtain ⟨ps, G, hg, hI, hp, q⟩ := h
    obtain ⟨tL, g_LEAST_PLACES⟩ := Z.least
    obtain ⟨tM, g_MOST_PLACES⟩ := Z.most
    have A0 := at_start (K := K) (N := ["thing", "k"]) (ds := [.dat (.list (ps.map .str)), .no]) hg hI
    refine ⟨_, (pss_cons (ps_if (PW.pt (pw_or (pt_not (pt_val (pe_callB (w_isi (K := K)) (by rfl) B.isinstance_ (by decide +kernel) (pa_cons (pv 0) (pa_cons (pe_bltn (v := .ty "list") (by rfl) B.list_ (by decide +kernel) rfl) pa_nil))))) (pw_or1 (pt_not (pt_chain o_le o_le (pe_glob (v := .int 2) rfl g_LEAST_PLACES ⟨_, rfl⟩) (pe_callB (w_len (K := K)) (by rfl) B.len_ PySem.boot_len (pa_cons (pv 0) pa_nil)) (pe_glob (v := .int 7) rfl g_MOST_PLACES ⟨_, rfl⟩)))))) (pss_one ps_never) pss_nil)
      (pss_one (ps_for PassesOwn.never rfl (pi_range1 (by rfl) B.range_ (pa_cons (pe_callB (w_len (K := K)) (by rfl) B.len_ PySem.boot_len (pa_cons (pv 0) pa_nil)) pa_nil)) (pg_name (i := 1) sc_look_at_places.nd rfl (Or.inl rfl)) (pss_one (ps_if (PW.pt (pw_or (pt_not (pt_val (p_call c_is_name (hr.mono (by first | exact Nat.le_refl _ | omega)) (pa_cons (pe_ix (w_ixL (K := K)) (pv 0) (pv 1) (fun _ _ => rfl)) pa_nil)))) (pw_or1 (pt_cmpR (w_in (K := K)) (pe_ix (w_ixL (K := K)) (pv 0) (pv 1) (fun _ _ => rfl)) (pe_slice (w_slL (K := K)) (pv 0) po_none (po_some (pv 1))) (by rfl))))) (pss_one ps_never) pss_nil))))), ?_⟩
    have h1 := hp.lo
    have h2 := hp.hi
    refine q_no A0 (EvT.to (by walk_at "ev") (by simp; omega)) fun G1 H1 A1 => ?_
    refine s_for A1 (it_nats (n := ps.length) (EvL.to (by walk_at "ev") (by simp)) (by omega)) (fun i e he => tg_name) (fun i ds ms => ∃ c, ds = [.dat (.list (ps.map .str)), c] ∧ ms = []) ⟨_, rfl, rfl⟩ (fun _ _ _ _ _ => trivial) (fun gs i e ds ms σ2 G2 H2 L he j A2 hL => ?_) fun ds ms σ2 G2 H2 j A2 => ?_
    · obtain ⟨c, rfl, rfl⟩ := j
      obtain ⟨k, hk, rfl⟩ := natsD_get he
      obtain ⟨hi, rfl⟩ := range_get hk
      have hx := List.getElem?_eq_getElem hi
      have hn := hp.nm _ (List.getElem_mem hi)
      refine s_no A2 (EvT.to (et_or (et_not (et_B (ev_is_name (el_cons (ev_ixLn (ev_var rfl) (ev_var rfl) (smap_at hx)) el_nil) hn))) fun _ => et_test (ev_inS (ev_ixLn (ev_var rfl) (ev_var rfl) (smap_at hx)) (EvC.to (ev_slL (ev_var rfl) eo_none (eo_some (ev_var rfl))) (congrArg SC.dat (congrArg PyData.list (cut_take _ _ (Nat.le_of_lt hi))))))) (by rw [decide_eq_false (nodup_take hp.nd hx)]; rfl)) fun G3 H3 A3 => ?_
      exact hL _ _ _ _ _ ⟨_, rfl, rfl⟩ A3
    · obtain ⟨c, rfl, rfl⟩ := j
      exact s_end A2 q
theorem ev_look_at_places {ps : List Str} (h : EvL K s t ds ms [.list (ps.map .str)]) (hp : PlacesOk ps) : EvD K s (tCall (spLPlaces K) [] E t) ds ms .none := evd_call (a := ps) h hp fun x e => e
abbrev s_look_at_ties : Stmt := topS 29
theorem sc_look_at_ties : FnScope ["places", "thing", "k"] ["places", "thing"] (defScope s_look_at_ties) := ⟨rfl, rfl, rfl, by decide +kernel, rfl, by decide +kernel, by decide +kernel⟩

def spLTies (K : Fg) : Sp := SpD K (fun p : List Str × List Tie => [.list (p.1.map .str), .list (p.2.map tieD)]) (fun p => (∀ x ∈ p.1, NameOk x) ∧ p.2.length ≤ 14 ∧ ∀ t ∈ p.2, TieOk p.1 t) (fun p d => d = .none)
theorem ok_look_at_ties {f : Addr} {fd : FuncData} (F : Fun K "look_at_ties" "look_at_ties" s_look_at_ties f fd) (B : Bl mg) (Z : Cst K mg) (c_is_tie : Cal P w K mg base "is_tie" 4 ["thing"] (spTie K)) : FnOk P w K mg base CX0 5 f fd ["places", "thing"] (spLTies K) := by
  refine F.ok sc_look_at_ties (fun vs H Q E h => ?_) (fun cdv A outer s H vs Q E hr h => ?_)
  · obtain ⟨a, G, hg, hI, hp, q⟩ := h
    exact hI.length
  · obtain ⟨⟨ps, ts⟩, G, hg, hI, ⟨hn, hl, ht⟩, q⟩ := h
    have hn : ∀ x ∈ ps, NameOk x := hn
    have hl : ts.length ≤ 14 := hl
    have ht : ∀ t ∈ ts, TieOk ps t := ht
    obtain ⟨tM, g_MOST_TIES⟩ := Z.ties
    have A0 := at_start (K := K) (N := ["places", "thing", "k"]) (ds := [.dat (.list (ps.map .str)), .dat (.list (ts.map tieD)), .no]) hg hI
    refine ⟨_, (pss_cons (ps_if (PW.pt (pw_or (pt_not (pt_val (pe_callB (w_isi (K := K)) (by rfl) B.isinstance_ (by decide +kernel) (pa_cons (pv 1) (pa_cons (pe_bltn (v := .ty "list") (by rfl) B.list_ (by decide +kernel) rfl) pa_nil))))) (pw_or1 (pt_cmpR o_gt (pe_callB (w_len (K := K)) (by rfl) B.len_ PySem.boot_len (pa_cons (pv 1) pa_nil)) (pe_glob (v := .int 14) rfl g_MOST_TIES ⟨_, rfl⟩) (nomark _))))) (pss_one ps_never) pss_nil)
      (pss_one (ps_for PassesOwn.never rfl (pi_range1 (by rfl) B.range_ (pa_cons (pe_callB (w_len (K := K)) (by rfl) B.len_ PySem.boot_len (pa_cons (pv 1) pa_nil)) pa_nil)) (pg_name (i := 2) sc_look_at_ties.nd rfl (Or.inl rfl)) (pss_one (ps_if (PW.pt (pw_or (pt_not (pt_val (p_call c_is_tie (hr.mono (by first | exact Nat.le_refl _ | omega)) (pa_cons (pe_ix (w_ixL (K := K)) (pv 1) (pv 2) (fun _ _ => rfl)) pa_nil)))) (pw_or (pt_cmpR (w_ni (K := K)) (pe_ix (w_ixT (K := K)) (pe_ix (w_ixL (K := K)) (pv 1) (pv 2) (fun _ _ => rfl)) pe_int (fun _ _ => rfl)) (pv 0) (by rfl)) (pw_or1 (pt_cmpR (w_ni (K := K)) (pe_ix (w_ixT (K := K)) (pe_ix (w_ixL (K := K)) (pv 1) (pv 2) (fun _ _ => rfl)) pe_int (fun _ _ => rfl)) (pv 0) (by rfl)))))) (pss_one ps_never) pss_nil))))), ?_⟩
    refine q_no A0 (EvT.to (by walk_at "ev") (by simp; omega)) fun G1 H1 A1 => ?_
    refine s_for A1 (it_nats (n := ts.length) (EvL.to (by walk_at "ev") (by simp)) (by omega)) (fun i e he => tg_name) (fun i ds ms => ∃ c, ds = [.dat (.list (ps.map .str)), .dat (.list (ts.map tieD)), c] ∧ ms = []) ⟨_, rfl, rfl⟩ (fun _ _ _ _ _ => trivial) (fun gs i e ds ms σ2 G2 H2 L he j A2 hL => ?_) fun ds ms σ2 G2 H2 j A2 => ?_
    · obtain ⟨c, rfl, rfl⟩ := j
      obtain ⟨k, hk, rfl⟩ := natsD_get he
      obtain ⟨hi, rfl⟩ := range_get hk
      have hx := List.getElem?_eq_getElem hi
      have hT := ht _ (List.getElem_mem hi)
      have ix : ∀ {s : Option Addr} , EvD K s (tOp (rIxL K) (tVar 1) (tVar 2)) [.dat (.list (ps.map .str)), .dat (.list (ts.map tieD)), .dat (.int ((k : Nat) : Int))] [] (tieD ts[k]) := ev_ixLn (ev_var rfl) (ev_var rfl) (smap_at hx)
      refine s_no A2 (EvT.to (et_or (et_not (et_B (ev_is_tie (el_cons ix el_nil) hT hn))) fun _ => et_or (et_test (ev_niS (ev_ixT0 ix rfl) (ev_var rfl))) fun _ => et_test (ev_niS (ev_ixT1 ix rfl) (ev_var rfl))) (by rw [decide_eq_true hT.one, decide_eq_true hT.other]; rfl)) fun G3 H3 A3 => ?_
      exact hL _ _ _ _ _ ⟨_, rfl, rfl⟩ A3
    · obtain ⟨c, rfl, rfl⟩ := j
      exact s_end A2 q
theorem ev_look_at_ties {ps : List Str} {ts : List Tie} (h : EvL K s t ds ms [.list (ps.map .str), .list (ts.map tieD)]) (hn : ∀ x ∈ ps, NameOk x) (hl : ts.length ≤ 14) (ht : ∀ t ∈ ts, TieOk ps t) : EvD K s (tCall (spLTies K) [] E t) ds ms .none := evd_call (a := (ps, ts)) h ⟨hn, hl, ht⟩ fun x e => e
abbrev s_look_at_web : Stmt := topS 30
theorem sc_look_at_web : FnScope ["thing", "places", "ties", "first", "last"] ["thing"] (defScope s_look_at_web) := ⟨rfl, rfl, rfl, by decide +kernel, rfl, by decide +kernel, by decide +kernel⟩

def spLWeb (K : Fg) : Sp := SpD K (fun W : Web => [webD W]) WebOk (fun p d => d = .none)
theorem ok_look_at_web {f : Addr} {fd : FuncData} (F : Fun K "look_at_web" "look_at_web" s_look_at_web f fd) (B : Bl mg) (c_is_name : Cal P w K mg base "is_name" 1 ["thing"] (spName K)) (c_look_at_places : Cal P w K mg base "look_at_places" 2 ["thing"] (spLPlaces K)) (c_look_at_ties : Cal P w K mg base "look_at_ties" 5 ["places", "thing"] (spLTies K)) : FnOk P w K mg base CX0 6 f fd ["thing"] (spLWeb K) := by
  refine F.ok sc_look_at_web (fun vs H Q E h => ?_) (fun cdv A outer s H vs Q E hr h => ?_)
  · obtain ⟨a, G, hg, hI, hp, q⟩ := h
    exact hI.length
  · obtain ⟨W, G, hg, hI, hp, q⟩ := h
    have A0 := at_start (K := K) (N := ["thing", "places", "ties", "first", "last"]) (ds := [.dat (webD W), .no, .no, .no, .no]) hg hI
    refine ⟨_, (pss_cons (ps_if (PW.pt (pw_or (pt_not (pt_val (pe_callB (w_isi (K := K)) (by rfl) B.isinstance_ (by decide +kernel) (pa_cons (pv 0) (pa_cons (pe_bltn (v := .ty "tuple") (by rfl) B.tuple_ (by decide +kernel) rfl) pa_nil))))) (pw_or1 (pt_cmpR op_ne (pe_callB (w_len (K := K)) (by rfl) B.len_ PySem.boot_len (pa_cons (pv 0) pa_nil)) pe_int (nomark _))))) (pss_one ps_never) pss_nil)
      (pss_cons (ps_asg (pv 0) (w_tup (K := K) (by rfl) (pgs_cons (pg_name (i := 1) sc_look_at_web.nd rfl (Or.inl rfl)) (pgs_cons (pg_name (i := 2) sc_look_at_web.nd rfl (Or.inl rfl)) (pgs_cons (pg_name (i := 3) sc_look_at_web.nd rfl (Or.inl rfl)) (pgs_cons (pg_name (i := 4) sc_look_at_web.nd rfl (Or.inl rfl)) pgs_nil))))))
      (pss_cons (ps_expr (p_call c_look_at_places (hr.mono (by first | exact Nat.le_refl _ | omega)) (pa_cons (pv 1) pa_nil)))
      (pss_cons (ps_expr (p_call c_look_at_ties (hr.mono (by first | exact Nat.le_refl _ | omega)) (pa_cons (pv 1) (pa_cons (pv 2) pa_nil))))
      (pss_cons (ps_if (PW.pt (pw_or (pt_not (pt_val (p_call c_is_name (hr.mono (by first | exact Nat.le_refl _ | omega)) (pa_cons (pv 3) pa_nil)))) (pw_or1 (pt_cmpR (w_ni (K := K)) (pv 3) (pv 1) (by rfl))))) (pss_one ps_never) pss_nil)
      (pss_one (ps_if (PW.pt (pw_or (pt_not (pt_val (p_call c_is_name (hr.mono (by first | exact Nat.le_refl _ | omega)) (pa_cons (pv 4) pa_nil)))) (pw_or (pt_cmpR (w_ni (K := K)) (pv 4) (pv 1) (by rfl)) (pw_or1 (pt_cmpR op_eq (pv 4) (pv 3) (nomark _)))))) (pss_one ps_never) pss_nil))))))), ?_⟩
    refine q_no A0 (EvT.to (by walk_at "ev") (by simp)) fun G1 H1 A1 => ?_
    refine q_unp A1 (ev_var rfl) (tg_tup [1, 2, 3, 4] rfl rfl) fun σ2 G2 H2 A2 => ?_
    refine q_drop A2 (ev_look_at_places (ps := W.places) (by walk_at "ev") hp.places) fun G3 H3 A3 => ?_
    refine q_drop A3 (ev_look_at_ties (ps := W.places) (ts := W.ties) (by walk_at "ev") hp.nm hp.tl hp.tk) fun G4 H4 A4 => ?_
    refine q_no A4 (EvT.to (et_or (et_not (et_B (ev_is_name (a := W.first) (by walk_at "ev") (hp.nm _ hp.fi)))) fun _ => et_test (ev_niS (i := W.first) (ns := W.places) (ev_var rfl) (ev_var rfl))) (by rw [decide_eq_true hp.fi]; rfl)) fun G5 H5 A5 => ?_
    refine s_no A5 (EvT.to (et_or (et_not (et_B (ev_is_name (a := W.last) (by walk_at "ev") (hp.nm _ hp.la)))) fun _ => et_or (et_test (ev_niS (i := W.last) (ns := W.places) (ev_var rfl) (ev_var rfl))) fun _ => et_test (ev_eqS (i := W.last) (j := W.first) (ev_var rfl) (ev_var rfl))) (by rw [decide_eq_true hp.la, decide_eq_false hp.ne]; rfl)) fun G5 H5 A5 => ?_
    exact s_end A5 q
theorem ev_look_at_web {W : Web} (h : EvL K s t ds ms [webD W]) (hp : WebOk W) : EvD K s (tCall (spLWeb K) [] E t) ds ms .none := evd_call (a := W) h hp fun x e => e
abbrev s_is_tie_number : Stmt := topS 31
theorem sc_is_tie_number : FnScope ["web", "thing"] ["web", "thing"] (defScope s_is_tie_number) := ⟨rfl, rfl, rfl, by decide +kernel, rfl, by decide +kernel, by decide +kernel⟩

def spTieNo (K : Fg) : Sp := SpD K (fun p : Web × Nat => [webD p.1, .int (p.2 : Nat)]) (fun p => p.2 < p.1.ties.length) (fun p d => d = .bool true)
theorem ok_is_tie_number {f : Addr} {fd : FuncData} (F : Fun K "is_tie_number" "is_tie_number" s_is_tie_number f fd) (B : Bl mg) (c_is_whole : Cal P w K mg base "is_whole" 1 ["thing"] (spWhole K)) : FnOk P w K mg base CX0 2 f fd ["web", "thing"] (spTieNo K) := by
  refine F.ok sc_is_tie_number (fun vs H Q E h => ?_) (fun cdv A outer s H vs Q E hr h => ?_)
  · obtain ⟨a, G, hg, hI, hp, q⟩ := h
    exact hI.length
  · obtain ⟨⟨W, k⟩, G, hg, hI, hp, q⟩ := h
    have hp : k < W.ties.length := hp
    have A0 := at_start (K := K) (N := ["web", "thing"]) (ds := [.dat (webD W), .dat (.int (k : Nat))]) hg hI
    refine ⟨_, (pss_one (ps_ret (pe_and (p_call c_is_whole (hr.mono (by first | exact Nat.le_refl _ | omega)) (pa_cons (pv 1) pa_nil)) (pe_one (pe_chain o_le o_lt pe_int (pv 1) (pe_callB (w_len (K := K)) (by rfl) B.len_ PySem.boot_len (pa_cons (pe_ix (w_ixT (K := K)) (pv 0) pe_int (fun _ _ => rfl)) pa_nil))))))), ?_⟩
    refine s_retD A0 (by walk_at "ev") fun v G' H' st iv => q v G' H' _ st iv ?_
    simp only [List.length_map]
    rw [decide_eq_true (show (0 : Int) ≤ ((k : Nat) : Int) by omega), decide_eq_true (show ((k : Nat) : Int) < ((W.ties.length : Nat) : Int) by omega)]
    rfl
theorem ev_is_tie_number {W : Web} {k : Nat} (h : EvL K s t ds ms [webD W, .int (k : Nat)]) (hp : k < W.ties.length) : EvD K s (tCall (spTieNo K) [] E t) ds ms (.bool true) := evd_call (a := (W, k)) h hp fun x e => e
abbrev s_is_purse : Stmt := topS 33
theorem sc_is_purse : FnScope ["thing"] ["thing"] (defScope s_is_purse) := ⟨rfl, rfl, rfl, by decide +kernel, rfl, by decide +kernel, by decide +kernel⟩

def spPurse (K : Fg) : Sp := SpD K (fun p : Rat => [frD p]) (fun p => 0 ≤ p) (fun p d => d = .bool true)
theorem ok_is_purse {f : Addr} {fd : FuncData} (F : Fun K "is_purse" "is_purse" s_is_purse f fd) (c_is_length : Cal P w K mg base "is_length" 3 ["thing"] (spLength K)) : FnOk P w K mg base CX0 4 f fd ["thing"] (spPurse K) := by
  refine F.ok sc_is_purse (fun vs H Q E h => ?_) (fun cdv A outer s H vs Q E hr h => ?_)
  · obtain ⟨a, G, hg, hI, hp, q⟩ := h
    exact hI.length
  · obtain ⟨a, G, hg, hI, hp, q⟩ := h
    have A0 := at_start (K := K) (N := ["thing"]) (ds := [.dat (frD a)]) hg hI
    refine ⟨_, (pss_one (ps_ret (p_call c_is_length (hr.mono (by first | exact Nat.le_refl _ | omega)) (pa_cons (pv 0) pa_nil)))), ?_⟩
    exact s_retD A0 (ev_is_length (el_cons (ev_var rfl) el_nil) hp) fun v G' H' st iv => q v G' H' _ st iv rfl
theorem ev_is_purse {a : Rat} (h : EvL K s t ds ms [frD a]) (ha : 0 ≤ a) : EvD K s (tCall (spPurse K) [] E t) ds ms (.bool true) := evd_call (a := a) h ha fun x e => e
abbrev s_look_at_purse : Stmt := topS 34
theorem sc_look_at_purse : FnScope ["thing"] ["thing"] (defScope s_look_at_purse) := ⟨rfl, rfl, rfl, by decide +kernel, rfl, by decide +kernel, by decide +kernel⟩

def spLPurse (K : Fg) : Sp := SpD K (fun p : Rat => [frD p]) (fun p => 0 ≤ p) (fun p d => d = .none)
theorem ok_look_at_purse {f : Addr} {fd : FuncData} (F : Fun K "look_at_purse" "look_at_purse" s_look_at_purse f fd) (c_is_purse : Cal P w K mg base "is_purse" 4 ["thing"] (spPurse K)) : FnOk P w K mg base CX0 5 f fd ["thing"] (spLPurse K) := by
  refine F.ok sc_look_at_purse (fun vs H Q E h => ?_) (fun cdv A outer s H vs Q E hr h => ?_)
  · obtain ⟨a, G, hg, hI, hp, q⟩ := h
    exact hI.length
  · obtain ⟨a, G, hg, hI, hp, q⟩ := h
    have A0 := at_start (K := K) (N := ["thing"]) (ds := [.dat (frD a)]) hg hI
    refine ⟨_, (pss_one (ps_if (pt_not (pt_val (p_call c_is_purse (hr.mono (by first | exact Nat.le_refl _ | omega)) (pa_cons (pv 0) pa_nil)))) (pss_one ps_never) pss_nil)), ?_⟩
    refine s_no A0 (EvT.to (et_not (et_B (ev_is_purse (el_cons (ev_var rfl) el_nil) hp))) rfl) fun G5 H5 A5 => ?_
    exact s_end A5 q
theorem ev_look_at_purse {a : Rat} (h : EvL K s t ds ms [frD a]) (ha : 0 ≤ a) : EvD K s (tCall (spLPurse K) [] E t) ds ms .none := evd_call (a := a) h ha fun x e => e
abbrev s_is_taking : Stmt := topS 35
theorem sc_is_taking : FnScope ["web", "thing", "k"] ["web", "thing"] (defScope s_is_taking) := ⟨rfl, rfl, rfl, by decide +kernel, rfl, by decide +kernel, by decide +kernel⟩

def spTaking (K : Fg) : Sp := SpD K (fun p : Web × List Nat => [webD p.1, natD p.2]) (fun p => TakOk p.1 p.2 ∧ p.2.length ≤ 1000) (fun p d => d = .bool true)
theorem pw_get {T : List Nat} (h : T.Pairwise (· < ·)) {i j a b : Nat} (hi : T[i]? = some a) (hj : T[j]? = some b) (hij : i < j) : a < b := by
  obtain ⟨h1, e1⟩ := List.getElem?_eq_some_iff.mp hi
  obtain ⟨h2, e2⟩ := List.getElem?_eq_some_iff.mp hj
  subst e1
  subst e2
  exact List.pairwise_iff_getElem.mp h i j h1 h2 hij
theorem ok_is_taking {f : Addr} {fd : FuncData} (F : Fun K "is_taking" "is_taking" s_is_taking f fd) (B : Bl mg) (c_is_tie_number : Cal P w K mg base "is_tie_number" 2 ["web", "thing"] (spTieNo K)) : FnOk P w K mg base CX0 3 f fd ["web", "thing"] (spTaking K) := by
  refine F.ok sc_is_taking (fun vs H Q E h => ?_) (fun cdv A outer s H vs Q E hr h => ?_)
  · obtain ⟨a, G, hg, hI, hp, q⟩ := h
    exact hI.length
  · obtain ⟨⟨W, T⟩, G, hg, hI, ⟨hp, hz⟩, q⟩ := h
    have hp : TakOk W T := hp
    have hz : T.length ≤ 1000 := hz
    have A0 := at_start (K := K) (N := ["web", "thing", "k"]) (ds := [.dat (webD W), .dat (natD T), .no]) hg hI
    refine ⟨_, (pss_cons (ps_if (pt_not (pt_val (pe_callB (w_isi (K := K)) (by rfl) B.isinstance_ (by decide +kernel) (pa_cons (pv 1) (pa_cons (pe_bltn (v := .ty "list") (by rfl) B.list_ (by decide +kernel) rfl) pa_nil))))) (pss_one (ps_ret pe_bl)) pss_nil)
      (pss_cons (ps_for PassesOwn.never rfl (pi_range1 (by rfl) B.range_ (pa_cons (pe_callB (w_len (K := K)) (by rfl) B.len_ PySem.boot_len (pa_cons (pv 1) pa_nil)) pa_nil)) (pg_name (i := 2) sc_is_taking.nd rfl (Or.inl rfl)) (pss_cons (ps_if (PW.pt (pw_or (pt_not (pt_val (p_call c_is_tie_number (hr.mono (by first | exact Nat.le_refl _ | omega)) (pa_cons (pv 0) (pa_cons (pe_ix (w_ixL (K := K)) (pv 1) (pv 2) (fun _ _ => rfl)) pa_nil))))) (pw_or1 (pt_cmpR o_isN (pe_ix (w_ixT (K := K)) (pe_ix (w_ixL (K := K)) (pe_ix (w_ixT (K := K)) (pv 0) pe_int (fun _ _ => rfl)) (pe_ix (w_ixL (K := K)) (pv 1) (pv 2) (fun _ _ => rfl)) (fun _ _ => rfl)) pe_int (fun _ _ => rfl)) pe_non (nomark _))))) (pss_one (ps_ret pe_bl)) pss_nil)
      (pss_one (ps_if (PW.pt (pw_and (pt_cmpR o_gt (pv 2) pe_int (nomark _)) (pw_and1 (pt_cmpR o_le (pe_ix (w_ixL (K := K)) (pv 1) (pv 2) (fun _ _ => rfl)) (pe_ix (w_ixL (K := K)) (pv 1) (pe_op o_sub (pv 2) pe_int) (fun _ _ => rfl)) (nomark _))))) (pss_one (ps_ret pe_bl)) pss_nil))))
      (pss_one (ps_ret pe_bl)))), ?_⟩
    refine q_no A0 (EvT.to (et_not (et_B (ev_isiL (l := natsD T) (ev_var rfl)))) rfl) fun G1 H1 A1 => ?_
    refine q_for A1 (it_nats (n := T.length) (EvL.to (el_cons (ev_lenL (xs := natsD T) (ev_var rfl)) el_nil) (by rw [natsD_len])) (by omega)) (fun i e he => tg_name) (fun i ds ms => ∃ c, ds = [.dat (webD W), .dat (natD T), c] ∧ ms = []) ⟨_, rfl, rfl⟩ (fun _ _ _ _ _ => trivial) (fun gs i e ds ms σ2 G2 H2 L he j A2 hL => ?_) fun ds ms σ2 G2 H2 j A2 => ?_
    · obtain ⟨c, rfl, rfl⟩ := j
      obtain ⟨k, hk, rfl⟩ := natsD_get he
      obtain ⟨hi, rfl⟩ := range_get hk
      have hx := List.getElem?_eq_getElem hi
      obtain ⟨tt, qq, e1, e2⟩ := hp.tie _ (List.getElem_mem hi)
      obtain ⟨hkl, _⟩ := List.getElem?_eq_some_iff.mp e1
      have ix : ∀ {s : Option Addr}, EvD K s (tOp (rIxL K) (tVar 1) (tVar 2)) [.dat (webD W), .dat (natD T), .dat (.int ((k : Nat) : Int))] [] (.int ((T[k] : Nat) : Int)) := ev_ixLn (xs := natsD T) (ev_var rfl) (ev_var rfl) (natsD_at hx)
      have ew : optD tt.worth = frD qq := by rw [e2] <;> rfl
      refine q_no A2 (EvT.to (et_or (et_not (et_B (ev_is_tie_number (el_cons (ev_var rfl) (el_cons ix el_nil)) hkl))) fun _ => et_test (ev_isN (x := frD qq) (EvC.to (ev_ixT4 (xs := [.str tt.one, .str tt.other, .str (wordS tt.both), frD tt.len, optD tt.worth]) (ev_ixLn (xs := W.ties.map tieD) (ev_ixT1 (ev_var rfl) rfl) ix (smap_at e1)) rfl) (congrArg SC.dat ew)))) rfl) fun G3 H3 A3 => ?_
      by_cases h0 : 0 < k
      · obtain ⟨k', rfl⟩ : ∃ k', k = k' + 1 := ⟨k - 1, by omega⟩
        have hx' := List.getElem?_eq_getElem (show k' < T.length by omega)
        have hlt := pw_get hp.up hx' hx (Nat.lt_succ_self _)
        refine s_no A3 (EvT.to (et_and (et_test (ev_gt (ev_var rfl) ev_int)) fun _ => et_test (ev_le ix (ev_ixLn (xs := natsD T) (ev_var rfl) (EvC.to (ev_sub (ev_var rfl) ev_int) (congrArg SC.dat (congrArg PyData.int (show ((k' + 1 : Nat) : Int) - 1 = ((k' : Nat) : Int) by omega)))) (natsD_at hx')))) (by rw [decide_eq_false (show ¬ ((T[k' + 1] : Nat) : Int) ≤ ((T[k'] : Nat) : Int) by omega), Bool.and_false])) fun G4 H4 A4 => ?_
        exact hL _ _ _ _ _ ⟨_, rfl, rfl⟩ A4
      · refine s_no A3 (EvT.to (et_and (b := true) (et_test (ev_gt (ev_var rfl) ev_int)) fun z => absurd (of_decide_eq_true z) (by omega)) (by rw [decide_eq_false (by omega)]; rfl)) fun G4 H4 A4 => ?_
        exact hL _ _ _ _ _ ⟨_, rfl, rfl⟩ A4
    · obtain ⟨c, rfl, rfl⟩ := j
      exact s_retD A2 ev_bl fun v G' H' st iv => q v G' H' _ st iv rfl
theorem ev_is_taking {W : Web} {T : List Nat} (h : EvL K s t ds ms [webD W, natD T]) (hp : TakOk W T) (hz : T.length ≤ 1000) : EvD K s (tCall (spTaking K) [] E t) ds ms (.bool true) := evd_call (a := (W, T)) h ⟨hp, hz⟩ fun x e => e
abbrev s_look_at_taking : Stmt := topS 36
theorem sc_look_at_taking : FnScope ["web", "thing"] ["web", "thing"] (defScope s_look_at_taking) := ⟨rfl, rfl, rfl, by decide +kernel, rfl, by decide +kernel, by decide +kernel⟩

def spLTaking (K : Fg) : Sp := SpD K (fun p : Web × List Nat => [webD p.1, natD p.2]) (fun p => WebOk p.1 ∧ TakOk p.1 p.2 ∧ p.2.length ≤ 1000) (fun p d => d = .none)
theorem ok_look_at_taking {f : Addr} {fd : FuncData} (F : Fun K "look_at_taking" "look_at_taking" s_look_at_taking f fd) (c_look_at_web : Cal P w K mg base "look_at_web" 6 ["thing"] (spLWeb K)) (c_is_taking : Cal P w K mg base "is_taking" 3 ["web", "thing"] (spTaking K)) : FnOk P w K mg base CX0 7 f fd ["web", "thing"] (spLTaking K) := by
  refine F.ok sc_look_at_taking (fun vs H Q E h => ?_) (fun cdv A outer s H vs Q E hr h => ?_)
  · obtain ⟨a, G, hg, hI, hp, q⟩ := h
    exact hI.length
  · obtain ⟨⟨W, T⟩, G, hg, hI, ⟨hw, hp, hz⟩, q⟩ := h
    have A0 := at_start (K := K) (N := ["web", "thing"]) (ds := [.dat (webD W), .dat (natD T)]) hg hI
    refine ⟨_, (pss_cons (ps_expr (p_call c_look_at_web (hr.mono (by first | exact Nat.le_refl _ | omega)) (pa_cons (pv 0) pa_nil)))
      (pss_one (ps_if (pt_not (pt_val (p_call c_is_taking (hr.mono (by first | exact Nat.le_refl _ | omega)) (pa_cons (pv 0) (pa_cons (pv 1) pa_nil))))) (pss_one ps_never) pss_nil))), ?_⟩
    refine q_drop A0 (ev_look_at_web (el_cons (ev_var rfl) el_nil) hw) fun G1 H1 A1 => ?_
    refine s_no A1 (EvT.to (et_not (et_B (ev_is_taking (el_cons (ev_var rfl) (el_cons (ev_var rfl) el_nil)) hp hz))) rfl) fun G5 H5 A5 => ?_
    exact s_end A5 q
theorem ev_look_at_taking {W : Web} {T : List Nat} (h : EvL K s t ds ms [webD W, natD T]) (hw : WebOk W) (hp : TakOk W T) (hz : T.length ≤ 1000) : EvD K s (tCall (spLTaking K) [] E t) ds ms .none := evd_call (a := (W, T)) h ⟨hw, hp, hz⟩ fun x e => e
end
end Fc
namespace Fc
open PySem PySem.Spec PyProof.Rows L2 Sy
section
variable {P : Program} {w : World} {K : Fg} {mg : Str → Option Value} {base : Heap}
variable {s : Option Addr} {ds : List SC} {ms : List (Addr × MO)} {t : TA} {E : XK}
abbrev s_sum_of : Stmt := topS 20
theorem sc_sum_of : FnScope ["some", "found", "one"] ["some"] (defScope s_sum_of) := ⟨rfl, rfl, rfl, by decide +kernel, rfl, by decide +kernel, by decide +kernel⟩

def frL (l : List Rat) : D := .list (l.map frD)
def spSum (K : Fg) : Sp := SpD K (fun p : Nat × List Rat => [frL p.2]) (fun p => (∀ q ∈ p.2, Bd p.1 q) ∧ p.2.length * p.1 + p.1 ≤ 1000000) (fun p d => d = frD (sumR p.2))
theorem Bd.take {n : Nat} {l : List Rat} (h : ∀ q ∈ l, Bd n q) (i : Nat) : Bd (l.length * n) (sumR (l.take i)) := by
  refine (Bd.sum (n := n) (l := l.take i) fun q hq => h q (List.mem_of_mem_take hq)).mono ?_
  rw [List.length_take]
  exact Nat.mul_le_mul_right _ (Nat.min_le_right _ _)
theorem ok_sum_of {f : Addr} {fd : FuncData} (F : Fun K "sum_of" "sum_of" s_sum_of f fd) (Z : Cst K mg) (c_plus : Cal P w K mg base "plus" 3 ["one", "other"] (spPlus K)) : FnOk P w K mg base CX0 4 f fd ["some"] (spSum K) := by
  refine F.ok sc_sum_of (fun vs H Q E h => ?_) (fun cdv A outer s H vs Q E hr h => ?_)
  · obtain ⟨a, G, hg, hI, hp, q⟩ := h
    exact hI.length
  · obtain ⟨⟨n, l⟩, G, hg, hI, ⟨hb, hz⟩, q⟩ := h
    have hb : ∀ q ∈ l, Bd n q := hb
    have hz : l.length * n + n ≤ 1000000 := hz
    obtain ⟨aN, g_NOUGHT, hN⟩ := Z.nought
    have A0 := at_start (K := K) (N := ["some", "found", "one"]) (ds := [.dat (frL l), .no, .no]) hg hI
    refine ⟨_, (pss_cons (ps_set (i := 1) sc_sum_of.nd rfl (Or.inl rfl) (pe_glob (v := .ref aN) rfl g_NOUGHT rfl))
      (pss_cons (ps_for PassesOwn.never rfl (w_list (K := K) (pv 0)) (pg_name (i := 2) sc_sum_of.nd rfl (Or.inl rfl)) (pss_one (ps_set (i := 1) sc_sum_of.nd rfl (Or.inl rfl) (p_call c_plus (hr.mono (by first | exact Nat.le_refl _ | omega)) (pa_cons (pv 1) (pa_cons (pv 2) pa_nil))))))
      (pss_one (ps_ret (pv 1))))), ?_⟩
    refine q_set A0 (ev_nought hN) fun σ1 G1 H1 A1 => ?_
    refine q_for A1 (it_list (es := l.map frD) (ev_var rfl)) (fun i e he => tg_name) (fun i ds ms => ∃ c, ds = [.dat (frL l), .dat (frD (sumR (l.take i))), c] ∧ ms = []) ⟨_, rfl, rfl⟩ (fun _ _ _ _ _ => trivial) (fun gs i e ds ms σ2 G2 H2 L he j A2 hL => ?_) fun ds ms σ2 G2 H2 j A2 => ?_
    · obtain ⟨c, rfl, rfl⟩ := j
      obtain ⟨x, hx, rfl⟩ := smap_get he
      refine s_set A2 (ev_plus (el_cons (ev_var rfl) (el_cons (ev_var rfl) el_nil)) ((Bd.take hb i).sz (by omega)) ((hb x (List.mem_of_getElem? hx)).sz (by omega))) fun σ3 G3 H3 A3 => ?_
      refine hL _ _ _ _ _ ⟨.dat (frD x), ?_, rfl⟩ A3
      rw [sumR_take hx]
      rfl
    · obtain ⟨c, rfl, rfl⟩ := j
      rw [List.length_map, List.take_length] at A2
      exact s_retD A2 (ev_var rfl) fun v G' H' st iv => q v G' H' _ st iv rfl
theorem ev_sum_of {n : Nat} {l : List Rat} (h : EvL K s t ds ms [frL l]) (hb : ∀ q ∈ l, Bd n q) (hz : l.length * n + n ≤ 1000000) : EvD K s (tCall (spSum K) [] E t) ds ms (frD (sumR l)) := evd_call (a := (n, l)) h ⟨hb, hz⟩ fun x e => e
abbrev s_worth_in : Stmt := topS 37
theorem sc_worth_in : FnScope ["web", "taking", "k"] ["web", "taking"] (defScope s_worth_in) := ⟨rfl, rfl, rfl, by decide +kernel, rfl, by decide +kernel, by decide +kernel⟩

/-- ties all right, numbers there -/
def WB (W : Web) : Prop := W.ties.length ≤ 14 ∧ ∀ t ∈ W.ties, ∀ q, t.worth = some q → Bd 1 q ∧ 0 < q
theorem WebOk.wb {W : Web} (h : WebOk W) : WB W := ⟨h.tl, fun t ht q e => ⟨(h.tk t ht).worthB q e, (h.tk t ht).worth0 q e⟩⟩
theorem WB.at {W : Web} (h : WB W) {k : Nat} {t : Tie} {q : Rat} (e : W.ties[k]? = some t) (e2 : t.worth = some q) : Bd 1 q := (h.2 t (List.mem_of_getElem? e) q e2).1
theorem WB.ws {W : Web} (h : WB W) {T : List Nat} (hT : Tk W T) : ∀ q ∈ T.map (wOf W), Bd 1 q := fun q hq => by
  obtain ⟨k, hk, rfl⟩ := List.mem_map.mp hq
  obtain ⟨t, r, e1, e2⟩ := hT k hk
  rw [wOf_at e1 e2]
  exact h.at e1 e2
theorem paired_nat {F : Nat → D} : ∀ {T : List Nat} {dl : List D}, Paired (fun e d => ∃ k : Nat, e = .int ((k : Nat) : Int) ∧ d = F k) (natsD T) dl → dl = T.map F
  | [], _, h => by cases h; rfl
  | k :: r, _, h => by
    cases h with
    | cons h1 h2 =>
      obtain ⟨k', e1, e2⟩ := h1
      have ek : k = k' := Int.ofNat.inj (PyData.int.inj e1)
      subst ek
      rw [e2, paired_nat h2]
      rfl
def spWorth (K : Fg) : Sp := SpD K (fun p : Web × List Nat => [webD p.1, natD p.2]) (fun p => WB p.1 ∧ Tk p.1 p.2 ∧ p.2.length ≤ 1000) (fun p d => d = frD (worthOf p.1 p.2))
theorem optD_some {o : Option Rat} {q : Rat} (h : o = some q) : optD o = frD q := by rw [h] <;> rfl
/-- web[1][k][4], k at slot j -/
theorem ev_worthAt {W : Web} {i j k : Nat} {tt : Tie} {q : Rat} (hi : ds[i]? = some (.dat (webD W))) (hj : ds[j]? = some (.dat (.int ((k : Nat) : Int)))) (e1 : W.ties[k]? = some tt) (e2 : tt.worth = some q) : EvD K s (tOp (rIxT K) (tOp (rIxL K) (tOp (rIxT K) (tVar i) (tC (.int 1))) (tVar j)) (tC (.int 4))) ds ms (frD q) :=
  EvC.to (ev_ixT4 (xs := [.str tt.one, .str tt.other, .str (wordS tt.both), frD tt.len, optD tt.worth]) (ev_ixLn (xs := W.ties.map tieD) (ev_ixT1 (ev_var hi) rfl) (ev_var hj) (smap_at e1)) rfl) (congrArg SC.dat (optD_some e2))
theorem ok_worth_in {f : Addr} {fd : FuncData} (F : Fun K "worth_in" "worth_in" s_worth_in f fd) (c_sum_of : Cal P w K mg base "sum_of" 4 ["some"] (spSum K)) : FnOk P w K mg base CX0 5 f fd ["web", "taking"] (spWorth K) := by
  refine F.ok sc_worth_in (fun vs H Q E h => ?_) (fun cdv A outer s H vs Q E hr h => ?_)
  · obtain ⟨a, G, hg, hI, hp, q⟩ := h
    exact hI.length
  · obtain ⟨⟨W, T⟩, G, hg, hI, ⟨hW, hT, hz⟩, q⟩ := h
    have hW : WB W := hW
    have hT : Tk W T := hT
    have hz : T.length ≤ 1000 := hz
    have A0 := at_start (K := K) (N := ["web", "taking", "k"]) (ds := [.dat (webD W), .dat (natD T), .no]) hg hI
    refine ⟨_, (pss_one (ps_ret (p_call c_sum_of (hr.mono (by first | exact Nat.le_refl _ | omega)) (pa_cons (pe_lc (own := [("k", 2)]) (g := gName 2) (tt := tYes) rfl sc_worth_in.nd (w_list (K := K) (pv 1)) (blkOk_by (own := [("k", 2)]) (N := ["web", "taking", "k"]) (sc := defScope s_worth_in) (by decide +kernel)) (fun _ _ _ _ _ => (pg_name (i := 2) sc_worth_in.nd rfl (Or.inl rfl))) (fun _ _ _ _ _ => pts_nil) (fun _ _ _ _ _ => (pe_ix (w_ixT (K := K)) (pe_ix (w_ixL (K := K)) (pe_ix (w_ixT (K := K)) (pv 0) pe_int (fun _ _ => rfl)) (pv 2) (fun _ _ => rfl)) pe_int (fun _ _ => rfl)))) pa_nil)))), ?_⟩
    have el : EvD K none (tLc (iList K (tVar 1)) (gName 2) tYes (tOp (rIxT K) (tOp (rIxL K) (tOp (rIxT K) (tVar 0) (tC (.int 1))) (tVar 2)) (tC (.int 4))) [2]) [.dat (webD W), .dat (natD T), .no] [] (frL (T.map (wOf W))) := by
      have h := en_lc (K := K) (s := none) (ds := [.dat (webD W), .dat (natD T), .no]) (ms := []) (p := fun _ => true) (Φ := fun e d => ∃ k : Nat, e = .int ((k : Nat) : Int) ∧ d = frD (wOf W k)) (it_list (es := natsD T) (tl := tVar 1) (ev_var rfl)) trivial (fun i e he => tw_name (i := 2)) (fun i e he => et_yes)
        (te := tOp (rIxT K) (tOp (rIxL K) (tOp (rIxT K) (tVar 0) (tC (.int 1))) (tVar 2)) (tC (.int 4))) (fun i e he _ => by
          obtain ⟨k, hk, rfl⟩ := natsD_get he
          obtain ⟨tt, qq, e1, e2⟩ := hT k (List.mem_of_getElem? hk)
          refine (EvC.r (ev_worthAt (W := W) (k := k) rfl rfl e1 e2)).imp fun d hd => ⟨k, rfl, ?_⟩
          rw [hd, wOf_at e1 e2]) (by rw [natsD_len]; exact hz)
      refine EvN.dat (h.imp fun dl hd => ?_)
      rw [List.filter_eq_self.mpr (fun _ _ => rfl)] at hd
      rw [paired_nat hd, List.map_map]
      rfl
    refine s_retD A0 (ev_sum_of (n := 1) (l := T.map (wOf W)) (el_cons el el_nil) (hW.ws hT) (by rw [List.length_map]; omega)) fun v G' H' st iv => q v G' H' _ st iv rfl
theorem ev_worth_in {W : Web} {T : List Nat} (h : EvL K s t ds ms [webD W, natD T]) (hW : WB W) (hT : Tk W T) (hz : T.length ≤ 1000) : EvD K s (tCall (spWorth K) [] E t) ds ms (frD (worthOf W T)) := evd_call (a := (W, T)) h ⟨hW, hT, hz⟩ fun x e => e
theorem WB.worth {W : Web} (h : WB W) {T : List Nat} (hT : Tk W T) (hz : T.length ≤ 1000) : Bd 1000 (worthOf W T) := by
  refine (Bd.sum (h.ws hT)).mono ?_
  rw [List.length_map]
  omega
abbrev s_fits : Stmt := topS 38
theorem sc_fits : FnScope ["web", "taking", "purse"] ["web", "taking", "purse"] (defScope s_fits) := ⟨rfl, rfl, rfl, by decide +kernel, rfl, by decide +kernel, by decide +kernel⟩

def spFits (K : Fg) : Sp := SpD K (fun p : Web × List Nat × Rat => [webD p.1, natD p.2.1, frD p.2.2]) (fun p => WB p.1 ∧ Tk p.1 p.2.1 ∧ p.2.1.length ≤ 1000 ∧ Sz p.2.2) (fun p d => d = .bool (!decide (p.2.2 < worthOf p.1 p.2.1)))
theorem ok_fits {f : Addr} {fd : FuncData} (F : Fun K "fits" "fits" s_fits f fd) (c_is_less : Cal P w K mg base "is_less" 1 ["one", "other"] (spLess K)) (c_worth_in : Cal P w K mg base "worth_in" 5 ["web", "taking"] (spWorth K)) : FnOk P w K mg base CX0 6 f fd ["web", "taking", "purse"] (spFits K) := by
  refine F.ok sc_fits (fun vs H Q E h => ?_) (fun cdv A outer s H vs Q E hr h => ?_)
  · obtain ⟨a, G, hg, hI, hp, q⟩ := h
    exact hI.length
  · obtain ⟨⟨W, T, p⟩, G, hg, hI, ⟨hW, hT, hz, hp⟩, q⟩ := h
    have hW : WB W := hW
    have hT : Tk W T := hT
    have A0 := at_start (K := K) (N := ["web", "taking", "purse"]) (ds := [.dat (webD W), .dat (natD T), .dat (frD p)]) hg hI
    refine ⟨_, (pss_one (ps_ret (pe_not (p_call c_is_less (hr.mono (by first | exact Nat.le_refl _ | omega)) (pa_cons (pv 2) (pa_cons (p_call c_worth_in (hr.mono (by first | exact Nat.le_refl _ | omega)) (pa_cons (pv 0) (pa_cons (pv 1) pa_nil))) pa_nil)))))), ?_⟩
    exact s_retD A0 (ev_notV (ev_is_less (el_cons (ev_var rfl) (el_cons (ev_worth_in (W := W) (T := T) (el_cons (ev_var rfl) (el_cons (ev_var rfl) el_nil)) hW hT hz) el_nil)) hp ((hW.worth hT hz).sz (by omega)))) fun v G' H' st iv => q v G' H' _ st iv rfl
theorem ev_fits {W : Web} {T : List Nat} {p : Rat} (h : EvL K s t ds ms [webD W, natD T, frD p]) (hW : WB W) (hT : Tk W T) (hz : T.length ≤ 1000) (hp : Sz p) : EvD K s (tCall (spFits K) [] E t) ds ms (.bool (!decide (p < worthOf W T))) := evd_call (a := (W, T, p)) h ⟨hW, hT, hz, hp⟩ fun x e => e
abbrev s_at_once : Stmt := topS 39
theorem sc_at_once : FnScope ["web", "purse", "left", "tie", "spent", "many", "least", "worth"] ["web", "purse"] (defScope s_at_once) := ⟨rfl, rfl, rfl, by decide +kernel, rfl, by decide +kernel, by decide +kernel⟩

def n4 : D → D
  | .tuple [_, _, _, _, x] => x
  | _ => .none
theorem worths_lc (ts : List Tie) : ((ts.map tieD).filter (fun e => !isN (n4 e))).map n4 = (ts.filterMap Tie.worth).map frD := by
  induction ts with
  | nil => rfl
  | cons t r ih =>
    rw [List.map_cons, List.filter_cons, List.filterMap_cons]
    cases e : t.worth with
    | none =>
      have e1 : n4 (tieD t) = .none := by
        show optD t.worth = _
        rw [e] <;> rfl
      rw [e1]
      exact ih
    | some q =>
      have e1 : n4 (tieD t) = frD q := by
        show optD t.worth = _
        rw [e] <;> rfl
      rw [e1]
      show n4 (tieD t) :: _ = frD q :: _
      rw [e1, ih]
def spOnce (K : Fg) : Sp := SpD K (fun p : Web × Rat => [webD p.1, frD p.2]) (fun p => WB p.1 ∧ Sz p.2) (fun p d => d = .int ((atOnce p.1 p.2 : Nat) : Int))
theorem worths_bd {W : Web} (h : WB W) : ∀ q ∈ worths W, Bd 1 q := fun q hq => by
  obtain ⟨t, ht, e⟩ := List.mem_filterMap.mp hq
  exact (h.2 t ht q e).1
theorem optD_noAny (o : Option Rat) : noAny (optD o) = true := by cases o <;> rfl
theorem ok_at_once {f : Addr} {fd : FuncData} (F : Fun K "at_once" "at_once" s_at_once f fd) (Z : Cst K mg) (c_is_less : Cal P w K mg base "is_less" 1 ["one", "other"] (spLess K)) (c_plus : Cal P w K mg base "plus" 3 ["one", "other"] (spPlus K)) : FnOk P w K mg base CX0 4 f fd ["web", "purse"] (spOnce K) := by
  refine F.ok sc_at_once (fun vs H Q E h => ?_) (fun cdv A outer s H vs Q E hr h => ?_)
  · obtain ⟨a, G, hg, hI, hp, q⟩ := h
    exact hI.length
  · obtain ⟨⟨W, P⟩, G, hg, hI, ⟨hW, hP⟩, q⟩ := h
    have hW : WB W := hW
    have hP : Sz P := hP
    obtain ⟨aN, g_NOUGHT, hN⟩ := Z.nought
    have A0 := at_start (K := K) (N := ["web", "purse", "left", "tie", "spent", "many", "least", "worth"]) (ds := [.dat (webD W), .dat (frD P), .no, .no, .no, .no, .no, .no]) hg hI
    refine ⟨_, (pss_cons (ps_setLc (i := 2) (own := [("tie", 3)]) (g := gName 3) (tt := _) rfl sc_at_once.nd rfl rfl (sw_true rfl rfl rfl (by decide +kernel)) (w_list (K := K) (pe_ix (w_ixT (K := K)) (pv 0) pe_int (fun _ _ => rfl))) (blkOk_by (own := [("tie", 3)]) (N := ["web", "purse", "left", "tie", "spent", "many", "least", "worth"]) (sc := defScope s_at_once) (by decide +kernel)) (fun _ _ _ _ _ => (pg_name (i := 3) sc_at_once.nd rfl (Or.inl rfl))) (fun _ _ _ _ _ => (pts_one (pt_cmpR o_notN (pe_ix (w_ixT (K := K)) (pv 3) pe_int (fun _ _ => rfl)) pe_non (nomark _)))) (fun _ _ _ _ _ => (pe_ix (w_ixT (K := K)) (pv 3) pe_int (fun _ _ => rfl))))
      (pss_cons (ps_set (i := 4) sc_at_once.nd rfl (Or.inl rfl) (pe_glob (v := .ref aN) rfl g_NOUGHT rfl))
      (pss_cons (ps_set (i := 5) sc_at_once.nd rfl (Or.inl rfl) pe_int)
      (pss_cons (ps_while PassesOwn.never (pt_cmpR (w_neD (K := K) hr.units) (pv 2) (pe_lst pa_nil) (nomark _)) (pss_cons (ps_set (i := 6) sc_at_once.nd rfl (Or.inl rfl) (pe_ix (w_ixL (K := K)) (pv 2) pe_int (fun _ _ => rfl)))
      (pss_cons (ps_for PassesOwn.never rfl (w_list (K := K) (pv 2)) (pg_name (i := 7) sc_at_once.nd rfl (Or.inl rfl)) (pss_one (ps_if (pt_val (p_call c_is_less (hr.mono (by first | exact Nat.le_refl _ | omega)) (pa_cons (pv 7) (pa_cons (pv 6) pa_nil)))) (pss_one (ps_set (i := 6) sc_at_once.nd rfl (Or.inl rfl) (pv 7))) pss_nil)))
      (pss_cons (ps_expr (w_bm (K := K) PySem.F.plainAttrs_list PySem.F.slot_list_remove PySem.F.type_list_remove (w_rem (K := K) (hu65_of hr)) (pv 2) (pa_cons (pv 6) pa_nil)))
      (pss_cons (ps_set (i := 4) sc_at_once.nd rfl (Or.inl rfl) (p_call c_plus (hr.mono (by first | exact Nat.le_refl _ | omega)) (pa_cons (pv 4) (pa_cons (pv 6) pa_nil))))
      (pss_cons (ps_if (pt_val (p_call c_is_less (hr.mono (by first | exact Nat.le_refl _ | omega)) (pa_cons (pv 1) (pa_cons (pv 4) pa_nil)))) (pss_one (ps_ret (pv 5))) pss_nil)
      (pss_one (ps_aug (i := 5) sc_at_once.nd rfl (Or.inl rfl) pe_int ip_add))))))))
      (pss_one (ps_ret (pv 5))))))), ?_⟩
    have hzW : (worths W).length ≤ 14 := Nat.le_trans (List.length_filterMap_le _ _) hW.1
    refine q_new A0 ((en_lcD (p := fun e => !isN (n4 e)) (F := n4) (it_list (es := W.ties.map tieD) (ev_ixT1 (ev_var rfl) rfl)) trivial (fun i e he => tw_name) (fun i e he => ?_) (fun i e he hp => ?_) (by rw [List.length_map]; have := hW.1; omega)).imp fun dl h => h.trans (worths_lc W.ties)) fun p dl σ1 G1 H1 hdl hmu A1 => ?_
    · obtain ⟨t, ht, rfl⟩ := smap_get he
      exact et_test (ev_notN (ev_ixT4 (ev_var rfl) rfl) (optD_noAny _))
    · obtain ⟨t, ht, rfl⟩ := smap_get he
      exact ev_ixT4 (ev_var rfl) rfl
    subst hdl
    refine q_set A1 (ev_nought hN) fun σ2 G2 H2 A2 => ?_
    refine q_set A2 ev_int fun σ3 G3 H3 A3 => ?_
    refine q_while A3 (fun n ds ms => ∃ (l : List Rat) (sp : Rat) (m : Nat) (c1 c2 c3 : SC), ds = [.dat (webD W), .dat (frD P), .ref p, c1, .dat (frD sp), .dat (.int ((m : Nat) : Int)), c2, c3] ∧ ms = [(p, .lst (l.map frD))] ∧ n = l.length ∧ (∀ q ∈ l, Bd 1 q) ∧ Bd ((worths W).length - l.length) sp ∧ l.length ≤ (worths W).length ∧ atOnceL P l.length l sp m = atOnce W P) (worths W).length
      ⟨worths W, 0, 0, .no, .no, .no, rfl, rfl, rfl, worths_bd hW, Bd.zero.mono (Nat.zero_le _), Nat.le_refl _, rfl⟩ fun n ds ms σ4 G4 H4 j A4 => ?_
    obtain ⟨l, sp, m, c1, c2, c3, rfl, rfl, hn, hb, hsp, hll, hat⟩ := j
    refine ⟨_, et_test (ev_neNil (p := p) (l := l) (ev_var rfl) (List.mem_singleton.mpr rfl)), fun hbl G5 H5 L A5 hL => ?_, fun hbl G5 H5 A5 => ?_⟩
    · cases l with
      | nil => exact absurd hbl (by simp)
      | cons l0 r =>
        -- least = left[0]
        refine q_set A5 (ev_ixM (a := p) (xs := (l0 :: r).map frD) (ev_var rfl) (List.mem_singleton.mpr rfl) ev_int (atI_nat (j := 0) rfl)) fun σ6 G6 H6 A6 => ?_
        -- for worth in left
        refine q_for A6 (it_known (p := p) (es := (l0 :: r).map frD) (ev_var rfl) (List.mem_singleton.mpr rfl)) (fun i e he => tg_name) (fun i ds ms => ∃ c3, ds = [.dat (webD W), .dat (frD P), .ref p, c1, .dat (frD sp), .dat (.int ((m : Nat) : Int)), .dat (frD (minR l0 ((l0 :: r).take i))), c3] ∧ ms = [(p, .lst ((l0 :: r).map frD))]) ⟨_, rfl, rfl⟩ (fun i ds ms hi j => ?_) (fun gs i e ds ms σ7 G7 H7 L' he j A7 hL' => ?_) fun ds ms σ7 G7 H7 j A7 => ?_
        · obtain ⟨c, _, rfl⟩ := j
          exact List.mem_singleton.mpr rfl
        · obtain ⟨c, rfl, rfl⟩ := j
          obtain ⟨x, hx, rfl⟩ := smap_get he
          have hbx : Bd 1 x := hb x (List.mem_of_getElem? hx)
          have hbm : Bd 1 (minR l0 ((l0 :: r).take i)) := by
            rcases minR_mem l0 ((l0 :: r).take i) with e | e
            · rw [e]
              exact hb l0 List.mem_cons_self
            · exact hb _ (List.mem_of_mem_take e)
          have hst : minR l0 ((l0 :: r).take (i + 1)) = if x < minR l0 ((l0 :: r).take i) then x else minR l0 ((l0 :: r).take i) := by
            unfold minR
            rw [List.take_add_one, hx, List.foldl_append]
            rfl
          refine s_if A7 (et_B (ev_is_less (el_cons (ev_var rfl) (el_cons (ev_var rfl) el_nil)) (hbx.sz (by omega)) (hbm.sz (by omega)))) (fun hlt G8 H8 A8 => ?_) fun hlt G8 H8 A8 => ?_
          · refine s_set A8 (ev_var rfl) fun σ9 G9 H9 A9 => ?_
            refine hL' _ _ _ _ _ ⟨.dat (frD x), ?_, rfl⟩ A9
            rw [hst, if_pos (of_decide_eq_true hlt)]
            rfl
          · refine hL' _ _ _ _ _ ⟨.dat (frD x), ?_, rfl⟩ A8
            rw [hst, if_neg (of_decide_eq_false hlt)]
            rfl
        · obtain ⟨c, rfl, rfl⟩ := j
          rw [List.length_map, List.take_length] at A7
          have hle : minR l0 (l0 :: r) = leastR (l0 :: r) := rfl
          rw [hle] at A7
          have hmem : leastR (l0 :: r) ∈ l0 :: r := leastR_mem (by simp)
          have hbl : Bd 1 (leastR (l0 :: r)) := hb _ hmem
          -- left.remove(least)
          refine q_remF (i := 0) (.inl hmu) A7 (ev_var rfl) rfl (ev_var rfl) hmem fun G8 H8 A8 => ?_
          have hlen : ((l0 :: r).erase (leastR (l0 :: r))).length + 1 = (l0 :: r).length := by
            rw [List.length_erase_of_mem hmem, List.length_cons]
            omega
          have hlw := List.length_cons (a := l0) (as := r)
          refine q_set A8 (ev_plus (a := sp) (b := leastR (l0 :: r)) (el_cons (ev_var rfl) (el_cons (ev_var rfl) el_nil)) (hsp.sz (by omega)) (hbl.sz (by omega))) fun σ9 G9 H9 A9 => ?_
          have hsp2 : Bd ((worths W).length - ((l0 :: r).erase (leastR (l0 :: r))).length) (sp + leastR (l0 :: r)) := (hsp.add hbl).mono (by omega)
          have hun : atOnceL P (l0 :: r).length (l0 :: r) sp m = if P < sp + leastR (l0 :: r) then m else atOnceL P r.length ((l0 :: r).erase (leastR (l0 :: r))) (sp + leastR (l0 :: r)) (m + 1) := rfl
          refine q_when A9 (et_B (ev_is_less (a := P) (b := sp + leastR (l0 :: r)) (el_cons (ev_var rfl) (el_cons (ev_var rfl) el_nil)) hP (hsp2.sz (by omega)))) (fun hlt G10 H10 A10 => ?_) fun hlt G10 H10 A10 => ?_
          · refine s_retD A10 (ev_var rfl) fun v G' H' st iv => q v G' H' _ st iv ?_
            show _ = PyData.int ((atOnce W P : Nat) : Int)
            rw [← hat, hun, if_pos (of_decide_eq_true hlt)]
          · refine s_aug A10 rfl ev_int fun σ11 G11 H11 A11 => ?_
            refine hL _ _ _ _ _ _ ?_ ⟨(l0 :: r).erase (leastR (l0 :: r)), sp + leastR (l0 :: r), m + 1, _, _, _, rfl, rfl, rfl, fun q hq => hb q (List.mem_of_mem_erase hq), hsp2, by omega, ?_⟩ A11
            · omega
            · rw [← hat, hun, if_neg (of_decide_eq_false hlt), show ((l0 :: r).erase (leastR (l0 :: r))).length = r.length by omega]
    · cases l with
      | cons l0 r => exact absurd hbl (by simp)
      | nil =>
        refine s_retD A5 (ev_var rfl) fun v G' H' st iv => q v G' H' _ st iv ?_
        show _ = PyData.int ((atOnce W P : Nat) : Int)
        rw [← hat]
        rfl
theorem ev_at_once {W : Web} {p : Rat} (h : EvL K s t ds ms [webD W, frD p]) (hW : WB W) (hp : Sz p) : EvD K s (tCall (spOnce K) [] E t) ds ms (.int ((atOnce W p : Nat) : Int)) := evd_call (a := (W, p)) h ⟨hW, hp⟩ fun x e => e
abbrev s_askable : Stmt := topS 41
theorem sc_askable : FnScope ["web", "purse", "ties", "taken", "kept", "found", "tie"] ["web", "purse", "ties", "taken", "kept"] (defScope s_askable) := ⟨rfl, rfl, rfl, by decide +kernel, rfl, by decide +kernel, by decide +kernel⟩

def spAsk (K : Fg) : Sp := SpD K (fun p : Web × Rat × List Nat × List Nat × List Nat => [webD p.1, frD p.2.1, natD p.2.2.1, natD p.2.2.2.1, natD p.2.2.2.2]) (fun p => WB p.1 ∧ Sz p.2.1 ∧ (∀ k ∈ p.2.2.1, k < p.1.ties.length) ∧ Tk p.1 p.2.2.2.1 ∧ p.2.2.1.length ≤ 100 ∧ p.2.2.2.1.length ≤ 100) (fun p d => d = natD (askL p.1 p.2.1 p.2.2.1 p.2.2.2.1 p.2.2.2.2))
theorem dec_in (k : Nat) (l : List Nat) : decide (((k : Nat) : Int) ∈ l.map Int.ofNat) = decide (k ∈ l) := decide_eq_decide.mpr ⟨fun h => by
  obtain ⟨j, hj, e⟩ := List.mem_map.mp h
  exact Int.ofNat.inj e ▸ hj, fun h => List.mem_map.mpr ⟨k, h, rfl⟩⟩
theorem ev_niN {k : Nat} {l : List Nat} {ta tb : TE} (ha : EvD K s ta ds ms (.int ((k : Nat) : Int))) (hb : EvD K s tb ds ms (natD l)) : EvD K s (tOp (rIn K true) ta tb) ds ms (.bool (!decide (k ∈ l))) := (ev_niI (ns := l.map Int.ofNat) ha (hb.to (by unfold natD; rw [natsD_ints]))).to (by rw [dec_in])
theorem ok_askable {f : Addr} {fd : FuncData} (F : Fun K "askable" "askable" s_askable f fd) (c_fits : Cal P w K mg base "fits" 6 ["web", "taking", "purse"] (spFits K)) : FnOk P w K mg base CX0 7 f fd ["web", "purse", "ties", "taken", "kept"] (spAsk K) := by
  refine F.ok sc_askable (fun vs H Q E h => ?_) (fun cdv A outer s H vs Q E hr h => ?_)
  · obtain ⟨a, G, hg, hI, hp, q⟩ := h
    exact hI.length
  · obtain ⟨⟨W, P, ties, taken, kept⟩, G, hg, hI, ⟨hW, hP, ht, hT, hz, hz2⟩, q⟩ := h
    have hW : WB W := hW
    have hP : Sz P := hP
    have hT : Tk W taken := hT
    have ht : ∀ k ∈ ties, k < W.ties.length := ht
    have hz : ties.length ≤ 100 := hz
    have hz2 : taken.length ≤ 100 := hz2
    have A0 := at_start (K := K) (N := ["web", "purse", "ties", "taken", "kept", "found", "tie"]) (ds := [.dat (webD W), .dat (frD P), .dat (natD ties), .dat (natD taken), .dat (natD kept), .no, .no]) hg hI
    refine ⟨_, (pss_cons (ps_set (i := 5) sc_askable.nd rfl (Or.inl rfl) (pe_lst pa_nil))
      (pss_cons (ps_for PassesOwn.never rfl (w_list (K := K) (pv 2)) (pg_name (i := 6) sc_askable.nd rfl (Or.inl rfl)) (pss_one (ps_if (PW.pt (pw_and (pt_cmpR o_notN (pe_ix (w_ixT (K := K)) (pe_ix (w_ixL (K := K)) (pe_ix (w_ixT (K := K)) (pv 0) pe_int (fun _ _ => rfl)) (pv 6) (fun _ _ => rfl)) pe_int (fun _ _ => rfl)) pe_non (nomark _)) (pw_and (pt_cmpR (w_ni (K := K)) (pv 6) (pv 3) (by rfl)) (pw_and (pt_cmpR (w_ni (K := K)) (pv 6) (pv 4) (by rfl)) (pw_and1 (pt_val (p_call c_fits (hr.mono (by first | exact Nat.le_refl _ | omega)) (pa_cons (pv 0) (pa_cons (pe_op op_cat (pv 3) (pe_lst (pa_cons (pv 6) pa_nil))) (pa_cons (pv 1) pa_nil)))))))))) (pss_one (ps_expr (w_bm (K := K) PySem.F.plainAttrs_list PySem.F.slot_list_append PySem.F.type_list_append mt_append (pv 5) (pa_cons (pv 6) pa_nil)))) pss_nil)))
      (pss_one (ps_ret (pv 5))))), ?_⟩
    refine q_new A0 (en_lst el_nil) fun p dl σ1 G1 H1 hdl hmu A1 => ?_
    subst hdl
    refine q_for A1 (it_list (es := natsD ties) (ev_var rfl)) (fun i e he => tg_name) (fun i ds ms => ∃ c, ds = [.dat (webD W), .dat (frD P), .dat (natD ties), .dat (natD taken), .dat (natD kept), .ref p, c] ∧ ms = [(p, .lst (natsD (askL W P (ties.take i) taken kept)))]) ⟨_, rfl, rfl⟩ (fun _ _ _ _ _ => trivial) (fun gs i e ds ms σ2 G2 H2 L he j A2 hL => ?_) fun ds ms σ2 G2 H2 j A2 => ?_
    · obtain ⟨c, rfl, rfl⟩ := j
      obtain ⟨k, hk, rfl⟩ := natsD_get he
      have hkl := ht k (List.mem_of_getElem? hk)
      have hkt := List.getElem?_eq_getElem hkl
      have hlen : (askL W P (ties.take i) taken kept).length ≤ 100 := by
        have h1 := List.length_filter_le (askb W P taken kept) (ties.take i)
        rw [List.length_take] at h1
        unfold askL
        omega
      have hstep : askL W P (ties.take (i + 1)) taken kept = askL W P (ties.take i) taken kept ++ (if askb W P taken kept k then [k] else []) := filter_take _ hk
      have hsome : (((W.ties[k]?).bind Tie.worth).isSome) = !isN (optD W.ties[k].worth) := by
        rw [hkt]
        show (W.ties[k].worth).isSome = _
        cases W.ties[k].worth <;> rfl
      refine s_if (b := askb W P taken kept k) A2 ?_ (fun hb G3 H3 A3 => ?_) fun hb G3 H3 A3 => ?_
      · unfold askb
        rw [hsome]
        refine et_and (et_test (ev_notN (x := optD W.ties[k].worth) (ev_ixT4 (xs := [.str W.ties[k].one, .str W.ties[k].other, .str (wordS W.ties[k].both), frD W.ties[k].len, optD W.ties[k].worth]) (ev_ixLn (xs := W.ties.map tieD) (ev_ixT1 (ev_var rfl) rfl) (ev_var rfl) (smap_at hkt)) rfl) (optD_noAny _))) fun hs => ?_
        refine et_and (et_test (ev_niN (ev_var rfl) (ev_var rfl))) fun _ => ?_
        refine et_and (et_test (ev_niN (ev_var rfl) (ev_var rfl))) fun _ => ?_
        have hT2 : Tk W (taken ++ [k]) := fun j hj => by
          rcases List.mem_append.mp hj with hj | hj
          · exact hT j hj
          · cases List.mem_singleton.mp hj
            cases e : W.ties[k].worth with
            | none => rw [e] at hs; cases hs
            | some r => exact ⟨_, r, hkt, e⟩
        refine et_B (ev_fits (W := W) (T := taken ++ [k]) (el_cons (ev_var rfl) (el_cons (EvC.to (ev_cat (xs := natsD taken) (ys := [.int ((k : Nat) : Int)]) (ev_var rfl) (ev_lst (el_cons (ev_var rfl) el_nil)) (by rw [natsD_len]; show _ + 1 ≤ 1000; omega)) (by unfold natD natsD; rw [List.map_append]; rfl)) (el_cons (ev_var rfl) el_nil))) hW hT2 (by rw [List.length_append]; show _ + 1 ≤ 1000; omega) hP)
      · refine s_app (i := 0) (.inl hmu) A3 (ev_var rfl) rfl (ev_var rfl) (by rw [natsD_len]; omega) fun G4 H4 A4 => ?_
        refine hL _ _ _ _ _ ⟨_, rfl, ?_⟩ A4
        rw [hstep, if_pos hb]
        unfold natsD
        rw [List.map_append]
        rfl
      · refine hL _ _ _ _ _ ⟨_, rfl, ?_⟩ A3
        rw [hstep, hb, if_neg Bool.false_ne_true, List.append_nil]
    · obtain ⟨c, rfl, rfl⟩ := j
      rw [natsD_len, List.take_length] at A2
      exact s_retM A2 (ev_var rfl) (List.mem_singleton.mpr rfl) hmu fun v G' H' st so iv => q v G' H' _ st iv rfl
theorem ev_askable {W : Web} {p : Rat} {ties taken kept : List Nat} (h : EvL K s t ds ms [webD W, frD p, natD ties, natD taken, natD kept]) (hW : WB W) (hp : Sz p) (ht : ∀ k ∈ ties, k < W.ties.length) (hT : Tk W taken) (hz : ties.length ≤ 100) (hz2 : taken.length ≤ 100) : EvD K s (tCall (spAsk K) [] E t) ds ms (natD (askL W p ties taken kept)) := evd_call (a := (W, p, ties, taken, kept)) h ⟨hW, hp, ht, hT, hz, hz2⟩ fun x e => e
end
end Fc
namespace Fc
open PySem PySem.Spec PyProof.Rows L2 Sy
section
variable {P : Program} {w : World} {K : Fg} {mg : Str → Option Value} {base : Heap}
variable {s : Option Addr} {ds : List SC} {ms : List (Addr × MO)} {t : TA} {E : XK}
abbrev s_is_rooms : Stmt := topS 43
theorem sc_is_rooms : FnScope ["web", "thing", "room"] ["web", "thing"] (defScope s_is_rooms) := ⟨rfl, rfl, rfl, by decide +kernel, rfl, by decide +kernel, by decide +kernel⟩

/-- rooms of a web -/
structure RoomsOk (W : Web) (R : List Rat) : Prop where
  len : R.length = W.ties.length
  nn : ∀ q ∈ R, 0 ≤ q
  bd : ∀ q ∈ R, Bd 100 q
def spIsRooms (K : Fg) : Sp := SpD K (fun p : Web × List Rat => [webD p.1, frL p.2]) (fun p => RoomsOk p.1 p.2) (fun p d => d = .bool true)
theorem ok_is_rooms {f : Addr} {fd : FuncData} (F : Fun K "is_rooms" "is_rooms" s_is_rooms f fd) (B : Bl mg) (c_is_length : Cal P w K mg base "is_length" 3 ["thing"] (spLength K)) : FnOk P w K mg base CX0 4 f fd ["web", "thing"] (spIsRooms K) := by
  refine F.ok sc_is_rooms (fun vs H Q E h => ?_) (fun cdv A outer s H vs Q E hr h => ?_)
  · obtain ⟨a, G, hg, hI, hp, q⟩ := h
    exact hI.length
  · obtain ⟨⟨W, R⟩, G, hg, hI, hp, q⟩ := h
    have hp : RoomsOk W R := hp
    have A0 := at_start (K := K) (N := ["web", "thing", "room"]) (ds := [.dat (webD W), .dat (frL R), .no]) hg hI
    refine ⟨_, (pss_cons (ps_if (PW.pt (pw_or (pt_not (pt_val (pe_callB (w_isi (K := K)) (by rfl) B.isinstance_ (by decide +kernel) (pa_cons (pv 1) (pa_cons (pe_bltn (v := .ty "list") (by rfl) B.list_ (by decide +kernel) rfl) pa_nil))))) (pw_or1 (pt_cmpR op_ne (pe_callB (w_len (K := K)) (by rfl) B.len_ PySem.boot_len (pa_cons (pv 1) pa_nil)) (pe_callB (w_len (K := K)) (by rfl) B.len_ PySem.boot_len (pa_cons (pe_ix (w_ixT (K := K)) (pv 0) pe_int (fun _ _ => rfl)) pa_nil)) (nomark _))))) (pss_one (ps_ret pe_bl)) pss_nil)
      (pss_cons (ps_for PassesOwn.never rfl (w_list (K := K) (pv 1)) (pg_name (i := 2) sc_is_rooms.nd rfl (Or.inl rfl)) (pss_one (ps_if (pt_not (pt_val (p_call c_is_length (hr.mono (by first | exact Nat.le_refl _ | omega)) (pa_cons (pv 2) pa_nil)))) (pss_one (ps_ret pe_bl)) pss_nil)))
      (pss_one (ps_ret pe_bl)))), ?_⟩
    refine q_no A0 (EvT.to (et_or (et_not (et_B (ev_isiL (l := R.map frD) (ev_var rfl)))) fun _ => et_test (ev_neI (ev_lenL (xs := R.map frD) (ev_var rfl)) (ev_lenL (xs := W.ties.map tieD) (ev_ixT1 (ev_var rfl) rfl)))) (by simp [hp.len])) fun G1 H1 A1 => ?_
    refine q_for A1 (it_list (es := R.map frD) (ev_var rfl)) (fun i e he => tg_name) (fun i ds ms => ∃ c, ds = [.dat (webD W), .dat (frL R), c] ∧ ms = []) ⟨_, rfl, rfl⟩ (fun _ _ _ _ _ => trivial) (fun gs i e ds ms σ2 G2 H2 L he j A2 hL => ?_) fun ds ms σ2 G2 H2 j A2 => ?_
    · obtain ⟨c, rfl, rfl⟩ := j
      obtain ⟨x, hx, rfl⟩ := smap_get he
      refine s_no A2 (EvT.to (et_not (et_B (ev_is_length (a := x) (el_cons (ev_var rfl) el_nil) (hp.nn x (List.mem_of_getElem? hx))))) rfl) fun G3 H3 A3 => ?_
      exact hL _ _ _ _ _ ⟨_, rfl, rfl⟩ A3
    · obtain ⟨c, rfl, rfl⟩ := j
      exact s_retD A2 ev_bl fun v G' H' st iv => q v G' H' _ st iv rfl
theorem ev_is_rooms {W : Web} {R : List Rat} (h : EvL K s t ds ms [webD W, frL R]) (hp : RoomsOk W R) : EvD K s (tCall (spIsRooms K) [] E t) ds ms (.bool true) := evd_call (a := (W, R)) h hp fun x e => e
abbrev s_look_at_rooms : Stmt := topS 44
theorem sc_look_at_rooms : FnScope ["web", "thing"] ["web", "thing"] (defScope s_look_at_rooms) := ⟨rfl, rfl, rfl, by decide +kernel, rfl, by decide +kernel, by decide +kernel⟩

def spLRooms (K : Fg) : Sp := SpD K (fun p : Web × List Rat => [webD p.1, frL p.2]) (fun p => RoomsOk p.1 p.2) (fun p d => d = .none)
theorem ok_look_at_rooms {f : Addr} {fd : FuncData} (F : Fun K "look_at_rooms" "look_at_rooms" s_look_at_rooms f fd) (c_is_rooms : Cal P w K mg base "is_rooms" 4 ["web", "thing"] (spIsRooms K)) : FnOk P w K mg base CX0 5 f fd ["web", "thing"] (spLRooms K) := by
  refine F.ok sc_look_at_rooms (fun vs H Q E h => ?_) (fun cdv A outer s H vs Q E hr h => ?_)
  · obtain ⟨a, G, hg, hI, hp, q⟩ := h
    exact hI.length
  · obtain ⟨⟨W, R⟩, G, hg, hI, hp, q⟩ := h
    have A0 := at_start (K := K) (N := ["web", "thing"]) (ds := [.dat (webD W), .dat (frL R)]) hg hI
    refine ⟨_, (pss_one (ps_if (pt_not (pt_val (p_call c_is_rooms (hr.mono (by first | exact Nat.le_refl _ | omega)) (pa_cons (pv 0) (pa_cons (pv 1) pa_nil))))) (pss_one ps_never) pss_nil)), ?_⟩
    refine s_no A0 (EvT.to (et_not (et_B (ev_is_rooms (el_cons (ev_var rfl) (el_cons (ev_var rfl) el_nil)) hp))) rfl) fun G5 H5 A5 => ?_
    exact s_end A5 q
theorem ev_look_at_rooms {W : Web} {R : List Rat} (h : EvL K s t ds ms [webD W, frL R]) (hp : RoomsOk W R) : EvD K s (tCall (spLRooms K) [] E t) ds ms .none := evd_call (a := (W, R)) h hp fun x e => e
abbrev s_going : Stmt := topS 45
theorem sc_going : FnScope ["web", "flow", "place", "found", "k"] ["web", "flow", "place"] (defScope s_going) := ⟨rfl, rfl, rfl, by decide +kernel, rfl, by decide +kernel, by decide +kernel⟩

structure FlOk (W : Web) (fl : List Rat) : Prop where
  tl : W.ties.length ≤ 14
  len : fl.length = W.ties.length
  bd : ∀ q ∈ fl, Bd 1000 q
def spGoing (K : Fg) : Sp := SpD K (fun p : Web × List Rat × Str => [webD p.1, frL p.2.1, .str p.2.2]) (fun p => FlOk p.1 p.2.1) (fun p d => d = frD (goR p.1 p.2.1 p.2.2))
theorem go_bd (x : Str) : ∀ {l : List (Tie × Rat)} {a : Rat} {n : Nat}, (∀ p ∈ l, Bd 1000 p.2) → Bd n a → Bd (n + l.length * 1000) (l.foldl (goStep x) a)
  | [], a, n, _, h => h.mono (by omega)
  | p :: r, a, n, hl, h => by
    have h1 : Bd (n + 1000) (goStep x a p) := by
      unfold goStep
      split
      · exact h.add (hl p List.mem_cons_self)
      · split
        · exact h.sub (hl p List.mem_cons_self)
        · exact h.mono (by omega)
    refine (go_bd x (fun p' hp' => hl p' (List.mem_cons_of_mem _ hp')) h1).mono ?_
    rw [List.length_cons, Nat.add_mul]
    omega
theorem FlOk.zip {W : Web} {fl : List Rat} (h : FlOk W fl) : ∀ p ∈ W.ties.zip fl, Bd 1000 p.2 := fun p hp => h.bd p.2 (List.of_mem_zip hp).2
theorem ok_going {f : Addr} {fd : FuncData} (F : Fun K "going" "going" s_going f fd) (B : Bl mg) (Z : Cst K mg) (c_plus : Cal P w K mg base "plus" 3 ["one", "other"] (spPlus K)) (c_minus : Cal P w K mg base "minus" 3 ["one", "other"] (spMinus K)) : FnOk P w K mg base CX0 4 f fd ["web", "flow", "place"] (spGoing K) := by
  refine F.ok sc_going (fun vs H Q E h => ?_) (fun cdv A outer s H vs Q E hr h => ?_)
  · obtain ⟨a, G, hg, hI, hp, q⟩ := h
    exact hI.length
  · obtain ⟨⟨W, fl, x⟩, G, hg, hI, hp, q⟩ := h
    have hp : FlOk W fl := hp
    obtain ⟨aN, g_NOUGHT, hN⟩ := Z.nought
    have A0 := at_start (K := K) (N := ["web", "flow", "place", "found", "k"]) (ds := [.dat (webD W), .dat (frL fl), .dat (.str x), .no, .no]) hg hI
    refine ⟨_, (pss_cons (ps_set (i := 3) sc_going.nd rfl (Or.inl rfl) (pe_glob (v := .ref aN) rfl g_NOUGHT rfl))
      (pss_cons (ps_for PassesOwn.never rfl (pi_range1 (by rfl) B.range_ (pa_cons (pe_callB (w_len (K := K)) (by rfl) B.len_ PySem.boot_len (pa_cons (pv 1) pa_nil)) pa_nil)) (pg_name (i := 4) sc_going.nd rfl (Or.inl rfl)) (pss_one (ps_if (pt_cmpR op_eq (pe_ix (w_ixT (K := K)) (pe_ix (w_ixL (K := K)) (pe_ix (w_ixT (K := K)) (pv 0) pe_int (fun _ _ => rfl)) (pv 4) (fun _ _ => rfl)) pe_int (fun _ _ => rfl)) (pv 2) (nomark _)) (pss_one (ps_set (i := 3) sc_going.nd rfl (Or.inl rfl) (p_call c_plus (hr.mono (by first | exact Nat.le_refl _ | omega)) (pa_cons (pv 3) (pa_cons (pe_ix (w_ixL (K := K)) (pv 1) (pv 4) (fun _ _ => rfl)) pa_nil))))) (pss_one (ps_if (pt_cmpR op_eq (pe_ix (w_ixT (K := K)) (pe_ix (w_ixL (K := K)) (pe_ix (w_ixT (K := K)) (pv 0) pe_int (fun _ _ => rfl)) (pv 4) (fun _ _ => rfl)) pe_int (fun _ _ => rfl)) (pv 2) (nomark _)) (pss_one (ps_set (i := 3) sc_going.nd rfl (Or.inl rfl) (p_call c_minus (hr.mono (by first | exact Nat.le_refl _ | omega)) (pa_cons (pv 3) (pa_cons (pe_ix (w_ixL (K := K)) (pv 1) (pv 4) (fun _ _ => rfl)) pa_nil))))) pss_nil)))))
      (pss_one (ps_ret (pv 3))))), ?_⟩
    refine q_set A0 (ev_nought hN) fun σ1 G1 H1 A1 => ?_
    have hz : (W.ties.zip fl).length = fl.length := by rw [List.length_zip, hp.len, Nat.min_self]
    have hl := hp.len
    have htl := hp.tl
    refine q_for A1 (it_nats (n := fl.length) (EvL.to (el_cons (ev_lenL (xs := fl.map frD) (ev_var rfl)) el_nil) (by rw [List.length_map])) (by omega)) (fun i e he => tg_name) (fun i ds ms => ∃ c, ds = [.dat (webD W), .dat (frL fl), .dat (.str x), .dat (frD (((W.ties.zip fl).take i).foldl (goStep x) 0)), c] ∧ ms = []) ⟨_, rfl, rfl⟩ (fun _ _ _ _ _ => trivial) (fun gs i e ds ms σ2 G2 H2 L he j A2 hL => ?_) fun ds ms σ2 G2 H2 j A2 => ?_
    · obtain ⟨c, rfl, rfl⟩ := j
      obtain ⟨k, hk, rfl⟩ := natsD_get he
      obtain ⟨hi, rfl⟩ := range_get hk
      have ht := List.getElem?_eq_getElem (show k < W.ties.length by omega)
      have hf := List.getElem?_eq_getElem hi
      have hzk : (W.ties.zip fl)[k]? = some (W.ties[k], fl[k]) := by rw [List.getElem?_zip_eq_some]; exact ⟨ht, hf⟩
      have hst : ((W.ties.zip fl).take (k + 1)).foldl (goStep x) 0 = goStep x (((W.ties.zip fl).take k).foldl (goStep x) 0) (W.ties[k], fl[k]) := by
        rw [List.take_add_one, hzk, List.foldl_append]
        rfl
      have hba : Bd 14000 (((W.ties.zip fl).take k).foldl (goStep x) 0) := by
        refine (go_bd x (l := (W.ties.zip fl).take k) (fun p hp' => hp.zip p (List.mem_of_mem_take hp')) Bd.zero).mono ?_
        rw [List.length_take]
        omega
      have hbf : Bd 1000 fl[k] := hp.bd _ (List.getElem_mem hi)
      have tieA : ∀ {ds : List SC} {s : Option Addr}, ds[0]? = some (.dat (webD W)) → ds[4]? = some (.dat (.int ((k : Nat) : Int))) → EvD K s (tOp (rIxL K) (tOp (rIxT K) (tVar 0) (tC (.int 1))) (tVar 4)) ds [] (tieD W.ties[k]) := fun h1 h2 => ev_ixLn (xs := W.ties.map tieD) (ev_ixT1 (ev_var h1) rfl) (ev_var h2) (smap_at ht)
      refine s_if A2 (et_test (ev_eqS (ev_ixT0 (tieA rfl rfl) rfl) (ev_var rfl))) (fun hb G3 H3 A3 => ?_) fun hb G3 H3 A3 => ?_
      · refine s_set A3 (ev_plus (a := ((W.ties.zip fl).take k).foldl (goStep x) 0) (b := fl[k]) (el_cons (ev_var rfl) (el_cons (ev_ixLn (xs := fl.map frD) (ev_var rfl) (ev_var rfl) (smap_at hf)) el_nil)) (hba.sz (by omega)) (hbf.sz (by omega))) fun σ4 G4 H4 A4 => ?_
        refine hL _ _ _ _ _ ⟨.dat (.int ((k : Nat) : Int)), ?_, rfl⟩ A4
        rw [hst, goStep, if_pos (of_decide_eq_true hb)]
        rfl
      · refine s_if A3 (et_test (ev_eqS (ev_ixT1 (tieA rfl rfl) rfl) (ev_var rfl))) (fun hb2 G4 H4 A4 => ?_) fun hb2 G4 H4 A4 => ?_
        · refine s_set A4 (ev_minus (a := ((W.ties.zip fl).take k).foldl (goStep x) 0) (b := fl[k]) (el_cons (ev_var rfl) (el_cons (ev_ixLn (xs := fl.map frD) (ev_var rfl) (ev_var rfl) (smap_at hf)) el_nil)) (hba.sz (by omega)) (hbf.sz (by omega))) fun σ5 G5 H5 A5 => ?_
          refine hL _ _ _ _ _ ⟨.dat (.int ((k : Nat) : Int)), ?_, rfl⟩ A5
          rw [hst, goStep, if_neg (of_decide_eq_false hb), if_pos (of_decide_eq_true hb2)]
          rfl
        · refine hL _ _ _ _ _ ⟨.dat (.int ((k : Nat) : Int)), ?_, rfl⟩ A4
          rw [hst, goStep, if_neg (of_decide_eq_false hb), if_neg (of_decide_eq_false hb2)]
          rfl
    · obtain ⟨c, rfl, rfl⟩ := j
      rw [natsD_len, List.length_range, ← hz, List.take_length] at A2
      exact s_retD A2 (ev_var rfl) fun v G' H' st iv => q v G' H' _ st iv rfl
theorem ev_going {W : Web} {fl : List Rat} {x : Str} (h : EvL K s t ds ms [webD W, frL fl, .str x]) (hp : FlOk W fl) : EvD K s (tCall (spGoing K) [] E t) ds ms (frD (goR W fl x)) := evd_call (a := (W, fl, x)) h hp fun x e => e
abbrev s_amount_in : Stmt := topS 46
theorem sc_amount_in : FnScope ["web", "flow"] ["web", "flow"] (defScope s_amount_in) := ⟨rfl, rfl, rfl, by decide +kernel, rfl, by decide +kernel, by decide +kernel⟩

def amtR (W : Web) (fl : List Rat) : Rat := goR W fl W.first
def spAmtIn (K : Fg) : Sp := SpD K (fun p : Web × List Rat => [webD p.1, frL p.2]) (fun p => FlOk p.1 p.2) (fun p d => d = frD (amtR p.1 p.2))
theorem ok_amount_in {f : Addr} {fd : FuncData} (F : Fun K "amount_in" "amount_in" s_amount_in f fd) (c_going : Cal P w K mg base "going" 4 ["web", "flow", "place"] (spGoing K)) : FnOk P w K mg base CX0 5 f fd ["web", "flow"] (spAmtIn K) := by
  refine F.ok sc_amount_in (fun vs H Q E h => ?_) (fun cdv A outer s H vs Q E hr h => ?_)
  · obtain ⟨a, G, hg, hI, hp, q⟩ := h
    exact hI.length
  · obtain ⟨⟨W, fl⟩, G, hg, hI, hp, q⟩ := h
    have A0 := at_start (K := K) (N := ["web", "flow"]) (ds := [.dat (webD W), .dat (frL fl)]) hg hI
    refine ⟨_, (pss_one (ps_ret (p_call c_going (hr.mono (by first | exact Nat.le_refl _ | omega)) (pa_cons (pv 0) (pa_cons (pv 1) (pa_cons (pe_ix (w_ixT (K := K)) (pv 0) pe_int (fun _ _ => rfl)) pa_nil)))))), ?_⟩
    exact s_retD A0 (ev_going (W := W) (fl := fl) (x := W.first) (el_cons (ev_var rfl) (el_cons (ev_var rfl) (el_cons (ev_ixT2 (ev_var rfl) rfl) el_nil))) hp) fun v G' H' st iv => q v G' H' _ st iv rfl
theorem ev_amount_in {W : Web} {fl : List Rat} (h : EvL K s t ds ms [webD W, frL fl]) (hp : FlOk W fl) : EvD K s (tCall (spAmtIn K) [] E t) ds ms (frD (amtR W fl)) := evd_call (a := (W, fl)) h hp fun x e => e
abbrev s_amount_of : Stmt := topS 47
theorem sc_amount_of : FnScope ["web", "flow"] ["web", "flow"] (defScope s_amount_of) := ⟨rfl, rfl, rfl, by decide +kernel, rfl, by decide +kernel, by decide +kernel⟩

def spAmtOf (K : Fg) : Sp := SpD K (fun p : Web × List Rat => [webD p.1, frL p.2]) (fun p => WebOk p.1 ∧ FlOk p.1 p.2) (fun p d => d = frD (amtR p.1 p.2))
theorem ok_amount_of {f : Addr} {fd : FuncData} (F : Fun K "amount_of" "amount_of" s_amount_of f fd) (c_look_at_web : Cal P w K mg base "look_at_web" 6 ["thing"] (spLWeb K)) (c_amount_in : Cal P w K mg base "amount_in" 5 ["web", "flow"] (spAmtIn K)) : FnOk P w K mg base CX0 7 f fd ["web", "flow"] (spAmtOf K) := by
  refine F.ok sc_amount_of (fun vs H Q E h => ?_) (fun cdv A outer s H vs Q E hr h => ?_)
  · obtain ⟨a, G, hg, hI, hp, q⟩ := h
    exact hI.length
  · obtain ⟨⟨W, fl⟩, G, hg, hI, ⟨hw, hp⟩, q⟩ := h
    have A0 := at_start (K := K) (N := ["web", "flow"]) (ds := [.dat (webD W), .dat (frL fl)]) hg hI
    refine ⟨_, (pss_cons (ps_expr (p_call c_look_at_web (hr.mono (by first | exact Nat.le_refl _ | omega)) (pa_cons (pv 0) pa_nil)))
      (pss_one (ps_ret (p_call c_amount_in (hr.mono (by first | exact Nat.le_refl _ | omega)) (pa_cons (pv 0) (pa_cons (pv 1) pa_nil)))))), ?_⟩
    refine q_drop A0 (ev_look_at_web (el_cons (ev_var rfl) el_nil) hw) fun G1 H1 A1 => ?_
    exact s_retD A1 (ev_amount_in (W := W) (fl := fl) (el_cons (ev_var rfl) (el_cons (ev_var rfl) el_nil)) hp) fun v G' H' st iv => q v G' H' _ st iv rfl
theorem ev_amount_of {W : Web} {fl : List Rat} (h : EvL K s t ds ms [webD W, frL fl]) (hw : WebOk W) (hp : FlOk W fl) : EvD K s (tCall (spAmtOf K) [] E t) ds ms (frD (amtR W fl)) := evd_call (a := (W, fl)) h ⟨hw, hp⟩ fun x e => e
theorem lcm_int (a b : Nat) : ((a : Nat) : Int) * ((b : Nat) : Int) / ((Int.gcd ((a : Nat) : Int) ((b : Nat) : Int) : Nat) : Int) = ((Nat.lcm a b : Nat) : Int) := by
  rw [← Int.natCast_mul]
  show ((a * b : Nat) : Int) / ((Nat.gcd a b : Nat) : Int) = _
  rw [← Int.natCast_ediv]
  rfl
abbrev s_common_bottom : Stmt := topS 49
theorem sc_common_bottom : FnScope ["some", "found", "top", "bottom"] ["some"] (defScope s_common_bottom) := ⟨rfl, rfl, rfl, by decide +kernel, rfl, by decide +kernel, by decide +kernel⟩

def spComm (K : Fg) : Sp := SpD K (fun p : List Rat => [frL p]) (fun p => (∀ q ∈ p, q.den ∣ 1008)) (fun p d => d = .int ((lcmF p : Nat) : Int))
theorem take_lcm {l : List Rat} {i : Nat} {x : Rat} (h : l[i]? = some x) : lcmF (l.take (i + 1)) = Nat.lcm (lcmF (l.take i)) x.den := by
  unfold lcmF
  rw [List.take_add_one, h, List.foldl_append]
  rfl
theorem d1008 {n : Nat} (h : n ∣ 1008) : n < LN := Nat.lt_of_le_of_lt (Nat.le_of_dvd (by decide) h) (by decide +kernel)
theorem ok_common_bottom {f : Addr} {fd : FuncData} (F : Fun K "common_bottom" "common_bottom" s_common_bottom f fd) (c_divisor : Cal P w K mg base "divisor" 1 ["one", "other"] (spDivisor K)) : FnOk P w K mg base CX0 2 f fd ["some"] (spComm K) := by
  refine F.ok sc_common_bottom (fun vs H Q E h => ?_) (fun cdv A outer s H vs Q E hr h => ?_)
  · obtain ⟨a, G, hg, hI, hp, q⟩ := h
    exact hI.length
  · obtain ⟨l, G, hg, hI, hp, q⟩ := h
    have A0 := at_start (K := K) (N := ["some", "found", "top", "bottom"]) (ds := [.dat (frL l), .no, .no, .no]) hg hI
    refine ⟨_, (pss_cons (ps_set (i := 1) sc_common_bottom.nd rfl (Or.inl rfl) pe_int)
      (pss_cons (ps_for PassesOwn.never rfl (w_list (K := K) (pv 0)) (w_tup (K := K) (by rfl) (pgs_cons (pg_name (i := 2) sc_common_bottom.nd rfl (Or.inl rfl)) (pgs_cons (pg_name (i := 3) sc_common_bottom.nd rfl (Or.inl rfl)) pgs_nil))) (pss_one (ps_set (i := 1) sc_common_bottom.nd rfl (Or.inl rfl) (pe_op o_fdivW (pe_op o_mulW (pv 1) (pv 3)) (p_call c_divisor (hr.mono (by first | exact Nat.le_refl _ | omega)) (pa_cons (pv 1) (pa_cons (pv 3) pa_nil)))))))
      (pss_one (ps_ret (pv 1))))), ?_⟩
    refine q_set A0 ev_int fun σ1 G1 H1 A1 => ?_
    refine q_for A1 (it_list (es := l.map frD) (ev_var rfl)) (f := fun e ds => setAll ds [2, 3] (match e with | .tuple x => x | _ => [])) (fun i e he => ?_) (fun i ds ms => ∃ c c', ds = [.dat (frL l), .dat (.int ((lcmF (l.take i) : Nat) : Int)), c, c'] ∧ ms = []) ⟨_, _, rfl, rfl⟩ (fun _ _ _ _ _ => trivial) (fun gs i e ds ms σ2 G2 H2 L he j A2 hL => ?_) fun ds ms σ2 G2 H2 j A2 => ?_
    · obtain ⟨x, hx, rfl⟩ := smap_get he
      exact tg_tup [2, 3] rfl rfl
    · obtain ⟨c, c', rfl, rfl⟩ := j
      obtain ⟨x, hx, rfl⟩ := smap_get he
      have hxd := hp x (List.mem_of_getElem? hx)
      have hld : lcmF (l.take i) ∣ 1008 := lcmF_dvd fun q hq => hp q (List.mem_of_mem_take hq)
      have hg1 : 0 < Nat.gcd (lcmF (l.take i)) x.den := Nat.gcd_pos_of_pos_right _ x.den_pos
      have hg2 : Nat.gcd (lcmF (l.take i)) x.den < LN := Nat.lt_of_le_of_lt (Nat.le_of_dvd x.den_pos (Nat.gcd_dvd_right _ _)) (d1008 hxd)
      refine s_set A2 (ev_fdivW (i := ((lcmF (l.take i) : Nat) : Int) * ((x.den : Nat) : Int)) (ev_mulW (ev_var rfl) (ev_var rfl) (mulW (by rw [Int.natAbs_natCast]; exact d1008 hld) (by rw [Int.natAbs_natCast]; exact d1008 hxd))) (ev_divisor (a := ((lcmF (l.take i) : Nat) : Int)) (b := ((x.den : Nat) : Int)) (el_cons (ev_var rfl) (el_cons (ev_var rfl) el_nil))) (divW (by exact Int.natCast_pos.mpr hg1) (by rw [Int.natAbs_natCast]; exact hg2))) fun σ3 G3 H3 A3 => ?_
      refine hL _ _ _ _ _ ⟨.dat (.int x.num), .dat (.int ((x.den : Nat) : Int)), ?_, rfl⟩ A3
      rw [take_lcm hx, ← lcm_int]
      rfl
    · obtain ⟨c, c', rfl, rfl⟩ := j
      rw [List.length_map, List.take_length] at A2
      exact s_retD A2 (ev_var rfl) fun v G' H' st iv => q v G' H' _ st iv rfl
theorem ev_common_bottom {l : List Rat} (h : EvL K s t ds ms [frL l]) (hp : ∀ q ∈ l, q.den ∣ 1008) : EvD K s (tCall (spComm K) [] E t) ds ms (.int ((lcmF l : Nat) : Int)) := evd_call (a := l) h hp fun x e => e
abbrev s_common_of : Stmt := topS 60
theorem sc_common_of : FnScope ["some", "found", "one"] ["some"] (defScope s_common_of) := ⟨rfl, rfl, rfl, by decide +kernel, rfl, by decide +kernel, by decide +kernel⟩

theorem ok_common_of {f : Addr} {fd : FuncData} (F : Fun K "common_of" "common_of" s_common_of f fd) (c_divisor : Cal P w K mg base "divisor" 1 ["one", "other"] (spDivisor K)) : FnOk P w K mg base CX0 2 f fd ["some"] (spComm K) := by
  refine F.ok sc_common_of (fun vs H Q E h => ?_) (fun cdv A outer s H vs Q E hr h => ?_)
  · obtain ⟨a, G, hg, hI, hp, q⟩ := h
    exact hI.length
  · obtain ⟨l, G, hg, hI, hp, q⟩ := h
    have A0 := at_start (K := K) (N := ["some", "found", "one"]) (ds := [.dat (frL l), .no, .no]) hg hI
    refine ⟨_, (pss_cons (ps_set (i := 1) sc_common_of.nd rfl (Or.inl rfl) pe_int)
      (pss_cons (ps_for PassesOwn.never rfl (w_list (K := K) (pv 0)) (pg_name (i := 2) sc_common_of.nd rfl (Or.inl rfl)) (pss_one (ps_set (i := 1) sc_common_of.nd rfl (Or.inl rfl) (pe_op o_fdivW (pe_op o_mulW (pv 1) (pe_ix (w_ixT (K := K)) (pv 2) pe_int (fun _ _ => rfl))) (p_call c_divisor (hr.mono (by first | exact Nat.le_refl _ | omega)) (pa_cons (pv 1) (pa_cons (pe_ix (w_ixT (K := K)) (pv 2) pe_int (fun _ _ => rfl)) pa_nil)))))))
      (pss_one (ps_ret (pv 1))))), ?_⟩
    refine q_set A0 ev_int fun σ1 G1 H1 A1 => ?_
    refine q_for A1 (it_list (es := l.map frD) (ev_var rfl)) (fun i e he => tg_name) (fun i ds ms => ∃ c, ds = [.dat (frL l), .dat (.int ((lcmF (l.take i) : Nat) : Int)), c] ∧ ms = []) ⟨_, rfl, rfl⟩ (fun _ _ _ _ _ => trivial) (fun gs i e ds ms σ2 G2 H2 L he j A2 hL => ?_) fun ds ms σ2 G2 H2 j A2 => ?_
    · obtain ⟨c, rfl, rfl⟩ := j
      obtain ⟨x, hx, rfl⟩ := smap_get he
      have hxd := hp x (List.mem_of_getElem? hx)
      have hld : lcmF (l.take i) ∣ 1008 := lcmF_dvd fun q hq => hp q (List.mem_of_mem_take hq)
      have hg1 : 0 < Nat.gcd (lcmF (l.take i)) x.den := Nat.gcd_pos_of_pos_right _ x.den_pos
      have hg2 : Nat.gcd (lcmF (l.take i)) x.den < LN := Nat.lt_of_le_of_lt (Nat.le_of_dvd x.den_pos (Nat.gcd_dvd_right _ _)) (d1008 hxd)
      refine s_set A2 (ev_fdivW (i := ((lcmF (l.take i) : Nat) : Int) * ((x.den : Nat) : Int)) (ev_mulW (ev_var rfl) (ev_ixT1 (ev_var rfl) rfl) (mulW (by rw [Int.natAbs_natCast]; exact d1008 hld) (by rw [Int.natAbs_natCast]; exact d1008 hxd))) (ev_divisor (a := ((lcmF (l.take i) : Nat) : Int)) (b := ((x.den : Nat) : Int)) (el_cons (ev_var rfl) (el_cons (ev_ixT1 (ev_var rfl) rfl) el_nil))) (divW (by exact Int.natCast_pos.mpr hg1) (by rw [Int.natAbs_natCast]; exact hg2))) fun σ3 G3 H3 A3 => ?_
      refine hL _ _ _ _ _ ⟨.dat (frD x), ?_, rfl⟩ A3
      rw [take_lcm hx, ← lcm_int]
      rfl
    · obtain ⟨c, rfl, rfl⟩ := j
      rw [List.length_map, List.take_length] at A2
      exact s_retD A2 (ev_var rfl) fun v G' H' st iv => q v G' H' _ st iv rfl
abbrev s_whole_of : Stmt := topS 61
theorem sc_whole_of : FnScope ["one", "part"] ["one", "part"] (defScope s_whole_of) := ⟨rfl, rfl, rfl, by decide +kernel, rfl, by decide +kernel, by decide +kernel⟩

def spWholeOf (K : Fg) : Sp := SpD K (fun p : Rat × Nat => [frD p.1, .int ((p.2 : Nat) : Int)]) (fun p => Sz p.1 ∧ p.2 < LN) (fun p d => d = .int (p.1.num * ((p.2 / p.1.den : Nat) : Int)))
theorem ok_whole_of {f : Addr} {fd : FuncData} (F : Fun K "whole_of" "whole_of" s_whole_of f fd) : FnOk P w K mg base CX0 1 f fd ["one", "part"] (spWholeOf K) := by
  refine F.ok sc_whole_of (fun vs H Q E h => ?_) (fun cdv A outer s H vs Q E hr h => ?_)
  · obtain ⟨a, G, hg, hI, hp, q⟩ := h
    exact hI.length
  · obtain ⟨⟨x, b⟩, G, hg, hI, ⟨h1, h2⟩, q⟩ := h
    have h1 : Sz x := h1
    have h2 : b < LN := h2
    have A0 := at_start (K := K) (N := ["one", "part"]) (ds := [.dat (frD x), .dat (.int ((b : Nat) : Int))]) hg hI
    refine ⟨_, (pss_one (ps_ret (pe_op o_mulW (pe_ix (w_ixT (K := K)) (pv 0) pe_int (fun _ _ => rfl)) (pe_op o_fdivW (pv 1) (pe_ix (w_ixT (K := K)) (pv 0) pe_int (fun _ _ => rfl)))))), ?_⟩
    refine s_retD A0 (d := .int (x.num * ((b / x.den : Nat) : Int))) (ev_mulW (ev_ixT0 (ev_var rfl) rfl) (EvC.to (ev_fdivW (i := ((b : Nat) : Int)) (j := ((x.den : Nat) : Int)) (ev_var rfl) (ev_ixT1 (ev_var rfl) rfl) (divW (den0 x) h1.d)) rfl) (mulW h1.n (by rw [Int.natAbs_natCast]; exact Nat.lt_of_le_of_lt (Nat.div_le_self _ _) h2))) fun v G' H' st iv => q v G' H' _ st iv rfl
theorem ev_whole_of {x : Rat} {b : Nat} (h : EvL K s t ds ms [frD x, .int ((b : Nat) : Int)]) (h1 : Sz x) (h2 : b < LN) : EvD K s (tCall (spWholeOf K) [] E t) ds ms (.int (x.num * ((b / x.den : Nat) : Int))) := evd_call (a := (x, b)) h ⟨h1, h2⟩ fun x e => e
abbrev s_lengths_in : Stmt := topS 62
theorem sc_lengths_in : FnScope ["web", "tie"] ["web"] (defScope s_lengths_in) := ⟨rfl, rfl, rfl, by decide +kernel, rfl, by decide +kernel, by decide +kernel⟩

def lensR (W : Web) : List Rat := W.ties.map Tie.len
def n3 : D → D
  | .tuple [_, _, _, x, _] => x
  | _ => .none
def spLens (K : Fg) : Sp := SpD K (fun p : Web => [webD p]) (fun p => p.ties.length ≤ 14) (fun p d => d = frL (lensR p))
theorem filter_all {α : Type} (l : List α) : l.filter (fun _ => true) = l := List.filter_eq_self.mpr fun _ _ => rfl
theorem ok_lengths_in {f : Addr} {fd : FuncData} (F : Fun K "lengths_in" "lengths_in" s_lengths_in f fd) : FnOk P w K mg base CX0 1 f fd ["web"] (spLens K) := by
  refine F.ok sc_lengths_in (fun vs H Q E h => ?_) (fun cdv A outer s H vs Q E hr h => ?_)
  · obtain ⟨a, G, hg, hI, hp, q⟩ := h
    exact hI.length
  · obtain ⟨W, G, hg, hI, hp, q⟩ := h
    have hp : W.ties.length ≤ 14 := hp
    have A0 := at_start (K := K) (N := ["web", "tie"]) (ds := [.dat (webD W), .no]) hg hI
    refine ⟨_, (pss_one (ps_ret (pe_lc (own := [("tie", 1)]) (g := gName 1) (tt := tYes) rfl sc_lengths_in.nd (w_list (K := K) (pe_ix (w_ixT (K := K)) (pv 0) pe_int (fun _ _ => rfl))) (blkOk_by (own := [("tie", 1)]) (N := ["web", "tie"]) (sc := defScope s_lengths_in) (by decide +kernel)) (fun _ _ _ _ _ => (pg_name (i := 1) sc_lengths_in.nd rfl (Or.inl rfl))) (fun _ _ _ _ _ => pts_nil) (fun _ _ _ _ _ => (pe_ix (w_ixT (K := K)) (pv 1) pe_int (fun _ _ => rfl)))))), ?_⟩
    refine s_retD A0 (d := frL (lensR W)) (EvN.dat ((en_lcD (p := fun _ => true) (F := n3) (it_list (es := W.ties.map tieD) (ev_ixT1 (ev_var rfl) rfl)) trivial (fun i e he => tw_name) (fun i e he => et_yes) (fun i e he hp => ?_) (by rw [List.length_map]; omega)).imp fun dl h => ?_)) fun v G' H' st iv => q v G' H' _ st iv rfl
    · obtain ⟨t, ht, rfl⟩ := smap_get he
      exact ev_ixT3 (ev_var rfl) rfl
    · rw [h, filter_all, List.map_map, lensR, List.map_map]
      rfl
theorem ev_lengths_in {W : Web} (h : EvL K s t ds ms [webD W]) (hp : W.ties.length ≤ 14) : EvD K s (tCall (spLens K) [] E t) ds ms (frL (lensR W)) := evd_call (a := W) h hp fun x e => e
abbrev s_behind : Stmt := topS 58
theorem sc_behind : FnScope ["tie", "place"] ["tie", "place"] (defScope s_behind) := ⟨rfl, rfl, rfl, by decide +kernel, rfl, by decide +kernel, by decide +kernel⟩

def spBehind (K : Fg) : Sp := SpD K (fun p : Tie × Str => [tieD p.1, .str p.2]) (fun p => True) (fun p d => d = optS (bhd p.1 p.2))
theorem word_both (b : Bool) : decide (wordS b = "both") = b := by cases b <;> decide
theorem ok_behind {f : Addr} {fd : FuncData} (F : Fun K "behind" "behind" s_behind f fd) : FnOk P w K mg base CX0 1 f fd ["tie", "place"] (spBehind K) := by
  refine F.ok sc_behind (fun vs H Q E h => ?_) (fun cdv A outer s H vs Q E hr h => ?_)
  · obtain ⟨a, G, hg, hI, hp, q⟩ := h
    exact hI.length
  · obtain ⟨⟨T, x⟩, G, hg, hI, hp, q⟩ := h
    have A0 := at_start (K := K) (N := ["tie", "place"]) (ds := [.dat (tieD T), .dat (.str x)]) hg hI
    refine ⟨_, (pss_cons (ps_if (pt_cmpR op_eq (pe_ix (w_ixT (K := K)) (pv 0) pe_int (fun _ _ => rfl)) (pv 1) (nomark _)) (pss_one (ps_ret (pe_ix (w_ixT (K := K)) (pv 0) pe_int (fun _ _ => rfl)))) pss_nil)
      (pss_cons (ps_if (PW.pt (pw_and (pt_cmpR op_eq (pe_ix (w_ixT (K := K)) (pv 0) pe_int (fun _ _ => rfl)) (pv 1) (nomark _)) (pw_and1 (pt_cmpR op_eq (pe_ix (w_ixT (K := K)) (pv 0) pe_int (fun _ _ => rfl)) pe_str (nomark _))))) (pss_one (ps_ret (pe_ix (w_ixT (K := K)) (pv 0) pe_int (fun _ _ => rfl)))) pss_nil)
      (pss_one (ps_ret pe_non)))), ?_⟩
    refine q_when A0 (et_test (ev_eqS (i := T.one) (j := x) (ev_ixT0 (ev_var rfl) rfl) (ev_var rfl))) (fun hb G1 H1 A1 => ?_) fun hb G1 H1 A1 => ?_
    · refine s_retD A1 (ev_ixT1 (xs := [.str T.one, .str T.other, .str (wordS T.both), frD T.len, optD T.worth]) (ev_var rfl) rfl) fun v G' H' st iv => q v G' H' _ st iv ?_
      show PyData.str T.other = optS (bhd T x)
      rw [bhd, if_pos (of_decide_eq_true hb)]
      rfl
    · refine q_when A1 (et_and (et_test (ev_eqS (i := T.other) (j := x) (ev_ixT1 (ev_var rfl) rfl) (ev_var rfl))) fun _ => et_test (ev_eqS (i := wordS T.both) (j := "both") (ev_ixT2 (ev_var rfl) rfl) ev_str)) (fun hb2 G2 H2 A2 => ?_) fun hb2 G2 H2 A2 => ?_
      · rw [word_both, Bool.and_eq_true] at hb2
        refine s_retD A2 (ev_ixT0 (xs := [.str T.one, .str T.other, .str (wordS T.both), frD T.len, optD T.worth]) (ev_var rfl) rfl) fun v G' H' st iv => q v G' H' _ st iv ?_
        show PyData.str T.one = optS (bhd T x)
        rw [bhd, if_neg (of_decide_eq_false hb), if_pos ⟨of_decide_eq_true hb2.1, hb2.2⟩]
        rfl
      · rw [word_both] at hb2
        refine s_retD A2 ev_non fun v G' H' st iv => q v G' H' _ st iv ?_
        show PyData.none = optS (bhd T x)
        rw [bhd, if_neg (of_decide_eq_false hb), if_neg fun z => by rw [decide_eq_true z.1, z.2] at hb2; cases hb2]
        rfl
theorem ev_behind {T : Tie} {x : Str} (h : EvL K s t ds ms [tieD T, .str x]) : EvD K s (tCall (spBehind K) [] E t) ds ms (optS (bhd T x)) := evd_call (a := (T, x)) h trivial fun x e => e
abbrev s_is_longer : Stmt := topS 75
theorem sc_is_longer : FnScope ["length", "other"] ["length", "other"] (defScope s_is_longer) := ⟨rfl, rfl, rfl, by decide +kernel, rfl, by decide +kernel, by decide +kernel⟩

def spLonger (K : Fg) : Sp := SpD K (fun p : Option Rat × Option Rat => [optD p.1, optD p.2]) (fun p => (∀ x, p.1 = some x → Sz x) ∧ ∀ x, p.2 = some x → Sz x) (fun p d => d = .bool (lngr p.1 p.2))
theorem ok_is_longer {f : Addr} {fd : FuncData} (F : Fun K "is_longer" "is_longer" s_is_longer f fd) (c_is_less : Cal P w K mg base "is_less" 1 ["one", "other"] (spLess K)) : FnOk P w K mg base CX0 2 f fd ["length", "other"] (spLonger K) := by
  refine F.ok sc_is_longer (fun vs H Q E h => ?_) (fun cdv A outer s H vs Q E hr h => ?_)
  · obtain ⟨a, G, hg, hI, hp, q⟩ := h
    exact hI.length
  · obtain ⟨⟨a, b⟩, G, hg, hI, ⟨h1, h2⟩, q⟩ := h
    have A0 := at_start (K := K) (N := ["length", "other"]) (ds := [.dat (optD a), .dat (optD b)]) hg hI
    refine ⟨_, (pss_cons (ps_if (PW.pt (pw_or (pt_cmpR o_isN (pv 0) pe_non (nomark _)) (pw_or1 (pt_cmpR o_isN (pv 1) pe_non (nomark _))))) (pss_one (ps_ret (pe_and (pe_cmpR o_isN (pv 0) pe_non (nomark _)) (pe_one (pe_cmpR o_notN (pv 1) pe_non (nomark _)))))) pss_nil)
      (pss_one (ps_ret (p_call c_is_less (hr.mono (by first | exact Nat.le_refl _ | omega)) (pa_cons (pv 1) (pa_cons (pv 0) pa_nil)))))), ?_⟩
    cases a with
    | none =>
      refine q_yes A0 (EvT.to (b := true) (et_or (a := true) (b := true) (et_test (ev_isN (x := .none) (ev_var rfl))) fun z => nomatch z) rfl) fun G1 H1 A1 => ?_
      refine s_retD A1 (ev_andV (ev_isN (x := .none) (ev_var rfl)) fun _ => ev_notN (x := optD b) (ev_var rfl) (optD_noAny b)) fun v G' H' st iv => q v G' H' _ st iv ?_
      cases b <;> rfl
    | some x =>
      cases b with
      | none =>
        refine q_yes A0 (EvT.to (b := true) (et_or (et_test (ev_isN (x := frD x) (ev_var rfl))) fun z => et_test (ev_isN (x := .none) (ev_var rfl))) rfl) fun G1 H1 A1 => ?_
        exact s_retD A1 (ev_andV (a := false) (b := true) (ev_isN (x := frD x) (ev_var rfl)) fun z => nomatch z) fun v G' H' st iv => q v G' H' _ st iv rfl
      | some y =>
        refine q_no A0 (EvT.to (b := false) (et_or (et_test (ev_isN (x := frD x) (ev_var rfl))) fun z => et_test (ev_isN (x := frD y) (ev_var rfl))) rfl) fun G1 H1 A1 => ?_
        exact s_retD A1 (ev_is_less (a := y) (b := x) (el_cons (ev_var rfl) (el_cons (ev_var rfl) el_nil)) (h2 y rfl) (h1 x rfl)) fun v G' H' st iv => q v G' H' _ st iv rfl
theorem ev_is_longer {a b : Option Rat} (h : EvL K s t ds ms [optD a, optD b]) (h1 : ∀ x, a = some x → Sz x) (h2 : ∀ x, b = some x → Sz x) : EvD K s (tCall (spLonger K) [] E t) ds ms (.bool (lngr a b)) := evd_call (a := (a, b)) h ⟨h1, h2⟩ fun x e => e
abbrev s_look_at_size : Stmt := topS 72
theorem sc_look_at_size : FnScope ["web", "purse"] ["web", "purse"] (defScope s_look_at_size) := ⟨rfl, rfl, rfl, by decide +kernel, rfl, by decide +kernel, by decide +kernel⟩

def spLSize (K : Fg) : Sp := SpD K (fun p : Web × Rat => [webD p.1, frD p.2]) (fun p => WB p.1 ∧ Sz p.2 ∧ atOnce p.1 p.2 ≤ 3) (fun p d => d = .none)
theorem ok_look_at_size {f : Addr} {fd : FuncData} (F : Fun K "look_at_size" "look_at_size" s_look_at_size f fd) (Z : Cst K mg) (c_at_once : Cal P w K mg base "at_once" 4 ["web", "purse"] (spOnce K)) : FnOk P w K mg base CX0 5 f fd ["web", "purse"] (spLSize K) := by
  refine F.ok sc_look_at_size (fun vs H Q E h => ?_) (fun cdv A outer s H vs Q E hr h => ?_)
  · obtain ⟨a, G, hg, hI, hp, q⟩ := h
    exact hI.length
  · obtain ⟨⟨W, p⟩, G, hg, hI, ⟨h1, h2, h3⟩, q⟩ := h
    have h3 : atOnce W p ≤ 3 := h3
    obtain ⟨tM, g_MOST_AT_ONCE_ready⟩ := Z.ready
    have A0 := at_start (K := K) (N := ["web", "purse"]) (ds := [.dat (webD W), .dat (frD p)]) hg hI
    refine ⟨_, (pss_one (ps_if (pt_cmpR o_gt (p_call c_at_once (hr.mono (by first | exact Nat.le_refl _ | omega)) (pa_cons (pv 0) (pa_cons (pv 1) pa_nil))) (pe_glob (v := .int 3) rfl g_MOST_AT_ONCE_ready ⟨_, rfl⟩) (nomark _)) (pss_one ps_never) pss_nil)), ?_⟩
    refine s_no A0 (EvT.to (et_test (ev_gt (ev_at_once (W := W) (p := p) (el_cons (ev_var rfl) (el_cons (ev_var rfl) el_nil)) h1 h2) ev_int)) (decide_eq_false (by omega))) fun G1 H1 A1 => ?_
    exact s_end A1 q
theorem ev_look_at_size {W : Web} {p : Rat} (h : EvL K s t ds ms [webD W, frD p]) (h1 : WB W) (h2 : Sz p) (h3 : atOnce W p ≤ 3) : EvD K s (tCall (spLSize K) [] E t) ds ms .none := evd_call (a := (W, p)) h ⟨h1, h2, h3⟩ fun x e => e
end
end Fc
namespace Fc
open PySem PySem.Spec PyProof.Rows L2 Sy
section
variable {P : Program} {w : World} {K : Fg} {mg : Str → Option Value} {base : Heap} {C : Addr}
variable {s : Option Addr} {ds : List SC} {ms : List (Addr × MO)} {t : TA} {ta : TE} {E : XK}
abbrev s_Pipes_spare : Stmt := inClass (topS 50) 1
theorem sc_Pipes_spare : FnScope ["self", "k", "place", "one", "other", "word"] ["self", "k", "place"] (defScope s_Pipes_spare) := ⟨rfl, rfl, rfl, by decide +kernel, rfl, by decide +kernel, by decide +kernel⟩

def spSpare (K : Fg) (C : Addr) : Sp := SpPM K C (fun a : PData × Nat × Str => [.int ((a.2.1 : Nat) : Int), .str a.2.2]) (fun a => a.1) (fun a => PLen a.1 ∧ a.2.1 < a.1.W.ties.length) (fun a d => d = .int (spareZ a.1 a.2.1 a.2.2))
theorem ev_first3 {pd : PData} {dx p o2 : Addr} {k i : Nat} {T : Tie} (Z : PipeCls K C) (h0 : ds[0]? = some (.ref p)) (h1 : (p, MO.ins C dx (pipeFs pd o2)) ∈ ms) (hk : pd.W.ties[k]? = some T) (hi : ds[i]? = some (.dat (.int ((k : Nat) : Int)))) : EvD K s (tOp (rIxL K) (tOp (rIxT K) (tFld K (tVar 0) "net") (tC (.int 1))) (tVar i)) ds ms (tieD T) :=
  ev_ixLn (xs := pd.W.ties.map tieD) (ev_ixT1 (ev_pf Z Z.net h0 h1) rfl) (ev_var hi) (smap_at hk)
theorem ok_Pipes_spare {f : Addr} {fd : FuncData} (F : Fun K "spare" "Pipes.spare" s_Pipes_spare f fd) (Z : PipeCls K C) : FnOk P w K mg base CX0 1 f fd ["self", "k", "place"] (spSpare K C) := by
  refine F.ok sc_Pipes_spare (fun vs H Q E h => ?_) (fun cdv A outer s H vs Q E hr h => ?_)
  · obtain ⟨a, G, dx, p, o2, vr, rfl, hg, hp, hI, _⟩ := h
    rw [List.length_cons, hI.length]
    rfl
  · obtain ⟨⟨pd, k, x⟩, G, dx, p, o2, vr, rfl, hg, hp, hI, ⟨hl, hk⟩, q⟩ := h
    have hl : PLen pd := hl
    have hk : k < pd.W.ties.length := hk
    have hp : PipeOk K G H C dx p o2 pd := hp
    have A0 := at_startP (mu := mu0) (K := K) (N := ["self", "k", "place", "one", "other", "word"]) (ds := [.ref p, .dat (.int ((k : Nat) : Int)), .dat (.str x), .no, .no, .no]) hg hp hI
    refine ⟨_, (pss_cons (ps_asg (pe_slice (w_slT (K := K)) (pe_ix (w_ixL (K := K)) (pe_ix (w_ixT (K := K)) (w_fld (K := K) (pv 0) rfl) pe_int (fun _ _ => rfl)) (pv 1) (fun _ _ => rfl)) po_none (po_some pe_int)) (w_tup (K := K) (by rfl) (pgs_cons (pg_name (i := 3) sc_Pipes_spare.nd rfl (Or.inl rfl)) (pgs_cons (pg_name (i := 4) sc_Pipes_spare.nd rfl (Or.inl rfl)) (pgs_cons (pg_name (i := 5) sc_Pipes_spare.nd rfl (Or.inl rfl)) pgs_nil)))))
      (pss_cons (ps_if (pt_cmpR op_eq (pv 2) (pv 3) (nomark _)) (pss_one (ps_ret (pe_op o_sub (pe_ix (w_ixL (K := K)) (w_fld (K := K) (pv 0) rfl) (pv 1) (fun _ _ => rfl)) (pe_ix (w_ixL (K := K)) (w_fld (K := K) (pv 0) rfl) (pv 1) (fun _ _ => rfl))))) pss_nil)
      (pss_cons (ps_if (PW.pt (pw_and (pt_cmpR op_eq (pv 2) (pv 4) (nomark _)) (pw_and1 (pt_cmpR op_eq (pv 5) pe_str (nomark _))))) (pss_one (ps_ret (pe_op o_add (pe_ix (w_ixL (K := K)) (w_fld (K := K) (pv 0) rfl) (pv 1) (fun _ _ => rfl)) (pe_ix (w_ixL (K := K)) (w_fld (K := K) (pv 0) rfl) (pv 1) (fun _ _ => rfl))))) pss_nil)
      (pss_cons (ps_if (pt_cmpR op_eq (pv 2) (pv 4) (nomark _)) (pss_one (ps_ret (pe_ix (w_ixL (K := K)) (w_fld (K := K) (pv 0) rfl) (pv 1) (fun _ _ => rfl)))) pss_nil)
      (pss_one (ps_ret pe_int)))))), ?_⟩
    have hT := List.getElem?_eq_getElem hk
    obtain ⟨T, hTT⟩ : ∃ T, pd.W.ties[k]? = some T := ⟨_, hT⟩
    have hR := List.getElem?_eq_getElem (show k < pd.R.length by rw [hl.r]; exact hk)
    have hA := List.getElem?_eq_getElem (show k < pd.A.length by rw [hl.a]; exact hk)
    have m1 : (p, MO.ins C dx (pipeFs pd o2)) ∈ pipeMs C dx p o2 pd := List.mem_cons_self
    have m2 : (o2, MO.lst (intsD pd.A)) ∈ pipeMs C dx p o2 pd := List.mem_cons_of_mem _ List.mem_cons_self
    have eR : pd.R.getD k 0 = pd.R[k]'(by rw [hl.r]; exact hk) := by rw [List.getD_eq_getElem?_getD, hR] <;> rfl
    have eA : pd.A.getD k 0 = pd.A[k]'(by rw [hl.a]; exact hk) := by rw [List.getD_eq_getElem?_getD, hA] <;> rfl
    refine q_unp A0 (EvC.to (ev_slT (ev_first3 Z rfl m1 hTT rfl) eo_none (eo_some ev_int) (fun h => absurd h.2 (show ¬ (3 : Nat) = 5 by decide))) (show SC.dat _ = SC.dat (.tuple [.str T.one, .str T.other, .str (wordS T.both)]) from rfl)) (tg_tup [3, 4, 5] rfl rfl) fun σ1 G1 H1 A1 => ?_
    have evR : ∀ {s : Option Addr} {ds : List SC}, ds[0]? = some (.ref p) → ds[1]? = some (.dat (.int ((k : Nat) : Int))) → EvD K s (tOp (rIxL K) (tFld K (tVar 0) "rooms") (tVar 1)) ds (pipeMs C dx p o2 pd) (.int (pd.R.getD k 0)) := fun h0 h1 => by
      rw [eR]
      exact ev_ixLn (xs := intsD pd.R) (ev_pf Z Z.rooms h0 m1) (ev_var h1) (smap_at hR)
    have evA : ∀ {s : Option Addr} {ds : List SC}, ds[0]? = some (.ref p) → ds[1]? = some (.dat (.int ((k : Nat) : Int))) → EvD K s (tOp (rIxL K) (tFld K (tVar 0) "amounts") (tVar 1)) ds (pipeMs C dx p o2 pd) (.int (pd.A.getD k 0)) := fun h0 h1 => by
      rw [eA]
      exact ev_ixM (a := o2) (xs := intsD pd.A) (ev_pf Z Z.amounts h0 m1) m2 (ev_var h1) (atI_nat (smap_at hA))
    have eS : spareZ pd k x = (if x = T.one then pd.R.getD k 0 - pd.A.getD k 0 else if x = T.other ∧ T.both = true then pd.R.getD k 0 + pd.A.getD k 0 else if x = T.other then pd.A.getD k 0 else 0) := by
      unfold spareZ
      rw [hTT]
    refine q_when A1 (et_test (ev_eqS (i := x) (j := T.one) (ev_var rfl) (ev_var rfl))) (fun hb G2 H2 A2 => ?_) fun hb G2 H2 A2 => ?_
    · refine s_retD A2 (ev_sub (evR rfl rfl) (evA rfl rfl)) fun v G' H' st iv => q v G' H' _ st iv ?_
      show _ = PyData.int (spareZ pd k x)
      rw [eS, if_pos (of_decide_eq_true hb)]
    · refine q_when A2 (et_and (et_test (ev_eqS (i := x) (j := T.other) (ev_var rfl) (ev_var rfl))) fun _ => et_test (ev_eqS (i := wordS T.both) (j := "both") (ev_var rfl) ev_str)) (fun hb2 G3 H3 A3 => ?_) fun hb2 G3 H3 A3 => ?_
      · rw [word_both, Bool.and_eq_true] at hb2
        refine s_retD A3 (ev_add (evR rfl rfl) (evA rfl rfl)) fun v G' H' st iv => q v G' H' _ st iv ?_
        show _ = PyData.int (spareZ pd k x)
        rw [eS, if_neg (of_decide_eq_false hb), if_pos ⟨of_decide_eq_true hb2.1, hb2.2⟩]
      · rw [word_both] at hb2
        have hn : ¬ (x = T.other ∧ T.both = true) := fun z => by
          rw [decide_eq_true z.1, z.2] at hb2
          cases hb2
        refine q_when A3 (et_test (ev_eqS (i := x) (j := T.other) (ev_var rfl) (ev_var rfl))) (fun hb3 G4 H4 A4 => ?_) fun hb3 G4 H4 A4 => ?_
        · refine s_retD A4 (evA rfl rfl) fun v G' H' st iv => q v G' H' _ st iv ?_
          show _ = PyData.int (spareZ pd k x)
          rw [eS, if_neg (of_decide_eq_false hb), if_neg hn, if_pos (of_decide_eq_true hb3)]
        · refine s_retD A4 ev_int fun v G' H' st iv => q v G' H' _ st iv ?_
          show _ = PyData.int (spareZ pd k x)
          rw [eS, if_neg (of_decide_eq_false hb), if_neg hn, if_neg (of_decide_eq_false hb3)]
theorem ev_spare {pd : PData} {dx p o2 : Addr} {k : Nat} {x : Str} (h0 : EvC K s ta ds ms (.ref p)) (h1 : (p, MO.ins C dx (pipeFs pd o2)) ∈ ms) (h2 : (o2, MO.lst (intsD pd.A)) ∈ ms) (hne : p ≠ o2) (h : EvL K s t ds ms [.int ((k : Nat) : Int), .str x]) (hl : PLen pd) (hk : k < pd.W.ties.length) : EvD K s (tMeth C "spare" (spSpare K C) [] E ta t) ds ms (.int (spareZ pd k x)) :=
  evd_methP (pw := fun a : PData × Nat × Str => a.1) (a := (pd, k, x)) h0 h1 h2 hne h ⟨hl, hk⟩ fun x e => e
abbrev s_Pipes_over : Stmt := inClass (topS 50) 2
theorem sc_Pipes_over : FnScope ["self", "k", "place", "one", "other"] ["self", "k", "place"] (defScope s_Pipes_over) := ⟨rfl, rfl, rfl, by decide +kernel, rfl, by decide +kernel, by decide +kernel⟩

def spOver (K : Fg) (C : Addr) : Sp := SpPM K C (fun a : PData × Nat × Str => [.int ((a.2.1 : Nat) : Int), .str a.2.2]) (fun a => a.1) (fun a => a.2.1 < a.1.W.ties.length) (fun a d => d = .str (overZ a.1.W a.2.1 a.2.2))
theorem ok_Pipes_over {f : Addr} {fd : FuncData} (F : Fun K "over" "Pipes.over" s_Pipes_over f fd) (Z : PipeCls K C) : FnOk P w K mg base CX0 1 f fd ["self", "k", "place"] (spOver K C) := by
  refine F.ok sc_Pipes_over (fun vs H Q E h => ?_) (fun cdv A outer s H vs Q E hr h => ?_)
  · obtain ⟨a, G, dx, p, o2, vr, rfl, hg, hp, hI, _⟩ := h
    rw [List.length_cons, hI.length]
    rfl
  · obtain ⟨⟨pd, k, x⟩, G, dx, p, o2, vr, rfl, hg, hp, hI, hk, q⟩ := h
    have hk : k < pd.W.ties.length := hk
    have hp : PipeOk K G H C dx p o2 pd := hp
    have A0 := at_startP (mu := mu0) (K := K) (N := ["self", "k", "place", "one", "other"]) (ds := [.ref p, .dat (.int ((k : Nat) : Int)), .dat (.str x), .no, .no]) hg hp hI
    refine ⟨_, (pss_cons (ps_asg (pe_slice (w_slT (K := K)) (pe_ix (w_ixL (K := K)) (pe_ix (w_ixT (K := K)) (w_fld (K := K) (pv 0) rfl) pe_int (fun _ _ => rfl)) (pv 1) (fun _ _ => rfl)) po_none (po_some pe_int)) (w_tup (K := K) (by rfl) (pgs_cons (pg_name (i := 3) sc_Pipes_over.nd rfl (Or.inl rfl)) (pgs_cons (pg_name (i := 4) sc_Pipes_over.nd rfl (Or.inl rfl)) pgs_nil))))
      (pss_cons (ps_if (pt_cmpR op_eq (pv 2) (pv 3) (nomark _)) (pss_one (ps_ret (pv 4))) pss_nil)
      (pss_one (ps_ret (pv 3))))), ?_⟩
    obtain ⟨T, hTT⟩ : ∃ T, pd.W.ties[k]? = some T := ⟨_, List.getElem?_eq_getElem hk⟩
    have m1 : (p, MO.ins C dx (pipeFs pd o2)) ∈ pipeMs C dx p o2 pd := List.mem_cons_self
    have eS : overZ pd.W k x = (if x = T.one then T.other else T.one) := by
      unfold overZ
      rw [hTT]
    refine q_unp A0 (EvC.to (ev_slT (ev_first3 Z rfl m1 hTT rfl) eo_none (eo_some ev_int) (fun h => absurd h.2 (show ¬ (2 : Nat) = 5 by decide))) (show SC.dat _ = SC.dat (.tuple [.str T.one, .str T.other]) from rfl)) (tg_tup [3, 4] rfl rfl) fun σ1 G1 H1 A1 => ?_
    refine q_when A1 (et_test (ev_eqS (i := x) (j := T.one) (ev_var rfl) (ev_var rfl))) (fun hb G2 H2 A2 => ?_) fun hb G2 H2 A2 => ?_
    · refine s_retD A2 (ev_var rfl) fun v G' H' st iv => q v G' H' (.str T.other) st iv ?_
      show _ = PyData.str (overZ pd.W k x)
      rw [eS, if_pos (of_decide_eq_true hb)]
    · refine s_retD A2 (ev_var rfl) fun v G' H' st iv => q v G' H' (.str T.one) st iv ?_
      show _ = PyData.str (overZ pd.W k x)
      rw [eS, if_neg (of_decide_eq_false hb)]
theorem ev_over {pd : PData} {dx p o2 : Addr} {k : Nat} {x : Str} (h0 : EvC K s ta ds ms (.ref p)) (h1 : (p, MO.ins C dx (pipeFs pd o2)) ∈ ms) (h2 : (o2, MO.lst (intsD pd.A)) ∈ ms) (hne : p ≠ o2) (h : EvL K s t ds ms [.int ((k : Nat) : Int), .str x]) (hk : k < pd.W.ties.length) : EvD K s (tMeth C "over" (spOver K C) [] E ta t) ds ms (.str (overZ pd.W k x)) :=
  evd_methP (pw := fun a : PData × Nat × Str => a.1) (a := (pd, k, x)) h0 h1 h2 hne h hk fun x e => e
end
end Fc
/-! pop, lists of texts, a start with objects known. -/
namespace Fc
open PySem PySem.Spec PyProof.Rows L2 Sy
section
variable {K : Fg} {s : Option Addr} {mu : Addr → Prop} {G0 H0 G H : Hp} {gs : List Hp} {ds : List SC} {ms : List (Addr × MO)} {σ : L2.St} {D : Ends} {te ta tb to ty tv : TE} {tr : TA} {tz : TS} {p : Addr}
theorem q_popAt {i j n : Nat} {x : Sy.D} {xs : List Sy.D} (ho : H0 p = none ∨ mu p) (A : At K s mu G0 H0 gs ds ms σ G H) (ha : EvC K s to ds ms (.ref p)) (hi : ms[j]? = some (p, .lst xs)) (hn : EvL K s tr ds ms [.int ((n : Nat) : Int)]) (hx : xs[n]? = some x) (hz : xs.length ≤ 1000) (k : ∀ σ' G' H', At K s mu G0 H0 gs (ds.set i (.dat x)) (ms.set j (p, .lst (xs.eraseIdx n))) σ' G' H' → tz D σ' H') :
    tSeq (tAsg (tBM K "list" rPopAt to tr) (gName i)) tz D σ H :=
  ha σ G H A.kn _ fun v G1 H1 a1 o1 x1 => by
    have A1 := A.step a1 o1
    cases x1.ref
    obtain ⟨vs, e1, h1⟩ := A1.kn.get (List.mem_of_getElem? hi)
    refine ⟨tyV_lst e1, hn σ G1 H1 A1.kn _ fun w G2 H2 a2 o2 x2 => ?_⟩
    have A2 := A1.step a2 o2
    obtain ⟨vs, e1, h1⟩ := A2.kn.get (List.mem_of_getElem? hi)
    obtain ⟨v, ev, hv⟩ := h1.get hx
    obtain ⟨hl, _⟩ := List.getElem?_eq_some_iff.mp ev
    have hlen := h1.length
    cases x2 with
    | cons y1 y2 =>
      cases y1
      cases y2
      refine ⟨p, vs, n, n, v, rfl, rfl, e1, Int.le_trans (by decide) (Int.natCast_nonneg n), by omega, ?_, ev, ?_⟩
      · have := seqIndex_of (k := ((n : Nat) : Int)) (n := vs.length) (Int.natCast_nonneg n) (by omega)
        rw [Int.toNat_natCast] at this
        exact this
      · exact k _ _ _ ((A2.write (m' := .lst (xs.eraseIdx n)) ho hi ⟨_, upd_same, h1.eraseIdx n⟩).slot (CP.dat hv))
theorem q_pop0 {i j : Nat} {x : Sy.D} {xs : List Sy.D} (ho : H0 p = none ∨ mu p) (A : At K s mu G0 H0 gs ds ms σ G H) (ha : EvC K s to ds ms (.ref p)) (hi : ms[j]? = some (p, .lst (x :: xs))) (hz : xs.length < 1000) (k : ∀ σ' G' H', At K s mu G0 H0 gs (ds.set i (.dat x)) (ms.set j (p, .lst xs)) σ' G' H' → tz D σ' H') :
    tSeq (tAsg (tBM K "list" rPopAt to (tCons (tC (.int 0)) tNil)) (gName i)) tz D σ H :=
  q_popAt (n := 0) (x := x) (xs := x :: xs) ho A ha hi (el_cons ev_int el_nil) rfl (by rw [List.length_cons]; omega) k
/-- xs != [] -/
theorem ev_neNilD {l : List Sy.D} (pl : plnA l = true) (sh : SeqAt.shaped (.list l) = true) (ha : EvC K s ta ds ms (.ref p)) (hm : (p, MO.lst l) ∈ ms) : EvD K s (tOp (rNeD K) ta (tLst tNil)) ds ms (.bool (!l.isEmpty)) := fun σ G H k Q q =>
  ha σ G H k _ fun v G1 H1 a1 o1 x1 => (ev_lst (dl := []) el_nil) σ G1 H1 (k.step a1 o1) _ fun w G2 H2 a2 o2 x2 => by
    have k2 := (k.step a1 o1).step a2 o2
    obtain ⟨vs, e1, h1⟩ := k2.get hm
    cases x1.ref
    refine ⟨.list l, .list [], .lst (SqL.of e1) ((h1.mono k2.gh).dp pl), (x2.is.mono k2.gh).dp (by simp [pln, plnA]), sh, shpL_fr [], q _ G2 H2 (a1.trans a2) o2 ?_⟩
    have e : PyData.eqv (.list l) (.list []) = l.isEmpty := by
      cases l with
      | nil => simp [PyData.eqv, PyData.eqvAll]
      | cons a r => simp [PyData.eqv, PyData.eqvAll]
    rw [e]
    exact .dat (.bl _)
/-- .. of data -/
theorem ev_neNilF {l : List Sy.D} (pl : plnA l = true) (sh : SeqAt.shaped (.list l) = true) (ha : EvD K s ta ds ms (.list l)) : EvD K s (tOp (rNeD K) ta (tLst tNil)) ds ms (.bool (!l.isEmpty)) :=
  (ev_op ha (ev_lst (dl := []) el_nil) (od_neD (x := .list l) (y := .list []) (by simpa [pln] using pl) (by simp [pln, plnA]) sh (shpL_fr []))).to (by
    have e : PyData.eqv (.list l) (.list []) = l.isEmpty := by
      cases l with
      | nil => simp [PyData.eqv, PyData.eqvAll]
      | cons a r => simp [PyData.eqv, PyData.eqvAll]
    rw [e])
/-- y = {e: e'}, one pair, read from objects known -/
theorem q_disp' {i : Nat} {x : Str} {d : Sy.D} (A : At K s mu G0 H0 gs ds ms σ G H) (hy : ∀ q, EvD K s ty ds (q :: ms) (.str x)) (hv : ∀ q, EvD K s tv ds (q :: ms) d) (k : ∀ p σ' G' H', H0 p = none → At K s mu G0 H0 gs (ds.set i (.ref p)) ((p, .dct [(x, d)]) :: ms) σ' G' H' → tz D σ' H') : tSeq (tAsg (tDisp [(ty, tv)]) (gName i)) tz D σ H := fun p hp => by
  have h0 : H0 p = none := by
    cases e0 : H0 p with
    | none => rfl
    | some z => exact absurd hp (A.sp.st p (by rw [e0]; exact fun q => nomatch q))
  have A1 := A.newM (m := .dct []) hp ⟨[], upd_same, .nil⟩
  refine hy _ σ _ _ A1.kn _ fun w G2 H2 a2 o2 x2 => hv _ σ G2 H2 (A1.step a2 o2).kn _ fun v G3 H3 a3 o3 x3 => ?_
  have A3 := (A1.step a2 o2).step a3 o3
  obtain ⟨kv, e1, r⟩ := A3.kn.get (List.mem_cons_self)
  cases r
  cases x2.is
  refine ⟨e1, [(Sum.inr x, v)], rfl, Nat.le_of_ble_eq_true rfl, k p _ G3 _ h0 ?_⟩
  have A4 := A3.write (i := 0) (o := .dK (mergeK [] [(Sum.inr x, v)])) (m' := .dct [(x, d)]) (.inl h0) rfl ⟨_, upd_same, .cons ⟨rfl, x3.is⟩ .nil⟩
  exact A4.slot rfl
theorem s_retK {m : MO} (A : At K s mu G0 H0 gs ds ms σ G H) (h : EvC K s te ds ms (.ref p)) (hm : (p, m) ∈ ms) (k : ∀ G' H', Stp mu G0 H0 G' H' → StOk s H' → MOk K G' H' p m → G' p = none → D.rt (.ref p) H') : tRet te D σ H :=
  h σ G H A.kn _ fun v G1 H1 a o x => by
    cases x.ref
    have A1 := A.step a o
    exact k G1 H1 A1.sp o (A1.kn.mo _ hm).1 (A1.kn.mo _ hm).2.1
end
/-! lists of texts -/
def strsD (l : List Str) : List D := l.map .str
theorem pln_strs : ∀ l : List Str, plnA (strsD l) = true
  | [] => by simp [strsD, plnA]
  | x :: r => by
    have := pln_strs r
    simp only [strsD] at this
    simp [strsD, plnA, pln, this]
theorem dep_strs : ∀ l : List Str, PyData.depthAll (strsD l) = 0
  | [] => by simp [strsD, PyData.depthAll]
  | x :: r => by
    have := dep_strs r
    simp only [strsD] at this
    simp [strsD, PyData.depthAll, PyData.depth, this]
theorem lay_strs : ∀ {l : List Str}, (∀ x ∈ l, PyData.canLay0 (.str x) = true) → PyData.canLayAll0 (strsD l) = true
  | [], _ => by simp [strsD, PyData.canLayAll0]
  | x :: r, h => by
    have h1 := lay_strs (l := r) fun y hy => h y (List.mem_cons_of_mem _ hy)
    have h2 := h x List.mem_cons_self
    simp only [strsD] at h1
    simp only [strsD, List.map_cons, PyData.canLayAll0, h1, h2, Bool.and_self]
theorem shp_strs {l : List Str} (h : ∀ x ∈ l, PyData.canLay0 (.str x) = true) : SeqAt.shaped (.list (strsD l)) = true := by
  have h1 := dep_strs l
  have h2 : PyData.depth (.list (strsD l)) ≤ 64 := by
    simp only [PyData.depth]
    omega
  show (PyData.canLay0 (.list (strsD l)) && decide (PyData.depth (.list (strsD l)) ≤ 64)) = true
  rw [Bool.and_eq_true]
  exact ⟨by simp only [PyData.canLay0]; exact lay_strs h, decide_eq_true h2⟩
theorem letters_lt : ∀ c ∈ lettersL, c < 0x110000 := by decide +kernel
theorem NameOk.lay {x : Str} (h : NameOk x) : PyData.canLay0 (.str x) = true := by
  simp only [PyData.canLay0]
  show (x.cps.all fun c => decide (c < 0x110000)) = true
  rw [Array.all_eq_true]
  intro i hi
  exact decide_eq_true (letters_lt _ (h.le _ (by rw [Array.mem_toList_iff]; exact Array.getElem_mem hi)))
theorem at_startM {K : Fg} {N : List Str} {G H : Hp} {mu : Addr → Prop} {vs : List V} {ds : List SC} {ms : List (Addr × MO)} (hg : Same G H) (sl : Sl K G (L2.start N vs) ds) (hm : ∀ q ∈ ms, MOk K G H q.1 q.2 ∧ G q.1 = none) (nd : (ms.map (·.1)).Nodup) : At K none mu G H [] ds ms (L2.start N vs) G H := by
  refine ⟨⟨hg, sl, fun q hq => ?_, nd, fun a e => absurd e (by simp), fun a e => absurd e (by simp)⟩, .refl hg, fun a e => absurd (show (none : Option Addr) = some a from e) (by simp), fun p h => absurd h (by simp)⟩
  exact ⟨(hm q hq).1, (hm q hq).2, fun e => absurd (show (none : Option Addr) = some _ from e) (by simp)⟩
/-! found, as a dict -/
theorem aget_found {f : Fnd} (nd : (keysF f).Nodup) {j : Nat} {y : Str} {o : Option (Nat × Str)} (h : f[j]? = some (y, o)) : aget (kvD f) y = some (stepD o) := by
  unfold kvD
  rw [aget_map]
  have : aget f y = some o := by
    induction f generalizing j with
    | nil => simp at h
    | cons p r ih =>
      obtain ⟨n1, n2⟩ := List.nodup_cons.mp (show (p.1 :: keysF r).Nodup from nd)
      cases j with
      | zero =>
        have : p = (y, o) := by simpa using h
        simp [aget, this]
      | succ j =>
        have h' : r[j]? = some (y, o) := by simpa using h
        have ne : p.1 ≠ y := fun e => n1 (e ▸ keys_mem h')
        simp [aget, ne, ih n2 h']
  rw [this] <;> rfl
theorem aget_foundS (f : Fnd) (y : Str) : (aget (kvD f) y).isSome = decide (y ∈ keysF f) := by
  rw [aget_some, keys_kvD]
theorem aput_found {f : Fnd} {y : Str} (h : y ∉ keysF f) (o : Option (Nat × Str)) : aput (kvD f) y (stepD o) = kvD (f ++ [(y, o)]) := by
  rw [aput_new (aget_none.mpr (by rw [keys_kvD]; exact h))]
  unfold kvD
  rw [List.map_append]
  rfl
end Fc
namespace Fc
open PySem PySem.Spec PyProof.Rows L2 Sy
section
variable {P : Program} {w : World} {K : Fg} {mg : Str → Option Value} {base : Heap} {C : Addr}
variable {s : Option Addr} {ds : List SC} {ms : List (Addr × MO)} {t : TA} {ta : TE} {E : XK}
abbrev s_Pipes_reached : Stmt := inClass (topS 50) 3
theorem sc_Pipes_reached : FnScope ["self", "found", "waiting", "place", "k"] ["self"] (defScope s_Pipes_reached) := ⟨rfl, rfl, rfl, by decide +kernel, rfl, by decide +kernel, by decide +kernel⟩

def spReached (K : Fg) (C : Addr) : Sp := fun vs H Q _ => ∃ (pd : PData) (G : Hp) (dx p o2 : Addr), vs = [.ref p] ∧ Same G H ∧ PipeOk K G H C dx p o2 pd ∧ WebOk pd.W ∧ PLen pd ∧
  ∀ d G' H' f, Stp mu0 G H G' H' → H d = none → G' d = none → MOk K G' H' d (.dct (kvD f)) → FoundOk pd f → Q (.ref d) H'
theorem ok_Pipes_reached {f : Addr} {fd : FuncData} (F : Fun K "reached" "Pipes.reached" s_Pipes_reached f fd) (B : Bl mg) (Z : PipeCls K C) (c_Pipes_spare : CalM P w K mg base C "spare" 1 ["self", "k", "place"] (spSpare K C)) (c_Pipes_over : CalM P w K mg base C "over" 1 ["self", "k", "place"] (spOver K C)) : FnOk P w K mg base CX0 2 f fd ["self"] (spReached K C) := by
  refine F.ok sc_Pipes_reached (fun vs H Q E h => ?_) (fun cdv A outer s H vs Q E hr h => ?_)
  · obtain ⟨pd, G, dx, p, o2, rfl, _⟩ := h
    rfl
  · obtain ⟨pd, G, dx, p, o2, rfl, hg, hp, hW, hl, q⟩ := h
    have A0 := at_startP (mu := mu0) (K := K) (N := ["self", "found", "waiting", "place", "k"]) (ds := [.ref p, .no, .no, .no, .no]) (vr := []) (dl := []) hg hp .nil
    refine ⟨_, (pss_cons (ps_set (i := 1) sc_Pipes_reached.nd rfl (Or.inl rfl) (pe_disp (pps_cons (pe_ix (w_ixT (K := K)) (w_fld (K := K) (pv 0) rfl) pe_int (fun _ _ => rfl)) pe_non pps_nil) (by rfl) (by rfl) (fun z => by cases z) (by decide)))
      (pss_cons (ps_set (i := 2) sc_Pipes_reached.nd rfl (Or.inl rfl) (pe_lst (pa_cons (pe_ix (w_ixT (K := K)) (w_fld (K := K) (pv 0) rfl) pe_int (fun _ _ => rfl)) pa_nil)))
      (pss_cons (ps_while PassesOwn.never (pt_cmpR (w_neD (K := K) hr.units) (pv 2) (pe_lst pa_nil) (nomark _)) (pss_cons (ps_set (i := 3) sc_Pipes_reached.nd rfl (Or.inl rfl) (w_bm (K := K) PySem.F.plainAttrs_list PySem.F.slot_list_pop PySem.F.type_list_pop mt_popAt (pv 2) (pa_cons pe_int pa_nil)))
      (pss_one (ps_for PassesOwn.never rfl (pi_range1 (by rfl) B.range_ (pa_cons (pe_callB (w_len (K := K)) (by rfl) B.len_ PySem.boot_len (pa_cons (w_fld (K := K) (pv 0) rfl) pa_nil)) pa_nil)) (pg_name (i := 4) sc_Pipes_reached.nd rfl (Or.inl rfl)) (pss_one (ps_if (PW.pt (pw_and (pt_cmpR o_gt (p_meth c_Pipes_spare (hr.mono (by first | exact Nat.le_refl _ | omega)) (pv 0) (pa_cons (pv 4) (pa_cons (pv 3) pa_nil))) pe_int (nomark _)) (pw_and1 (pt_cmp (pc_dnotin (hu_of hr) (p_meth c_Pipes_over (hr.mono (by first | exact Nat.le_refl _ | omega)) (pv 0) (pa_cons (pv 4) (pa_cons (pv 3) pa_nil))) (pv 1)) (by rfl))))) (pss_cons (ps_dput (hu_of hr) (pv 1) (p_meth c_Pipes_over (hr.mono (by first | exact Nat.le_refl _ | omega)) (pv 0) (pa_cons (pv 4) (pa_cons (pv 3) pa_nil))) (pe_tup (pa_cons (pv 4) (pa_cons (pv 3) pa_nil))) rfl)
      (pss_one (ps_expr (w_bm (K := K) PySem.F.plainAttrs_list PySem.F.slot_list_append PySem.F.type_list_append mt_append (pv 2) (pa_cons (p_meth c_Pipes_over (hr.mono (by first | exact Nat.le_refl _ | omega)) (pv 0) (pa_cons (pv 4) (pa_cons (pv 3) pa_nil))) pa_nil))))) pss_nil))))))
      (pss_one (ps_ret (pv 1)))))), ?_⟩
    refine q_disp' A0 (x := pd.W.first) (d := .none) (fun r => ev_ixT2 (ev_pf Z Z.net rfl (List.mem_cons_of_mem _ List.mem_cons_self)) rfl) (fun r => ev_non) fun d σ1 G1 H1 hd0 A1 => ?_
    refine q_new A1 (en_lst (dl := [.str pd.W.first]) (el_cons (ev_ixT2 (ev_pf Z Z.net rfl (List.mem_cons_of_mem _ List.mem_cons_self)) rfl) el_nil)) fun wt dl σ2 G2 H2 hdl hw0 A2 => ?_
    subst hdl
    have mp : ∀ (w1 w2 : Addr × MO), (p, MO.ins C dx (pipeFs pd o2)) ∈ w1 :: w2 :: pipeMs C dx p o2 pd := fun _ _ => List.mem_cons_of_mem _ (List.mem_cons_of_mem _ List.mem_cons_self)
    have mo : ∀ (w1 w2 : Addr × MO), (o2, MO.lst (intsD pd.A)) ∈ w1 :: w2 :: pipeMs C dx p o2 pd := fun _ _ => List.mem_cons_of_mem _ (List.mem_cons_of_mem _ (List.mem_cons_of_mem _ List.mem_cons_self))
    have lay : ∀ {f : Fnd} {wl : List Str} {x : Str} {i : Nat}, BI pd f wl x i → ∀ y ∈ wl, PyData.canLay0 (.str y) = true := fun b y hy => (hW.nm y (b.pl y (b.wk y hy))).lay
    have hle := hW.hi
    have hlo := hW.lo
    have htl := hl.tl
    refine q_while A2 (fun n ds ms => ∃ (f : Fnd) (wl : List Str) (x : Str) (c1 c2 : SC), ds = [.ref p, .ref d, .ref wt, c1, c2] ∧ ms = (wt, .lst (strsD wl)) :: (d, .dct (kvD f)) :: pipeMs C dx p o2 pd ∧ BI pd f wl x pd.W.ties.length ∧ n ≤ 14 ∧ n + 2 * f.length = wl.length + 2 * pd.W.places.length) (2 * pd.W.places.length - 1)
      ⟨[(pd.W.first, none)], [pd.W.first], pd.W.first, .no, .no, rfl, rfl, BI.start hW, by omega, show (2 * pd.W.places.length - 1) + 2 * 1 = 1 + 2 * pd.W.places.length by omega⟩ fun n ds ms σ3 G3 H3 j A3 => ?_
    obtain ⟨f, wl, x0, c1, c2, rfl, rfl, hb, hwl, hn⟩ := j
    refine ⟨_, et_test (ev_neNilD (p := wt) (l := strsD wl) (pln_strs wl) (shp_strs (lay hb)) (ev_var rfl) List.mem_cons_self), fun hbl G4 H4 L A4 hL => ?_, fun hbl G4 H4 A4 => ?_⟩
    · cases wl with
      | nil => exact absurd hbl (by simp [strsD])
      | cons x wl =>
        refine q_pop0 (j := 0) (x := .str x) (xs := strsD wl) (.inl hw0) A4 (ev_var rfl) rfl (by simp only [strsD, List.length_map]; have := hb.len; simp only [List.length_cons] at hn; omega) fun σ5 G5 H5 A5 => ?_
        have hb0 := hb.pop
        have hxk : x ∈ keysF f := hb.wk x List.mem_cons_self
        have hblen := hb.len
        rw [List.length_cons] at hn
        refine s_for A5 (it_nats (n := pd.W.ties.length) (EvL.to (el_cons (ev_lenL (xs := intsD pd.R) (ev_pf Z Z.rooms rfl (mp _ _))) el_nil) (by simp only [intsD, List.length_map, hl.r])) (by omega)) (fun i e he => tg_name)
          (fun i ds ms => ∃ (f1 : Fnd) (w1 : List Str) (c2 : SC), ds = [.ref p, .ref d, .ref wt, .dat (.str x), c2] ∧ ms = (wt, .lst (strsD w1)) :: (d, .dct (kvD f1)) :: pipeMs C dx p o2 pd ∧ BI pd f1 w1 x i ∧ x ∈ keysF f1 ∧ w1.length + 2 * f.length ≤ wl.length + 2 * f1.length ∧ w1.length ≤ wl.length + (f1.length - f.length) ∧ f.length ≤ f1.length)
          ⟨f, wl, _, rfl, rfl, hb0, hxk, Nat.le_refl _, by omega, Nat.le_refl _⟩ (fun _ _ _ _ _ => trivial) (fun gs i e ds ms σ6 G6 H6 L' he j A6 hL' => ?_) fun ds ms σ6 G6 H6 j A6 => ?_
        · obtain ⟨f1, w1, c3, rfl, rfl, hb1, hx1, hm1, hm2, hm3⟩ := j
          obtain ⟨k, hk, rfl⟩ := natsD_get he
          obtain ⟨hi, rfl⟩ := range_get hk
          obtain ⟨hb2, hx2⟩ := hb1.step hW hx1 hi
          have hms := bfs_meas pd x f1 w1 k
          have hlen := hb1.len
          have hstep : bfsK pd x (f1, w1) k = if 0 < spareZ pd k x ∧ overZ pd.W k x ∉ keysF f1 then (f1 ++ [(overZ pd.W k x, some (k, x))], w1 ++ [overZ pd.W k x]) else (f1, w1) := rfl
          have evO : ∀ {ds : List SC} {m1 m2 : Addr × MO}, ds[0]? = some (.ref p) → ds[4]? = some (.dat (.int ((k : Nat) : Int))) → ds[3]? = some (.dat (.str x)) → EvD K none (tMeth C "over" (spOver K C) [] E0 (tVar 0) (tCons (tVar 4) (tCons (tVar 3) tNil))) ds (m1 :: m2 :: pipeMs C dx p o2 pd) (.str (overZ pd.W k x)) := fun h0 h1 h2 =>
            ev_over (ev_var h0) (mp _ _) (mo _ _) hp.ne (el_cons (ev_var h1) (el_cons (ev_var h2) el_nil)) hi
          refine s_if A6 (et_and (et_test (ev_gt (ev_spare (pd := pd) (k := k) (x := x) (ev_var rfl) (mp _ _) (mo _ _) hp.ne (el_cons (ev_var rfl) (el_cons (ev_var rfl) el_nil)) hl hi) ev_int)) fun _ => et_test (ev_dni (kvs := kvD f1) (evO rfl rfl rfl) (ev_var rfl) (List.mem_cons_of_mem _ List.mem_cons_self))) (fun hbb G7 H7 A7 => ?_) fun hbb G7 H7 A7 => ?_
          · rw [aget_foundS, Bool.and_eq_true] at hbb
            have h1 : 0 < spareZ pd k x := of_decide_eq_true hbb.1
            have h2 : overZ pd.W k x ∉ keysF f1 := by simpa using hbb.2
            rw [hstep, if_pos ⟨h1, h2⟩] at hb2 hx2 hms
            have hlen2 := hb2.len
            refine q_dput (i := 1) (p := d) (kvs := kvD f1) (.inl hd0) A7 (ev_tup (dl := [.int ((k : Nat) : Int), .str x]) (el_cons (ev_var rfl) (el_cons (ev_var rfl) el_nil))) (ev_var rfl) (evO rfl rfl rfl) rfl (by rw [keys_kvD]; exact hb1.nd) (by simp only [kvD, List.length_map]; omega) fun G8 H8 A8 => ?_
            rw [show aput (kvD f1) (overZ pd.W k x) (.tuple [.int ((k : Nat) : Int), .str x]) = kvD (f1 ++ [(overZ pd.W k x, some (k, x))]) from aput_found h2 (some (k, x))] at A8
            refine s_app (i := 0) (.inl hw0) A8 (ev_var rfl) rfl (evO rfl rfl rfl) (by simp only [strsD, List.length_map]; omega) fun G9 H9 A9 => ?_
            refine hL' _ _ _ _ _ ⟨f1 ++ [(overZ pd.W k x, some (k, x))], w1 ++ [overZ pd.W k x], _, rfl, ?_, hb2, hx2, ?_, ?_, ?_⟩ A9
            · simp only [strsD, List.map_append]
              rfl
            · simp only [List.length_append, List.length_cons, List.length_nil]
              omega
            · simp only [List.length_append, List.length_cons, List.length_nil]
              omega
            · simp only [List.length_append, List.length_cons, List.length_nil]
              omega
          · rw [aget_foundS] at hbb
            have h1 : ¬ (0 < spareZ pd k x ∧ overZ pd.W k x ∉ keysF f1) := fun z => by
              rw [decide_eq_true z.1, decide_eq_false z.2] at hbb
              cases hbb
            rw [hstep, if_neg h1] at hb2 hx2
            exact hL' _ _ _ _ _ ⟨f1, w1, _, rfl, rfl, hb2, hx2, hm1, hm2, hm3⟩ A7
        · obtain ⟨f1, w1, c3, rfl, rfl, hb1, hx1, hm1, hm2, hm3⟩ := j
          rw [natsD_len, List.length_range] at hb1
          have hlen := hb1.len
          refine hL (w1.length + 2 * pd.W.places.length - 2 * f1.length) _ _ _ _ _ (by omega) ⟨f1, w1, x, _, _, rfl, rfl, hb1, by omega, by omega⟩ A6
    · cases wl with
      | cons x r => exact absurd hbl (by simp [strsD])
      | nil =>
        exact s_retK A4 (p := d) (ev_var rfl) (List.mem_cons_of_mem _ List.mem_cons_self) fun G' H' st so hm gd => q d G' H' f st hd0 gd hm hb.fin
end
end Fc
namespace Fc
open PySem PySem.Spec PyProof.Rows L2 Sy
section
variable {P : Program} {w : World} {K : Fg} {mg : Str → Option Value} {base : Heap} {C : Addr}
variable {s : Option Addr} {ds : List SC} {ms : List (Addr × MO)} {t : TA} {ta : TE} {E : XK}
abbrev s_Pipes_back : Stmt := inClass (topS 50) 4
theorem sc_Pipes_back : FnScope ["self", "found", "steps", "step"] ["self", "found"] (defScope s_Pipes_back) := ⟨rfl, rfl, rfl, by decide +kernel, rfl, by decide +kernel, by decide +kernel⟩

def stepsD (st : List (Nat × Str)) : List D := st.map fun p => stepD (some p)
def spBack (K : Fg) (C : Addr) : Sp := fun vs H Q _ => ∃ (pd : PData) (G : Hp) (dx p o2 d : Addr) (f : Fnd), vs = [.ref p, .ref d] ∧ Same G H ∧ PipeOk K G H C dx p o2 pd ∧ MOk K G H d (.dct (kvD f)) ∧ G d = none ∧ FoundOk pd f ∧ pd.W.last ∈ keysF f ∧ WebOk pd.W ∧
  ∀ v G' H' st, Stp mu0 G H G' H' → Is K G' v (.list (stepsD st)) → PathOk pd st → st.length ≤ 7 → Q v H'
theorem PipeOk.nd3 {G H : Hp} {dx p o2 d : Addr} {pd : PData} {kvs : List (Str × D)} (h : PipeOk K G H C dx p o2 pd) (hd : MOk K G H d (.dct kvs)) : [d, p, o2].Nodup := by
  obtain ⟨kv, e, _⟩ := hd
  obtain ⟨fv, e1, _⟩ := h.ins
  obtain ⟨xs, e2, _⟩ := h.lst
  have h1 : d ≠ p := fun z => by rw [z, e1] at e; cases e
  have h2 : d ≠ o2 := fun z => by rw [z, e2] at e; cases e
  have h3 := h.ne
  simp [h1, h2, h3]
theorem step_noAny (o : Option (Nat × Str)) : noAny (stepD o) = true := by
  rcases o with _ | ⟨k, x⟩ <;> rfl
theorem step_isN (o : Option (Nat × Str)) : isN (stepD o) = o.isNone := by
  rcases o with _ | ⟨k, x⟩ <;> rfl
theorem ok_Pipes_back {f : Addr} {fd : FuncData} (F : Fun K "back" "Pipes.back" s_Pipes_back f fd) (Z : PipeCls K C) : FnOk P w K mg base CX0 1 f fd ["self", "found"] (spBack K C) := by
  refine F.ok sc_Pipes_back (fun vs H Q E h => ?_) (fun cdv A outer s H vs Q E hr h => ?_)
  · obtain ⟨pd, G, dx, p, o2, d, f, rfl, _⟩ := h
    rfl
  · obtain ⟨pd, G, dx, p, o2, d, f, rfl, hg, hp, hd, gd, hf, hla, hW, q⟩ := h
    have nd3 := hp.nd3 hd
    have A0 : At K none mu0 G H [] [.ref p, .ref d, .no, .no] ((d, .dct (kvD f)) :: pipeMs C dx p o2 pd) (L2.start ["self", "found", "steps", "step"] [.ref p, .ref d]) G H := by
      refine at_startM hg (.cons rfl (.cons rfl (.cons True.intro (.cons True.intro .nil)))) (fun r hr => ?_) nd3
      rcases List.mem_cons.mp hr with rfl | hr
      · exact ⟨hd, gd⟩
      · rcases List.mem_cons.mp hr with rfl | hr
        · exact ⟨hp.ins, hp.gp⟩
        · cases List.mem_singleton.mp hr
          exact ⟨hp.lst, hp.go⟩
    refine ⟨_, (pss_cons (ps_set (i := 2) sc_Pipes_back.nd rfl (Or.inl rfl) (pe_lst pa_nil))
      (pss_cons (ps_set (i := 3) sc_Pipes_back.nd rfl (Or.inl rfl) (pe_dget (hu_of hr) (pv 1) (pe_ix (w_ixT (K := K)) (w_fld (K := K) (pv 0) rfl) pe_int (fun _ _ => rfl)) (fun _ _ => rfl)))
      (pss_cons (ps_while PassesOwn.never (pt_cmpR o_notN (pv 3) pe_non (nomark _)) (pss_cons (ps_expr (w_bm (K := K) PySem.F.plainAttrs_list PySem.F.slot_list_append PySem.F.type_list_append mt_append (pv 2) (pa_cons (pv 3) pa_nil)))
      (pss_one (ps_set (i := 3) sc_Pipes_back.nd rfl (Or.inl rfl) (pe_dget (hu_of hr) (pv 1) (pe_ix (w_ixT (K := K)) (pv 3) pe_int (fun _ _ => rfl)) (fun _ _ => rfl))))))
      (pss_one (ps_ret (pv 2)))))), ?_⟩
    refine q_new A0 (en_lst (dl := []) el_nil) fun sp dl σ1 G1 H1 hdl hs0 A1 => ?_
    subst hdl
    obtain ⟨i0, o0, hi0⟩ := mem_keys hla
    have mD : ∀ r : Addr × MO, (d, MO.dct (kvD f)) ∈ r :: (d, .dct (kvD f)) :: pipeMs C dx p o2 pd := fun r => List.mem_cons_of_mem _ List.mem_cons_self
    have mP : ∀ r : Addr × MO, (p, MO.ins C dx (pipeFs pd o2)) ∈ r :: (d, .dct (kvD f)) :: pipeMs C dx p o2 pd := fun r => List.mem_cons_of_mem _ (List.mem_cons_of_mem _ List.mem_cons_self)
    refine q_set A1 (ev_dget (kvs := kvD f) (x := pd.W.last) (ev_var rfl) (ev_ixT3 (ev_pf Z Z.net rfl (mP _)) rfl) (mD _) (aget_found hf.nd hi0)) fun σ2 G2 H2 A2 => ?_
    have hlen := hf.len
    have hl7 := hW.hi
    have hi0l : i0 < f.length := (List.getElem?_eq_some_iff.mp hi0).1
    refine q_while A2 (fun n ds ms => ∃ (st : List (Nat × Str)) (y : Str) (o : Option (Nat × Str)), ds = [.ref p, .ref d, .ref sp, .dat (stepD o)] ∧ ms = (sp, .lst (stepsD st)) :: (d, .dct (kvD f)) :: pipeMs C dx p o2 pd ∧ f[n]? = some (y, o) ∧ PathFrom pd.W pd.W.last st y ∧
      (∀ r ∈ st, r.1 < pd.W.ties.length ∧ 0 < spareZ pd r.1 r.2) ∧ (∀ r ∈ st, rkF f r.2 < rkF f (overZ pd.W r.1 r.2)) ∧ st.length + n < f.length) i0
      ⟨[], pd.W.last, o0, rfl, rfl, hi0, rfl, fun r hr => absurd hr (by simp), fun r hr => absurd hr (by simp), by simpa using hi0l⟩ fun n ds ms σ3 G3 H3 j A3 => ?_
    obtain ⟨st, y, o, rfl, rfl, hn, hpa, hok, hrk, hsl⟩ := j
    refine ⟨_, et_test (ev_notN (x := stepD o) (ev_var rfl) (step_noAny o)), fun hb G4 H4 L A4 hL => ?_, fun hb G4 H4 A4 => ?_⟩
    · rw [step_isN] at hb
      rcases o with _ | ⟨k, x⟩
      · cases hb
      · refine q_app (i := 0) (d := stepD (some (k, x))) (.inl hs0) A4 (ev_var rfl) rfl (ev_var rfl) (by simp only [stepsD, List.length_map]; omega) fun G5 H5 A5 => ?_
        obtain ⟨h1, h2, h3, m, o', h4, h5⟩ := hf.par n y k x hn
        refine s_set A5 (ev_dget (kvs := kvD f) (x := x) (ev_var rfl) (ev_ixT1 (xs := [.int ((k : Nat) : Int), .str x]) (ev_var rfl) rfl) (mD _) (aget_found hf.nd h5)) fun σ6 G6 H6 A6 => ?_
        refine hL m _ _ _ _ _ h4 ⟨st ++ [(k, x)], x, o', rfl, ?_, h5, hpa.snoc h3, ?_, ?_, ?_⟩ A6
        · simp only [stepsD, List.map_append]
          rfl
        · intro r hr
          rcases List.mem_append.mp hr with hr | hr
          · exact hok r hr
          · cases List.mem_singleton.mp hr
            exact ⟨h1, h2⟩
        · intro r hr
          rcases List.mem_append.mp hr with hr | hr
          · exact hrk r hr
          · cases List.mem_singleton.mp hr
            show rkF f x < rkF f (overZ pd.W k x)
            rw [h3, rk_at hf.nd h5, rk_at hf.nd hn]
            exact h4
        · rw [List.length_append]
          show st.length + 1 + m < f.length
          omega
    · rw [step_isN] at hb
      rcases o with _ | ⟨k, x⟩
      · have hy := hf.non n y hn
        subst hy
        exact s_retM A4 (ev_var rfl) List.mem_cons_self hs0 fun v G' H' st' so iv => q v G' H' st st' iv ⟨hpa, hok, rkF f, hrk⟩ (by omega)
      · cases hb
abbrev s_Pipes_send : Stmt := inClass (topS 50) 5
theorem sc_Pipes_send : FnScope ["self", "steps", "many", "k", "place"] ["self", "steps"] (defScope s_Pipes_send) := ⟨rfl, rfl, rfl, by decide +kernel, rfl, by decide +kernel, by decide +kernel⟩

def sendStep (W : Web) (m : Int) (A : List Int) (p : Nat × Str) : List Int := A.set p.1 (if (W.ties[p.1]?).map Tie.one = some p.2 then A.getD p.1 0 + m else A.getD p.1 0 - m)
def sendL (W : Web) (m : Int) (A : List Int) (st : List (Nat × Str)) : List Int := st.foldl (sendStep W m) A
theorem sendL_len (W : Web) (m : Int) : ∀ (st : List (Nat × Str)) (A : List Int), (sendL W m A st).length = A.length
  | [], _ => rfl
  | p :: r, A => by
    show (sendL W m (sendStep W m A p) r).length = _
    rw [sendL_len W m r]
    exact List.length_set
def withA (pd : PData) (A : List Int) : PData := { pd with A := A }
def spSend (K : Fg) (C : Addr) : Sp := fun vs H Q _ => ∃ (pd : PData) (G : Hp) (dx p o2 : Addr) (vr : List V) (st : List (Nat × Str)), vs = .ref p :: vr ∧ Same G H ∧ PipeOk K G H C dx p o2 pd ∧ IsA K G vr [.list (stepsD st)] ∧ PathOk pd st ∧ WebOk pd.W ∧ PLen pd ∧ st.length ≤ 7 ∧
  ∀ v G' H' m, Stp (fun c => c = o2) G H G' H' → PipeOk K G' H' C dx p o2 (withA pd (sendL pd.W m pd.A st)) → (∃ r ∈ st, m = spareZ pd r.1 r.2) → (∀ r ∈ st, m ≤ spareZ pd r.1 r.2) → Q v H'
def sprD (pd : PData) : D → D
  | .tuple [.int k, .str x] => .int (spareZ pd k.toNat x)
  | _ => .none
theorem sprs (pd : PData) (st : List (Nat × Str)) : ((stepsD st).filter (fun _ => true)).map (sprD pd) = (st.map fun r => spareZ pd r.1 r.2).map .int := by
  rw [List.filter_eq_self.mpr (fun _ _ => rfl)]
  unfold stepsD
  rw [List.map_map, List.map_map]
  rfl
theorem ok_Pipes_send {f : Addr} {fd : FuncData} (F : Fun K "send" "Pipes.send" s_Pipes_send f fd) (B : Bl mg) (Z : PipeCls K C) (c_Pipes_spare : CalM P w K mg base C "spare" 1 ["self", "k", "place"] (spSpare K C)) : FnOk P w K mg base CX0 2 f fd ["self", "steps"] (spSend K C) := by
  refine F.ok sc_Pipes_send (fun vs H Q E h => ?_) (fun cdv A outer s H vs Q E hr h => ?_)
  · obtain ⟨pd, G, dx, p, o2, vr, st, rfl, hg, hp, hI, _⟩ := h
    rw [List.length_cons, hI.length]
    rfl
  · obtain ⟨pd, G, dx, p, o2, vr, st, rfl, hg, hp, hI, hpa, hW, hl, hst, q⟩ := h
    have A0 := at_startP (mu := fun c => c = o2) (K := K) (N := ["self", "steps", "many", "k", "place"]) (ds := [.ref p, .dat (.list (stepsD st)), .no, .no, .no]) hg hp hI
    refine ⟨_, (pss_cons (ps_set (i := 2) sc_Pipes_send.nd rfl (Or.inl rfl) (pe_callB (w_min (K := K) rfl) (by rfl) B.min_ (by decide +kernel) (pa_cons (pe_lc (own := [("k", 3), ("place", 4)]) (g := gTup K 2 (gNms [3, 4])) (tt := tYes) rfl sc_Pipes_send.nd (w_list (K := K) (pv 1)) (blkOk_by (own := [("k", 3), ("place", 4)]) (N := ["self", "steps", "many", "k", "place"]) (sc := defScope s_Pipes_send) (by decide +kernel)) (fun _ _ _ _ _ => (w_tup (K := K) (by rfl) (pgs_cons (pg_name (i := 3) sc_Pipes_send.nd rfl (Or.inl rfl)) (pgs_cons (pg_name (i := 4) sc_Pipes_send.nd rfl (Or.inl rfl)) pgs_nil)))) (fun _ _ _ _ _ => pts_nil) (fun _ _ _ _ _ => (p_meth c_Pipes_spare (hr.mono (by first | exact Nat.le_refl _ | omega)) (pv 0) (pa_cons (pv 3) (pa_cons (pv 4) pa_nil))))) pa_nil)))
      (pss_one (ps_for PassesOwn.never rfl (w_list (K := K) (pv 1)) (w_tup (K := K) (by rfl) (pgs_cons (pg_name (i := 3) sc_Pipes_send.nd rfl (Or.inl rfl)) (pgs_cons (pg_name (i := 4) sc_Pipes_send.nd rfl (Or.inl rfl)) pgs_nil))) (pss_one (ps_if (pt_cmpR op_eq (pv 4) (pe_ix (w_ixT (K := K)) (pe_ix (w_ixL (K := K)) (pe_ix (w_ixT (K := K)) (w_fld (K := K) (pv 0) rfl) pe_int (fun _ _ => rfl)) (pv 3) (fun _ _ => rfl)) pe_int (fun _ _ => rfl)) (nomark _)) (pss_one (ps_augS (w_fld (K := K) (pv 0) rfl) (pv 3) (w_get (K := K)) (pv 2) ip_add set_list)) (pss_one (ps_augS (w_fld (K := K) (pv 0) rfl) (pv 3) (w_get (K := K)) (pv 2) ip_sub set_list))))))), ?_⟩
    have m1 : ∀ A, (p, MO.ins C dx (pipeFs pd o2)) ∈ pipeMs C dx p o2 (withA pd A) := fun A => List.mem_cons_self
    have m2 : ∀ A, (o2, MO.lst (intsD A)) ∈ pipeMs C dx p o2 (withA pd A) := fun A => List.mem_cons_of_mem _ List.mem_cons_self
    have hsl : (stepsD st).length = st.length := by simp only [stepsD, List.length_map]
    refine q_setR A0 (evr_min (ns := st.map fun r => spareZ pd r.1 r.2) (EvC.to (EvN.dat (en_lcD (p := fun _ => true) (F := sprD pd) (it_list (es := stepsD st) (ev_var rfl)) trivial (f := fun e ds => match e with
      | .tuple [x, y] => (ds.set 3 (.dat x)).set 4 (.dat y)
      | _ => ds) (vs := [3, 4]) (fun i e he => ?_) (fun i e he => et_yes) (fun i e he _ => ?_) (by omega))) (congrArg (fun l => SC.dat (.list l)) (sprs pd st))) (by rw [List.length_map]; exact List.length_pos_iff.mpr (hpa.ne hW))) fun dm σ1 G1 H1 hm A1 => ?_
    · obtain ⟨⟨k, x⟩, hr, rfl⟩ := smap_get he
      exact tw_two
    · obtain ⟨⟨k, x⟩, hr, rfl⟩ := smap_get he
      exact ev_spare (pd := pd) (k := k) (x := x) (ev_var rfl) (m1 pd.A) (m2 pd.A) hp.ne (el_cons (ev_var rfl) (el_cons (ev_var rfl) el_nil)) hl (hpa.ok _ (List.mem_of_getElem? hr)).1
    · obtain ⟨m, rfl, hm1, hm2⟩ := hm
      refine s_for A1 (it_list (es := stepsD st) (ev_var rfl)) (f := fun e ds => match e with
        | .tuple [x, y] => setAll ds [3, 4] [x, y]
        | _ => ds) (fun i e he => ?_) (fun i ds ms => ∃ c1 c2 : SC, ds = [.ref p, .dat (.list (stepsD st)), .dat (.int m), c1, c2] ∧ ms = pipeMs C dx p o2 (withA pd (sendL pd.W m pd.A (st.take i)))) ⟨_, _, rfl, rfl⟩ (fun _ _ _ _ _ => trivial) (fun gs i e ds ms σ2 G2 H2 L he j A2 hL => ?_) fun ds ms σ2 G2 H2 j A2 => ?_
      · obtain ⟨⟨k, x⟩, hr, rfl⟩ := smap_get he
        exact tg_tup [3, 4] rfl rfl
      · obtain ⟨c1, c2, rfl, rfl⟩ := j
        obtain ⟨⟨k, x⟩, hr, rfl⟩ := smap_get he
        have hk : k < pd.W.ties.length := (hpa.ok _ (List.mem_of_getElem? hr)).1
        have hkt := List.getElem?_eq_getElem hk
        have hlen : (sendL pd.W m pd.A (st.take i)).length = pd.W.ties.length := (sendL_len _ _ _ _).trans hl.a
        have hA := List.getElem?_eq_getElem (show k < (sendL pd.W m pd.A (st.take i)).length by omega)
        have eA : (sendL pd.W m pd.A (st.take i)).getD k 0 = (sendL pd.W m pd.A (st.take i))[k]'(by omega) := by rw [List.getD_eq_getElem?_getD, hA] <;> rfl
        have hstep : sendL pd.W m pd.A (st.take (i + 1)) = sendStep pd.W m (sendL pd.W m pd.A (st.take i)) (k, x) := by
          unfold sendL
          rw [List.take_add_one, hr, List.foldl_append]
          rfl
        have hone : ((pd.W.ties[k]?).map Tie.one = some x) ↔ x = pd.W.ties[k].one := by
          rw [hkt]
          exact ⟨fun z => (Option.some.inj z).symm, fun z => by rw [z] <;> rfl⟩
        have A2 : At K none (fun c => c = o2) G H gs [.ref p, .dat (.list (stepsD st)), .dat (.int m), .dat (.int ((k : Nat) : Int)), .dat (.str x)] (pipeMs C dx p o2 (withA pd (sendL pd.W m pd.A (st.take i)))) σ2 G2 H2 := A2
        have evm : EvD K none (tVar 2) [.ref p, .dat (.list (stepsD st)), .dat (.int m), .dat (.int ((k : Nat) : Int)), .dat (.str x)] (pipeMs C dx p o2 (withA pd (sendL pd.W m pd.A (st.take i)))) (.int m) := ev_var rfl
        refine s_if A2 (et_test (ev_eqS (i := x) (j := pd.W.ties[k].one) (ev_var rfl) (ev_ixT0 (ev_first3 (pd := withA pd (sendL pd.W m pd.A (st.take i))) Z rfl (m1 _) hkt rfl) rfl))) (fun hb G3 H3 A3 => ?_) fun hb G3 H3 A3 => ?_
        · refine s_augS (i := 1) (mu := fun c => c = o2) (.inr rfl) A3 (ev_pf (pd := withA pd (sendL pd.W m pd.A (st.take i))) Z Z.amounts rfl (m1 _)) (ev_var rfl) rfl hA evm fun G4 H4 A4 => ?_
          refine hL _ _ _ _ _ ⟨_, _, rfl, ?_⟩ A4
          rw [hstep]
          unfold sendStep
          rw [if_pos (hone.mpr (of_decide_eq_true hb)), eA]
          rfl
        · refine s_augS (i := 1) (mu := fun c => c = o2) (.inr rfl) A3 (ev_pf (pd := withA pd (sendL pd.W m pd.A (st.take i))) Z Z.amounts rfl (m1 _)) (ev_var rfl) rfl hA evm fun G4 H4 A4 => ?_
          refine hL _ _ _ _ _ ⟨_, _, rfl, ?_⟩ A4
          rw [hstep]
          unfold sendStep
          rw [if_neg (fun z => of_decide_eq_false hb (hone.mp z)), eA]
          rfl
      · obtain ⟨c1, c2, rfl, rfl⟩ := j
        rw [hsl, List.take_length] at A2
        refine q _ G2 H2 m A2.sp (Kn.pipe (k := A2.kn) (m1 _) (m2 _) hp.ne) ?_ fun r hr => hm2 _ (List.mem_map.mpr ⟨r, hr, rfl⟩)
        obtain ⟨r, hr, e⟩ := List.mem_map.mp hm1
        exact ⟨r, hr, e.symm⟩
end
end Fc
/-! Sending: what stays true; flows and cuts. -/
namespace Fc
open PySem L2 Sy
def cZ (t : Tie) (a : Int) (x : Str) : Int := if t.one = x then a else if t.other = x then -a else 0
def goZ : List Tie → List Int → Str → Int
  | t :: ts, a :: A, x => cZ t a x + goZ ts A x
  | _, _, _ => 0
theorem cZ_sub (t : Tie) (a b : Int) (x : Str) : cZ t b x = cZ t a x + cZ t (b - a) x := by
  unfold cZ
  split
  · omega
  · split <;> omega
theorem goZ_set : ∀ {ts : List Tie} {A : List Int} {k : Nat} {t : Tie} {a : Int} (b : Int) (x : Str), ts[k]? = some t → A[k]? = some a → goZ ts (A.set k b) x = goZ ts A x + cZ t (b - a) x
  | [], _, _, _, _, _, _, h, _ => by simp at h
  | _ :: _, [], _, _, _, _, _, _, h => by simp at h
  | t0 :: ts, a0 :: A, 0, t, a, b, x, h1, h2 => by
    have e1 : t0 = t := by simpa using h1
    have e2 : a0 = a := by simpa using h2
    subst e1
    subst e2
    show cZ t0 b x + goZ ts A x = cZ t0 a0 x + goZ ts A x + cZ t0 (b - a0) x
    rw [cZ_sub t0 a0 b x]
    omega
  | t0 :: ts, a0 :: A, k + 1, t, a, b, x, h1, h2 => by
    have ih := goZ_set (ts := ts) (A := A) (k := k) b x (by simpa using h1) (by simpa using h2)
    show cZ t0 a0 x + goZ ts (A.set k b) x = cZ t0 a0 x + goZ ts A x + cZ t (b - a) x
    rw [ih]
    omega
/-- what stays true of rooms and amounts -/
structure PCap (pd : PData) : Prop where
  len : PLen pd
  nn : ∀ r ∈ pd.R, 0 ≤ r
  cap : ∀ (k : Nat) (t : Tie) (r a : Int), pd.W.ties[k]? = some t → pd.R[k]? = some r → pd.A[k]? = some a → a ≤ r ∧ (if t.both = true then -r else 0) ≤ a
structure PInv (pd : PData) : Prop extends PCap pd where
  cons : ∀ x, x ≠ pd.W.first → x ≠ pd.W.last → goZ pd.W.ties pd.A x = 0
theorem spare_at {pd : PData} {k : Nat} {x : Str} {t : Tie} {r a : Int} (h1 : pd.W.ties[k]? = some t) (h2 : pd.R[k]? = some r) (h3 : pd.A[k]? = some a) : spareZ pd k x = if x = t.one then r - a else if x = t.other ∧ t.both = true then r + a else if x = t.other then a else 0 := by
  unfold spareZ
  rw [h1]
  simp only [List.getD_eq_getElem?_getD, h2, h3, Option.getD_some]
theorem over_at {W : Web} {k : Nat} {x : Str} {t : Tie} (h1 : W.ties[k]? = some t) : overZ W k x = if x = t.one then t.other else t.one := by
  unfold overZ
  rw [h1]
def hitZ (y x : Str) (m : Int) : Int := if y = x then m else 0
theorem hit_neg (y x : Str) (m : Int) : hitZ y x (-m) = -hitZ y x m := by
  unfold hitZ
  split <;> omega
theorem hit_cZ {t : Tie} (hn : t.one ≠ t.other) (m : Int) (y : Str) : cZ t m y = hitZ y t.one m - hitZ y t.other m := by
  unfold cZ hitZ
  by_cases e1 : t.one = y
  · rw [if_pos e1, if_pos e1.symm, if_neg (show ¬ y = t.other from fun z => hn (e1.trans z))]
    omega
  · rw [if_neg e1, if_neg (show ¬ y = t.one from fun z => e1 z.symm)]
    by_cases e2 : t.other = y
    · rw [if_pos e2, if_pos e2.symm]
      omega
    · rw [if_neg e2, if_neg (show ¬ y = t.other from fun z => e2 z.symm)]
      omega
theorem send_one {pd : PData} {k : Nat} {x : Str} {m : Int} (hne : ∀ t ∈ pd.W.ties, t.one ≠ t.other) (h : PCap pd) (hk : k < pd.W.ties.length) (hm : 0 < m) (hs : m ≤ spareZ pd k x) :
    PCap (withA pd (sendStep pd.W m pd.A (k, x))) ∧ (∀ y, goZ pd.W.ties (sendStep pd.W m pd.A (k, x)) y = goZ pd.W.ties pd.A y + hitZ y x m - hitZ y (overZ pd.W k x) m) ∧ ∀ j y, j ≠ k → spareZ (withA pd (sendStep pd.W m pd.A (k, x))) j y = spareZ pd j y := by
  obtain ⟨t, ht⟩ : ∃ t, pd.W.ties[k]? = some t := ⟨_, List.getElem?_eq_getElem hk⟩
  obtain ⟨r, hr⟩ : ∃ r, pd.R[k]? = some r := ⟨_, List.getElem?_eq_getElem (by rw [h.len.r]; exact hk)⟩
  obtain ⟨a, ha⟩ : ∃ a, pd.A[k]? = some a := ⟨_, List.getElem?_eq_getElem (by rw [h.len.a]; exact hk)⟩
  have hal : k < pd.A.length := by rw [h.len.a]; exact hk
  have hn := hne t (List.mem_of_getElem? ht)
  obtain ⟨c1, c2⟩ := h.cap k t r a ht hr ha
  have r0 := h.nn r (List.mem_of_getElem? hr)
  rw [spare_at ht hr ha] at hs
  obtain ⟨b, hb, hb1, hb2, hgo⟩ : ∃ b : Int, sendStep pd.W m pd.A (k, x) = pd.A.set k b ∧ b ≤ r ∧ (if t.both = true then -r else 0) ≤ b ∧ ∀ y, cZ t (b - a) y = hitZ y x m - hitZ y (overZ pd.W k x) m := by
    have gA : pd.A.getD k 0 = a := by rw [List.getD_eq_getElem?_getD, ha] <;> rfl
    rw [over_at ht]
    unfold sendStep
    rw [ht, gA]
    by_cases h1 : x = t.one
    · subst h1
      rw [if_pos rfl] at hs
      refine ⟨a + m, by rw [show (some t).map Tie.one = some t.one from rfl, if_pos rfl], by omega, by omega, fun y => ?_⟩
      rw [if_pos rfl, show a + m - a = m by omega, hit_cZ hn]
    · rw [if_neg h1] at hs
      have h2 : x = t.other := by
        apply Classical.byContradiction
        intro z
        rw [if_neg (fun q => z q.1), if_neg z] at hs
        omega
      subst h2
      have hs2 : (if t.both = true then -r else 0) ≤ a - m := by
        by_cases hbth : t.both = true
        · rw [if_pos ⟨rfl, hbth⟩] at hs
          rw [if_pos hbth]
          omega
        · rw [if_neg (fun z => hbth z.2), if_pos rfl] at hs
          rw [if_neg hbth]
          omega
      refine ⟨a - m, by rw [show (some t).map Tie.one = some t.one from rfl, if_neg (show ¬ some t.one = some t.other from fun z => hn (Option.some.inj z))], by omega, hs2, fun y => ?_⟩
      rw [if_neg h1, show a - m - a = -m by omega, hit_cZ hn, hit_neg, hit_neg]
      omega
  rw [hb]
  refine ⟨⟨⟨h.len.tl, h.len.r, by show (pd.A.set k b).length = _; rw [List.length_set]; exact h.len.a⟩, h.nn, fun j t' r' a' j1 j2 j3 => ?_⟩, fun y => ?_, fun j y hj => ?_⟩
  · have j3 : (pd.A.set k b)[j]? = some a' := j3
    by_cases e : j = k
    · subst e
      rw [List.getElem?_set_self hal] at j3
      cases j3
      have j1 : pd.W.ties[j]? = some t' := j1
      have j2 : pd.R[j]? = some r' := j2
      rw [ht] at j1
      rw [hr] at j2
      cases j1
      cases j2
      exact ⟨hb1, hb2⟩
    · rw [List.getElem?_set_ne (fun z => e z.symm)] at j3
      exact h.cap j t' r' a' j1 j2 j3
  · rw [goZ_set b y ht ha, hgo]
    omega
  · have e : (pd.A.set k b).getD j 0 = pd.A.getD j 0 := by
      rw [List.getD_eq_getElem?_getD, List.getElem?_set_ne (fun z => hj z.symm), List.getD_eq_getElem?_getD]
    show (match pd.W.ties[j]? with
      | none => (0 : Int)
      | some t => if y = t.one then pd.R.getD j 0 - (pd.A.set k b).getD j 0 else if y = t.other ∧ t.both = true then pd.R.getD j 0 + (pd.A.set k b).getD j 0 else if y = t.other then (pd.A.set k b).getD j 0 else 0) = _
    rw [e]
    rfl
theorem send_all {W : Web} {m : Int} (hne : ∀ t ∈ W.ties, t.one ≠ t.other) (hm : 0 < m) : ∀ {st : List (Nat × Str)} {pd : PData} {y0 y : Str}, pd.W = W → PCap pd → PathFrom W y0 st y → (st.map (·.1)).Nodup → (∀ r ∈ st, r.1 < W.ties.length ∧ m ≤ spareZ pd r.1 r.2) →
    PCap (withA pd (sendL W m pd.A st)) ∧ ∀ z, goZ W.ties (sendL W m pd.A st) z = goZ W.ties pd.A z + hitZ z y m - hitZ z y0 m
  | [], pd, y0, y, hW, hc, hp, _, _ => by
    have : y = y0 := hp
    subst this
    exact ⟨hc, fun z => by show goZ W.ties pd.A z = goZ W.ties pd.A z + hitZ z y m - hitZ z y m; omega⟩
  | (k, x) :: r, pd, y0, y, hW, hc, hp, nd, ho => by
    subst hW
    obtain ⟨n1, n2⟩ := List.nodup_cons.mp (show (k :: r.map (·.1)).Nodup from nd)
    obtain ⟨hk, hs⟩ := ho (k, x) List.mem_cons_self
    obtain ⟨s1, s2, s3⟩ := send_one hne hc hk hm hs
    obtain ⟨p1, p2⟩ := hp
    have p1 : overZ pd.W k x = y0 := p1
    obtain ⟨i1, i2⟩ := send_all (W := pd.W) (st := r) (pd := withA pd (sendStep pd.W m pd.A (k, x))) (y0 := x) (y := y) hne hm rfl s1 p2 n2 fun q hq => by
      obtain ⟨h1, h2⟩ := ho q (List.mem_cons_of_mem _ hq)
      refine ⟨h1, ?_⟩
      rw [s3 q.1 q.2 (fun z => n1 (List.mem_map.mpr ⟨q, hq, z⟩))]
      exact h2
    refine ⟨i1, fun z => ?_⟩
    have e := i2 z
    have e2 : goZ pd.W.ties (withA pd (sendStep pd.W m pd.A (k, x))).A z = goZ pd.W.ties pd.A z + hitZ z x m - hitZ z y0 m := by
      rw [← p1]
      exact s2 z
    rw [e2] at e
    show goZ pd.W.ties (sendL pd.W m (sendStep pd.W m pd.A (k, x)) r) z = _
    rw [show sendL pd.W m (sendStep pd.W m pd.A (k, x)) r = sendL pd.W m (withA pd (sendStep pd.W m pd.A (k, x))).A r from rfl, e]
    omega
/-- steps of falling rank: no tie twice -/
theorem path_rk {W : Web} {rk : Str → Nat} : ∀ {st : List (Nat × Str)} {y0 y : Str}, PathFrom W y0 st y → (∀ r ∈ st, rk r.2 < rk (overZ W r.1 r.2)) → ∀ r ∈ st, rk r.2 < rk y0
  | [], _, _, _, _, r, h => absurd h (by simp)
  | p :: q, y0, y, h, hr, r, hm => by
    obtain ⟨h1, h2⟩ := h
    have h3 := hr p List.mem_cons_self
    rw [h1] at h3
    rcases List.mem_cons.mp hm with rfl | hm
    · exact h3
    · have := path_rk h2 (fun r hr' => hr r (List.mem_cons_of_mem _ hr')) r hm
      omega
theorem path_nd {pd : PData} {rk : Str → Nat} : ∀ {st : List (Nat × Str)} {y0 y : Str}, PathFrom pd.W y0 st y → (∀ r ∈ st, r.1 < pd.W.ties.length ∧ 0 < spareZ pd r.1 r.2) → (∀ r ∈ st, rk r.2 < rk (overZ pd.W r.1 r.2)) → (st.map (·.1)).Nodup
  | [], _, _, _, _, _ => List.nodup_nil
  | (k, x) :: q, y0, y, h, ho, hr => by
    obtain ⟨h1, h2⟩ := h
    have h1 : overZ pd.W k x = y0 := h1
    refine List.nodup_cons.mpr ⟨fun hm => ?_, path_nd h2 (fun r hr' => ho r (List.mem_cons_of_mem _ hr')) (fun r hr' => hr r (List.mem_cons_of_mem _ hr'))⟩
    obtain ⟨⟨k', x'⟩, hq, e⟩ := List.mem_map.mp hm
    have e : k' = k := e
    subst e
    have a1 : rk x' < rk x := path_rk h2 (fun r hr' => hr r (List.mem_cons_of_mem _ hr')) (k', x') hq
    have a2 : rk x < rk (overZ pd.W k' x) := hr (k', x) List.mem_cons_self
    have a3 : rk x' < rk (overZ pd.W k' x') := hr (k', x') (List.mem_cons_of_mem _ hq)
    obtain ⟨b1, b2⟩ := ho (k', x) List.mem_cons_self
    obtain ⟨_, b3⟩ := ho (k', x') (List.mem_cons_of_mem _ hq)
    have b1 : k' < pd.W.ties.length := b1
    have b2 : 0 < spareZ pd k' x := b2
    have b3 : 0 < spareZ pd k' x' := b3
    obtain ⟨t, ht⟩ : ∃ t, pd.W.ties[k']? = some t := ⟨_, List.getElem?_eq_getElem b1⟩
    have ends : ∀ y, 0 < spareZ pd k' y → y = t.one ∨ y = t.other := fun y hy => by
      unfold spareZ at hy
      rw [ht] at hy
      by_cases e1 : y = t.one
      · exact .inl e1
      · by_cases e2 : y = t.other
        · exact .inr e2
        · simp only [if_neg e1, if_neg (fun z : y = t.other ∧ t.both = true => e2 z.1), if_neg e2] at hy
          omega
    rw [over_at ht] at a2 a3
    rcases ends x b2 with e1 | e1 <;> rcases ends x' b3 with e2 | e2
    · rw [e1, e2] at a1; omega
    · rw [if_pos e1] at a2
      rw [e2] at a1
      omega
    · have hne : ¬ x = t.one := fun z => by rw [z] at a2; rw [if_pos rfl] at a2; rw [z, ← e2] at a1; omega
      rw [if_neg hne] at a2
      rw [e2] at a1
      omega
    · rw [e1, e2] at a1; omega
def sumZ : List Int → Int
  | [] => 0
  | a :: r => a + sumZ r
theorem goZ_le : ∀ {ts : List Tie} {R A : List Int} (x : Str), R.length = ts.length → A.length = ts.length → (∀ r ∈ R, 0 ≤ r) → (∀ (k : Nat) (t : Tie) (r a : Int), ts[k]? = some t → R[k]? = some r → A[k]? = some a → a ≤ r ∧ (if t.both = true then -r else 0) ≤ a) → goZ ts A x ≤ sumZ R
  | [], [], _, _, _, _, _, _ => Int.le_refl _
  | [], _ :: _, _, _, h, _, _, _ => by simp at h
  | _ :: _, [], _, _, h, _, _, _ => by simp at h
  | _ :: _, _ :: _, [], _, _, h, _, _ => by simp at h
  | t :: ts, r :: R, a :: A, x, h1, h2, h3, h4 => by
    have ih := goZ_le (ts := ts) (R := R) (A := A) x (by simpa using h1) (by simpa using h2) (fun q hq => h3 q (List.mem_cons_of_mem _ hq)) fun k t r a e1 e2 e3 => h4 (k + 1) t r a (by simpa using e1) (by simpa using e2) (by simpa using e3)
    obtain ⟨c1, c2⟩ := h4 0 t r a rfl rfl rfl
    have c3 := h3 r List.mem_cons_self
    show cZ t a x + goZ ts A x ≤ r + sumZ R
    have : cZ t a x ≤ r := by
      unfold cZ
      split
      · exact c1
      · split
        · split at c2 <;> omega
        · exact c3
    omega
theorem PCap.le {pd : PData} (h : PCap pd) (x : Str) : goZ pd.W.ties pd.A x ≤ sumZ pd.R := goZ_le x h.len.r h.len.a h.nn h.cap
theorem send_inv {pd : PData} {st : List (Nat × Str)} {m : Int} (hW : WebOk pd.W) (h : PInv pd) (hp : PathOk pd st) (hm : ∃ r ∈ st, m = spareZ pd r.1 r.2) (hm2 : ∀ r ∈ st, m ≤ spareZ pd r.1 r.2) :
    PInv (withA pd (sendL pd.W m pd.A st)) ∧ goZ pd.W.ties pd.A pd.W.first < goZ pd.W.ties (sendL pd.W m pd.A st) pd.W.first := by
  obtain ⟨rk, hrk⟩ := hp.rk
  obtain ⟨r0, hr0, e0⟩ := hm
  have hm0 : 0 < m := by
    rw [e0]
    exact (hp.ok r0 hr0).2
  obtain ⟨s1, s2⟩ := send_all (W := pd.W) (m := m) (fun t ht => (hW.tk t ht).ne) hm0 rfl h.toPCap hp.path (path_nd hp.path hp.ok hrk) fun r hr => ⟨(hp.ok r hr).1, hm2 r hr⟩
  refine ⟨⟨s1, fun x h1 h2 => ?_⟩, ?_⟩
  · have h1 : x ≠ pd.W.first := h1
    have h2 : x ≠ pd.W.last := h2
    show goZ pd.W.ties (sendL pd.W m pd.A st) x = 0
    rw [s2, h.cons x h1 h2]
    unfold hitZ
    rw [if_neg h1, if_neg h2]
    rfl
  · rw [s2]
    unfold hitZ
    rw [if_pos rfl, if_neg (fun z => hW.ne z.symm)]
    omega
end Fc
namespace Fc
open PySem PySem.Spec PyProof.Rows L2 Sy
section
variable {P : Program} {w : World} {K : Fg} {mg : Str → Option Value} {base : Heap} {C : Addr}
variable {s : Option Addr} {mu : Addr → Prop} {G0 H0 G H : Hp} {gs : List Hp} {ds : List SC} {ms : List (Addr × MO)} {σ : L2.St} {D : Ends} {t tr : TA} {ta tb : TE} {tz : TS} {E : XK} {pd : PData} {dx p o2 d : Addr}
abbrev s_Pipes_flow : Stmt := inClass (topS 50) 7
theorem sc_Pipes_flow : FnScope ["self", "amount"] ["self"] (defScope s_Pipes_flow) := ⟨rfl, rfl, rfl, by decide +kernel, rfl, by decide +kernel, by decide +kernel⟩

def flowR (pd : PData) : List Rat := pd.A.map fun a => mkRat a pd.b
def spFlow (K : Fg) (C : Addr) : Sp := SpPM K C (fun _ : PData => []) (fun pd => pd) (fun pd => 0 < pd.b ∧ pd.b < LN2 ∧ PLen pd) (fun pd d => d = frL (flowR pd))
def loD (b : Nat) : Sy.D → Sy.D
  | .int a => frD (mkRat a b)
  | _ => .none
theorem ok_Pipes_flow {f : Addr} {fd : FuncData} (F : Fun K "flow" "Pipes.flow" s_Pipes_flow f fd) (Z : PipeCls K C) (c_lowest : Cal P w K mg base "lowest" 2 ["top", "bottom"] (spLowest K)) : FnOk P w K mg base CX0 3 f fd ["self"] (spFlow K C) := by
  refine F.ok sc_Pipes_flow (fun vs H Q E h => ?_) (fun cdv A outer s H vs Q E hr h => ?_)
  · obtain ⟨a, G, dx, p, o2, vr, rfl, hg, hp, hI, _⟩ := h
    rw [List.length_cons, hI.length]
    rfl
  · obtain ⟨pd, G, dx, p, o2, vr, rfl, hg, hp, hI, ⟨hb, hb2, hl⟩, q⟩ := h
    have hp : PipeOk K G H C dx p o2 pd := hp
    have A0 := at_startP (mu := mu0) (K := K) (N := ["self", "amount"]) (ds := [.ref p, .no]) hg hp hI
    refine ⟨_, (pss_one (ps_ret (pe_lc (own := [("amount", 1)]) (g := gName 1) (tt := tYes) rfl sc_Pipes_flow.nd (w_list (K := K) (w_fld (K := K) (pv 0) rfl)) (blkOk_by (own := [("amount", 1)]) (N := ["self", "amount"]) (sc := defScope s_Pipes_flow) (by decide +kernel)) (fun _ _ _ _ _ => (pg_name (i := 1) sc_Pipes_flow.nd rfl (Or.inl rfl))) (fun _ _ _ _ _ => pts_nil) (fun _ _ _ _ _ => (p_call c_lowest (hr.mono (by first | exact Nat.le_refl _ | omega)) (pa_cons (pv 1) (pa_cons (w_fld (K := K) (pv 0) rfl) pa_nil))))))), ?_⟩
    have m1 : (p, MO.ins C dx (pipeFs pd o2)) ∈ pipeMs C dx p o2 pd := List.mem_cons_self
    have m2 : (o2, MO.lst (intsD pd.A)) ∈ pipeMs C dx p o2 pd := List.mem_cons_of_mem _ List.mem_cons_self
    have hla := hl.a
    have htl := hl.tl
    refine s_retD A0 (EvN.dat ((en_lcD (p := fun _ => true) (F := loD pd.b) (it_known (p := o2) (es := intsD pd.A) (ev_pf Z Z.amounts rfl m1) m2) m2 (fun i e he => tw_name) (fun i e he => et_yes) (fun i e he _ => ?_) (by simp only [intsD, List.length_map]; omega)).imp fun dl h => h.trans (show _ = (flowR pd).map frD from ?_))) fun v G' H' st iv => q v G' H' _ st iv rfl
    · obtain ⟨a, ha, rfl⟩ := smap_get he
      exact ev_lowest (a := a) (b := ((pd.b : Nat) : Int)) (el_cons (ev_var rfl) (el_cons (ev_pf Z Z.bottom rfl m1) el_nil)) (by omega) (by omega)
    · rw [List.filter_eq_self.mpr (fun _ _ => rfl)]
      unfold intsD flowR
      rw [List.map_map, List.map_map]
      rfl
abbrev s_Pipes_fill : Stmt := inClass (topS 50) 6
theorem sc_Pipes_fill : FnScope ["self", "found", "place"] ["self"] (defScope s_Pipes_fill) := ⟨rfl, rfl, rfl, by decide +kernel, rfl, by decide +kernel, by decide +kernel⟩

theorem q_reached {i : Nat} (A : At K s mu G0 H0 gs ds ms σ G H) (h0 : EvC K s ta ds ms (.ref p)) (h1 : (p, MO.ins C dx (pipeFs pd o2)) ∈ ms) (h2 : (o2, MO.lst (intsD pd.A)) ∈ ms) (hne : p ≠ o2) (hW : WebOk pd.W) (hl : PLen pd)
    (k : ∀ d σ' G' H' f, H0 d = none → FoundOk pd f → At K s mu G0 H0 gs (ds.set i (.ref d)) ((d, .dct (kvD f)) :: ms) σ' G' H' → tz D σ' H') : tSeq (tAsg (tMeth C "reached" (spReached K C) [] E ta tNil) (gName i)) tz D σ H :=
  h0 σ G H A.kn _ fun v0 G1 H1 a1 o1 x1 => by
    have A1 := A.step a1 o1
    obtain ⟨fv, e1, r⟩ := A1.kn.get h1
    cases x1.ref
    refine ⟨p, dx, fv, rfl, e1, flook_none r rfl, pd, G1, dx, p, o2, rfl, A1.kn.gh, Kn.pipe (k := A1.kn) h1 h2 hne, hW, hl, fun d G2 H2 f a2 hd gd hm hf => ?_⟩
    obtain ⟨A2, hd0⟩ := A1.got (m := .dct (kvD f)) a2 hd gd hm (fun _ z => z)
    exact k d _ G2 H2 f hd0 hf (A2.slot rfl)
theorem s_rchd {i : Nat} (A : At K s mu G0 H0 gs ds ms σ G H) (h0 : EvC K s ta ds ms (.ref p)) (h1 : (p, MO.ins C dx (pipeFs pd o2)) ∈ ms) (h2 : (o2, MO.lst (intsD pd.A)) ∈ ms) (hne : p ≠ o2) (hW : WebOk pd.W) (hl : PLen pd)
    (k : ∀ d σ' G' H' f, H0 d = none → FoundOk pd f → At K s mu G0 H0 gs (ds.set i (.ref d)) ((d, .dct (kvD f)) :: ms) σ' G' H' → D.nx σ' H') : tAsg (tMeth C "reached" (spReached K C) [] E ta tNil) (gName i) D σ H := q_reached (D := D) (tz := fun D => D.nx) A h0 h1 h2 hne hW hl k
theorem evr_back {f : Fnd} (h0 : EvC K s ta ds ms (.ref p)) (h1 : (p, MO.ins C dx (pipeFs pd o2)) ∈ ms) (h2 : (o2, MO.lst (intsD pd.A)) ∈ ms) (hne : p ≠ o2) (hd : EvC K s tb ds ms (.ref d)) (h3 : (d, MO.dct (kvD f)) ∈ ms) (hf : FoundOk pd f) (hla : pd.W.last ∈ keysF f) (hW : WebOk pd.W) : EvR K s (tMeth C "back" (spBack K C) [] E ta (tCons tb tNil)) ds ms (fun e => ∃ st, e = .list (stepsD st) ∧ PathOk pd st ∧ st.length ≤ 7) := fun σ G H k Q q =>
  h0 σ G H k _ fun v0 G1 H1 a1 o1 x1 => by
    have k1 := k.step a1 o1
    obtain ⟨fv, e1, r⟩ := k1.get h1
    cases x1.ref
    refine ⟨p, dx, fv, rfl, e1, flook_none r rfl, hd σ G1 H1 k1 _ fun v1 G2 H2 a2 o2' x2 => ?_⟩
    have k2 := k1.step a2 o2'
    cases x2.ref
    exact ⟨pd, G2, dx, p, o2, d, f, rfl, k2.gh, Kn.pipe (k := k2) h1 h2 hne, (k2.mo _ h3).1, (k2.mo _ h3).2.1, hf, hla, hW, fun v G3 H3 st a3 x3 p3 l3 => q v G3 H3 _ ((a1.trans a2).trans a3.of0) (k2.stO a3) x3 ⟨st, rfl, p3, l3⟩⟩
theorem q_send {i : Nat} (ho : H0 o2 = none ∨ mu o2) (A : At K s mu G0 H0 gs ds ms σ G H) (h0 : EvC K s ta ds ms (.ref p)) (h1 : (p, MO.ins C dx (pipeFs pd o2)) ∈ ms) (h2 : ms[i]? = some (o2, MO.lst (intsD pd.A))) (hne : p ≠ o2) (hW : WebOk pd.W) (hl : PLen pd)
    (h : EvR K s tb ds ms (fun e => ∃ st, e = .list (stepsD st) ∧ PathOk pd st ∧ st.length ≤ 7))
    (k : ∀ st m G' H', PathOk pd st → (∃ r ∈ st, m = spareZ pd r.1 r.2) → (∀ r ∈ st, m ≤ spareZ pd r.1 r.2) → At K s mu G0 H0 gs ds (ms.set i (o2, .lst (intsD (sendL pd.W m pd.A st)))) σ G' H' → tz D σ H') : tSeq (tDrop (tMeth C "send" (spSend K C) [] E ta (tCons tb tNil))) tz D σ H :=
  h0 σ G H A.kn _ fun v0 G1 H1 a1 o1 x1 => by
    have A1 := A.step a1 o1
    obtain ⟨fv, e1, r⟩ := A1.kn.get h1
    cases x1.ref
    refine ⟨p, dx, fv, rfl, e1, flook_none r rfl, h σ G1 H1 A1.kn _ fun v1 G2 H2 e a2 o2' x2 p2 => ?_⟩
    have A2 := A1.step a2 o2'
    obtain ⟨st, rfl, hpa, hst⟩ := p2
    exact ⟨pd, G2, dx, p, o2, [v1], st, rfl, A2.kn.gh, Kn.pipe (k := A2.kn) h1 (List.mem_of_getElem? h2) hne, .cons x2 .nil, hpa, hW, hl, hst, fun v G3 H3 m a3 p3 hm1 hm2 => k st m G3 H3 hpa hm1 hm2 (A2.eff ho h2 a3 p3.lst)⟩
def spFill (K : Fg) (C : Addr) : Sp := fun vs H Q _ => ∃ (pd : PData) (G : Hp) (dx p o2 : Addr), vs = [.ref p] ∧ Same G H ∧ PipeOk K G H C dx p o2 pd ∧ WebOk pd.W ∧ PInv pd ∧
  ∀ v G' H' A' f, Stp (fun c => c = o2) G H G' H' → PipeOk K G' H' C dx p o2 (withA pd A') → PInv (withA pd A') → FoundOk (withA pd A') f → pd.W.last ∉ keysF f → Is K G' v (.list (strsD (pd.W.places.filter fun x => decide (x ∈ keysF f)))) → Q v H'
def inD (l : List Str) : Sy.D → Bool
  | .str x => decide (x ∈ l)
  | _ => false
theorem in_filter (l ps : List Str) : ((strsD ps).filter (inD l)).map id = strsD (ps.filter fun x => decide (x ∈ l)) := by
  unfold strsD
  rw [List.map_id, List.filter_map]
  rfl
theorem ok_Pipes_fill {f : Addr} {fd : FuncData} (F : Fun K "fill" "Pipes.fill" s_Pipes_fill f fd) (Z : PipeCls K C) (c_Pipes_reached : CalM P w K mg base C "reached" 2 ["self"] (spReached K C)) (c_Pipes_back : CalM P w K mg base C "back" 1 ["self", "found"] (spBack K C)) (c_Pipes_send : CalM P w K mg base C "send" 2 ["self", "steps"] (spSend K C)) : FnOk P w K mg base CX0 3 f fd ["self"] (spFill K C) := by
  refine F.ok sc_Pipes_fill (fun vs H Q E h => ?_) (fun cdv A outer s H vs Q E hr h => ?_)
  · obtain ⟨pd, G, dx, p, o2, rfl, _⟩ := h
    rfl
  · obtain ⟨pd, G, dx, p, o2, rfl, hg, hp, hW, hI, q⟩ := h
    have A0 := at_startP (mu := fun c => c = o2) (K := K) (N := ["self", "found", "place"]) (ds := [.ref p, .no, .no]) (vr := []) (dl := []) hg hp .nil
    refine ⟨_, (pss_cons (ps_set (i := 1) sc_Pipes_fill.nd rfl (Or.inr rfl) (p_meth0 c_Pipes_reached (hr.mono (by first | exact Nat.le_refl _ | omega)) (pv 0)))
      (pss_cons (ps_while PassesOwn.never (pt_cmp (pc_din (hu_of hr) (pe_ix (w_ixT (K := K)) (w_fld (K := K) (pv 0) rfl) pe_int (fun _ _ => rfl)) (pv 1)) (by rfl)) (pss_cons (ps_expr (p_meth c_Pipes_send (hr.mono (by first | exact Nat.le_refl _ | omega)) (pv 0) (pa_cons (p_meth c_Pipes_back (hr.mono (by first | exact Nat.le_refl _ | omega)) (pv 0) (pa_cons (pv 1) pa_nil)) pa_nil)))
      (pss_one (ps_set (i := 1) sc_Pipes_fill.nd rfl (Or.inr rfl) (p_meth0 c_Pipes_reached (hr.mono (by first | exact Nat.le_refl _ | omega)) (pv 0))))))
      (pss_one (ps_ret (pe_lc (own := [("place", 2)]) (g := gName 2) (tt := _) rfl sc_Pipes_fill.nd (w_list (K := K) (pe_ix (w_ixT (K := K)) (w_fld (K := K) (pv 0) rfl) pe_int (fun _ _ => rfl))) (blkOk_by (own := [("place", 2)]) (N := ["self", "found", "place"]) (sc := defScope s_Pipes_fill) (by decide +kernel)) (fun _ _ _ _ _ => (pg_name (i := 2) sc_Pipes_fill.nd rfl (Or.inl rfl))) (fun _ _ _ _ _ => (pts_one (pt_cmp (pc_din (hu_of hr) (pv 2) (pv 1)) (by rfl)))) (fun _ _ _ _ _ => (pv 2))))))), ?_⟩
    have m1 : ∀ A, (p, MO.ins C dx (pipeFs pd o2)) ∈ pipeMs C dx p o2 (withA pd A) := fun A => List.mem_cons_self
    have m2 : ∀ A, (o2, MO.lst (intsD A)) ∈ pipeMs C dx p o2 (withA pd A) := fun A => List.mem_cons_of_mem _ List.mem_cons_self
    refine q_reached (pd := pd) A0 (ev_var rfl) (m1 pd.A) (m2 pd.A) hp.ne hW hI.len fun d σ1 G1 H1 f1 hd0 hf1 A1 => ?_
    refine q_while A1 (fun n ds ms => ∃ (A : List Int) (d : Addr) (f : Fnd), ds = [.ref p, .ref d, .no] ∧ ms = (d, .dct (kvD f)) :: pipeMs C dx p o2 (withA pd A) ∧ PInv (withA pd A) ∧ FoundOk (withA pd A) f ∧ n = (sumZ pd.R - goZ pd.W.ties A pd.W.first).toNat) _ ⟨pd.A, d, f1, rfl, rfl, hI, hf1, rfl⟩ fun n ds ms σ2 G2 H2 j A2 => ?_
    obtain ⟨A, d, f, rfl, rfl, hiA, hf, rfl⟩ := j
    refine ⟨_, et_test (ev_din (kvs := kvD f) (x := pd.W.last) (ev_ixT3 (ev_pf (pd := withA pd A) Z Z.net rfl (List.mem_cons_of_mem _ (m1 A))) rfl) (ev_var rfl) List.mem_cons_self), fun hb G3 H3 L A3 hL => ?_, fun hb G3 H3 A3 => ?_⟩
    · rw [aget_foundS] at hb
      have hla : pd.W.last ∈ keysF f := of_decide_eq_true hb
      refine q_send (i := 2) (mu := fun c => c = o2) (pd := withA pd A) (.inr rfl) A3 (ev_var rfl) (List.mem_cons_of_mem _ (m1 A)) rfl hp.ne hW hiA.len (evr_back (pd := withA pd A) (ev_var rfl) (List.mem_cons_of_mem _ (m1 A)) (List.mem_cons_of_mem _ (m2 A)) hp.ne (ev_var rfl) List.mem_cons_self hf hla hW) fun st m G4 H4 hpa hm1 hm2 A4 => ?_
      obtain ⟨s1, s2⟩ := send_inv (pd := withA pd A) hW hiA hpa hm1 hm2
      have s1 : PInv (withA pd (sendL pd.W m A st)) := s1
      have s2 : goZ pd.W.ties A pd.W.first < goZ pd.W.ties (sendL pd.W m A st) pd.W.first := s2
      have s3 : goZ pd.W.ties (sendL pd.W m A st) pd.W.first ≤ sumZ pd.R := s1.toPCap.le _
      have A4 : At K none (fun c => c = o2) G H [] [.ref p, .ref d, .no] ((d, .dct (kvD f)) :: pipeMs C dx p o2 (withA pd (sendL pd.W m A st))) σ2 G4 H4 := A4
      refine s_rchd (pd := withA pd (sendL pd.W m A st)) A4 (ev_var rfl) (List.mem_cons_of_mem _ (m1 _)) (List.mem_cons_of_mem _ (m2 _)) hp.ne hW s1.len fun d5 σ5 G5 H5 f5 hd5 hf5 A5 => ?_
      refine hL _ _ _ _ _ _ ?_ ⟨sendL pd.W m A st, d5, f5, rfl, rfl, s1, hf5, rfl⟩ (A5.sub ((List.sublist_cons_self _ _).cons₂ _))
      omega
    · rw [aget_foundS] at hb
      have hla : pd.W.last ∉ keysF f := of_decide_eq_false hb
      have hlo := hW.hi
      have A3 : At K none (fun c => c = o2) G H [] [.ref p, .ref d, .no] ((d, .dct (kvD f)) :: pipeMs C dx p o2 (withA pd A)) σ2 G3 H3 := A3
      refine (EvN.dat ((en_lcD (p := inD (keysF f)) (F := id) (it_list (es := strsD pd.W.places) (ev_ixT0 (ev_pf (pd := withA pd A) Z Z.net rfl (List.mem_cons_of_mem _ (m1 A))) rfl)) trivial (fun i e he => tw_name) (fun i e he => ?_) (fun i e he _ => ?_) (by simp only [strsD, List.length_map]; omega)).imp fun dl h => h.trans (in_filter _ _))) σ2 G3 H3 A3.kn _ fun v G4 H4 a4 o4 x4 => ?_
      · obtain ⟨x, hx, rfl⟩ := smap_get he
        exact EvT.to (et_test (ev_din (kvs := kvD f) (x := x) (ev_var rfl) (ev_var rfl) List.mem_cons_self)) (aget_foundS _ _)
      · obtain ⟨x, hx, rfl⟩ := smap_get he
        exact ev_var rfl
      · have A4 := A3.step a4 o4
        exact q v G4 H4 A f A4.sp (Kn.pipe (k := A4.kn) (List.mem_cons_of_mem _ (m1 A)) (List.mem_cons_of_mem _ (m2 A)) hp.ne) hiA hf hla x4.is
end
end Fc
/-! Flows and cuts, in fractions. -/
namespace Fc
open PySem L2 Sy
/-! mkRat over one bottom -/
theorem mkr_add (a c : Int) {b : Nat} (hb : 0 < b) : mkRat a b + mkRat c b = mkRat (a + c) b := by
  rw [Rat.mkRat_add_mkRat a c (by omega) (by omega), ← Int.add_mul, Rat.mkRat_mul_right (by omega)]
theorem mkr_neg (a : Int) (b : Nat) : -mkRat a b = mkRat (-a) b := Rat.neg_mkRat a b
theorem mkr_sub (a c : Int) {b : Nat} (hb : 0 < b) : mkRat a b - mkRat c b = mkRat (a - c) b := by
  rw [Rat.sub_eq_add_neg, mkr_neg, mkr_add _ _ hb]
  rfl
theorem mkr_nn {a : Int} {b : Nat} (hb : 0 < b) (h : 0 ≤ a) : 0 ≤ mkRat a b := by
  rw [← Rat.divInt_ofNat]
  exact (Rat.divInt_nonneg_iff_of_pos_right (by omega)).mpr h
theorem mkr_le {a c : Int} {b : Nat} (hb : 0 < b) (h : a ≤ c) : mkRat a b ≤ mkRat c b := by
  rw [Rat.le_iff_sub_nonneg, mkr_sub _ _ hb]
  exact mkr_nn hb (by omega)
theorem mkr_of {r : Rat} {b : Nat} (hb : 0 < b) (hd : r.den ∣ b) : mkRat (r.num * ((b / r.den : Nat) : Int)) b = r := by
  obtain ⟨c, rfl⟩ := hd
  have hc : c ≠ 0 := fun z => by subst z; simp at hb
  rw [Nat.mul_div_cancel_left _ r.den_pos, Rat.mkRat_mul_right hc]
  exact Rat.mkRat_self r
theorem mkr_bd {a k : Int} {b n : Nat} {r : Rat} (hb : 0 < b) (hd : b ∣ 1008) (hr : Bd n r) (e : mkRat k b = r) (h : a.natAbs ≤ k.natAbs) : Bd n (mkRat a b) := by
  obtain ⟨c, hc⟩ := hd
  have hc0 : c ≠ 0 := fun z => by subst z; simp at hc
  obtain ⟨j, e1, h1⟩ := hr
  refine ⟨a * (c : Int), ?_, ?_⟩
  · rw [show (1008 : Nat) = b * c from hc, Rat.mkRat_mul_right hc0]
  · have e2 : mkRat (k * (c : Int)) 1008 = mkRat j 1008 := by
      rw [← e1, ← e, show (1008 : Nat) = b * c from hc, Rat.mkRat_mul_right hc0]
    have e3 : k * (c : Int) = j := by
      have := (Rat.mkRat_eq_iff (by decide) (by decide)).mp e2
      omega
    rw [Int.natAbs_mul, Int.natAbs_natCast]
    refine Nat.le_trans (Nat.mul_le_mul_right c h) ?_
    rw [← e3, Int.natAbs_mul, Int.natAbs_natCast] at h1
    exact h1
/-! sums -/
def cR (t : Tie) (q : Rat) (x : Str) : Rat := if t.one = x then q else if t.other = x then -q else 0
def goRr : List Tie → List Rat → Str → Rat
  | t :: ts, q :: fl, x => cR t q x + goRr ts fl x
  | _, _, _ => 0
theorem goR_fold (x : Str) : ∀ (ts : List Tie) (fl : List Rat) (a : Rat), (ts.zip fl).foldl (goStep x) a = a + goRr ts fl x
  | [], fl, a => by simp [goRr, Rat.add_zero]
  | _ :: _, [], a => by simp [goRr, Rat.add_zero]
  | t :: ts, q :: fl, a => by
    rw [List.zip_cons_cons, List.foldl_cons, goR_fold x ts fl]
    show goStep x a (t, q) + _ = a + (cR t q x + _)
    have : goStep x a (t, q) = a + cR t q x := by
      unfold goStep cR
      split
      · rfl
      · split
        · rw [Rat.sub_eq_add_neg]
        · rw [Rat.add_zero]
    rw [this, Rat.add_assoc]
theorem goR_eq (W : Web) (fl : List Rat) (x : Str) : goR W fl x = goRr W.ties fl x := by
  unfold goR
  rw [goR_fold, Rat.zero_add]
theorem goRr_mk {b : Nat} (hb : 0 < b) (x : Str) : ∀ (ts : List Tie) (A : List Int), goRr ts (A.map fun a => mkRat a b) x = mkRat (goZ ts A x) b
  | [], _ => by
    show (0 : Rat) = mkRat 0 b
    rw [Rat.zero_mkRat]
  | _ :: _, [] => by
    show (0 : Rat) = mkRat 0 b
    rw [Rat.zero_mkRat]
  | t :: ts, a :: A => by
    show cR t (mkRat a b) x + goRr ts (A.map fun a => mkRat a b) x = mkRat (cZ t a x + goZ ts A x) b
    rw [goRr_mk hb x ts A, ← mkr_add _ _ hb]
    congr 1
    unfold cR cZ
    split
    · rfl
    · split
      · exact mkr_neg a b
      · exact (Rat.zero_mkRat b).symm
def sumS (S : Str → Bool) (g : Str → Rat) : List Str → Rat
  | [] => 0
  | x :: r => (if S x then g x else 0) + sumS S g r
theorem sumS_add (S : Str → Bool) (g h : Str → Rat) : ∀ l, sumS S (fun x => g x + h x) l = sumS S g l + sumS S h l
  | [] => by simp [sumS, Rat.add_zero]
  | x :: r => by
    show (if S x then g x + h x else 0) + sumS S _ r = ((if S x then g x else 0) + sumS S g r) + ((if S x then h x else 0) + sumS S h r)
    rw [sumS_add S g h r]
    cases S x <;> grind
theorem sumS_zero (S : Str → Bool) {g : Str → Rat} : ∀ {l : List Str}, (∀ x ∈ l, S x = true → g x = 0) → sumS S g l = 0
  | [], _ => rfl
  | x :: r, h => by
    show (if S x then g x else 0) + sumS S g r = 0
    rw [sumS_zero S fun y hy => h y (List.mem_cons_of_mem _ hy), Rat.add_zero]
    cases e : S x with
    | false => rfl
    | true => exact h x List.mem_cons_self e
/-- only one place counts -/
theorem sumS_one (S : Str → Bool) {g : Str → Rat} {a : Str} : ∀ {l : List Str}, l.Nodup → a ∈ l → (∀ x ∈ l, x ≠ a → S x = true → g x = 0) → sumS S g l = if S a then g a else 0
  | [], _, h, _ => absurd h (by simp)
  | x :: r, nd, h, hz => by
    obtain ⟨n1, n2⟩ := List.nodup_cons.mp nd
    show (if S x then g x else 0) + sumS S g r = _
    by_cases e : x = a
    · subst e
      rw [sumS_zero S fun y hy hs => hz y (List.mem_cons_of_mem _ hy) (fun z => n1 (z ▸ hy)) hs, Rat.add_zero]
    · have hr : a ∈ r := (List.mem_cons.mp h).elim (fun z => absurd z.symm e) id
      rw [sumS_one S n2 hr fun y hy => hz y (List.mem_cons_of_mem _ hy)]
      have : (if S x then g x else 0) = 0 := by
        cases es : S x with
        | false => rfl
        | true => exact hz x List.mem_cons_self e es
      rw [this, Rat.zero_add]
/-- what leaves a side, less what comes in -/
def netT (t : Tie) (q : Rat) (S : Str → Bool) : Rat := (if S t.one then q else 0) - (if S t.other then q else 0)
def netR : List Tie → List Rat → (Str → Bool) → Rat
  | t :: ts, q :: fl, S => netT t q S + netR ts fl S
  | _, _, _ => 0
theorem net_sum {ps : List Str} (nd : ps.Nodup) (S : Str → Bool) : ∀ {ts : List Tie} {fl : List Rat}, (∀ t ∈ ts, TieOk ps t) → sumS S (goRr ts fl) ps = netR ts fl S
  | [], _, _ => sumS_zero S fun _ _ _ => rfl
  | _ :: _, [], _ => sumS_zero S fun _ _ _ => rfl
  | t :: ts, q :: fl, h => by
    have ih := net_sum nd S (ts := ts) (fl := fl) fun t ht => h t (List.mem_cons_of_mem _ ht)
    have ht := h t List.mem_cons_self
    show sumS S (fun x => cR t q x + goRr ts fl x) ps = netT t q S + netR ts fl S
    rw [sumS_add, show sumS S (fun x => goRr ts fl x) ps = _ from ih]
    congr 1
    have e : (fun x => cR t q x) = fun x => (if t.one = x then q else 0) + (if t.other = x then -q else 0) := by
      funext x
      unfold cR
      by_cases h1 : t.one = x
      · rw [if_pos h1, if_pos h1, if_neg (fun z => ht.ne (h1.trans z.symm)), Rat.add_zero]
      · rw [if_neg h1, if_neg h1, Rat.zero_add]
    rw [show sumS S (cR t q) ps = sumS S (fun x => cR t q x) ps from rfl, e, sumS_add, sumS_one S nd ht.one (fun x _ hx _ => if_neg fun z => hx z.symm), sumS_one S nd ht.other (fun x _ hx _ => if_neg fun z => hx z.symm), if_pos rfl, if_pos rfl]
    unfold netT
    cases S t.one <;> cases S t.other <;> grind
/-- what a cut lets through -/
def cutT (t : Tie) (r : Rat) (S : Str → Bool) : Rat := if S t.one = true ∧ S t.other = false then r else if S t.other = true ∧ S t.one = false ∧ t.both = true then r else 0
def cutR : List Tie → List Rat → (Str → Bool) → Rat
  | t :: ts, r :: R, S => cutT t r S + cutR ts R S
  | _, _, _ => 0
structure Flw (W : Web) (R fl : List Rat) : Prop where
  rl : R.length = W.ties.length
  len : fl.length = W.ties.length
  nn : ∀ r ∈ R, 0 ≤ r
  cap : ∀ (k : Nat) (t : Tie) (r q : Rat), W.ties[k]? = some t → R[k]? = some r → fl[k]? = some q → q ≤ r ∧ (if t.both = true then -r else 0) ≤ q
  cons : ∀ x, x ≠ W.first → x ≠ W.last → goRr W.ties fl x = 0
/-- a side: first within, last without -/
def Sd (W : Web) (S : Str → Bool) : Prop := S W.first = true ∧ S W.last = false
theorem amt_net {W : Web} {R fl : List Rat} (hW : WebOk W) (h : Flw W R fl) {S : Str → Bool} (hS : Sd W S) : amtR W fl = netR W.ties fl S := by
  rw [← net_sum hW.nd S hW.tk, sumS_one S hW.nd hW.fi fun x _ hx hs => h.cons x hx fun z => by rw [z, hS.2] at hs; cases hs]
  rw [hS.1, if_pos rfl]
  exact goR_eq W fl W.first
theorem net_le {S : Str → Bool} : ∀ {ts : List Tie} {R fl : List Rat}, R.length = ts.length → fl.length = ts.length → (∀ r ∈ R, 0 ≤ r) → (∀ (k : Nat) (t : Tie) (r q : Rat), ts[k]? = some t → R[k]? = some r → fl[k]? = some q → q ≤ r ∧ (if t.both = true then -r else 0) ≤ q) → netR ts fl S ≤ cutR ts R S
  | [], _, _, _, _, _, _ => Rat.le_refl
  | _ :: _, [], _, h, _, _, _ => by simp at h
  | _ :: _, _ :: _, [], _, h, _, _ => by simp at h
  | t :: ts, r :: R, q :: fl, h1, h2, h3, h4 => by
    have ih := net_le (S := S) (ts := ts) (R := R) (fl := fl) (by simpa using h1) (by simpa using h2) (fun q hq => h3 q (List.mem_cons_of_mem _ hq)) fun k t r a e1 e2 e3 => h4 (k + 1) t r a (by simpa using e1) (by simpa using e2) (by simpa using e3)
    obtain ⟨c1, c2⟩ := h4 0 t r q rfl rfl rfl
    have c3 := h3 r List.mem_cons_self
    show netT t q S + netR ts fl S ≤ cutT t r S + cutR ts R S
    have : netT t q S ≤ cutT t r S := by
      unfold netT cutT
      cases e1 : S t.one <;> cases e2 : S t.other <;> cases e3 : t.both <;> simp only [e3] at c2 <;> simp <;> grind
    grind
/-- no flow is above a cut -/
theorem weak {W : Web} {R fl : List Rat} (hW : WebOk W) (h : Flw W R fl) {S : Str → Bool} (hS : Sd W S) : amtR W fl ≤ cutR W.ties R S := by
  rw [amt_net hW h hS]
  exact net_le h.rl h.len h.nn h.cap
theorem net_eq {S : Str → Bool} : ∀ {ts : List Tie} {R fl : List Rat}, R.length = ts.length → fl.length = ts.length → (∀ (k : Nat) (t : Tie) (r q : Rat), ts[k]? = some t → R[k]? = some r → fl[k]? = some q → netT t q S = cutT t r S) → netR ts fl S = cutR ts R S
  | [], _, _, _, _, _ => rfl
  | _ :: _, [], _, h, _, _ => by simp at h
  | _ :: _, _ :: _, [], _, h, _ => by simp at h
  | t :: ts, r :: R, q :: fl, h1, h2, h4 => by
    have ih := net_eq (S := S) (ts := ts) (R := R) (fl := fl) (by simpa using h1) (by simpa using h2) fun k t r a e1 e2 e3 => h4 (k + 1) t r a (by simpa using e1) (by simpa using e2) (by simpa using e3)
    show netT t q S + netR ts fl S = cutT t r S + cutR ts R S
    rw [ih, h4 0 t r q rfl rfl rfl]
/-- rooms with what is taken at nought -/
def zer (R : List Rat) (T : List Nat) : List Rat := R.mapIdx fun k r => if k ∈ T then 0 else r
theorem zer_at {R : List Rat} {T : List Nat} {k : Nat} {r : Rat} (h : (zer R T)[k]? = some r) : ∃ r0, R[k]? = some r0 ∧ r = if k ∈ T then 0 else r0 := by
  unfold zer at h
  rw [List.getElem?_mapIdx] at h
  cases e : R[k]? with
  | none => rw [e] at h; cases h
  | some r0 =>
    rw [e] at h
    exact ⟨r0, rfl, (Option.some.inj h).symm⟩
theorem zer_len (R : List Rat) (T : List Nat) : (zer R T).length = R.length := List.length_mapIdx
theorem zer_nn {R : List Rat} {T : List Nat} (h : ∀ r ∈ R, 0 ≤ r) : ∀ r ∈ zer R T, 0 ≤ r := fun r hr => by
  obtain ⟨k, hk⟩ := List.getElem?_of_mem hr
  obtain ⟨r0, e1, e2⟩ := zer_at hk
  rw [e2]
  split
  · exact Rat.le_refl
  · exact h r0 (List.mem_of_getElem? e1)
/-- the pipes at the start -/
def roomsZ (R : List Rat) : List Int := R.map fun r => r.num * ((lcmF R / r.den : Nat) : Int)
def zerZ (R : List Int) (T : List Nat) : List Int := T.foldl (fun R k => R.set k 0) R
def pd0 (W : Web) (R : List Rat) (T : List Nat) : PData := ⟨W, lcmF R, zerZ (roomsZ R) T, List.replicate R.length 0⟩
theorem zerZ_len : ∀ (T : List Nat) (R : List Int), (zerZ R T).length = R.length
  | [], _ => rfl
  | k :: r, R => by
    show (zerZ (R.set k 0) r).length = _
    rw [zerZ_len r, List.length_set]
theorem zerZ_at : ∀ (T : List Nat) (R : List Int) {k : Nat} {r : Int}, (zerZ R T)[k]? = some r → ∃ r0, R[k]? = some r0 ∧ r = if k ∈ T then 0 else r0
  | [], R, k, r, h => ⟨r, h, by simp⟩
  | j :: T, R, k, r, h => by
    obtain ⟨r0, e1, e2⟩ := zerZ_at T (R.set j 0) h
    by_cases hj : j = k
    · subst hj
      by_cases hl : j < R.length
      · rw [List.getElem?_set_self hl] at e1
        cases e1
        refine ⟨R[j], List.getElem?_eq_getElem hl, ?_⟩
        rw [e2, if_pos List.mem_cons_self]
        split <;> rfl
      · rw [List.getElem?_eq_none (by rw [List.length_set]; omega)] at e1
        cases e1
    · rw [List.getElem?_set_ne hj] at e1
      refine ⟨r0, e1, ?_⟩
      rw [e2]
      by_cases hk : k ∈ T
      · rw [if_pos hk, if_pos (List.mem_cons_of_mem _ hk)]
      · rw [if_neg hk, if_neg (fun z => (List.mem_cons.mp z).elim (fun e => hj e.symm) hk)]
theorem lcmF_pos {W : Web} {R : List Rat} (h : RoomsOk W R) : 0 < lcmF R := Nat.pos_of_dvd_of_pos (lcmF_dvd fun q hq => (h.bd q hq).den) (by decide)
theorem lcmF_le {W : Web} {R : List Rat} (h : RoomsOk W R) : lcmF R ≤ 1008 := Nat.le_of_dvd (by decide) (lcmF_dvd fun q hq => (h.bd q hq).den)
theorem pd0_at {W : Web} {R : List Rat} {T : List Nat} (h : RoomsOk W R) {k : Nat} {r : Int} (e : (pd0 W R T).R[k]? = some r) : 0 ≤ r ∧ ∃ r1, (zer R T)[k]? = some r1 ∧ mkRat r (lcmF R) = r1 ∧ Bd 100 r1 := by
  obtain ⟨r0, e1, e2⟩ := zerZ_at T (roomsZ R) e
  unfold roomsZ at e1
  rw [List.getElem?_map] at e1
  cases e3 : R[k]? with
  | none => rw [e3] at e1; cases e1
  | some q =>
    rw [e3] at e1
    have e1 : q.num * ((lcmF R / q.den : Nat) : Int) = r0 := Option.some.inj e1
    have hq := List.mem_of_getElem? e3
    have hz : (zer R T)[k]? = some (if k ∈ T then 0 else q) := by
      unfold zer
      rw [List.getElem?_mapIdx, e3] <;> rfl
    have n0 : 0 ≤ r0 := by
      rw [← e1]
      exact Int.mul_nonneg (Rat.num_nonneg.mpr (h.nn q hq)) (Int.natCast_nonneg _)
    refine ⟨?_, _, hz, ?_⟩
    · rw [e2]
      split
      · exact Int.le_refl _
      · exact n0
    · rw [e2]
      by_cases hk : k ∈ T
      · rw [if_pos hk, if_pos hk]
        exact ⟨Rat.zero_mkRat _, Bd.zero.mono (by omega)⟩
      · rw [if_neg hk, if_neg hk, ← e1]
        exact ⟨mkr_of (lcmF_pos h) (dvd_lcmF hq), h.bd q hq⟩
theorem goZ_zero (x : Str) : ∀ (ts : List Tie) (n : Nat), goZ ts (List.replicate n 0) x = 0
  | [], _ => rfl
  | _ :: _, 0 => rfl
  | t :: ts, n + 1 => by
    show cZ t 0 x + goZ ts (List.replicate n 0) x = 0
    rw [goZ_zero x ts n]
    unfold cZ
    split
    · rfl
    · split <;> rfl
theorem pd0_len {W : Web} {R : List Rat} {T : List Nat} (hW : WebOk W) (h : RoomsOk W R) : PLen (pd0 W R T) := by
  refine ⟨hW.tl, ?_, ?_⟩
  · show (zerZ (roomsZ R) T).length = W.ties.length
    rw [zerZ_len]
    unfold roomsZ
    rw [List.length_map]
    exact h.len
  · show (List.replicate R.length (0 : Int)).length = W.ties.length
    rw [List.length_replicate]
    exact h.len
theorem pd0_inv {W : Web} {R : List Rat} {T : List Nat} (hW : WebOk W) (h : RoomsOk W R) : PInv (pd0 W R T) where
  len := pd0_len hW h
  nn := fun r hr => by
    obtain ⟨k, hk⟩ := List.getElem?_of_mem hr
    exact (pd0_at h hk).1
  cap := fun k t r a _ e2 e3 => by
    have h0 := (pd0_at h e2).1
    have e3 : (List.replicate R.length (0 : Int))[k]? = some a := e3
    have ha : a = 0 := by
      have := List.mem_of_getElem? e3
      exact (List.mem_replicate.mp this).2
    subst ha
    refine ⟨h0, ?_⟩
    split <;> omega
  cons := fun x _ _ => goZ_zero x W.ties R.length
/-- the most that can flow -/
structure MostOk (W : Web) (R : List Rat) (T : List Nat) (fl : List Rat) (S : List Str) : Prop where
  flw : Flw W (zer R T) fl
  bd : ∀ q ∈ fl, Bd 100 q
  cut : amtR W fl = cutR W.ties (zer R T) (fun x => decide (x ∈ S))
  sd : Sd W (fun x => decide (x ∈ S))
  pl : ∀ x ∈ S, x ∈ W.places
theorem most_ok {W : Web} {R : List Rat} {T : List Nat} {A : List Int} {f : Fnd} (hW : WebOk W) (hR : RoomsOk W R) (hI : PInv (withA (pd0 W R T) A)) (hf : FoundOk (withA (pd0 W R T) A) f) (hla : W.last ∉ keysF f) : MostOk W R T (flowR (withA (pd0 W R T) A)) (W.places.filter fun x => decide (x ∈ keysF f)) := by
  have hb := lcmF_pos hR
  have hbd := lcmF_dvd (l := R) fun q hq => (hR.bd q hq).den
  have atA : ∀ {k : Nat} {q : Rat}, (flowR (withA (pd0 W R T) A))[k]? = some q → ∃ a, A[k]? = some a ∧ q = mkRat a (lcmF R) := fun {k q} h => by
    have h : (A.map fun a => mkRat a (lcmF R))[k]? = some q := h
    rw [List.getElem?_map] at h
    cases e : A[k]? with
    | none => rw [e] at h; cases h
    | some a =>
      rw [e] at h
      exact ⟨a, rfl, (Option.some.inj h).symm⟩
  have hRl : (zerZ (roomsZ R) T).length = W.ties.length := hI.len.r
  have hAl : A.length = W.ties.length := hI.len.a
  have atR : ∀ {k : Nat}, k < W.ties.length → ∃ r, (zerZ (roomsZ R) T)[k]? = some r := fun {k} hk => ⟨_, List.getElem?_eq_getElem (by omega)⟩
  have flw : Flw W (zer R T) (flowR (withA (pd0 W R T) A)) := by
    refine ⟨by rw [zer_len]; exact hR.len, ?_, zer_nn hR.nn, fun k t r q e1 e2 e3 => ?_, fun x h1 h2 => ?_⟩
    · show (A.map _).length = _
      rw [List.length_map]
      exact hAl
    · obtain ⟨a, ea, rfl⟩ := atA e3
      obtain ⟨rz, erz⟩ := atR (List.getElem?_eq_some_iff.mp e1).1
      obtain ⟨n0, r1, er1, em, _⟩ := pd0_at hR erz
      rw [e2] at er1
      cases er1
      obtain ⟨c1, c2⟩ := hI.cap k t rz a e1 erz ea
      refine ⟨by rw [← em]; exact mkr_le hb c1, ?_⟩
      by_cases hbt : t.both = true
      · rw [if_pos hbt] at c2 ⊢
        rw [← em, mkr_neg]
        exact mkr_le hb c2
      · rw [if_neg hbt] at c2 ⊢
        exact mkr_nn hb c2
    · show goRr W.ties (A.map fun a => mkRat a (lcmF R)) x = 0
      rw [goRr_mk hb, show goZ W.ties A x = 0 from hI.cons x h1 h2, Rat.zero_mkRat]
  have mS : ∀ {x : Str}, x ∈ W.places → decide (x ∈ W.places.filter fun x => decide (x ∈ keysF f)) = decide (x ∈ keysF f) := fun {x} hx => decide_eq_decide.mpr ⟨fun h => of_decide_eq_true (List.mem_filter.mp h).2, fun h => List.mem_filter.mpr ⟨hx, decide_eq_true h⟩⟩
  have sd : Sd W (fun x => decide (x ∈ W.places.filter fun x => decide (x ∈ keysF f))) := by
    refine ⟨?_, ?_⟩
    · show decide _ = true
      rw [mS hW.fi]
      exact decide_eq_true hf.first
    · show decide _ = false
      rw [mS hW.la]
      exact decide_eq_false hla
  refine ⟨flw, fun q hq => ?_, ?_, sd, fun x hx => (List.mem_filter.mp hx).1⟩
  · obtain ⟨k, hk⟩ := List.getElem?_of_mem hq
    obtain ⟨a, ea, rfl⟩ := atA hk
    have hkl : k < W.ties.length := by
      rw [← hAl]
      exact (List.getElem?_eq_some_iff.mp ea).1
    obtain ⟨rz, erz⟩ := atR hkl
    obtain ⟨n0, r1, er1, em, hbr⟩ := pd0_at hR erz
    obtain ⟨c1, c2⟩ := hI.cap k _ rz a (List.getElem?_eq_getElem hkl) erz ea
    refine mkr_bd hb hbd hbr em ?_
    split at c2 <;> omega
  · rw [amt_net hW flw sd]
    refine net_eq flw.rl flw.len fun k t r q e1 e2 e3 => ?_
    obtain ⟨a, ea, rfl⟩ := atA e3
    have hkl : k < W.ties.length := (List.getElem?_eq_some_iff.mp e1).1
    obtain ⟨rz, erz⟩ := atR hkl
    obtain ⟨n0, r1, er1, em, _⟩ := pd0_at hR erz
    rw [e2] at er1
    cases er1
    obtain ⟨c1, c2⟩ := hI.cap k t rz a e1 erz ea
    have c1 : a ≤ rz := c1
    have ht := hW.tk t (List.mem_of_getElem? e1)
    unfold netT cutT
    simp only [mS ht.one, mS ht.other]
    have cl := fun (y : Str) (hy : y ∈ keysF f) (hs : 0 < spareZ (withA (pd0 W R T) A) k y) => FoundOk.cl' hf hy hkl hs
    have spo := fun y => spare_at (pd := withA (pd0 W R T) A) (x := y) e1 erz ea
    have ovo := fun y => over_at (x := y) e1
    by_cases h1 : t.one ∈ keysF f <;> by_cases h2 : t.other ∈ keysF f
    · simp [h1, h2, Rat.sub_self]
    · have hs : ¬ 0 < spareZ (withA (pd0 W R T) A) k t.one := fun z => by
        have := cl t.one h1 z
        rw [show overZ (withA (pd0 W R T) A).W k t.one = t.other by rw [show (withA (pd0 W R T) A).W = W from rfl, ovo, if_pos rfl]] at this
        exact h2 this
      rw [spo, if_pos rfl] at hs
      have : a = rz := by omega
      subst this
      rw [em]
      simp [h1, h2, Rat.sub_eq_add_neg, Rat.add_zero]
    · have hs : ¬ 0 < spareZ (withA (pd0 W R T) A) k t.other := fun z => by
        have := cl t.other h2 z
        rw [show overZ (withA (pd0 W R T) A).W k t.other = t.one by rw [show (withA (pd0 W R T) A).W = W from rfl, ovo, if_neg (fun z => ht.ne z.symm)]] at this
        exact h1 this
      rw [spo, if_neg (fun z => ht.ne z.symm)] at hs
      by_cases hbt : t.both = true
      · rw [if_pos ⟨rfl, hbt⟩] at hs
        rw [if_pos hbt] at c2
        have : a = -rz := by omega
        subst this
        rw [← mkr_neg, em]
        simp [h1, h2, hbt, Rat.sub_eq_add_neg, Rat.zero_add, Rat.neg_neg]
      · rw [if_neg (fun z => hbt z.2), if_pos rfl] at hs
        rw [if_neg hbt] at c2
        have : a = 0 := by omega
        subst this
        rw [Rat.zero_mkRat]
        simp [h1, h2, hbt, Rat.sub_self]
    · simp [h1, h2, Rat.sub_self]
end Fc
namespace Fc
open PySem PySem.Spec PyProof.Rows L2 Sy
section
variable {P : Program} {w : World} {K : Fg} {mg : Str → Option Value} {base : Heap} {C : Addr}
variable {s : Option Addr} {mu : Addr → Prop} {G0 H0 G H : Hp} {gs : List Hp} {ds : List SC} {ms : List (Addr × MO)} {σ : L2.St} {D : Ends} {t tr : TA} {ta tb te ti to : TE} {tz : TS} {E : XK} {pd : PData} {dx p o2 d : Addr}
abbrev s_Pipes___init__ : Stmt := inClass (topS 50) 0
theorem sc_Pipes___init__ : FnScope ["self", "web", "rooms", "taken", "room", "k"] ["self", "web", "rooms", "taken"] (defScope s_Pipes___init__) := ⟨rfl, rfl, rfl, by decide +kernel, rfl, by decide +kernel, by decide +kernel⟩

theorem s_setI {i j : Nat} {xs : List Sy.D} {d : Sy.D} (ho : H0 p = none ∨ mu p) (A : At K s mu G0 H0 gs ds ms σ G H) (h : EvD K s te ds ms d) (ha : EvC K s to ds ms (.ref p)) (hj : EvD K s ti ds ms (.int (j : Int))) (hi : ms[i]? = some (p, .lst xs)) (hl : j < xs.length) (k : ∀ G' H', At K s mu G0 H0 gs ds (ms.set i (p, .lst (xs.set j d))) σ G' H' → D.nx σ H') :
    tAsg te (gSub to ti rSetL) D σ H := q_setI (D := D) (tz := fun D => D.nx) ho A h ha hj hi hl k
theorem s_fldN {i : Nat} {C dx : Addr} {fs : List (Str × SC)} {f : Str} {Φ : List Sy.D → Prop} {tv : TE} (ho : H0 p = none ∨ mu p) (A : At K s mu G0 H0 gs ds ms σ G H) (hc : Cls K C) (hn : NoAttr K C f) (hv : EvN K s tv ds ms Φ) (ha : ∀ ms, EvC K s ta ds ms (.ref p)) (hi : ms[i]? = some (p, .ins C dx fs)) (hz : fs.length < 1000) (k : ∀ q dl G' H', Φ dl → H0 q = none → At K s mu G0 H0 gs ds ((q, .lst dl) :: ms.set i (p, .ins C dx (putS f (.ref q) fs))) σ G' H' → D.nx σ H') : sFld K ta tv f D σ H := q_fldN (D := D) (tz := fun D => D.nx) ho A hc hn hv ha hi hz k
def spInit (K : Fg) (C : Addr) : Sp := fun vs H Q _ => ∃ (W : Web) (R : List Rat) (T : List Nat) (G : Hp) (dx x : Addr) (vr : List V), vs = .ref x :: vr ∧ Same G H ∧ G x = none ∧ H x = some (.ins C dx []) ∧ IsA K G vr [webD W, frL R, natD T] ∧ WebOk W ∧ RoomsOk W R ∧ (∀ k ∈ T, k < W.ties.length) ∧
  ∀ G' H' o2, Stp (fun c => c = x) G H G' H' → PipeOk K G' H' C dx x o2 (pd0 W R T) → H o2 = none → Q .non H'
def roD (b : Nat) : Sy.D → Sy.D
  | .tuple [.int n, .int m] => .int (n * (((b / m.toNat : Nat)) : Int))
  | _ => .none
theorem mulBig {i j : Int} (hi : i.natAbs < LN) (hj : j.natAbs < LN) : CMulW i j := mulW hi hj
theorem zerD : ∀ (T : List Nat) (R : List Int), intsD (zerZ R T) = T.foldl (fun (R : List Sy.D) k => R.set k (.int 0)) (intsD R)
  | [], _ => rfl
  | k :: r, R => by
    show intsD (zerZ (R.set k 0) r) = r.foldl _ ((intsD R).set k (.int 0))
    rw [zerD r (R.set k 0)]
    unfold intsD
    rw [List.map_set]
theorem fldFrz {G : Hp} {v : V} {xs : List V} {q : Addr} {dl : List Sy.D} (h : SlP K G (some v) (.ref q)) (hq : Is K G (.ref q) (.list dl)) : SlP K G (some v) (.dat (.list dl)) := by
  have e : some v = some (.ref q) := h
  cases e
  exact ⟨_, rfl, hq⟩
theorem ok_Pipes___init__ {f : Addr} {fd : FuncData} (F : Fun K "__init__" "Pipes.__init__" s_Pipes___init__ f fd) (B : Bl mg) (Z : PipeCls K C) (c_common_bottom : Cal P w K mg base "common_bottom" 2 ["some"] (spComm K)) : FnOk P w K mg base CX0 3 f fd ["self", "web", "rooms", "taken"] (spInit K C) := by
  refine F.ok sc_Pipes___init__ (fun vs H Q E h => ?_) (fun cdv A outer s H vs Q E hr h => ?_)
  · obtain ⟨W, R, T, G, dx, x, vr, rfl, _, _, _, hI, _⟩ := h
    rw [List.length_cons, hI.length]
    rfl
  · obtain ⟨W, R, T, G, dx, x, vr, rfl, hg, gx, hx, hI, hW, hR, hT, q⟩ := h
    have A0 : At K none (fun c => c = x) G H [] [.ref x, .dat (webD W), .dat (frL R), .dat (natD T), .no, .no] [(x, .ins C dx [])] (L2.start ["self", "web", "rooms", "taken", "room", "k"] (.ref x :: vr)) G H := by
      refine at_startM hg ?_ (fun r hr => ?_) (by simp)
      · unfold L2.start
        show Sl K G (some (.ref x) :: (vr.map some ++ List.replicate (5 + 1 - (vr.length + 1)) none)) _
        rw [hI.length]
        exact .cons rfl (sl_start 2 hI)
      · cases List.mem_singleton.mp hr
        exact ⟨⟨[], hx, .nil⟩, gx⟩
    refine ⟨_, (pss_cons (w_sfld (K := K) (pv 0) (pv 1) rfl)
      (pss_cons (w_sfld (K := K) (pv 0) (p_call c_common_bottom (hr.mono (by first | exact Nat.le_refl _ | omega)) (pa_cons (pv 2) pa_nil)) rfl)
      (pss_cons (w_sfld (K := K) (pv 0) (pe_lc (own := [("room", 4)]) (g := gName 4) (tt := tYes) rfl sc_Pipes___init__.nd (w_list (K := K) (pv 2)) (blkOk_by (own := [("room", 4)]) (N := ["self", "web", "rooms", "taken", "room", "k"]) (sc := defScope s_Pipes___init__) (by decide +kernel)) (fun _ _ _ _ _ => (pg_name (i := 4) sc_Pipes___init__.nd rfl (Or.inl rfl))) (fun _ _ _ _ _ => pts_nil) (fun _ _ _ _ _ => (pe_op o_mulW (pe_ix (w_ixT (K := K)) (pv 4) pe_int (fun _ _ => rfl)) (pe_op o_fdivW (w_fld (K := K) (pv 0) rfl) (pe_ix (w_ixT (K := K)) (pv 4) pe_int (fun _ _ => rfl)))))) rfl)
      (pss_cons (ps_for PassesOwn.never rfl (w_list (K := K) (pv 3)) (pg_name (i := 5) sc_Pipes___init__.nd rfl (Or.inl rfl)) (pss_one (ps_asg pe_int (pg_sub (w_fld (K := K) (pv 0) rfl) (pv 5) set_list))))
      (pss_one (w_sfld (K := K) (pv 0) (pe_op op_rep (pe_lst (pa_cons pe_int pa_nil)) (pe_callB (w_len (K := K)) (by rfl) B.len_ PySem.boot_len (pa_cons (pv 2) pa_nil))) rfl)))))), ?_⟩
    have hb := lcmF_pos hR
    have hble := lcmF_le hR
    have hlr := hR.len
    have htl := hW.tl
    have hLN : 1008 < LN := by decide +kernel
    refine q_fld (i := 0) (mu := fun c => c = x) (.inr rfl) A0 Z.cl Z.net (ev_var (i := 1) rfl) (ev_var rfl) rfl (Nat.le_of_ble_eq_true rfl) fun G1 H1 A1 => ?_
    have A1 : At K none (fun c => c = x) G H [] [.ref x, .dat (webD W), .dat (frL R), .dat (natD T), .no, .no] [(x, .ins C dx [("net", .dat (webD W))])] (L2.start ["self", "web", "rooms", "taken", "room", "k"] (.ref x :: vr)) G1 H1 := A1
    refine q_fld (i := 0) (mu := fun c => c = x) (.inr rfl) A1 Z.cl Z.bottom (ev_common_bottom (l := R) (el_cons (ev_var rfl) el_nil) fun q hq => (hR.bd q hq).den) (ev_var rfl) rfl (Nat.le_of_ble_eq_true rfl) fun G2 H2 A2 => ?_
    have A2 : At K none (fun c => c = x) G H [] [.ref x, .dat (webD W), .dat (frL R), .dat (natD T), .no, .no] [(x, .ins C dx [("net", .dat (webD W)), ("bottom", .dat (.int ((lcmF R : Nat) : Int)))])] (L2.start ["self", "web", "rooms", "taken", "room", "k"] (.ref x :: vr)) G2 H2 := A2
    refine q_fldN (i := 0) (mu := fun c => c = x) (.inr rfl) A2 Z.cl Z.rooms ((en_lcD (p := fun _ => true) (F := roD (lcmF R)) (it_list (es := R.map frD) (ev_var rfl)) trivial (fun i e he => tw_name) (fun i e he => et_yes) (fun i e he _ => ?_) (by rw [List.length_map]; omega)).imp fun dl h => h.trans (show _ = intsD (roomsZ R) from ?_)) (fun ms => ev_var rfl) rfl (Nat.le_of_ble_eq_true rfl) fun o1 dl G3 H3 hdl ho1 A3 => ?_
    · obtain ⟨r, hr, rfl⟩ := smap_get he
      have hs := (hR.bd r (List.mem_of_getElem? hr)).sz (by omega)
      have hdl : r.den ∣ lcmF R := dvd_lcmF (List.mem_of_getElem? hr)
      have e1 : (((lcmF R : Nat) : Int) / ((r.den : Nat) : Int)) = ((lcmF R / r.den : Nat) : Int) := (Int.natCast_ediv _ _).symm
      have hdle : lcmF R / r.den ≤ lcmF R := Nat.div_le_self _ _
      refine EvC.to (ev_mulW (i := r.num) (j := ((lcmF R / r.den : Nat) : Int)) (ev_ixT0 (xs := [.int r.num, .int (r.den : Nat)]) (ev_var rfl) rfl) (EvC.to (ev_fdivW (i := ((lcmF R : Nat) : Int)) (j := ((r.den : Nat) : Int)) (ev_fld (p := x) (ev_var rfl) Z.cl Z.bottom List.mem_cons_self rfl) (ev_ixT1 (xs := [.int r.num, .int (r.den : Nat)]) (ev_var rfl) rfl) (divW (by have := r.den_pos; omega) hs.d)) (by rw [e1])) (mulW hs.n (by rw [Int.natAbs_natCast]; omega))) ?_
      show SC.dat (.int _) = SC.dat (.int (r.num * ((lcmF R / ((r.den : Nat) : Int).toNat : Nat) : Int)))
      rw [Int.toNat_natCast]
    · rw [List.filter_eq_self.mpr (fun _ _ => rfl)]
      unfold intsD roomsZ
      rw [List.map_map, List.map_map]
      refine List.map_congr_left fun r hr => ?_
      show PyData.int (r.num * ((lcmF R / ((r.den : Nat) : Int).toNat : Nat) : Int)) = PyData.int (r.num * ((lcmF R / r.den : Nat) : Int))
      rw [Int.toNat_natCast]
    · subst hdl
      have A3 : At K none (fun c => c = x) G H [] [.ref x, .dat (webD W), .dat (frL R), .dat (natD T), .no, .no] [(o1, .lst (intsD (roomsZ R))), (x, .ins C dx [("net", .dat (webD W)), ("bottom", .dat (.int ((lcmF R : Nat) : Int))), ("rooms", .ref o1)])] (L2.start ["self", "web", "rooms", "taken", "room", "k"] (.ref x :: vr)) G3 H3 := A3
      have lenZ : ∀ i, (zerZ (roomsZ R) (T.take i)).length = W.ties.length := fun i => by
        rw [zerZ_len]
        unfold roomsZ
        rw [List.length_map]
        exact hlr
      refine q_for A3 (it_list (es := natsD T) (ev_var rfl)) (fun i e he => tg_name) (fun i ds ms => ∃ c, ds = [.ref x, .dat (webD W), .dat (frL R), .dat (natD T), .no, c] ∧ ms = [(o1, .lst (intsD (zerZ (roomsZ R) (T.take i)))), (x, .ins C dx [("net", .dat (webD W)), ("bottom", .dat (.int ((lcmF R : Nat) : Int))), ("rooms", .ref o1)])]) ⟨_, rfl, rfl⟩ (fun _ _ _ _ _ => trivial) (fun gs i e ds ms σ4 G4 H4 L he j A4 hL => ?_) fun ds ms σ4 G4 H4 j A4 => ?_
      · obtain ⟨c, rfl, rfl⟩ := j
        obtain ⟨k, hk, rfl⟩ := natsD_get he
        have hkl := hT k (List.mem_of_getElem? hk)
        refine s_setI (i := 0) (p := o1) (mu := fun c => c = x) (j := k) (d := .int 0) (.inl ho1) A4 ev_int (ev_fld (p := x) (ev_var rfl) Z.cl Z.rooms (List.mem_cons_of_mem _ List.mem_cons_self) rfl) (ev_var rfl) rfl (by unfold intsD; rw [List.length_map, lenZ]; exact hkl) fun G5 H5 A5 => ?_
        refine hL _ _ _ _ _ ⟨_, rfl, ?_⟩ A5
        rw [zerD, zerD, List.take_add_one, hk, List.foldl_append]
        rfl
      · obtain ⟨c, rfl, rfl⟩ := j
        rw [natsD_len, List.take_length] at A4
        refine s_fldN (i := 1) (mu := fun c => c = x) (.inr rfl) A4 Z.cl Z.amounts (en_rep (x := .int 0) (n := R.length) (el_cons ev_int el_nil) (EvC.to (ev_lenL (xs := R.map frD) (ev_var rfl)) (by rw [List.length_map])) (by omega)) (fun ms => ev_var rfl) rfl (Nat.le_of_ble_eq_true rfl) fun o2 dl G5 H5 hdl ho2 A5 => ?_
        subst hdl
        have A5 : At K none (fun c => c = x) G H [] [.ref x, .dat (webD W), .dat (frL R), .dat (natD T), .no, c] [(o2, .lst (List.replicate R.length (.int 0))), (o1, .lst (intsD (zerZ (roomsZ R) T))), (x, .ins C dx [("net", .dat (webD W)), ("bottom", .dat (.int ((lcmF R : Nat) : Int))), ("rooms", .ref o1), ("amounts", .ref o2)])] σ4 G5 H5 := A5
        have hnd := A5.kn.nd
        have hnd : [o2, o1, x].Nodup := hnd
        have n1 : o2 ≠ o1 := fun z => by subst z; simp at hnd
        have n2 : o2 ≠ x := fun z => by subst z; simp at hnd
        have n3 : o1 ≠ x := fun z => by subst z; simp at hnd
        obtain ⟨G6, A6, i6, _⟩ := A5.freeze (p := o1) (xs := intsD (zerZ (roomsZ R) T)) (List.mem_cons_of_mem _ List.mem_cons_self) ho1
        have mx : (x, MO.ins C dx [("net", .dat (webD W)), ("bottom", .dat (.int ((lcmF R : Nat) : Int))), ("rooms", .ref o1), ("amounts", .ref o2)]) ∈ List.filter (fun q : Addr × MO => decide (q.1 ≠ o1)) [(o2, .lst (List.replicate R.length (.int 0))), (o1, .lst (intsD (zerZ (roomsZ R) T))), (x, .ins C dx [("net", .dat (webD W)), ("bottom", .dat (.int ((lcmF R : Nat) : Int))), ("rooms", .ref o1), ("amounts", .ref o2)])] := List.mem_filter.mpr ⟨by simp, decide_eq_true fun z => n3 z.symm⟩
        have m2 : (o2, MO.lst (List.replicate R.length (.int 0))) ∈ List.filter (fun q : Addr × MO => decide (q.1 ≠ o1)) [(o2, .lst (List.replicate R.length (.int 0))), (o1, .lst (intsD (zerZ (roomsZ R) T))), (x, .ins C dx [("net", .dat (webD W)), ("bottom", .dat (.int ((lcmF R : Nat) : Int))), ("rooms", .ref o1), ("amounts", .ref o2)])] := List.mem_filter.mpr ⟨by simp, decide_eq_true n1⟩
        obtain ⟨⟨fv, ef, rf⟩, gx6, _⟩ := A6.kn.mo _ mx
        obtain ⟨lo, go6, _⟩ := A6.kn.mo _ m2
        refine q G6 H5 o2 A6.sp ⟨⟨fv, ef, ?_⟩, ?_, gx6, go6, fun z => n2 z.symm⟩ ho2
        · cases rf with
          | cons r1 rf => cases rf with
            | cons r2 rf => cases rf with
              | cons r3 rf => exact .cons r1 (.cons r2 (.cons ⟨r3.1, fldFrz (xs := []) r3.2 i6⟩ rf))
        · have e : intsD (pd0 W R T).A = List.replicate R.length (.int 0) := by
            show (List.replicate R.length (0 : Int)).map PyData.int = _
            rw [List.map_replicate]
          rw [e]
          exact lo
end
end Fc
namespace Sy
open PySem PySem.Spec PyProof.Rows L2
section
variable {K : Fg} {s : Option Addr} {mu : Addr → Prop} {G0 H0 G H G' H' : Hp} {gs : List Hp} {ds : List SC} {ms : List (Addr × MO)} {σ : L2.St}
/-- a new object that is not looked at -/
theorem At.alloc (A : At K s mu G0 H0 gs ds ms σ G H) {p : Addr} {o : HO} (hp : H p = none) : At K s mu G0 H0 gs ds ms σ G (upd H p o) := by
  have gp : G p = none := Same.free A.kn.gh hp
  have nes : ∀ a, isS s a → a ≠ p := fun a e z => by
    subst z
    obtain ⟨n, m, b, e1, _⟩ := A.kn.vo a e
    rw [hp] at e1
    cases e1
  have nem : ∀ q ∈ ms, q.1 ≠ p := fun q hq z => by
    obtain ⟨o', e'⟩ := (A.kn.mo q hq).1.has
    rw [z, hp] at e'
    cases e'
  refine ⟨⟨fun a u h => ?_, A.kn.sl, fun q hq => ?_, A.kn.nd, fun a e => ?_, A.kn.vg⟩, ⟨A.sp.gg, fun a u h => ?_, fun a u n h => ?_, A.sp.nw, fun a n => ?_⟩, A.sm, A.ke⟩
  · rw [upd_ne (ne_of_none h gp)]
    exact A.kn.gh a u h
  · obtain ⟨h1, h2, h3⟩ := A.kn.mo q hq
    exact ⟨MOk.mono h1 (Same.refl G) (fun o' e' => by rw [upd_ne (nem q hq)]; exact e'), h2, h3⟩
  · obtain ⟨n, m, b, e1, r⟩ := A.kn.vo a e
    exact ⟨n, m, b, by rw [upd_ne (nes a e)]; exact e1, r⟩
  · rw [upd_ne (ne_of_none h gp)]
    exact A.kn.gh a u h
  · have e1 := A.sp.hh a u n h
    rw [upd_ne (ne_of_none e1 hp)]
    exact e1
  · have e1 := A.sp.st a n
    by_cases z : a = p
    · subst z
      rw [upd_same]
      exact fun q => nomatch q
    · rw [upd_ne z]
      exact e1
theorem At.add {p : Addr} {m : MO} (A : At K s mu G0 H0 gs ds ms σ G H) (hm : MOk K G H p m) (gp : G p = none) (nm : ∀ q ∈ ms, q.1 ≠ p) (ns : ¬ isS s p) : At K s mu G0 H0 gs ds ((p, m) :: ms) σ G H := by
  refine ⟨⟨A.kn.gh, A.kn.sl, fun q hq => ?_, ?_, A.kn.vo, A.kn.vg⟩, A.sp, A.sm, A.ke⟩
  · rcases List.mem_cons.mp hq with rfl | hq
    · exact ⟨hm, gp, ns⟩
    · exact A.kn.mo q hq
  · rw [List.map_cons]
    refine List.nodup_cons.mpr ⟨fun hm' => ?_, A.kn.nd⟩
    obtain ⟨q, hq, e⟩ := List.mem_map.mp hm'
    exact nm q hq e
theorem At.fresh0 (A : At K s mu G0 H0 gs ds ms σ G H) {p : Addr} (hp : H p = none) : H0 p = none ∧ (∀ q ∈ ms, q.1 ≠ p) ∧ ¬ isS s p := by
  refine ⟨?_, fun q hq z => ?_, fun e' => ?_⟩
  · cases e0 : H0 p with
    | none => rfl
    | some z => exact absurd hp (A.sp.st p (by rw [e0]; exact fun q => nomatch q))
  · obtain ⟨o', e'⟩ := MOk.has (A.kn.mo q hq).1
    rw [z, hp] at e'
    cases e'
  · obtain ⟨n, m, b, e1, _⟩ := A.kn.vo p e'
    rw [hp] at e1
    cases e1
end
end Sy
namespace Fc
open PySem PySem.Spec PyProof.Rows L2 Sy
section
variable {P : Program} {w : World} {K : Fg} {mg : Str → Option Value} {base : Heap} {C : Addr}
variable {s : Option Addr} {mu : Addr → Prop} {G0 H0 G H : Hp} {gs : List Hp} {ds : List SC} {ms : List (Addr × MO)} {σ : L2.St} {D : Ends} {t tr : TA} {ta tb te ti to : TE} {tz : TS} {E : XK} {pd : PData} {dx p o2 d : Addr}
abbrev s_most_in : Stmt := topS 51
theorem sc_most_in : FnScope ["web", "rooms", "taken", "pipes", "side"] ["web", "rooms", "taken"] (defScope s_most_in) := ⟨rfl, rfl, rfl, by decide +kernel, rfl, by decide +kernel, by decide +kernel⟩

theorem q_makeP {i : Nat} {W : Web} {R : List Rat} {T : List Nat} (A : At K s mu G0 H0 gs ds ms σ G H) (h : EvL K s tr ds ms [webD W, frL R, natD T]) (hW : WebOk W) (hR : RoomsOk W R) (hT : ∀ k ∈ T, k < W.ties.length)
    (k : ∀ dx x o2 σ' G' H', H0 x = none → H0 o2 = none → x ≠ o2 → At K s mu G0 H0 gs (ds.set i (.ref x)) ((o2, .lst (intsD (pd0 W R T).A)) :: (x, .ins C dx (pipeFs (pd0 W R T) o2)) :: ms) σ' G' H' → tz D σ' H') : tSeq (tAsg (tMake C (spInit K C) [] E tr) (gName i)) tz D σ H :=
  h σ G H A.kn _ fun vs G1 H1 a1 o1 x1 x dx hx hdx hne => by
    have A1 := A.step a1 o1
    have A2 := A1.alloc (o := .own x) hdx
    have hx2 : upd H1 dx (.own x) x = none := by rw [upd_ne (fun z => hne z.symm)]; exact hx
    have A3 := A2.newM (o := .ins C dx []) (m := .ins C dx []) hx2 ⟨[], upd_same, .nil⟩
    have h0x := (A2.fresh0 hx2).1
    refine ⟨W, R, T, G1, dx, x, vs, by rw [List.append_nil], A3.kn.gh, (A3.kn.mo _ List.mem_cons_self).2.1, upd_same, x1, hW, hR, hT, fun G2 H2 o2 a2 hp ho => ⟨rfl, ?_⟩⟩
    have A4 := A3.eff (i := 0) (.inl h0x) rfl a2 hp.ins
    obtain ⟨f1, f2, f3⟩ := A3.fresh0 ho
    have A5 := A4.add (p := o2) hp.lst hp.go (fun q hq => by
      rcases List.mem_cons.mp (show q ∈ (x, _) :: ms from hq) with rfl | hq
      · exact hp.ne
      · exact f2 q (List.mem_cons_of_mem _ hq)) f3
    exact k dx x o2 _ G2 H2 h0x f1 hp.ne (A5.slot rfl)
theorem q_fill {i j : Nat} (ho : H0 o2 = none ∨ mu o2) (A : At K s mu G0 H0 gs ds ms σ G H) (h0 : EvC K s ta ds ms (.ref p)) (h1 : (p, MO.ins C dx (pipeFs pd o2)) ∈ ms) (h2 : ms[j]? = some (o2, MO.lst (intsD pd.A))) (hne : p ≠ o2) (hW : WebOk pd.W) (hI : PInv pd)
    (k : ∀ A' f σ' G' H', PInv (withA pd A') → FoundOk (withA pd A') f → pd.W.last ∉ keysF f → At K s mu G0 H0 gs (ds.set i (.dat (.list (strsD (pd.W.places.filter fun x => decide (x ∈ keysF f)))))) (ms.set j (o2, .lst (intsD A'))) σ' G' H' → tz D σ' H') : tSeq (tAsg (tMeth C "fill" (spFill K C) [] E ta tNil) (gName i)) tz D σ H :=
  h0 σ G H A.kn _ fun v0 G1 H1 a1 o1 x1 => by
    have A1 := A.step a1 o1
    obtain ⟨fv, e1, r⟩ := A1.kn.get h1
    cases x1.ref
    refine ⟨p, dx, fv, rfl, e1, flook_none r rfl, pd, G1, dx, p, o2, rfl, A1.kn.gh, Kn.pipe (k := A1.kn) h1 (List.mem_of_getElem? h2) hne, hW, hI, fun v G2 H2 A' f a2 hp hi hf hla hv => ?_⟩
    exact k A' f _ G2 H2 hi hf hla ((A1.eff ho h2 a2 hp.lst).slot (CP.dat hv))
theorem ev_flow (h0 : EvC K s ta ds ms (.ref p)) (h1 : (p, MO.ins C dx (pipeFs pd o2)) ∈ ms) (h2 : (o2, MO.lst (intsD pd.A)) ∈ ms) (hne : p ≠ o2) (hb : 0 < pd.b) (hb2 : pd.b < LN2) (hl : PLen pd) : EvD K s (tMeth C "flow" (spFlow K C) [] E ta tNil) ds ms (frL (flowR pd)) :=
  evd_methP (pw := fun pd : PData => pd) (enc := fun _ => []) (a := pd) h0 h1 h2 hne el_nil ⟨hb, hb2, hl⟩ fun x e => e
def spMostIn (K : Fg) : Sp := SpD K (fun a : Web × List Rat × List Nat => [webD a.1, frL a.2.1, natD a.2.2]) (fun a => WebOk a.1 ∧ RoomsOk a.1 a.2.1 ∧ ∀ k ∈ a.2.2, k < a.1.ties.length) (fun a d => ∃ fl S, d = .tuple [frL fl, .list (strsD S)] ∧ MostOk a.1 a.2.1 a.2.2 fl S)
theorem ok_most_in {f : Addr} {fd : FuncData} (F : Fun K "most_in" "most_in" s_most_in f fd) (c_Pipes : CalC P w K mg base "Pipes" C 3 ["self", "web", "rooms", "taken"] (spInit K C)) (c_Pipes_fill : CalM P w K mg base C "fill" 3 ["self"] (spFill K C)) (c_Pipes_flow : CalM P w K mg base C "flow" 3 ["self"] (spFlow K C)) : FnOk P w K mg base CX0 5 f fd ["web", "rooms", "taken"] (spMostIn K) := by
  refine F.ok sc_most_in (fun vs H Q E h => ?_) (fun cdv A outer s H vs Q E hr h => ?_)
  · obtain ⟨a, G, hg, hI, hp, q⟩ := h
    exact hI.length
  · obtain ⟨⟨W, R, T⟩, G, hg, hI, ⟨hW, hR, hT⟩, q⟩ := h
    have hW : WebOk W := hW
    have hR : RoomsOk W R := hR
    have A0 := at_start (K := K) (N := ["web", "rooms", "taken", "pipes", "side"]) (ds := [.dat (webD W), .dat (frL R), .dat (natD T), .no, .no]) hg hI
    refine ⟨_, (pss_cons (ps_set (i := 3) sc_most_in.nd rfl (Or.inl rfl) (p_make c_Pipes (hr.mono (by first | exact Nat.le_refl _ | omega)) (pa_cons (pv 0) (pa_cons (pv 1) (pa_cons (pv 2) pa_nil)))))
      (pss_cons (ps_set (i := 4) sc_most_in.nd rfl (Or.inl rfl) (p_meth0 c_Pipes_fill (hr.mono (by first | exact Nat.le_refl _ | omega)) (pv 3)))
      (pss_one (ps_ret (pe_tup (pa_cons (p_meth0 c_Pipes_flow (hr.mono (by first | exact Nat.le_refl _ | omega)) (pv 3)) (pa_cons (pv 4) pa_nil))))))), ?_⟩
    refine q_makeP (W := W) (R := R) (T := T) A0 (el_cons (ev_var rfl) (el_cons (ev_var rfl) (el_cons (ev_var rfl) el_nil))) hW hR hT fun dx x o2 σ1 G1 H1 hx0 ho0 hne A1 => ?_
    have hle := lcmF_le hR
    have hLN : 1008 < LN2 := by decide +kernel
    refine q_fill (pd := pd0 W R T) (j := 0) (.inl ho0) A1 (ev_var rfl) (List.mem_cons_of_mem _ List.mem_cons_self) rfl hne hW (pd0_inv hW hR) fun A' f σ2 G2 H2 hI2 hf hla A2 => ?_
    have hmo := most_ok hW hR hI2 hf hla
    exact s_retD A2 (ev_tup (dl := [frL (flowR (withA (pd0 W R T) A')), .list (strsD (W.places.filter fun x => decide (x ∈ keysF f)))]) (el_cons (ev_flow (pd := withA (pd0 W R T) A') (p := x) (o2 := o2) (dx := dx) (ev_var rfl) (List.mem_cons_of_mem _ List.mem_cons_self) List.mem_cons_self hne (lcmF_pos hR) (Nat.lt_of_le_of_lt hle hLN) hI2.len) (el_cons (ev_var rfl) el_nil))) fun v G' H' st iv => q v G' H' _ st iv ⟨_, _, rfl, hmo⟩
theorem evr_most_in {W : Web} {R : List Rat} {T : List Nat} (h : EvL K s t ds ms [webD W, frL R, natD T]) (hW : WebOk W) (hR : RoomsOk W R) (hT : ∀ k ∈ T, k < W.ties.length) : EvR K s (tCall (spMostIn K) [] E t) ds ms (fun d => ∃ fl S, d = .tuple [frL fl, .list (strsD S)] ∧ MostOk W R T fl S) := evr_call (a := (W, R, T)) (post := fun (a : Web × List Rat × List Nat) d => ∃ fl S, d = .tuple [frL fl, .list (strsD S)] ∧ MostOk a.1 a.2.1 a.2.2 fl S) h ⟨hW, hR, hT⟩
abbrev s_most_flow : Stmt := topS 52
theorem sc_most_flow : FnScope ["web", "rooms", "taking"] ["web", "rooms", "taking"] (defScope s_most_flow) := ⟨rfl, rfl, rfl, by decide +kernel, rfl, by decide +kernel, by decide +kernel⟩

theorem TakOk.lt {W : Web} {T : List Nat} (h : TakOk W T) : ∀ k ∈ T, k < W.ties.length := fun k hk => by
  obtain ⟨t, q, e, _⟩ := h.tie k hk
  exact (List.getElem?_eq_some_iff.mp e).1
def spMostFlow (K : Fg) : Sp := SpD K (fun a : Web × List Rat × List Nat => [webD a.1, frL a.2.1, natD a.2.2]) (fun a => WebOk a.1 ∧ RoomsOk a.1 a.2.1 ∧ TakOk a.1 a.2.2 ∧ a.2.2.length ≤ 1000) (fun a d => ∃ fl S, d = .tuple [frL fl, .list (strsD S)] ∧ MostOk a.1 a.2.1 a.2.2 fl S)
theorem ok_most_flow {f : Addr} {fd : FuncData} (F : Fun K "most_flow" "most_flow" s_most_flow f fd) (c_look_at_web : Cal P w K mg base "look_at_web" 6 ["thing"] (spLWeb K)) (c_look_at_rooms : Cal P w K mg base "look_at_rooms" 5 ["web", "thing"] (spLRooms K)) (c_look_at_taking : Cal P w K mg base "look_at_taking" 7 ["web", "thing"] (spLTaking K)) (c_most_in : Cal P w K mg base "most_in" 5 ["web", "rooms", "taken"] (spMostIn K)) : FnOk P w K mg base CX0 8 f fd ["web", "rooms", "taking"] (spMostFlow K) := by
  refine F.ok sc_most_flow (fun vs H Q E h => ?_) (fun cdv A outer s H vs Q E hr h => ?_)
  · obtain ⟨a, G, hg, hI, hp, q⟩ := h
    exact hI.length
  · obtain ⟨⟨W, R, T⟩, G, hg, hI, ⟨hW, hR, hT, hz⟩, q⟩ := h
    have hW : WebOk W := hW
    have hR : RoomsOk W R := hR
    have hT : TakOk W T := hT
    have A0 := at_start (K := K) (N := ["web", "rooms", "taking"]) (ds := [.dat (webD W), .dat (frL R), .dat (natD T)]) hg hI
    refine ⟨_, (pss_cons (ps_expr (p_call c_look_at_web (hr.mono (by first | exact Nat.le_refl _ | omega)) (pa_cons (pv 0) pa_nil)))
      (pss_cons (ps_expr (p_call c_look_at_rooms (hr.mono (by first | exact Nat.le_refl _ | omega)) (pa_cons (pv 0) (pa_cons (pv 1) pa_nil))))
      (pss_cons (ps_expr (p_call c_look_at_taking (hr.mono (by first | exact Nat.le_refl _ | omega)) (pa_cons (pv 0) (pa_cons (pv 2) pa_nil))))
      (pss_one (ps_ret (p_call c_most_in (hr.mono (by first | exact Nat.le_refl _ | omega)) (pa_cons (pv 0) (pa_cons (pv 1) (pa_cons (pv 2) pa_nil))))))))), ?_⟩
    refine q_drop A0 (ev_look_at_web (el_cons (ev_var rfl) el_nil) hW) fun G1 H1 A1 => ?_
    refine q_drop A1 (ev_look_at_rooms (W := W) (R := R) (el_cons (ev_var rfl) (el_cons (ev_var rfl) el_nil)) hR) fun G2 H2 A2 => ?_
    refine q_drop A2 (ev_look_at_taking (W := W) (T := T) (el_cons (ev_var rfl) (el_cons (ev_var rfl) el_nil)) hW hT hz) fun G3 H3 A3 => ?_
    exact s_retR A3 (evr_most_in (W := W) (R := R) (T := T) (el_cons (ev_var rfl) (el_cons (ev_var rfl) (el_cons (ev_var rfl) el_nil))) hW hR hT.lt) fun v G' H' d st so iv hd => q v G' H' d st iv hd
theorem evr_most_flow {W : Web} {R : List Rat} {T : List Nat} (h : EvL K s t ds ms [webD W, frL R, natD T]) (hW : WebOk W) (hR : RoomsOk W R) (hT : TakOk W T) (hz : T.length ≤ 1000) : EvR K s (tCall (spMostFlow K) [] E t) ds ms (fun d => ∃ fl S, d = .tuple [frL fl, .list (strsD S)] ∧ MostOk W R T fl S) := evr_call (a := (W, R, T)) (post := fun (a : Web × List Rat × List Nat) d => ∃ fl S, d = .tuple [frL fl, .list (strsD S)] ∧ MostOk a.1 a.2.1 a.2.2 fl S) h ⟨hW, hR, hT, hz⟩
end
end Fc
/-! Takings within a purse, how many at once, the search's step. -/
namespace Fc
open PySem L2 Sy
theorem sumR_perm {l m : List Rat} (h : l.Perm m) : sumR l = sumR m := by
  induction h with
  | nil => rfl
  | cons x _ ih => rw [sumR_cons, sumR_cons, ih]
  | swap x y l =>
    rw [sumR_cons, sumR_cons, sumR_cons, sumR_cons]
    grind
  | trans _ _ i1 i2 => exact i1.trans i2
theorem sumR_nn {l : List Rat} (h : ∀ q ∈ l, 0 ≤ q) : 0 ≤ sumR l := by
  induction l with
  | nil => exact Rat.le_refl
  | cons x r ih =>
    rw [sumR_cons]
    have h1 := h x List.mem_cons_self
    have h2 := ih fun q hq => h q (List.mem_cons_of_mem _ hq)
    grind
theorem sum_sub (f : Nat → Rat) : ∀ {A B : List Nat}, A.Nodup → (∀ k ∈ A, k ∈ B) → (∀ k ∈ B, 0 ≤ f k) → sumR (A.map f) ≤ sumR (B.map f)
  | [], B, _, _, h => sumR_nn fun q hq => by
    obtain ⟨k, hk, rfl⟩ := List.mem_map.mp hq
    exact h k hk
  | a :: A, B, nd, hs, h => by
    obtain ⟨n1, n2⟩ := List.nodup_cons.mp nd
    have hb := hs a List.mem_cons_self
    have p : (B.map f).Perm ((a :: B.erase a).map f) := (List.perm_cons_erase hb).map f
    have ih := sum_sub f (A := A) (B := B.erase a) n2 (fun k hk => (List.mem_erase_of_ne (fun z : k = a => n1 (z ▸ hk))).mpr (hs k (List.mem_cons_of_mem _ hk))) fun k hk => h k (List.mem_of_mem_erase hk)
    rw [sumR_perm p, List.map_cons, List.map_cons, sumR_cons, sumR_cons]
    grind
/-! how many at once -/
def SubC (A l : List Rat) : Prop := ∀ x, A.count x ≤ l.count x
theorem once_ge (p : Rat) : ∀ (n : Nat) (l : List Rat) (sp : Rat) (m : Nat), m ≤ atOnceL p n l sp m
  | 0, _, _, m => Nat.le_refl m
  | n + 1, l, sp, m => by
    show m ≤ if p < sp + leastR l then m else atOnceL p n (l.erase (leastR l)) (sp + leastR l) (m + 1)
    split
    · exact Nat.le_refl m
    · have := once_ge p n (l.erase (leastR l)) (sp + leastR l) (m + 1)
      omega
theorem SubC.nil {A : List Rat} (h : SubC A []) : A = [] := by
  cases A with
  | nil => rfl
  | cons a r =>
    have := h a
    rw [List.count_cons_self, List.count_nil] at this
    omega
theorem SubC.mem {A l : List Rat} (h : SubC A l) {x : Rat} (hx : x ∈ A) : x ∈ l := List.count_pos_iff.mp (Nat.lt_of_lt_of_le (List.count_pos_iff.mpr hx) (h x))
theorem sumR_erase {l : List Rat} {x : Rat} (h : x ∈ l) : sumR l = x + sumR (l.erase x) := by
  rw [sumR_perm (List.perm_cons_erase h), sumR_cons]
theorem once_max {p : Rat} : ∀ (n : Nat) (l A : List Rat) (sp : Rat) (m : Nat), l.length = n → (∀ q ∈ l, 0 < q) → SubC A l → sp + sumR A ≤ p → m + A.length ≤ atOnceL p n l sp m
  | 0, l, A, sp, m, hn, _, hs, _ => by
    have : l = [] := List.length_eq_zero_iff.mp hn
    subst this
    rw [hs.nil]
    exact Nat.le_refl m
  | n + 1, l, [], sp, m, _, _, _, _ => once_ge p (n + 1) l sp m
  | n + 1, l, a :: A, sp, m, hn, hp, hs, hsum => by
    have hl : l ≠ [] := fun z => by rw [z] at hn; cases hn
    have hm := leastR_mem hl
    have hle := leastR_le (l := l)
    have ha := hs.mem List.mem_cons_self
    have la := hle a ha
    rw [sumR_cons] at hsum
    have hA : 0 ≤ sumR A := sumR_nn fun q hq => Rat.le_of_lt (hp q (hs.mem (List.mem_cons_of_mem _ hq)))
    show m + (a :: A).length ≤ if p < sp + leastR l then m else atOnceL p n (l.erase (leastR l)) (sp + leastR l) (m + 1)
    rw [if_neg (by grind)]
    have hn' : (l.erase (leastR l)).length = n := by
      rw [List.length_erase_of_mem hm, hn]
      rfl
    have hp' : ∀ q ∈ l.erase (leastR l), 0 < q := fun q hq => hp q (List.mem_of_mem_erase hq)
    by_cases hc : leastR l ∈ a :: A
    · have h1 := once_max (p := p) n (l.erase (leastR l)) ((a :: A).erase (leastR l)) (sp + leastR l) (m + 1) hn' hp' (fun x => by
        rw [List.count_erase, List.count_erase]
        have := hs x
        omega) (by
        have := sumR_erase hc
        rw [sumR_cons] at this
        grind)
      rw [List.length_erase_of_mem hc, List.length_cons] at h1
      rw [List.length_cons]
      omega
    · have h1 := once_max (p := p) n (l.erase (leastR l)) A (sp + leastR l) (m + 1) hn' hp' (fun x => by
        rw [List.count_erase]
        by_cases e : leastR l = x
        · subst e
          have : List.count (leastR l) A = 0 := List.count_eq_zero.mpr fun z => hc (List.mem_cons_of_mem _ z)
          omega
        · have h1 := hs x
          have h2 : List.count x A ≤ List.count x (a :: A) := by rw [List.count_cons]; omega
          have h3 : (leastR l == x) = false := by simpa using e
          rw [h3]
          simp only [Bool.false_eq_true, if_false]
          omega) (by grind)
      rw [List.length_cons]
      omega
theorem once_ach {p : Rat} : ∀ (n : Nat) (l : List Rat) (sp : Rat) (m : Nat), l.length = n → sp ≤ p → ∃ A, SubC A l ∧ sp + sumR A ≤ p ∧ m + A.length = atOnceL p n l sp m
  | 0, l, sp, m, _, h => ⟨[], fun x => Nat.zero_le _, by rw [sumR_nil, Rat.add_zero]; exact h, rfl⟩
  | n + 1, l, sp, m, hn, h => by
    have hl : l ≠ [] := fun z => by rw [z] at hn; cases hn
    have hm := leastR_mem hl
    have hn' : (l.erase (leastR l)).length = n := by
      rw [List.length_erase_of_mem hm, hn]
      rfl
    by_cases hc : p < sp + leastR l
    · refine ⟨[], fun x => Nat.zero_le _, by rw [sumR_nil, Rat.add_zero]; exact h, ?_⟩
      show m + 0 = if p < sp + leastR l then m else _
      rw [if_pos hc]
      rfl
    · obtain ⟨A, a1, a2, a3⟩ := once_ach (p := p) n (l.erase (leastR l)) (sp + leastR l) (m + 1) hn' (Rat.not_lt.mp hc)
      refine ⟨leastR l :: A, fun x => ?_, ?_, ?_⟩
      · have := a1 x
        rw [List.count_erase] at this
        rw [List.count_cons]
        by_cases e : leastR l = x
        · subst e
          have h1 := List.count_pos_iff.mpr hm
          simp only [beq_self_eq_true, if_true] at this ⊢
          omega
        · have h3 : (leastR l == x) = false := by simpa using e
          rw [h3] at this ⊢
          simp only [Bool.false_eq_true, if_false] at this ⊢
          omega
      · rw [sumR_cons]
        grind
      · show m + (A.length + 1) = if p < sp + leastR l then m else atOnceL p n (l.erase (leastR l)) (sp + leastR l) (m + 1)
        rw [if_neg hc, ← a3]
        omega
theorem worths_range : ∀ ts : List Tie, (List.range ts.length).filterMap (fun k => (ts[k]?).bind Tie.worth) = ts.filterMap Tie.worth
  | [] => rfl
  | t :: ts => by
    rw [List.length_cons, List.range_succ_eq_map, List.filterMap_cons, List.filterMap_cons, List.filterMap_map]
    have ih := worths_range ts
    have e : List.filterMap ((fun k => ((t :: ts)[k]?).bind Tie.worth) ∘ Nat.succ) (List.range ts.length) = ts.filterMap Tie.worth := by
      rw [← ih]
      rfl
    rw [e]
    rfl
theorem count_map_sub (f : Nat → Rat) (x : Rat) : ∀ {A B : List Nat}, A.Nodup → (∀ k ∈ A, k ∈ B) → (A.map f).count x ≤ (B.map f).count x
  | [], B, _, _ => Nat.zero_le _
  | a :: A, B, nd, hs => by
    obtain ⟨n1, n2⟩ := List.nodup_cons.mp nd
    have hb := hs a List.mem_cons_self
    have p : (B.map f).Perm ((a :: B.erase a).map f) := (List.perm_cons_erase hb).map f
    have ih := count_map_sub f x (A := A) (B := B.erase a) n2 (fun k hk => (List.mem_erase_of_ne (fun z : k = a => n1 (z ▸ hk))).mpr (hs k (List.mem_cons_of_mem _ hk)))
    rw [p.count_eq, List.map_cons, List.map_cons, List.count_cons, List.count_cons]
    omega
theorem Tk.sub {W : Web} {T : List Nat} (h : Tk W T) (nd : T.Nodup) : SubC (T.map (wOf W)) (worths W) := fun x => by
  have e : worths W = ((List.range W.ties.length).filter fun k => ((W.ties[k]?).bind Tie.worth).isSome).map (wOf W) := by
    unfold worths
    rw [← worths_range]
    induction List.range W.ties.length with
    | nil => rfl
    | cons k r ih =>
      rw [List.filterMap_cons, List.filter_cons]
      cases e : (W.ties[k]?).bind Tie.worth with
      | none => exact ih
      | some q =>
        have : wOf W k = q := by
          unfold wOf
          rw [e] <;> rfl
        show q :: _ = (k :: _).map (wOf W)
        rw [List.map_cons, this, ih]
  rw [e]
  refine count_map_sub _ _ nd fun k hk => ?_
  obtain ⟨t, q, e1, e2⟩ := h k hk
  refine List.mem_filter.mpr ⟨List.mem_range.mpr (List.getElem?_eq_some_iff.mp e1).1, ?_⟩
  rw [e1]
  show (t.worth).isSome = true
  rw [e2] <;> rfl
theorem worths_pos {W : Web} (h : WB W) : ∀ q ∈ worths W, 0 < q := fun q hq => by
  obtain ⟨t, ht, e⟩ := List.mem_filterMap.mp hq
  exact (h.2 t ht q e).2
theorem len_once {W : Web} {T : List Nat} {p : Rat} (hW : WB W) (h : Tk W T) (nd : T.Nodup) (hp : worthOf W T ≤ p) : T.length ≤ atOnce W p := by
  have := once_max (p := p) (worths W).length (worths W) (T.map (wOf W)) 0 0 rfl (worths_pos hW) (h.sub nd) (by rw [Rat.zero_add]; exact hp)
  rw [List.length_map, Nat.zero_add] at this
  exact this
/-! takings that go on from one -/
structure Fit (W : Web) (p : Rat) (T taken kept : List Nat) : Prop where
  tk : Tk W T
  nd : T.Nodup
  wo : worthOf W T ≤ p
  up : ∀ k ∈ taken, k ∈ T
  no : ∀ k ∈ T, k ∉ kept
theorem wOf_nn {W : Web} (hW : WB W) {T : List Nat} (h : Tk W T) : ∀ k ∈ T, 0 ≤ wOf W k := fun k hk => by
  obtain ⟨t, q, e1, e2⟩ := h k hk
  rw [wOf_at e1 e2]
  exact Rat.le_of_lt (hW.2 t (List.mem_of_getElem? e1) q e2).2
theorem Fit.next {W : Web} {p : Rat} {T taken kept : List Nat} (h : Fit W p T taken kept) {k : Nat} {a : List Nat} (hk : k ∈ T) (ha : ∀ j ∈ a, j ∉ T) : Fit W p T (taken ++ [k]) (kept ++ a) :=
  ⟨h.tk, h.nd, h.wo, fun j hj => by
    rcases List.mem_append.mp hj with hj | hj
    · exact h.up j hj
    · cases List.mem_singleton.mp hj
      exact hk, fun j hj hj2 => by
    rcases List.mem_append.mp hj2 with hj2 | hj2
    · exact h.no j hj hj2
    · exact ha j hj2 hj⟩
theorem first_in {L T : List Nat} (h : ∃ k ∈ L, k ∈ T) : ∃ (j k : Nat), L[j]? = some k ∧ k ∈ T ∧ ∀ i ∈ L.take j, i ∉ T := by
  induction L with
  | nil =>
    obtain ⟨k, hk, _⟩ := h
    cases hk
  | cons a r ih =>
    by_cases ha : a ∈ T
    · exact ⟨0, a, rfl, ha, fun i hi => absurd hi (by simp)⟩
    · obtain ⟨k, hk, hk2⟩ := h
      rcases List.mem_cons.mp hk with rfl | hk
      · exact absurd hk2 ha
      · obtain ⟨j, k, h1, h2, h3⟩ := ih ⟨k, hk, hk2⟩
        refine ⟨j + 1, k, h1, h2, fun i hi => ?_⟩
        rw [List.take_succ_cons] at hi
        rcases List.mem_cons.mp hi with rfl | hi
        · exact ha
        · exact h3 i hi
theorem snoc_nd {T : List Nat} {k : Nat} (nd : T.Nodup) (h : k ∉ T) : (T ++ [k]).Nodup := nd_snoc nd h
/-- a tie asked for of a taking that goes on -/
theorem Fit.ask {W : Web} {p : Rat} {T taken kept : List Nat} (hW : WB W) (h : Fit W p T taken kept) (nd : taken.Nodup) {k : Nat} (hk : k ∈ T) (h2 : k ∉ taken) : askb W p taken kept k = true := by
  obtain ⟨t, q, e1, e2⟩ := h.tk k hk
  have hw : worthOf W (taken ++ [k]) ≤ p := by
    refine Rat.le_trans ?_ h.wo
    refine sum_sub (wOf W) (snoc_nd nd h2) (fun j hj => ?_) (wOf_nn hW h.tk)
    rcases List.mem_append.mp hj with hj | hj
    · exact h.up j hj
    · cases List.mem_singleton.mp hj
      exact hk
  unfold askb
  rw [e1]
  show ((t.worth).isSome && _) = true
  rw [e2, decide_eq_false h2, decide_eq_false (h.no k hk), decide_eq_false (Rat.not_lt.mpr hw)]
  rfl
theorem askb_iff {W : Web} {p : Rat} {taken kept : List Nat} {k : Nat} (h : askb W p taken kept k = true) : (∃ t q, W.ties[k]? = some t ∧ t.worth = some q) ∧ k ∉ taken ∧ worthOf W (taken ++ [k]) ≤ p := by
  unfold askb at h
  simp only [Bool.and_eq_true, Bool.not_eq_true', decide_eq_false_iff_not] at h
  obtain ⟨h1, h2, h3, h4⟩ := h
  refine ⟨?_, h2, Rat.not_lt.mp h4⟩
  cases e : W.ties[k]? with
  | none => rw [e] at h1; cases h1
  | some t =>
    rw [e] at h1
    have h1 : (t.worth).isSome = true := h1
    cases e2 : t.worth with
    | none => rw [e2] at h1; cases h1
    | some q => exact ⟨t, q, rfl, e2⟩
def room (W : Web) (R : List Rat) (T : List Nat) (S : Str → Bool) : Rat := cutR W.ties (zer R T) S
/-- the ties with a flow -/
def usedR (fl : List Rat) : List Nat := (List.range fl.length).filter fun k => !decide (fl.getD k 0 = 0)
theorem zer_mem {R : List Rat} {T U : List Nat} (h : ∀ k, k ∈ T ↔ k ∈ U) : zer R T = zer R U := by
  unfold zer
  congr 1
  funext k r
  by_cases hk : k ∈ T
  · rw [if_pos hk, if_pos ((h k).mp hk)]
  · rw [if_neg hk, if_neg (fun z => hk ((h k).mpr z))]
/-- a flow for what is taken is one for a greater taking that it leaves alone -/
theorem flow_up {W : Web} {R fl : List Rat} {taken T : List Nat} (h : Flw W (zer R taken) fl) (hup : ∀ k ∈ taken, k ∈ T) (hz : ∀ k ∈ T, k ∉ taken → fl.getD k 0 = 0) (hR : ∀ r ∈ R, 0 ≤ r) : Flw W (zer R T) fl where
  rl := by
    have := h.rl
    rw [zer_len] at this ⊢
    exact this
  len := h.len
  nn := zer_nn hR
  cons := h.cons
  cap := fun k t r q e1 e2 e3 => by
    obtain ⟨r0, e4, e5⟩ := zer_at e2
    have e6 : (zer R taken)[k]? = some (if k ∈ taken then 0 else r0) := by
      unfold zer
      rw [List.getElem?_mapIdx, e4] <;> rfl
    obtain ⟨c1, c2⟩ := h.cap k t _ q e1 e6 e3
    by_cases hk : k ∈ taken
    · rw [if_pos hk] at c1 c2
      rw [if_pos (hup k hk)] at e5
      subst e5
      exact ⟨c1, c2⟩
    · rw [if_neg hk] at c1 c2
      by_cases hT : k ∈ T
      · rw [if_pos hT] at e5
        subst e5
        have := hz k hT hk
        rw [List.getD_eq_getElem?_getD, e3] at this
        have : q = 0 := this
        subst this
        refine ⟨Rat.le_refl, ?_⟩
        split <;> grind
      · rw [if_neg hT] at e5
        subst e5
        exact ⟨c1, c2⟩
theorem cover_step {W : Web} {R fl : List Rat} {p : Rat} {taken kept : List Nat} {Cov : List Nat → Prop} (hW : WebOk W) (hR : ∀ r ∈ R, 0 ≤ r) (nd : taken.Nodup) (hf : Flw W (zer R taken) fl)
    (hc : ∀ j k, (askL W p (usedR fl) taken kept)[j]? = some k → ∀ T, Fit W p T (taken ++ [k]) (kept ++ (askL W p (usedR fl) taken kept).take j) → Cov T) (T : List Nat) (hT : Fit W p T taken kept) : (∀ S, Sd W S → amtR W fl ≤ room W R T S) ∨ Cov T := by
  by_cases h : ∃ k ∈ askL W p (usedR fl) taken kept, k ∈ T
  · obtain ⟨j, k, h1, h2, h3⟩ := first_in h
    exact .inr (hc j k h1 T (hT.next h2 h3))
  · refine .inl fun S hS => weak hW (flow_up hf hT.up (fun k hk h2 => ?_) hR) hS
    refine Classical.byContradiction fun hz => h ⟨k, List.mem_filter.mpr ⟨List.mem_filter.mpr ⟨List.mem_range.mpr ?_, by simpa using hz⟩, hT.ask hW.wb nd hk h2⟩, hk⟩
    obtain ⟨t, q, e1, _⟩ := hT.tk k hk
    rw [hf.len]
    exact (List.getElem?_eq_some_iff.mp e1).1
/-! sorting -/
theorem sorted_nat {ns : List Int} {T : List Nat} (h1 : ns.Perm (T.map Int.ofNat)) (h2 : ns.Pairwise (· ≤ ·)) (nd : T.Nodup) : ∃ T' : List Nat, ns = T'.map Int.ofNat ∧ T'.Perm T ∧ T'.Pairwise (· < ·) := by
  have hnn : ∀ i ∈ ns, ∃ k : Nat, i = Int.ofNat k := fun i hi => by
    obtain ⟨k, _, e⟩ := List.mem_map.mp (h1.mem_iff.mp hi)
    exact ⟨k, e.symm⟩
  have e : ns = (ns.map Int.toNat).map Int.ofNat := by
    rw [List.map_map]
    refine (List.map_id ns).symm.trans (List.map_congr_left fun i hi => ?_)
    obtain ⟨k, rfl⟩ := hnn i hi
    rfl
  have p : (ns.map Int.toNat).Perm T := by
    have := h1.map Int.toNat
    rw [List.map_map] at this
    have e2 : T.map (Int.toNat ∘ Int.ofNat) = T := (List.map_congr_left fun k _ => rfl).trans (List.map_id T)
    rw [e2] at this
    exact this
  refine ⟨ns.map Int.toNat, e, p, ?_⟩
  have ndn : (ns.map Int.toNat).Nodup := p.symm.nodup nd
  have le : (ns.map Int.toNat).Pairwise (· ≤ ·) := by
    rw [List.pairwise_map]
    exact h2.imp fun {a b} h => by omega
  exact (le.and ndn).imp fun {a b} h => Nat.lt_of_le_of_ne h.1 h.2
end Fc
/-! Sy: calls that change known objects, within expressions; longer lists. -/
namespace Sy
open PySem PySem.Spec PyProof.Rows L2 Fc
section
variable {K : Fg} {s : Option Addr} {mu : Addr → Prop} {G0 H0 G H G' H' : Hp} {gs : List Hp} {ds : List SC} {ms : List (Addr × MO)} {σ : L2.St} {D : Ends} {te ta tb tl to tm : TE} {tt : TT} {tr : TA} {t u tz tu tw : TS} {c : SC} {d : Sy.D} {g : TG} {E : XK} {p : Addr}
theorem small5 {n : Nat} (h : n < 100000) : n < sizeLine := by
  rw [sizeLine_eq]
  omega
theorem q_appR5 {i : Nat} {xs : List Sy.D} {Φ : Sy.D → Prop} (ho : H0 p = none ∨ mu p) (A : At K s mu G0 H0 gs ds ms σ G H) (ha : EvC K s to ds ms (.ref p)) (hi : ms[i]? = some (p, .lst xs)) (h : EvR K s te ds ms Φ) (hz : xs.length < 100000) (k : ∀ d G' H', Φ d → At K s mu G0 H0 gs ds (ms.set i (p, .lst (xs ++ [d]))) σ G' H' → tz D σ H') :
    tSeq (tDrop (tBM K "list" rAppend to (tCons te tNil))) tz D σ H :=
  ha σ G H A.kn _ fun v G1 H1 a1 o1 x1 => by
    have A1 := A.step a1 o1
    cases x1.ref
    obtain ⟨vs, e1, h1⟩ := A1.kn.get (List.mem_of_getElem? hi)
    refine ⟨tyV_lst e1, h σ G1 H1 A1.kn _ fun w G2 H2 d a2 o2 x2 p2 => ?_⟩
    have A2 := A1.step a2 o2
    obtain ⟨vs, e1, h1⟩ := A2.kn.get (List.mem_of_getElem? hi)
    refine ⟨p, vs, w, rfl, rfl, e1, small5 (by rw [h1.length]; exact hz), k d _ _ p2 (A2.write ho hi ?_)⟩
    exact ⟨_, upd_same, h1.snoc x2⟩
/-- what a call within does: it may change known objects -/
def EvX (K : Fg) (s : Option Addr) (mu : Addr → Prop) (G0 H0 : Hp) (gs : List Hp) (te : TE) (ds : List SC) (ms : List (Addr × MO)) (σ : L2.St) (Φ : List (Addr × MO) → Sy.D → Prop) : Prop :=
  ∀ G H, At K s mu G0 H0 gs ds ms σ G H → ∀ Q : VK, (∀ v d ms' G' H', Φ ms' d → At K s mu G0 H0 gs ds ms' σ G' H' → Same G G' → Is K G' v d → Q v H') → te σ H Q
theorem q_setX {i : Nat} {Φ : List (Addr × MO) → Sy.D → Prop} (A : At K s mu G0 H0 gs ds ms σ G H) (h : EvX K s mu G0 H0 gs te ds ms σ Φ) (k : ∀ d ms' σ' G' H', Φ ms' d → At K s mu G0 H0 gs (ds.set i (.dat d)) ms' σ' G' H' → tz D σ' H') : tSeq (tAsg te (gName i)) tz D σ H :=
  h G H A _ fun v d ms' G' H' hp A' _ hv => k d ms' _ G' H' hp (A'.slot (CP.dat hv))
/-- xs.append((e, call)) -/
theorem q_appX {i : Nat} {xs : List Sy.D} {x : Sy.D} {Φ : List (Addr × MO) → Sy.D → Prop} (ho : H0 p = none ∨ mu p) (A : At K s mu G0 H0 gs ds ms σ G H) (ha : EvC K s to ds ms (.ref p)) (hi : ms[i]? = some (p, .lst xs)) (hx : EvD K s te ds ms x) (h : EvX K s mu G0 H0 gs tm ds ms σ Φ) (hΦ : ∀ ms' d, Φ ms' d → ms'[i]? = some (p, .lst xs)) (hz : xs.length < 1000)
    (k : ∀ d ms' G' H', Φ ms' d → At K s mu G0 H0 gs ds (ms'.set i (p, .lst (xs ++ [.tuple [x, d]]))) σ G' H' → tz D σ H') :
    tSeq (tDrop (tBM K "list" rAppend to (tCons (tTup (tCons te (tCons tm tNil))) tNil))) tz D σ H :=
  ha σ G H A.kn _ fun v G1 H1 a1 o1 x1 => by
    have A1 := A.step a1 o1
    cases x1.ref
    obtain ⟨vs, e1, h1⟩ := A1.kn.get (List.mem_of_getElem? hi)
    refine ⟨tyV_lst e1, hx σ G1 H1 A1.kn _ fun w G2 H2 a2 o2 x2 => ?_⟩
    have A2 := A1.step a2 o2
    refine h G2 H2 A2 _ fun u d ms' G3 H3 hp A3 sg hv => ?_
    have hsl := sizeLine_eq
    refine ⟨show 2 ≤ sizeLine by omega, fun q hq => ?_⟩
    have a4 : Stp mu0 G3 H3 _ _ := Stp.new (o := .tup [w, u]) A3.kn.gh hq
    have A4 := A3.step a4.of0 (A3.kn.stO a4)
    obtain ⟨vs, e1, h1⟩ := A4.kn.get (List.mem_of_getElem? (hΦ ms' d hp))
    refine ⟨p, vs, .ref q, rfl, rfl, e1, small1000 (by rw [h1.length]; omega), k d ms' _ _ hp (A4.write ho (hΦ ms' d hp) ?_)⟩
    exact ⟨_, upd_same, h1.snoc (is_newT (Same.free A3.kn.gh hq) (.cons (x2.is.mono sg) (.cons hv .nil)))⟩
theorem anys {G1 : Hp} : ∀ vs : List V, IsA K G1 vs (List.replicate vs.length (.dict []))
  | [] => .nil
  | v :: r => .cons (.any v) (anys r)
/-- a tuple of whatever -/
theorem ev_tupAny {cs : List SC} (h : EvA K s tr ds ms cs) (hz : cs.length ≤ 1000 := by exact Nat.le_of_ble_eq_true rfl) : EvD K s (tTup tr) ds ms (.tuple (List.replicate cs.length (.dict []))) := fun σ G H k Q q =>
  h σ G H k _ fun vs G1 H1 a1 o1 x1 => by
    have hz1 : vs.length = cs.length := Paired.length x1
    refine ⟨Nat.le_of_lt (small1000 (by omega)), fun p hp => ?_⟩
    have a2 : Stp mu0 G1 H1 _ _ := Stp.new (o := .tup vs) a1.gh hp
    have ia : IsA K G1 vs (List.replicate cs.length (.dict [])) := by
      rw [← hz1]
      exact anys vs
    exact q _ _ _ (a1.trans a2.of0) ((k.step a1 o1).stO a2) (.dat (is_newT (Same.free a1.gh hp) ia))
end
end Sy
namespace Fc
open PySem PySem.Spec PyProof.Rows L2 Sy
structure StopCls (K : Fg) (C : Addr) : Prop where
  cl : Cls K C
  web : NoAttr K C "stopped_web"
  given : NoAttr K C "given"
  spend : NoAttr K C "spending"
  found : NoAttr K C "found"
structure Ent where
  T : List Nat
  fl : List Rat
  S : List Str
def entD (e : Ent) : D := .tuple [natD e.T, frL e.fl, .list (strsD e.S)]
structure EntOk (W : Web) (R : List Rat) (P : Rat) (e : Ent) : Prop where
  tk : TakOk W e.T
  nd : e.T.Nodup
  wo : worthOf W e.T ≤ P
  mo : MostOk W R e.T e.fl e.S
  len : e.T.length ≤ 14
def stopFs (W : Web) (R : List Rat) (P : Rat) (o2 : Addr) : List (Str × SC) := [("stopped_web", .dat (webD W)), ("given", .dat (frL R)), ("spending", .dat (frD P)), ("found", .ref o2)]
structure GoPre (n : Nat) (W : Web) (R : List Rat) (P : Rat) (taken kept : List Nat) (es : List Ent) : Prop where
  hW : WebOk W
  hR : RoomsOk W R
  hP : Sz P
  on : atOnce W P < taken.length + n
  nd : taken.Nodup
  tk : Tk W taken
  wo : worthOf W taken ≤ P
  kz : kept.length + 14 * n ≤ 500
  ez : es.length + 15 ^ n ≤ 90000
  zz : taken.length ≤ 14
structure GoPost (n : Nat) (W : Web) (R : List Rat) (P : Rat) (taken kept : List Nat) (es : List Ent) : Prop where
  ok : ∀ e ∈ es, EntOk W R P e
  len : es.length ≤ 15 ^ n
  ne : es ≠ []
  cov : ∀ T, Fit W P T taken kept → ∃ e ∈ es, ∀ S, Sd W S → amtR W e.fl ≤ room W R T S
def anyT : D := .tuple [.dict [], .dict [], .dict []]
section
variable {P : Program} {w : World} {K : Fg} {mg : Str → Option Value} {base : Heap} {C : Addr}
variable {s : Option Addr} {mu : Addr → Prop} {G0 H0 G H : Hp} {gs : List Hp} {ds : List SC} {ms : List (Addr × MO)} {σ : L2.St} {D : Ends} {t tr : TA} {ta tb te ti to : TE} {tz : TS} {E : XK} {dx p o2 d : Addr}
def spGo (n : Nat) (K : Fg) (C : Addr) : Sp := fun vs H Q _ => ∃ (W : Web) (R : List Rat) (P : Rat) (taken kept : List Nat) (es : List Ent) (G : Hp) (dx p o2 : Addr) (vr : List V), vs = .ref p :: vr ∧ Same G H ∧ MOk K G H p (.ins C dx (stopFs W R P o2)) ∧ MOk K G H o2 (.lst (es.map entD)) ∧ G p = none ∧ G o2 = none ∧ p ≠ o2 ∧ IsA K G vr [natD taken, natD kept] ∧ GoPre n W R P taken kept es ∧
  ∀ v G' H' es', Stp (fun c => c = o2) G H G' H' → Is K G' v anyT → MOk K G' H' o2 (.lst ((es ++ es').map entD)) → GoPost n W R P taken kept es' → Q v H'
/-- the call, within a body -/
theorem ex_go {n : Nat} {W : Web} {R : List Rat} {P : Rat} {taken kept : List Nat} {es : List Ent} {i : Nat} (ho : H0 o2 = none ∨ mu o2) (h0 : EvC K s ta ds ms (.ref p)) (h1 : (p, MO.ins C dx (stopFs W R P o2)) ∈ ms) (h2 : ms[i]? = some (o2, MO.lst (es.map entD))) (hne : p ≠ o2) (h : EvL K s tr ds ms [natD taken, natD kept]) (hp : GoPre n W R P taken kept es) :
    EvX K s mu G0 H0 gs (tMeth C "go_down" (spGo n K C) [] E ta tr) ds ms σ (fun ms' d => ∃ es', d = anyT ∧ ms' = ms.set i (o2, .lst ((es ++ es').map entD)) ∧ GoPost n W R P taken kept es') := fun G H A Q q =>
  h0 σ G H A.kn _ fun v0 G1 H1 a1 o1 x1 => by
    have A1 := A.step a1 o1
    obtain ⟨fv, e1, r⟩ := A1.kn.get h1
    cases x1.ref
    refine ⟨p, dx, fv, rfl, e1, flook_none r rfl, h σ G1 H1 A1.kn _ fun vs G2 H2 a2 o2' x2 => ?_⟩
    have A2 := A1.step a2 o2'
    obtain ⟨m1, g1, _⟩ := A2.kn.mo _ h1
    obtain ⟨m2, g2, _⟩ := A2.kn.mo _ (List.mem_of_getElem? h2)
    refine ⟨W, R, P, taken, kept, es, G2, dx, p, o2, vs, by rw [List.append_nil], A2.kn.gh, m1, m2, g1, g2, hne, x2, hp, fun v G3 H3 es' a3 x3 m3 p3 => ?_⟩
    exact q v anyT _ G3 H3 ⟨es', rfl, rfl, p3⟩ (A2.eff ho h2 a3 m3) ((a1.gg.trans a2.gg).trans a3.gg) x3
abbrev s_StopSearch_go_down : Stmt := inClass (topS 55) 1
theorem sc_StopSearch_go_down : FnScope ["self", "taken", "kept", "flow", "side", "used", "k", "cases", "ahead", "tie"] ["self", "taken", "kept"] (defScope s_StopSearch_go_down) := ⟨rfl, rfl, rfl, by decide +kernel, rfl, by decide +kernel, by decide +kernel⟩

theorem used_ints (fl : List Rat) : ∀ {dl : List Sy.D}, dl = ((natsD (List.range fl.length)).filter (fun e => match e with
  | .int k => !decide (fl.getD k.toNat 0 = 0)
  | _ => false)).map id → dl = natsD (usedR fl) := fun h => by
  rw [h, List.map_id]
  unfold natsD usedR
  rw [List.filter_map]
  congr 1
theorem used_len (fl : List Rat) : (usedR fl).length ≤ fl.length := by
  have := List.length_filter_le (fun k => !decide (fl.getD k 0 = 0)) (List.range fl.length)
  rw [List.length_range] at this
  exact this
theorem ask_len (W : Web) (P : Rat) (u a b : List Nat) : (askL W P u a b).length ≤ u.length := List.length_filter_le _ _
theorem ok_StopSearch_go_down {f : Addr} {fd : FuncData} (F : Fun K "go_down" "StopSearch.go_down" s_StopSearch_go_down f fd) (B : Bl mg) (Zc : Cst K mg) (Z : StopCls K C) (hm : Meth K C "go_down" f) (hbi : Binds K fd ["self", "taken", "kept"] []) (c_most_in : Cal P w K mg base "most_in" 5 ["web", "rooms", "taken"] (spMostIn K)) (c_askable : Cal P w K mg base "askable" 7 ["web", "purse", "ties", "taken", "kept"] (spAsk K)) : ∀ n : Nat, FnOk P w K mg base CX0 (n + 7) f fd ["self", "taken", "kept"] (spGo n K C)
  | 0 => by
    refine F.ok sc_StopSearch_go_down (fun vs H Q E h => ?_) (fun cdv A outer s H vs Q E hr h => ?_)
    · obtain ⟨W, R, P, taken, kept, es, G, dx, p, o2, vr, rfl, _, _, _, _, _, _, hI, _⟩ := h
      rw [List.length_cons, hI.length]
      rfl
    · obtain ⟨W, R, P, taken, kept, es, G, dx, p, o2, vr, rfl, _, _, _, _, _, _, hI, hp, _⟩ := h
      have := len_once hp.hW.wb hp.tk hp.nd hp.wo
      have := hp.on
      omega
  | n + 1 => by
    have ih := ok_StopSearch_go_down F B Zc Z hm hbi c_most_in c_askable n
    have c_StopSearch_go_down : CalM P w K mg base C "go_down" (n + 7) ["self", "taken", "kept"] (spGo n K C) := ⟨Z.cl, f, fd, hm, hbi, ih⟩
    refine F.ok sc_StopSearch_go_down (fun vs H Q E h => ?_) (fun cdv A outer s H vs Q E hr h => ?_)
    · obtain ⟨W, R, P, taken, kept, es, G, dx, p, o2, vr, rfl, _, _, _, _, _, _, hI, _⟩ := h
      rw [List.length_cons, hI.length]
      rfl
    · obtain ⟨W, R, P, taken, kept, es, G, dx, p, o2, vr, rfl, hg, m1, m2, g1, g2, hne, hI, hp, q⟩ := h
      obtain ⟨aN, g_NOUGHT, hN⟩ := Zc.nought
      have A0 : At K none (fun c => c = o2) G H [] [.ref p, .dat (natD taken), .dat (natD kept), .no, .no, .no, .no, .no, .no, .no] [(p, .ins C dx (stopFs W R P o2)), (o2, .lst (es.map entD))] (L2.start ["self", "taken", "kept", "flow", "side", "used", "k", "cases", "ahead", "tie"] (.ref p :: vr)) G H := by
        refine at_startM hg ?_ (fun r hr => ?_) (by simp [hne])
        · unfold L2.start
          show Sl K G (some (.ref p) :: (vr.map some ++ List.replicate (9 + 1 - (vr.length + 1)) none)) _
          rw [hI.length]
          exact .cons rfl (sl_start 7 hI)
        · rcases List.mem_cons.mp hr with rfl | hr
          · exact ⟨m1, g1⟩
          · cases List.mem_singleton.mp hr
            exact ⟨m2, g2⟩
      refine ⟨_, (pss_cons (ps_asg (p_call c_most_in (hr.mono (by first | exact Nat.le_refl _ | omega)) (pa_cons (w_fld (K := K) (pv 0) rfl) (pa_cons (w_fld (K := K) (pv 0) rfl) (pa_cons (pv 1) pa_nil)))) (w_tup (K := K) (by rfl) (pgs_cons (pg_name (i := 3) sc_StopSearch_go_down.nd rfl (Or.inr rfl)) (pgs_cons (pg_name (i := 4) sc_StopSearch_go_down.nd rfl (Or.inl rfl)) pgs_nil))))
      (pss_cons (ps_expr (w_bm (K := K) PySem.F.plainAttrs_list PySem.F.slot_list_append PySem.F.type_list_append mt_append (w_fld (K := K) (pv 0) rfl) (pa_cons (pe_tup (pa_cons (pe_callB (w_sorted (K := K)) (by rfl) B.sorted_ (by decide +kernel) (pa_cons (pv 1) pa_nil)) (pa_cons (pv 3) (pa_cons (pv 4) pa_nil)))) pa_nil)))
      (pss_cons (ps_setLc (i := 5) (own := [("k", 6)]) (g := gName 6) (tt := _) rfl sc_StopSearch_go_down.nd rfl rfl (sw_true rfl rfl rfl (by decide +kernel)) (pi_range1 (by rfl) B.range_ (pa_cons (pe_callB (w_len (K := K)) (by rfl) B.len_ PySem.boot_len (pa_cons (pv 3) pa_nil)) pa_nil)) (blkOk_by (own := [("k", 6)]) (N := ["self", "taken", "kept", "flow", "side", "used", "k", "cases", "ahead", "tie"]) (sc := defScope s_StopSearch_go_down) (by decide +kernel)) (fun _ _ _ _ _ => (pg_name (i := 6) sc_StopSearch_go_down.nd rfl (Or.inl rfl))) (fun _ _ _ _ _ => (pts_one (pt_cmpR (w_neD (K := K) hr.units) (pe_ix (w_ixL (K := K)) (pv 3) (pv 6) (fun _ _ => rfl)) (pe_glob (v := .ref aN) rfl g_NOUGHT rfl) (nomark _)))) (fun _ _ _ _ _ => (pv 6)))
      (pss_cons (ps_set (i := 7) sc_StopSearch_go_down.nd rfl (Or.inl rfl) (pe_lst pa_nil))
      (pss_cons (ps_set (i := 8) sc_StopSearch_go_down.nd rfl (Or.inl rfl) (pe_lst pa_nil))
      (pss_cons (ps_for PassesOwn.never rfl (w_list (K := K) (p_call c_askable (hr.mono (by first | exact Nat.le_refl _ | omega)) (pa_cons (w_fld (K := K) (pv 0) rfl) (pa_cons (w_fld (K := K) (pv 0) rfl) (pa_cons (pv 5) (pa_cons (pv 1) (pa_cons (pv 2) pa_nil))))))) (pg_name (i := 9) sc_StopSearch_go_down.nd rfl (Or.inl rfl)) (pss_cons (ps_expr (w_bm (K := K) PySem.F.plainAttrs_list PySem.F.slot_list_append PySem.F.type_list_append mt_append (pv 7) (pa_cons (pe_tup (pa_cons (pv 9) (pa_cons (p_meth c_StopSearch_go_down (hr.mono (by first | exact Nat.le_refl _ | omega)) (pv 0) (pa_cons (pe_op op_cat (pv 1) (pe_lst (pa_cons (pv 9) pa_nil))) (pa_cons (pe_op op_cat (pv 2) (pv 8)) pa_nil))) pa_nil))) pa_nil)))
      (pss_one (ps_expr (w_bm (K := K) PySem.F.plainAttrs_list PySem.F.slot_list_append PySem.F.type_list_append mt_append (pv 8) (pa_cons (pv 9) pa_nil))))))
      (pss_one (ps_ret (pe_tup (pa_cons pe_str (pa_cons (pe_callTy (w_listof (K := K)) (by rfl) B.list_ (by decide +kernel) (pa_cons (pv 3) pa_nil)) (pa_cons (pv 7) pa_nil)))))))))))), ?_⟩
      have hlt : ∀ k ∈ taken, k < W.ties.length := fun k hk => by
        obtain ⟨t, r, e1, _⟩ := hp.tk k hk
        exact (List.getElem?_eq_some_iff.mp e1).1
      have htl := hp.hW.tl
      have hez := hp.ez
      have hkz := hp.kz
      have hzz := hp.zz
      have h15 : 15 ^ (n + 1) = 15 * 15 ^ n := by rw [Nat.pow_succ]; omega
      have h15p : 0 < 15 ^ n := Nat.pos_of_ne_zero (by simp)
      -- flow, side = most_in(..)
      refine q_unpR (f := fun d ds => match d with
        | .tuple [x, y] => setAll ds [3, 4] [x, y]
        | _ => ds) A0 (evr_most_in (W := W) (R := R) (T := taken) (el_cons (ev_fld (p := p) (ev_var rfl) Z.cl Z.web List.mem_cons_self rfl) (el_cons (ev_fld (p := p) (ev_var rfl) Z.cl Z.given List.mem_cons_self rfl) (el_cons (ev_var rfl) el_nil))) hp.hW hp.hR hlt) (fun d hd => ?_) fun d σ1 G1 H1 hd A1 => ?_
      · obtain ⟨fl, S, rfl, _⟩ := hd
        exact tg_tup [3, 4] rfl rfl
      obtain ⟨fl, S, rfl, hmo⟩ := hd
      have A1 : At K none (fun c => c = o2) G H [] [.ref p, .dat (natD taken), .dat (natD kept), .dat (frL fl), .dat (.list (strsD S)), .no, .no, .no, .no, .no] [(p, .ins C dx (stopFs W R P o2)), (o2, .lst (es.map entD))] σ1 G1 H1 := A1
      have hfl : fl.length = W.ties.length := hmo.flw.len
      -- self.found.append(..)
      refine q_appR5 (i := 1) (p := o2) (mu := fun c => c = o2) (.inr rfl) A1 (ev_fld (p := p) (ev_var rfl) Z.cl Z.found List.mem_cons_self rfl) rfl ((evr_tup (elr_cons (evr_sorted (ns := taken.map Int.ofNat) (EvC.to (ev_var (i := 1) (c := .dat (natD taken)) rfl) (by unfold natD; rw [natsD_ints])) (by rw [List.length_map]; omega)) (elr_cons (EvC.r (d := frL fl) (ev_var rfl)) (elr_cons (EvC.r (d := .list (strsD S)) (ev_var rfl)) elr_nil))) (fun dl h => by
          obtain ⟨_, _, rfl, _, _, _, rfl, _, _, _, rfl, _, rfl⟩ := h
          exact Nat.le_of_ble_eq_true rfl)).imp (Ψ := fun d => ∃ e : Ent, d = entD e ∧ EntOk W R P e ∧ e.fl = fl) fun d hd => ?_) (by rw [List.length_map]; omega) fun d G2 H2 hd A2 => ?_
      · obtain ⟨dl, rfl, d1, r1, rfl, ⟨ns', rfl, hpm, hpw⟩, d2, r2, rfl, rfl, d3, r3, rfl, rfl, rfl⟩ := hd
        obtain ⟨T', rfl, pT, sT⟩ := sorted_nat hpm hpw hp.nd
        refine ⟨⟨T', fl, S⟩, ?_, ⟨⟨sT, fun k hk => hp.tk k (pT.mem_iff.mp hk)⟩, pT.symm.nodup hp.nd, ?_, ?_, by show T'.length ≤ 14; rw [pT.length_eq]; exact hzz⟩, rfl⟩
        · show PyData.tuple [.list ((T'.map Int.ofNat).map .int), frL fl, .list (strsD S)] = .tuple [natD T', frL fl, .list (strsD S)]
          unfold natD
          rw [natsD_ints]
        · show sumR (T'.map (wOf W)) ≤ P
          rw [sumR_perm (pT.map (wOf W))]
          exact hp.wo
        · have e : zer R T' = zer R taken := zer_mem fun k => pT.mem_iff
          exact ⟨by show Flw W (zer R T') fl; rw [e]; exact hmo.flw, hmo.bd, by show _ = cutR W.ties (zer R T') _; rw [e]; exact hmo.cut, hmo.sd, hmo.pl⟩
      obtain ⟨e0, rfl, he0, hefl⟩ := hd
      have A2 : At K none (fun c => c = o2) G H [] [.ref p, .dat (natD taken), .dat (natD kept), .dat (frL fl), .dat (.list (strsD S)), .no, .no, .no, .no, .no] [(p, .ins C dx (stopFs W R P o2)), (o2, .lst (es.map entD ++ [entD e0]))] σ1 G2 H2 := A2
      rw [show es.map entD ++ [entD e0] = (es ++ [e0]).map entD by rw [List.map_append]; rfl] at A2
      -- used
      refine q_set A2 (c := .dat (natD (usedR fl))) (EvN.dat ((en_lcD (F := id) (it_nats (n := fl.length) (EvL.to (el_cons (ev_lenL (xs := fl.map frD) (ev_var rfl)) el_nil) (by rw [List.length_map])) (by omega)) trivial (fun i e he => tw_name) (fun i e he => ?_) (fun i e he _ => ?_) (by rw [natsD_len, List.length_range]; omega)).imp fun dl h => used_ints fl h)) fun σ3 G3 H3 A3 => ?_
      · obtain ⟨k, hk, rfl⟩ := natsD_get he
        obtain ⟨hi, rfl⟩ := range_get hk
        have hf := List.getElem?_eq_getElem hi
        refine EvT.to (et_test (ev_neF (a := fl[k]) (b := 0) (ev_ixLn (xs := fl.map frD) (ev_var rfl) (ev_var rfl) (smap_at hf)) (ev_nought hN))) ?_
        show (!decide (fl[k] = 0)) = !decide (fl.getD ((k : Nat) : Int).toNat 0 = 0)
        rw [Int.toNat_natCast, List.getD_eq_getElem?_getD, hf] <;> rfl
      · obtain ⟨k, hk, rfl⟩ := natsD_get he
        exact ev_var rfl
      -- cases, ahead
      refine q_new A3 (en_lst (dl := []) el_nil) fun cs dl σ4 G4 H4 hdl hcs0 A4 => ?_
      subst hdl
      refine q_new A4 (en_lst (dl := []) el_nil) fun ah dl σ5 G5 H5 hdl hah0 A5 => ?_
      subst hdl
      have hul : (usedR fl).length ≤ 14 := Nat.le_trans (used_len fl) (by omega)
      have hLl : (askL W P (usedR fl) taken kept).length ≤ 14 := Nat.le_trans (ask_len _ _ _ _ _) hul
      refine q_for A5 (it_list (es := natsD (askL W P (usedR fl) taken kept)) (ev_askable (W := W) (p := P) (ties := usedR fl) (taken := taken) (kept := kept) (el_cons (ev_fld (p := p) (ev_var rfl) Z.cl Z.web (List.mem_cons_of_mem _ (List.mem_cons_of_mem _ List.mem_cons_self)) rfl) (el_cons (ev_fld (p := p) (ev_var rfl) Z.cl Z.spend (List.mem_cons_of_mem _ (List.mem_cons_of_mem _ List.mem_cons_self)) rfl) (el_cons (ev_var rfl) (el_cons (ev_var rfl) (el_cons (ev_var rfl) el_nil))))) hp.hW.wb hp.hP (fun k hk => by
          have := List.mem_range.mp (List.mem_filter.mp hk).1
          omega) hp.tk (by omega) (by omega))) (fun i e he => tg_name)
        (fun i ds ms => ∃ (cl : List Sy.D) (new : List Ent) (c : SC), ds = [.ref p, .dat (natD taken), .dat (natD kept), .dat (frL fl), .dat (.list (strsD S)), .dat (natD (usedR fl)), .no, .ref cs, .ref ah, c] ∧ ms = [(ah, .lst (natsD ((askL W P (usedR fl) taken kept).take i))), (cs, .lst cl), (p, .ins C dx (stopFs W R P o2)), (o2, .lst ((es ++ [e0] ++ new).map entD))] ∧ cl.length = i ∧ new.length ≤ i * 15 ^ n ∧ (∀ e ∈ new, EntOk W R P e) ∧
          ∀ j k, j < i → (askL W P (usedR fl) taken kept)[j]? = some k → ∀ T, Fit W P T (taken ++ [k]) (kept ++ (askL W P (usedR fl) taken kept).take j) → ∃ e ∈ new, ∀ S, Sd W S → amtR W e.fl ≤ room W R T S)
        ⟨[], [], .no, rfl, by rw [List.append_nil]; rfl, rfl, Nat.zero_le _, fun e h => absurd h (by simp), fun j k h => absurd h (Nat.not_lt_zero _)⟩ (fun _ _ _ _ _ => trivial) (fun gs i e ds ms σ6 G6 H6 L he j A6 hL => ?_) fun ds ms σ6 G6 H6 j A6 => ?_
      · obtain ⟨cl, new, c, rfl, rfl, hcl, hnew, hok, hcov⟩ := j
        obtain ⟨k, hk, rfl⟩ := natsD_get he
        have hi : i < (askL W P (usedR fl) taken kept).length := (List.getElem?_eq_some_iff.mp hk).1
        obtain ⟨⟨tt, qq, e1, e2⟩, hkt, hkw⟩ := askb_iff (List.mem_filter.mp (List.mem_of_getElem? hk)).2
        have hlk : ((askL W P (usedR fl) taken kept).take i).length = i := by rw [List.length_take]; omega
        have hpre : GoPre n W R P (taken ++ [k]) (kept ++ (askL W P (usedR fl) taken kept).take i) (es ++ [e0] ++ new) := by
          have hi15 : i * 15 ^ n ≤ 13 * 15 ^ n := Nat.mul_le_mul_right _ (by omega)
          have hon := hp.on
          have hT2 : Tk W (taken ++ [k]) := fun j hj => by
            rcases List.mem_append.mp hj with hj | hj
            · exact hp.tk j hj
            · cases List.mem_singleton.mp hj
              exact ⟨tt, qq, e1, e2⟩
          have hnd2 := snoc_nd hp.nd hkt
          have hl2 := len_once hp.hW.wb hT2 hnd2 hkw
          refine ⟨hp.hW, hp.hR, hp.hP, by rw [List.length_append]; show _ < _ + 1 + n; omega, hnd2, hT2, hkw, by rw [List.length_append, hlk]; omega, ?_, ?_⟩
          · simp only [List.length_append, List.length_cons, List.length_nil]
            omega
          · have := nodup_len (m := List.range W.ties.length) hnd2 fun j hj => by
              obtain ⟨t', q', e1', _⟩ := hT2 j hj
              exact List.mem_range.mpr (List.getElem?_eq_some_iff.mp e1').1
            rw [List.length_range] at this
            omega
        refine q_appX (i := 1) (p := cs) (xs := cl) (x := .int ((k : Nat) : Int)) (mu := fun c => c = o2) (.inl hcs0) A6 (ev_var rfl) rfl (ev_var rfl) (ex_go (i := 3) (p := p) (o2 := o2) (mu := fun c => c = o2) (.inr rfl) (ev_var rfl) (List.mem_cons_of_mem _ (List.mem_cons_of_mem _ List.mem_cons_self)) rfl hne
          (el_cons (EvC.to (ev_cat (xs := natsD taken) (ys := [.int ((k : Nat) : Int)]) (ev_var rfl) (ev_lst (el_cons (ev_var rfl) el_nil)) (by rw [natsD_len]; show _ + 1 ≤ 1000; omega)) (by unfold natD natsD; rw [List.map_append]; rfl)) (el_cons (EvC.to (ev_catM (a := ah) (xs := natsD kept) (ys := natsD ((askL W P (usedR fl) taken kept).take i)) (ev_var rfl) (ev_var rfl) List.mem_cons_self (by rw [natsD_len, natsD_len, hlk]; omega)) (by unfold natD natsD; rw [List.map_append])) el_nil)) hpre) (fun ms' d h => by
            obtain ⟨es', rfl, rfl, _⟩ := h
            rfl) (by omega) fun d ms' G7 H7 hd A7 => ?_
        obtain ⟨es', rfl, rfl, hpost⟩ := hd
        refine s_app (i := 0) (p := ah) (mu := fun c => c = o2) (.inl hah0) A7 (ev_var rfl) rfl (ev_var rfl) (by rw [natsD_len, hlk]; omega) fun G8 H8 A8 => ?_
        refine hL _ _ _ _ _ ⟨cl ++ [.tuple [.int ((k : Nat) : Int), anyT]], new ++ es', _, rfl, ?_, by rw [List.length_append, hcl]; rfl, ?_, ?_, ?_⟩ A8
        · show [(ah, MO.lst (natsD _ ++ [_])), (cs, MO.lst (cl ++ [_])), (p, _), (o2, MO.lst _)] = _
          have e1 : natsD ((askL W P (usedR fl) taken kept).take (i + 1)) = natsD ((askL W P (usedR fl) taken kept).take i) ++ [.int ((k : Nat) : Int)] := by
            rw [List.take_add_one, hk]
            unfold natsD
            rw [List.map_append]
            rfl
          rw [e1, ← List.append_assoc]
        · rw [List.length_append, Nat.add_mul]
          have := hpost.len
          omega
        · intro e he
          rcases List.mem_append.mp he with he | he
          · exact hok e he
          · exact hpost.ok e he
        · intro j k' hj hk' T hT
          by_cases hji : j = i
          · subst hji
            rw [hk] at hk'
            cases hk'
            obtain ⟨e, he, hS⟩ := hpost.cov T hT
            exact ⟨e, List.mem_append_right _ he, hS⟩
          · obtain ⟨e, he, hS⟩ := hcov j k' (by omega) hk' T hT
            exact ⟨e, List.mem_append_left _ he, hS⟩
      · obtain ⟨cl, new, c, rfl, rfl, hcl, hnew, hok, hcov⟩ := j
        rw [natsD_len] at hcl hnew hcov
        refine (ev_tupAny (cs := [.dat (.str "flow"), .dat (frL fl), .ref cs]) (ea_cons ev_str (ea_cons (EvN.dat (en_listof (ev_var rfl))) (ea_cons (ev_var rfl) ea_nil)))) σ6 G6 H6 A6.kn _ fun v G7 H7 a7 o7 x7 => ?_
        have A7 := A6.step a7 o7
        have hn2 : new.length ≤ 14 * 15 ^ n := Nat.le_trans hnew (Nat.mul_le_mul_right _ hLl)
        refine q v G7 H7 (e0 :: new) A7.sp x7.is ?_ ⟨fun e he => ?_, ?_, by simp, fun T hT => ?_⟩
        · rw [show es ++ e0 :: new = es ++ [e0] ++ new by simp]
          exact (A7.kn.mo (o2, _) (List.mem_cons_of_mem _ (List.mem_cons_of_mem _ (List.mem_cons_of_mem _ List.mem_cons_self)))).1
        · rcases List.mem_cons.mp he with rfl | he
          · exact he0
          · exact hok e he
        · rw [List.length_cons]
          omega
        · rcases cover_step (Cov := fun T => ∃ e ∈ new, ∀ S, Sd W S → amtR W e.fl ≤ room W R T S) hp.hW hp.hR.nn hp.nd hmo.flw (fun j k hj T hT => hcov j k (List.getElem?_eq_some_iff.mp hj).1 hj T hT) T hT with h | ⟨e, he, hS⟩
          · exact ⟨e0, List.mem_cons_self, fun S hS => by rw [hefl]; exact h S hS⟩
          · exact ⟨e, List.mem_cons_of_mem _ he, hS⟩
end
end Fc
namespace Fc
open PySem PySem.Spec PyProof.Rows L2 Sy
section
variable {P : Program} {w : World} {K : Fg} {mg : Str → Option Value} {base : Heap} {C : Addr}
variable {s : Option Addr} {mu : Addr → Prop} {G0 H0 G H : Hp} {gs : List Hp} {ds : List SC} {ms : List (Addr × MO)} {σ : L2.St} {D : Ends} {t tr : TA} {ta tb te ti to : TE} {tz : TS} {E : XK} {dx p o2 d : Addr}
abbrev s_StopSearch___init__ : Stmt := inClass (topS 55) 0
theorem sc_StopSearch___init__ : FnScope ["self", "web", "rooms", "purse"] ["self", "web", "rooms", "purse"] (defScope s_StopSearch___init__) := ⟨rfl, rfl, rfl, by decide +kernel, rfl, by decide +kernel, by decide +kernel⟩

def spSInit (K : Fg) (C : Addr) : Sp := fun vs H Q _ => ∃ (W : Web) (R : List Rat) (P : Rat) (G : Hp) (dx x : Addr) (vr : List V), vs = .ref x :: vr ∧ Same G H ∧ G x = none ∧ H x = some (.ins C dx []) ∧ IsA K G vr [webD W, frL R, frD P] ∧
  ∀ G' H' o2, Stp (fun c => c = x) G H G' H' → MOk K G' H' x (.ins C dx (stopFs W R P o2)) → MOk K G' H' o2 (.lst []) → G' o2 = none → x ≠ o2 → H o2 = none → Q .non H'
theorem ok_StopSearch___init__ {f : Addr} {fd : FuncData} (F : Fun K "__init__" "StopSearch.__init__" s_StopSearch___init__ f fd) (Z : StopCls K C) : FnOk P w K mg base CX0 1 f fd ["self", "web", "rooms", "purse"] (spSInit K C) := by
  refine F.ok sc_StopSearch___init__ (fun vs H Q E h => ?_) (fun cdv A outer s H vs Q E hr h => ?_)
  · obtain ⟨W, R, P, G, dx, x, vr, rfl, _, _, _, hI, _⟩ := h
    rw [List.length_cons, hI.length]
    rfl
  · obtain ⟨W, R, P, G, dx, x, vr, rfl, hg, gx, hx, hI, q⟩ := h
    have A0 : At K none (fun c => c = x) G H [] [.ref x, .dat (webD W), .dat (frL R), .dat (frD P)] [(x, .ins C dx [])] (L2.start ["self", "web", "rooms", "purse"] (.ref x :: vr)) G H := by
      refine at_startM hg ?_ (fun r hr => ?_) (by simp)
      · unfold L2.start
        show Sl K G (some (.ref x) :: (vr.map some ++ List.replicate (3 + 1 - (vr.length + 1)) none)) _
        rw [hI.length]
        exact .cons rfl (sl_start 0 hI)
      · cases List.mem_singleton.mp hr
        exact ⟨⟨[], hx, .nil⟩, gx⟩
    refine ⟨_, (pss_cons (w_sfld (K := K) (pv 0) (pv 1) rfl)
      (pss_cons (w_sfld (K := K) (pv 0) (pv 2) rfl)
      (pss_cons (w_sfld (K := K) (pv 0) (pv 3) rfl)
      (pss_one (w_sfld (K := K) (pv 0) (pe_lst pa_nil) rfl))))), ?_⟩
    refine q_fld (i := 0) (mu := fun c => c = x) (.inr rfl) A0 Z.cl Z.web (ev_var (i := 1) rfl) (ev_var rfl) rfl (Nat.le_of_ble_eq_true rfl) fun G1 H1 A1 => ?_
    refine q_fld (i := 0) (mu := fun c => c = x) (.inr rfl) A1 Z.cl Z.given (ev_var (i := 2) rfl) (ev_var rfl) rfl (Nat.le_of_ble_eq_true rfl) fun G2 H2 A2 => ?_
    refine q_fld (i := 0) (mu := fun c => c = x) (.inr rfl) A2 Z.cl Z.spend (ev_var (i := 3) rfl) (ev_var rfl) rfl (Nat.le_of_ble_eq_true rfl) fun G3 H3 A3 => ?_
    refine s_fldN (i := 0) (mu := fun c => c = x) (.inr rfl) A3 Z.cl Z.found (en_lst (dl := []) el_nil) (fun ms => ev_var rfl) rfl (Nat.le_of_ble_eq_true rfl) fun o2 dl G4 H4 hdl ho2 A4 => ?_
    subst hdl
    have A4 : At K none (fun c => c = x) G H [] [.ref x, .dat (webD W), .dat (frL R), .dat (frD P)] [(o2, .lst []), (x, .ins C dx (stopFs W R P o2))] _ G4 H4 := A4
    have hnd : [o2, x].Nodup := A4.kn.nd
    have n2 : o2 ≠ x := fun z => by subst z; simp at hnd
    obtain ⟨m2, g2, _⟩ := A4.kn.mo _ List.mem_cons_self
    exact q G4 H4 o2 A4.sp (A4.kn.mo _ (List.mem_cons_of_mem _ List.mem_cons_self)).1 m2 g2 (fun z => n2 z.symm) ho2
theorem q_makeS {i : Nat} {W : Web} {R : List Rat} {P : Rat} (A : At K s mu G0 H0 gs ds ms σ G H) (h : EvL K s tr ds ms [webD W, frL R, frD P])
    (k : ∀ dx x o2 σ' G' H', H0 x = none → H0 o2 = none → x ≠ o2 → At K s mu G0 H0 gs (ds.set i (.ref x)) ((o2, .lst []) :: (x, .ins C dx (stopFs W R P o2)) :: ms) σ' G' H' → tz D σ' H') : tSeq (tAsg (tMake C (spSInit K C) [] E tr) (gName i)) tz D σ H :=
  h σ G H A.kn _ fun vs G1 H1 a1 o1 x1 x dx hx hdx hne => by
    have A1 := A.step a1 o1
    have A2 := A1.alloc (o := .own x) hdx
    have hx2 : upd H1 dx (.own x) x = none := by rw [upd_ne (fun z => hne z.symm)]; exact hx
    have A3 := A2.newM (o := .ins C dx []) (m := .ins C dx []) hx2 ⟨[], upd_same, .nil⟩
    have h0x := (A2.fresh0 hx2).1
    refine ⟨W, R, P, G1, dx, x, vs, by rw [List.append_nil], A3.kn.gh, (A3.kn.mo _ List.mem_cons_self).2.1, upd_same, x1, fun G2 H2 o2 a2 mx ml gl hn ho => ⟨rfl, ?_⟩⟩
    have A4 := A3.eff (i := 0) (.inl h0x) rfl a2 mx
    obtain ⟨f1, f2, f3⟩ := A3.fresh0 ho
    have A5 := A4.add (p := o2) ml gl (fun q hq => by
      rcases List.mem_cons.mp (show q ∈ (x, _) :: ms from hq) with rfl | hq
      · exact hn
      · exact f2 q (List.mem_cons_of_mem _ hq)) f3
    exact k dx x o2 _ G2 H2 h0x f1 hn (A5.slot rfl)
abbrev s_best_stop : Stmt := topS 56
theorem sc_best_stop : FnScope ["web", "rooms", "purse", "search", "cases", "best", "one"] ["web", "rooms", "purse"] (defScope s_best_stop) := ⟨rfl, rfl, rfl, by decide +kernel, rfl, by decide +kernel, by decide +kernel⟩

structure StopRes (W : Web) (R : List Rat) (P : Rat) (e : Ent) : Prop where
  ok : EntOk W R P e
  best : ∀ T, Fit W P T [] [] → ∀ S, Sd W S → amtR W e.fl ≤ room W R T S
theorem MostOk.fl {W : Web} {R : List Rat} {T : List Nat} {fl : List Rat} {S : List Str} (hW : WebOk W) (h : MostOk W R T fl S) : FlOk W fl := ⟨hW.tl, h.flw.len, fun q hq => (h.bd q hq).mono (by omega)⟩
theorem amt_bd {W : Web} {fl : List Rat} (h : FlOk W fl) : Bd 14000 (amtR W fl) := by
  refine (go_bd W.first (l := W.ties.zip fl) (fun p hp => h.zip p hp) Bd.zero).mono ?_
  rw [List.length_zip]
  have := h.tl
  omega
def spBestStop (K : Fg) : Sp := SpD K (fun a : Web × List Rat × Rat => [webD a.1, frL a.2.1, frD a.2.2]) (fun a => WebOk a.1 ∧ RoomsOk a.1 a.2.1 ∧ Sz a.2.2 ∧ 0 ≤ a.2.2 ∧ atOnce a.1 a.2.2 ≤ 2) (fun a d => ∃ e, d = .tuple [natD e.T, frL e.fl, .list (strsD e.S), anyT] ∧ StopRes a.1 a.2.1 a.2.2 e)
theorem ok_best_stop {f : Addr} {fd : FuncData} (F : Fun K "best_stop" "best_stop" s_best_stop f fd) (Zc : Cst K mg) (Z : StopCls K C) (c_look_at_web : Cal P w K mg base "look_at_web" 6 ["thing"] (spLWeb K)) (c_look_at_rooms : Cal P w K mg base "look_at_rooms" 5 ["web", "thing"] (spLRooms K)) (c_look_at_purse : Cal P w K mg base "look_at_purse" 5 ["thing"] (spLPurse K)) (c_at_once : Cal P w K mg base "at_once" 4 ["web", "purse"] (spOnce K)) (c_is_less : Cal P w K mg base "is_less" 1 ["one", "other"] (spLess K)) (c_amount_in : Cal P w K mg base "amount_in" 5 ["web", "flow"] (spAmtIn K))
    (c_StopSearch : CalC P w K mg base "StopSearch" C 1 ["self", "web", "rooms", "purse"] (spSInit K C)) (c_StopSearch_go_down : CalM P w K mg base C "go_down" 10 ["self", "taken", "kept"] (spGo 3 K C)) : FnOk P w K mg base CX0 11 f fd ["web", "rooms", "purse"] (spBestStop K) := by
  refine F.ok sc_best_stop (fun vs H Q E h => ?_) (fun cdv A outer s H vs Q E hr h => ?_)
  · obtain ⟨a, G, hg, hI, hp, q⟩ := h
    exact hI.length
  · obtain ⟨⟨W, R, P⟩, G, hg, hI, ⟨hW, hR, hP, hP0, hon⟩, q⟩ := h
    have hW : WebOk W := hW
    have hR : RoomsOk W R := hR
    have hP : Sz P := hP
    have hP0 : 0 ≤ P := hP0
    have hon : atOnce W P ≤ 2 := hon
    obtain ⟨tk2, g_MOST_AT_ONCE_stops⟩ := Zc.stops
    have A0 := at_start (K := K) (N := ["web", "rooms", "purse", "search", "cases", "best", "one"]) (ds := [.dat (webD W), .dat (frL R), .dat (frD P), .no, .no, .no, .no]) hg hI
    refine ⟨_, (pss_cons (ps_expr (p_call c_look_at_web (hr.mono (by first | exact Nat.le_refl _ | omega)) (pa_cons (pv 0) pa_nil)))
      (pss_cons (ps_expr (p_call c_look_at_rooms (hr.mono (by first | exact Nat.le_refl _ | omega)) (pa_cons (pv 0) (pa_cons (pv 1) pa_nil))))
      (pss_cons (ps_expr (p_call c_look_at_purse (hr.mono (by first | exact Nat.le_refl _ | omega)) (pa_cons (pv 2) pa_nil)))
      (pss_cons (ps_if (pt_cmpR o_gt (p_call c_at_once (hr.mono (by first | exact Nat.le_refl _ | omega)) (pa_cons (pv 0) (pa_cons (pv 2) pa_nil))) (pe_glob (v := .int 2) rfl g_MOST_AT_ONCE_stops ⟨_, rfl⟩) (nomark _)) (pss_one ps_never) pss_nil)
      (pss_cons (ps_set (i := 3) sc_best_stop.nd rfl (Or.inl rfl) (p_make c_StopSearch (hr.mono (by first | exact Nat.le_refl _ | omega)) (pa_cons (pv 0) (pa_cons (pv 1) (pa_cons (pv 2) pa_nil)))))
      (pss_cons (ps_set (i := 4) sc_best_stop.nd rfl (Or.inl rfl) (p_meth c_StopSearch_go_down (hr.mono (by first | exact Nat.le_refl _ | omega)) (pv 3) (pa_cons (pe_lst pa_nil) (pa_cons (pe_lst pa_nil) pa_nil))))
      (pss_cons (ps_set (i := 5) sc_best_stop.nd rfl (Or.inl rfl) (pe_ix (w_ixL (K := K)) (w_fld (K := K) (pv 3) rfl) pe_int (fun _ _ => rfl)))
      (pss_cons (ps_for PassesOwn.never rfl (w_list (K := K) (w_fld (K := K) (pv 3) rfl)) (pg_name (i := 6) sc_best_stop.nd rfl (Or.inl rfl)) (pss_one (ps_if (pt_val (p_call c_is_less (hr.mono (by first | exact Nat.le_refl _ | omega)) (pa_cons (p_call c_amount_in (hr.mono (by first | exact Nat.le_refl _ | omega)) (pa_cons (pv 0) (pa_cons (pe_ix (w_ixT (K := K)) (pv 6) pe_int (fun _ _ => rfl)) pa_nil))) (pa_cons (p_call c_amount_in (hr.mono (by first | exact Nat.le_refl _ | omega)) (pa_cons (pv 0) (pa_cons (pe_ix (w_ixT (K := K)) (pv 5) pe_int (fun _ _ => rfl)) pa_nil))) pa_nil)))) (pss_one (ps_set (i := 5) sc_best_stop.nd rfl (Or.inl rfl) (pv 6))) pss_nil)))
      (pss_one (ps_ret (pe_tup (pa_cons (pe_ix (w_ixT (K := K)) (pv 5) pe_int (fun _ _ => rfl)) (pa_cons (pe_ix (w_ixT (K := K)) (pv 5) pe_int (fun _ _ => rfl)) (pa_cons (pe_ix (w_ixT (K := K)) (pv 5) pe_int (fun _ _ => rfl)) (pa_cons (pv 4) pa_nil))))))))))))))), ?_⟩
    refine q_drop A0 (ev_look_at_web (el_cons (ev_var rfl) el_nil) hW) fun G1 H1 A1 => ?_
    refine q_drop A1 (ev_look_at_rooms (W := W) (R := R) (el_cons (ev_var rfl) (el_cons (ev_var rfl) el_nil)) hR) fun G2 H2 A2 => ?_
    refine q_drop A2 (ev_look_at_purse (a := P) (el_cons (ev_var rfl) el_nil) hP0) fun G3 H3 A3 => ?_
    refine q_no A3 (EvT.to (et_test (ev_gt (ev_at_once (W := W) (p := P) (el_cons (ev_var rfl) (el_cons (ev_var rfl) el_nil)) hW.wb hP) ev_int)) (decide_eq_false (by omega))) fun G4 H4 A4 => ?_
    refine q_makeS (W := W) (R := R) (P := P) A4 (el_cons (ev_var rfl) (el_cons (ev_var rfl) (el_cons (ev_var rfl) el_nil))) fun dx x o2 σ5 G5 H5 hx0 ho0 hne A5 => ?_
    have hpre : GoPre 3 W R P [] [] [] := ⟨hW, hR, hP, by show _ < 0 + 3; omega, List.nodup_nil, fun k hk => absurd hk (by simp), by show sumR _ ≤ P; exact hP0, by decide, by decide, by decide⟩
    refine q_setX A5 (ex_go (i := 0) (p := x) (o2 := o2) (es := []) (.inl ho0) (ev_var rfl) (List.mem_cons_of_mem _ List.mem_cons_self) rfl hne (el_cons (ev_lst (dl := []) el_nil) (el_cons (ev_lst (dl := []) el_nil) el_nil)) hpre) fun d ms' σ6 G6 H6 hd A6 => ?_
    obtain ⟨es, rfl, rfl, hpo⟩ := hd
    have A6 : At K none mu0 G H [] [.dat (webD W), .dat (frL R), .dat (frD P), .ref x, .dat anyT, .no, .no] [(o2, .lst (es.map entD)), (x, .ins C dx (stopFs W R P o2))] σ6 G6 H6 := A6
    obtain ⟨e0, er, rfl⟩ : ∃ e0 er, es = e0 :: er := by
      cases es with
      | nil => exact absurd rfl hpo.ne
      | cons a b => exact ⟨a, b, rfl⟩
    refine q_set A6 (ev_ixM (a := o2) (xs := (e0 :: er).map entD) (ev_fld (p := x) (ev_var rfl) Z.cl Z.found (List.mem_cons_of_mem _ List.mem_cons_self) rfl) List.mem_cons_self ev_int (atI_nat (j := 0) rfl)) fun σ7 G7 H7 A7 => ?_
    refine q_for A7 (it_known (p := o2) (es := (e0 :: er).map entD) (ev_fld (p := x) (ev_var rfl) Z.cl Z.found (List.mem_cons_of_mem _ List.mem_cons_self) rfl) List.mem_cons_self) (fun i e he => tg_name)
      (fun i ds ms => ∃ (b : Ent) (c : SC), ds = [.dat (webD W), .dat (frL R), .dat (frD P), .ref x, .dat anyT, .dat (entD b), c] ∧ ms = [(o2, .lst ((e0 :: er).map entD)), (x, .ins C dx (stopFs W R P o2))] ∧ b ∈ e0 :: er ∧ ∀ e ∈ (e0 :: er).take i, amtR W b.fl ≤ amtR W e.fl)
      ⟨e0, .no, rfl, rfl, List.mem_cons_self, fun e h => absurd h (by simp)⟩ (fun i ds ms _ j => by
        obtain ⟨_, _, _, rfl, _⟩ := j
        exact List.mem_cons_self) (fun gs i e ds ms σ8 G8 H8 L he j A8 hL => ?_) fun ds ms σ8 G8 H8 j A8 => ?_
    · obtain ⟨b, c, rfl, rfl, hb, hmin⟩ := j
      obtain ⟨e, hee, rfl⟩ := smap_get he
      have hbf := (hpo.ok b hb).mo.fl hW
      have hef := (hpo.ok e (List.mem_of_getElem? hee)).mo.fl hW
      refine s_if A8 (et_B (ev_is_less (a := amtR W e.fl) (b := amtR W b.fl) (el_cons (ev_amount_in (W := W) (fl := e.fl) (el_cons (ev_var rfl) (el_cons (ev_ixT1 (xs := [natD e.T, frL e.fl, .list (strsD e.S)]) (ev_var rfl) rfl) el_nil)) hef) (el_cons (ev_amount_in (W := W) (fl := b.fl) (el_cons (ev_var rfl) (el_cons (ev_ixT1 (xs := [natD b.T, frL b.fl, .list (strsD b.S)]) (ev_var rfl) rfl) el_nil)) hbf) el_nil)) ((amt_bd hef).sz (by omega)) ((amt_bd hbf).sz (by omega)))) (fun hlt G9 H9 A9 => ?_) fun hlt G9 H9 A9 => ?_
      · refine s_set A9 (ev_var (i := 6) (c := .dat (entD e)) rfl) fun σ10 G10 H10 A10 => ?_
        refine hL _ _ _ _ _ ⟨e, .dat (entD e), rfl, rfl, List.mem_of_getElem? hee, fun y hy => ?_⟩ A10
        rw [List.take_add_one, hee] at hy
        rcases List.mem_append.mp hy with hy | hy
        · have h1 := hmin y hy
          have h2 : amtR W e.fl < amtR W b.fl := of_decide_eq_true hlt
          grind
        · cases List.mem_singleton.mp hy
          exact Rat.le_refl
      · refine hL _ _ _ _ _ ⟨b, .dat (entD e), rfl, rfl, hb, fun y hy => ?_⟩ A9
        rw [List.take_add_one, hee] at hy
        rcases List.mem_append.mp hy with hy | hy
        · exact hmin y hy
        · cases List.mem_singleton.mp hy
          exact Rat.not_lt.mp (of_decide_eq_false hlt)
    · obtain ⟨b, c, rfl, rfl, hb, hmin⟩ := j
      rw [List.length_map, List.take_length] at hmin
      refine s_retD A8 (ev_tup (dl := [natD b.T, frL b.fl, .list (strsD b.S), anyT]) (el_cons (ev_ixT0 (xs := [natD b.T, frL b.fl, .list (strsD b.S)]) (ev_var rfl) rfl) (el_cons (ev_ixT1 (xs := [natD b.T, frL b.fl, .list (strsD b.S)]) (ev_var rfl) rfl) (el_cons (ev_ixT2 (xs := [natD b.T, frL b.fl, .list (strsD b.S)]) (ev_var rfl) rfl) (el_cons (ev_var rfl) el_nil))))) fun v G' H' st iv => q v G' H' _ st iv ⟨b, rfl, hpo.ok b hb, fun T hT S hS => ?_⟩
      obtain ⟨e, he, h1⟩ := hpo.cov T hT
      exact Rat.le_trans (hmin e he) (h1 S hS)
theorem evr_best_stop {W : Web} {R : List Rat} {P : Rat} (h : EvL K s t ds ms [webD W, frL R, frD P]) (hW : WebOk W) (hR : RoomsOk W R) (hP : Sz P) (h0 : 0 ≤ P) (ho : atOnce W P ≤ 2) : EvR K s (tCall (spBestStop K) [] E t) ds ms (fun d => ∃ e, d = .tuple [natD e.T, frL e.fl, .list (strsD e.S), anyT] ∧ StopRes W R P e) := evr_call (a := (W, R, P)) (post := fun (a : Web × List Rat × Rat) d => ∃ e, d = .tuple [natD e.T, frL e.fl, .list (strsD e.S), anyT] ∧ StopRes a.1 a.2.1 a.2.2 e) h ⟨hW, hR, hP, h0, ho⟩
end
end Fc
/-! Sy: dicts compared with the empty one, popped from, walked. -/
namespace Sy
open PySem PySem.Spec PyProof.Rows L2 Fc
def rNeE : R2 := fun x y H Q => ∃ a b kvs, x = .ref a ∧ y = .ref b ∧ H a = some (.dK kvs) ∧ H b = some (.dK []) ∧ Q (.bl (!kvs.isEmpty)) H
theorem op_neDict {X : Cx} (hu : X.A.units + 64 < cLine) : OpR X (compareOp .NotEq) rNeE := by
  intro pins s σ H x y v u Q I rx ry h
  obtain ⟨a, b, kvs, rfl, rfl, ha, hb, q⟩ := h
  cases rx
  cases ry
  obtain ⟨z1, d1, vs, k1, o1⟩ := dk_of I.hok ha
  obtain ⟨z2, d2, us, k2, o2⟩ := dk_of I.hok hb
  have hv : kvs.length = vs.length := Paired.length k1
  have hu0 : us = [] := by cases k2; rfl
  subst hu0
  refine PySem.W.keq_ne (r := true) d1 d2 o1 o2 (by omega) (fun h => ?_) ⟨.bl _, H, I, rfl, ?_⟩
  · cases vs with
    | nil => exact .nil
    | cons a r => simp at h
  · have e : (!(vs.length == ([] : List (Key × Value)).length && true)) = !kvs.isEmpty := by
      cases kvs with
      | nil =>
        have : vs = [] := List.length_eq_zero_iff.mp hv.symm
        subst this
        rfl
      | cons a r =>
        cases vs with
        | nil => simp at hv
        | cons b t => rfl
    rw [e]
    exact q
section
variable {K : Fg} {s : Option Addr} {mu : Addr → Prop} {G0 H0 G H G' H' : Hp} {gs : List Hp} {ds : List SC} {ms : List (Addr × MO)} {σ : L2.St} {D : Ends} {te ta tb tl to tm td ty tv : TE} {tt : TT} {tr : TA} {t u tz tu tw : TS} {c : SC} {d : Sy.D} {g : TG} {E : XK} {p : Addr} {kvs : List (Str × Sy.D)} {x : Str}
theorem Stp.alloc {o : HO} (e : Same G H) (hp : H p = none) : Stp mu G H G (upd H p o) := by
  have gp : G p = none := Same.free e hp
  refine ⟨Same.refl G, fun a u h => ?_, fun a u _ h => ?_, fun a h _ => h, fun a n => ?_⟩
  · rw [upd_ne (ne_of_none h gp)]
    exact e a u h
  · rw [upd_ne (ne_of_none h hp)]
    exact h
  · have ha : a ≠ p := fun z => by subst z; exact n hp
    rw [upd_ne ha]
    exact n
theorem ev_neDict (ha : EvC K s ta ds ms (.ref p)) (hm : (p, MO.dct kvs) ∈ ms) : EvD K s (tOp rNeE ta tDNewK) ds ms (.bool (!kvs.isEmpty)) := fun σ G H k Q q =>
  ha σ G H k _ fun v G1 H1 a1 o1 x1 b hb => by
    have k1 := k.step a1 o1
    cases x1.ref
    have a2 : Stp mu0 G1 H1 G1 (upd H1 b (.dK [])) := Stp.alloc k1.gh hb
    have k2 := k1.step a2.of0 (k1.stO a2)
    obtain ⟨kv, e1, r⟩ := k2.get hm
    refine ⟨p, b, kv, rfl, rfl, e1, upd_same, q _ G1 _ (a1.trans a2.of0) (k1.stO a2) ?_⟩
    have : kv.isEmpty = kvs.isEmpty := by cases r <;> rfl
    rw [this]
    exact .dat (.bl _)
/-- whatever: of any value -/
theorem ev_any (ha : EvC K s ta ds ms c) : EvD K s ta ds ms (.dict []) := fun σ G H k Q q => ha σ G H k Q fun v G' H' a o _ => q v G' H' a o (.dat (.any v))
/-- d.pop(x) -/
theorem ex_dpop {i : Nat} (ho : H0 p = none ∨ mu p) (hd : EvC K s td ds ms (.ref p)) (hy : EvD K s ty ds ms (.str x)) (hi : ms[i]? = some (p, .dct kvs)) (hx : aget kvs x = some d) : EvX K s mu G0 H0 gs (tDPop1 td ty) ds ms σ (fun ms' e => ms' = ms.set i (p, .dct (adel kvs x)) ∧ e = d) := fun G H A Q q =>
  hd σ G H A.kn _ fun v G1 H1 a1 o1 x1 => by
    have A1 := A.step a1 o1
    cases x1.ref
    obtain ⟨kv, e1, r⟩ := A1.kn.get (List.mem_of_getElem? hi)
    refine ⟨p, rfl, .inl ⟨kv, .inl e1⟩, hy σ G1 H1 A1.kn _ fun w G2 H2 a2 o2 x2 => ?_⟩
    have A2 := A1.step a2 o2
    obtain ⟨kv, e1, r⟩ := A2.kn.get (List.mem_of_getElem? hi)
    cases x2.is
    obtain ⟨v, e2, h2⟩ := (DR.get x r).2 d hx
    refine ⟨kv, Sum.inr x, v, e1, rfl, e2, q v d _ G2 _ ⟨rfl, rfl⟩ (A2.write (m' := .dct (adel kvs x)) ho hi ⟨_, upd_same, DR.del r⟩) (a1.gg.trans a2.gg) h2⟩
theorem q_dputX {i : Nat} {Φ : List (Addr × MO) → Sy.D → Prop} (ho : H0 p = none ∨ mu p) (A : At K s mu G0 H0 gs ds ms σ G H) (hv : EvX K s mu G0 H0 gs tv ds ms σ Φ) (hd : ∀ ms, EvC K s td ds ms (.ref p)) (hy : ∀ ms, EvD K s ty ds ms (.str x)) (hΦ : ∀ ms' d, Φ ms' d → ms'[i]? = some (p, .dct kvs)) (nd : (kvs.map (·.1)).Nodup) (hz : kvs.length < 1000) (k : ∀ ms' d G' H', Φ ms' d → At K s mu G0 H0 gs ds (ms'.set i (p, .dct (aput kvs x d))) σ G' H' → tz D σ H') : tSeq (sDPut td ty tv) tz D σ H :=
  hv G H A _ fun v d ms' G1 H1 hp A1 _ x1 => hd ms' σ G1 H1 A1.kn _ fun w G2 H2 a2 o2 x2 => hy ms' σ G2 H2 (A1.step a2 o2).kn _ fun u G3 H3 a3 o3 x3 => by
    have A3 := (A1.step a2 o2).step a3 o3
    obtain ⟨kv, e1, r⟩ := A3.kn.get (List.mem_of_getElem? (hΦ ms' d hp))
    cases x2.ref
    cases x3.is
    refine ⟨p, _, rfl, DPut.k (k := Sum.inr x) e1 (small1000 (by rw [DR.len r]; omega)), k ms' d _ _ hp (A3.write ho (hΦ ms' d hp) ⟨_, upd_same, ?_⟩)⟩
    exact DR.put ((x1.mono a2.gg).mono a3.gg) r nd
/-! a dict that is walked -/
theorem ev_dgetF {od : Obj} {kv : List (Key × V)} (hd : EvC K s td ds ms (.ref p)) (hy : EvD K s ty ds ms (.str x)) (hm : (p, MO.fdc od kv kvs) ∈ ms) (h : aget kvs x = some d) : EvD K s (tDGet td ty) ds ms d := fun σ G H k Q q =>
  hd σ G H k _ fun v G1 H1 a1 o1 x1 => hy σ G1 H1 (k.step a1 o1) _ fun w G2 H2 a2 o2 x2 => by
    obtain ⟨e1, r⟩ := ((k.step a1 o1).step a2 o2).get hm
    cases x1.ref
    cases x2.is
    obtain ⟨v, e2, h2⟩ := (DR.get x r).2 d h
    exact ⟨p, v, rfl, .inl ⟨kv, Sum.inr x, .inr ⟨od, e1⟩, rfl, e2.symm⟩, q _ G2 H2 (a1.trans a2) o2 (.dat h2)⟩
theorem it_keysF {od : Obj} {kv : List (Key × V)} (h : EvC K s td ds ms (.ref p)) (hm : (p, MO.fdc od kv kvs) ∈ ms) : ItD K s (iKeys td) ds ms (kvs.map fun q => .str q.1) (fun ms' => (p, MO.fdc od kv kvs) ∈ ms') := fun σ G H k R q =>
  h σ G H k _ fun v G1 H1 a o x => by
    cases x.ref
    obtain ⟨e0, r0⟩ := (k.step a o).get hm
    have hl : kv.length = kvs.length := DR.len r0
    refine ⟨p, od, rfl, .inl ⟨kv, e0, q _ G1 H1 a o fun i ds' ms' σ' G' H' k' e hC => ?_⟩⟩
    obtain ⟨e1, r1⟩ := k'.get hC
    rw [List.length_map]
    refine ⟨fun hi => ⟨e1, by omega⟩, fun hi => ⟨⟨e1, by omega⟩, fun y H'' hy => ?_⟩⟩
    obtain ⟨rfl, kk, vv, e2, rfl⟩ := hy
    obtain ⟨pp, e3, e4⟩ := pget (i := i) (b := kvs[i]) r1 (List.getElem?_eq_getElem hi)
    rw [e2] at e3
    cases e3
    have e4 : kk = .inr kvs[i].1 := e4.1
    subst e4
    exact ⟨rfl, .str kvs[i].1, by rw [List.getElem?_map, List.getElem?_eq_getElem hi] <;> rfl, .str _⟩
end
end Sy
/-! Ways: what is reached with its lengths. -/
namespace Fc
open PySem L2 Sy
abbrev WE := Int × Option (Nat × Str)
abbrev WL := List (Str × WE)
def weD : WE → D
  | (f, none) => .tuple [.int f, .none, .none]
  | (f, some (k, x)) => .tuple [.int f, .int ((k : Nat) : Int), .str x]
def kvW (l : WL) : List (Str × D) := l.map fun p => (p.1, weD p.2)
def keysW (l : WL) : List Str := l.map (·.1)
theorem keys_kvW (l : WL) : (kvW l).map (·.1) = keysW l := by
  unfold kvW keysW
  rw [List.map_map]
  rfl
theorem we_shape (e : WE) : ∃ a b, weD e = .tuple [.int e.1, a, b] := by
  obtain ⟨f, _ | ⟨k, x⟩⟩ := e <;> exact ⟨_, _, rfl⟩
theorem aget_kvW (l : WL) (y : Str) : aget (kvW l) y = (aget l y).map weD := aget_map weD y l
theorem aget_at {β : Type} {y : Str} {v : β} : ∀ {l : List (Str × β)}, (l.map (·.1)).Nodup → (y, v) ∈ l → aget l y = some v
  | p :: r, nd, h => by
    obtain ⟨n1, n2⟩ := List.nodup_cons.mp (show (p.1 :: r.map (·.1)).Nodup from nd)
    rcases List.mem_cons.mp h with e | h
    · rw [← e]
      simp [aget]
    · have ne : p.1 ≠ y := fun e => n1 (e ▸ List.mem_map.mpr ⟨_, h, rfl⟩)
      simp [aget, ne, aget_at n2 h]
theorem aput_keys {β : Type} (y : Str) (v : β) : ∀ l : List (Str × β), (aput l y v).map (·.1) = if y ∈ l.map (·.1) then l.map (·.1) else l.map (·.1) ++ [y]
  | [] => rfl
  | p :: r => by
    by_cases e : p.1 = y
    · simp [aput, e]
    · have ih := aput_keys y v r
      have ne : ¬ y = p.1 := fun z => e z.symm
      simp only [aput, if_neg e, List.map_cons, List.mem_cons, ne, false_or, ih]
      split <;> rfl
theorem aput_mem {β : Type} {y : Str} {v : β} {p : Str × β} : ∀ {l : List (Str × β)}, p ∈ aput l y v → p = (y, v) ∨ p ∈ l
  | [], h => .inl (List.mem_singleton.mp h)
  | q :: r, h => by
    by_cases e : q.1 = y
    · simp only [aput, if_pos e] at h
      rcases List.mem_cons.mp h with h | h
      · exact .inl (by rw [h, e])
      · exact .inr (List.mem_cons_of_mem _ h)
    · simp only [aput, if_neg e] at h
      rcases List.mem_cons.mp h with h | h
      · exact .inr (h ▸ List.mem_cons_self)
      · exact (aput_mem h).elim .inl fun z => .inr (List.mem_cons_of_mem _ z)
theorem adel_keys {β : Type} (y : Str) (l : List (Str × β)) : (adel l y).map (·.1) = (l.map (·.1)).filter fun x => decide (x ≠ y) := by
  unfold adel
  rw [List.filter_map]
  rfl
def Hop (W : Web) (T : List Nat) (k : Nat) (z y : Str) : Prop := k ∉ T ∧ ∃ t, W.ties[k]? = some t ∧ bhd t z = some y
structure PB (W : Web) (T : List Nat) (M : Int) (f wt : WL) (x : Str) (i : Nat) : Prop where
  nd : (keysW f ++ keysW wt).Nodup
  pl : ∀ y ∈ keysW f ++ keysW wt, y ∈ W.places
  hd : W.first ∈ keysW f ++ keysW wt
  non : ∀ y g, (y, (g, none)) ∈ f ++ wt → y = W.first
  parF : ∀ (j : Nat) (y : Str) (g : Int) (k : Nat) (z : Str), f[j]? = some (y, (g, some (k, z))) → Hop W T k z y ∧ ∃ (m : Nat) (e : WE), m < j ∧ f[m]? = some (z, e)
  parW : ∀ (y : Str) (g : Int) (k : Nat) (z : Str), (y, (g, some (k, z))) ∈ wt → Hop W T k z y ∧ z ∈ keysW f
  farF : ∀ y e, (y, e) ∈ f → 0 ≤ e.1 ∧ e.1 ≤ 7 * M
  farW : ∀ y e, (y, e) ∈ wt → 0 ≤ e.1 ∧ e.1 ≤ f.length * M
  cl : ∀ y ∈ keysW f, ∀ k z, Hop W T k y z → z ∈ keysW f ∨ z ∈ keysW wt ∨ (y = x ∧ i ≤ k)
theorem Hop.lt {W : Web} {T : List Nat} {k : Nat} {z y : Str} (h : Hop W T k z y) : k < W.ties.length := by
  obtain ⟨_, t, e, _⟩ := h
  exact (List.getElem?_eq_some_iff.mp e).1
theorem Hop.mem {W : Web} (hW : WebOk W) {T : List Nat} {k : Nat} {z y : Str} (h : Hop W T k z y) : y ∈ W.places := by
  obtain ⟨_, t, e, b⟩ := h
  have ht := hW.tk t (List.mem_of_getElem? e)
  unfold bhd at b
  split at b
  · cases b
    exact ht.other
  · split at b
    · cases b
      exact ht.one
    · cases b
theorem memW {l : WL} {y : Str} (h : y ∈ keysW l) : ∃ (j : Nat) (e : WE), l[j]? = some (y, e) := by
  obtain ⟨p, hp, e⟩ := List.mem_map.mp h
  obtain ⟨j, hj⟩ := List.getElem?_of_mem hp
  exact ⟨j, p.2, by rw [hj, ← e]⟩
theorem PB.start {W : Web} (hW : WebOk W) (T : List Nat) {M : Int} (n : Nat) : PB W T M [] [(W.first, (0, none))] W.first n where
  nd := by simp [keysW]
  pl := fun y hy => by
    cases List.mem_singleton.mp (show y ∈ [W.first] from hy)
    exact hW.fi
  hd := List.mem_singleton.mpr rfl
  non := fun y g h => by
    cases List.mem_singleton.mp (show (y, (g, none)) ∈ [(W.first, ((0 : Int), (none : Option (Nat × Str))))] from h)
    rfl
  parF := fun j y g k z e => by simp at e
  parW := fun y g k z h => by cases List.mem_singleton.mp h
  farF := fun y e h => absurd h (by simp)
  farW := fun y e h => by
    cases List.mem_singleton.mp h
    exact ⟨Int.le_refl _, by simp⟩
  cl := fun y hy => absurd hy (by simp [keysW])
theorem PB.fl {W : Web} {T : List Nat} {M : Int} {f wt : WL} {x : Str} {i : Nat} (b : PB W T M f wt x i) : f.length + wt.length ≤ W.places.length := by
  have := nodup_len b.nd b.pl
  unfold keysW at this
  rw [List.length_append, List.length_map, List.length_map] at this
  exact this
theorem PB.ndF {W : Web} {T : List Nat} {M : Int} {f wt : WL} {x : Str} {i : Nat} (b : PB W T M f wt x i) : (keysW f).Nodup := (List.nodup_append.mp b.nd).1
theorem PB.ndW {W : Web} {T : List Nat} {M : Int} {f wt : WL} {x : Str} {i : Nat} (b : PB W T M f wt x i) : (keysW wt).Nodup := (List.nodup_append.mp b.nd).2.1
theorem PB.pop {W : Web} {T : List Nat} {M : Int} {f wt : WL} {x' y : Str} {e : WE} (hW : WebOk W) (hM : 0 ≤ M) (b : PB W T M f wt x' W.ties.length) (h : (y, e) ∈ wt) : PB W T M (f ++ [(y, e)]) (adel wt y) y 0 ∧ 0 ≤ e.1 ∧ e.1 ≤ f.length * M := by
  have hyk : y ∈ keysW wt := List.mem_map.mpr ⟨_, h, rfl⟩
  have hyf : y ∉ keysW f := fun z => (List.nodup_append.mp b.nd).2.2 y z y hyk rfl
  have k1 : keysW (f ++ [(y, e)]) = keysW f ++ [y] := by
    unfold keysW
    rw [List.map_append]
    rfl
  have k2 : ∀ z, z ∈ keysW (adel wt y) ↔ z ∈ keysW wt ∧ z ≠ y := fun z => by
    unfold keysW
    rw [adel_keys, List.mem_filter]
    exact ⟨fun q => ⟨q.1, of_decide_eq_true q.2⟩, fun q => ⟨q.1, decide_eq_true q.2⟩⟩
  have sub : ∀ p ∈ adel wt y, p ∈ wt := fun p hp => (List.mem_filter.mp hp).1
  have hfl := b.fl
  have hwl : 0 < wt.length := List.length_pos_of_mem h
  have h7 := hW.hi
  refine ⟨⟨?_, fun z hz => ?_, ?_, fun z g hz => ?_, fun j z g k v hz => ?_, fun z g k v hz => ?_, fun z e' hz => ?_, fun z e' hz => ?_, fun z hz k v hop => ?_⟩, b.farW y e h⟩
  · rw [k1]
    refine List.nodup_append.mpr ⟨nd_snoc b.ndF hyf, ?_, fun a ha c hc => ?_⟩
    · unfold keysW
      rw [adel_keys]
      exact b.ndW.filter _
    · obtain ⟨hc1, hc2⟩ := (k2 c).mp hc
      rcases List.mem_append.mp ha with ha | ha
      · exact (List.nodup_append.mp b.nd).2.2 a ha c hc1
      · cases List.mem_singleton.mp ha
        exact fun z => hc2 z.symm
  · rw [k1] at hz
    rcases List.mem_append.mp hz with hz | hz
    · rcases List.mem_append.mp hz with hz | hz
      · exact b.pl z (List.mem_append_left _ hz)
      · cases List.mem_singleton.mp hz
        exact b.pl y (List.mem_append_right _ hyk)
    · exact b.pl z (List.mem_append_right _ ((k2 z).mp hz).1)
  · rw [k1]
    rcases List.mem_append.mp b.hd with q | q
    · exact List.mem_append_left _ (List.mem_append_left _ q)
    · by_cases e1 : W.first = y
      · exact List.mem_append_left _ (List.mem_append_right _ (List.mem_singleton.mpr e1))
      · exact List.mem_append_right _ ((k2 _).mpr ⟨q, e1⟩)
  · rcases List.mem_append.mp hz with hz | hz
    · rcases List.mem_append.mp hz with hz | hz
      · exact b.non z g (List.mem_append_left _ hz)
      · have e2 := List.mem_singleton.mp hz
        cases e2
        exact b.non _ g (List.mem_append_right _ h)
    · exact b.non z g (List.mem_append_right _ (sub _ hz))
  · by_cases hj : j < f.length
    · rw [List.getElem?_append_left hj] at hz
      obtain ⟨h1, m, e', h2, h3⟩ := b.parF j z g k v hz
      exact ⟨h1, m, e', h2, by rw [List.getElem?_append_left (by omega)]; exact h3⟩
    · rw [List.getElem?_append_right (by omega)] at hz
      have hj0 : j - f.length = 0 := by
        have := (List.getElem?_eq_some_iff.mp hz).1
        simp at this
        omega
      rw [hj0] at hz
      cases hz
      obtain ⟨h1, h2⟩ := b.parW y g k v h
      obtain ⟨m, e', hm⟩ := memW h2
      have hml := (List.getElem?_eq_some_iff.mp hm).1
      exact ⟨h1, m, e', by omega, by rw [List.getElem?_append_left hml]; exact hm⟩
  · obtain ⟨h1, h2⟩ := b.parW z g k v (sub _ hz)
    exact ⟨h1, by rw [k1]; exact List.mem_append_left _ h2⟩
  · rcases List.mem_append.mp hz with hz | hz
    · exact b.farF z e' hz
    · cases List.mem_singleton.mp hz
      obtain ⟨h1, h2⟩ := b.farW y e h
      refine ⟨h1, Int.le_trans h2 (Int.mul_le_mul_of_nonneg_right (by omega) hM)⟩
  · obtain ⟨h1, h2⟩ := b.farW z e' (sub _ hz)
    refine ⟨h1, Int.le_trans h2 (Int.mul_le_mul_of_nonneg_right ?_ hM)⟩
    rw [List.length_append]
    omega
  · rw [k1] at hz ⊢
    by_cases e1 : z = y
    · exact .inr (.inr ⟨e1, Nat.zero_le _⟩)
    · rcases List.mem_append.mp hz with hz | hz
      · rcases b.cl z hz k v hop with q | q | q
        · exact .inl (List.mem_append_left _ q)
        · by_cases e2 : v = y
          · exact .inl (List.mem_append_right _ (List.mem_singleton.mpr e2))
          · exact .inr (.inl ((k2 v).mpr ⟨q, e2⟩))
        · have := hop.lt
          omega
      · exact absurd (List.mem_singleton.mp hz) e1
/-- a tie looked at, nothing put -/
theorem PB.skip {W : Web} {T : List Nat} {M : Int} {f wt : WL} {x : Str} {k : Nat} (b : PB W T M f wt x k) (h : ∀ z, Hop W T k x z → z ∈ keysW f ∨ z ∈ keysW wt) : PB W T M f wt x (k + 1) :=
  ⟨b.nd, b.pl, b.hd, b.non, b.parF, b.parW, b.farF, b.farW, fun y hy j z hop => by
    rcases b.cl y hy j z hop with q | q | ⟨q1, q2⟩
    · exact .inl q
    · exact .inr (.inl q)
    · by_cases e : j = k
      · subst e
        subst q1
        exact (h z hop).elim .inl fun q => .inr (.inl q)
      · exact .inr (.inr ⟨q1, by omega⟩)⟩
theorem PB.put {W : Web} {T : List Nat} {M : Int} {f wt : WL} {x z : Str} {k : Nat} {g : Int} (hW : WebOk W) (b : PB W T M f wt x k) (hx : x ∈ keysW f) (hop : Hop W T k x z) (hz : z ∉ keysW f) (hg0 : 0 ≤ g) (hg : g ≤ f.length * M) : PB W T M f (aput wt z (g, some (k, x))) x (k + 1) := by
  have ks : keysW (aput wt z (g, some (k, x))) = if z ∈ keysW wt then keysW wt else keysW wt ++ [z] := aput_keys z _ wt
  have kz : ∀ y, y ∈ keysW (aput wt z (g, some (k, x))) ↔ y ∈ keysW wt ∨ y = z := fun y => by
    rw [ks]
    by_cases h : z ∈ keysW wt
    · rw [if_pos h]
      exact ⟨.inl, fun q => q.elim id fun e => e ▸ h⟩
    · rw [if_neg h, List.mem_append, List.mem_singleton]
  refine ⟨?_, fun y hy => ?_, ?_, fun y g' hy => ?_, b.parF, fun y g' k' v hy => ?_, b.farF, fun y e hy => ?_, fun y hy j v hop' => ?_⟩
  · refine List.nodup_append.mpr ⟨b.ndF, ?_, fun a ha c hc => ?_⟩
    · rw [ks]
      split
      · exact b.ndW
      · rename_i h
        exact nd_snoc b.ndW h
    · rcases (kz c).mp hc with hc | hc
      · exact (List.nodup_append.mp b.nd).2.2 a ha c hc
      · subst hc
        exact fun e => hz (e ▸ ha)
  · rcases List.mem_append.mp hy with hy | hy
    · exact b.pl y (List.mem_append_left _ hy)
    · rcases (kz y).mp hy with hy | hy
      · exact b.pl y (List.mem_append_right _ hy)
      · subst hy
        exact hop.mem hW
  · rcases List.mem_append.mp b.hd with q | q
    · exact List.mem_append_left _ q
    · exact List.mem_append_right _ ((kz _).mpr (.inl q))
  · rcases List.mem_append.mp hy with hy | hy
    · exact b.non y g' (List.mem_append_left _ hy)
    · rcases aput_mem hy with e | hy
      · cases e
      · exact b.non y g' (List.mem_append_right _ hy)
  · rcases aput_mem hy with e | hy
    · cases e
      exact ⟨hop, hx⟩
    · exact b.parW y g' k' v hy
  · rcases aput_mem hy with e' | hy
    · cases e'
      exact ⟨hg0, hg⟩
    · exact b.farW y e hy
  · rcases b.cl y hy j v hop' with q | q | ⟨q1, q2⟩
    · exact .inl q
    · exact .inr (.inl ((kz v).mpr (.inl q)))
    · by_cases e : j = k
      · subst e
        subst q1
        obtain ⟨_, t, e1, e2⟩ := hop
        obtain ⟨_, t', e3, e4⟩ := hop'
        rw [e1] at e3
        cases e3
        rw [e2] at e4
        cases e4
        exact .inr (.inl ((kz z).mpr (.inr rfl)))
      · exact .inr (.inr ⟨q1, by omega⟩)
/-- all that is reached -/
abbrev RchOk (W : Web) (T : List Nat) (M : Int) (f : WL) : Prop := PB W T M f [] W.first W.ties.length
theorem PB.fin {W : Web} {T : List Nat} {M : Int} {f : WL} {x : Str} (b : PB W T M f [] x W.ties.length) : RchOk W T M f :=
  ⟨b.nd, b.pl, b.hd, b.non, b.parF, b.parW, b.farF, b.farW, fun y hy k z hop => by
    rcases b.cl y hy k z hop with q | q | ⟨_, q⟩
    · exact .inl q
    · exact .inr (.inl q)
    · have := hop.lt
      omega⟩
theorem RchOk.clo {W : Web} {T : List Nat} {M : Int} {f : WL} (b : RchOk W T M f) {y : Str} (hy : y ∈ keysW f) {k : Nat} {z : Str} (hop : Hop W T k y z) : z ∈ keysW f := by
  rcases b.cl y hy k z hop with q | q | ⟨_, q⟩
  · exact q
  · exact absurd q (by simp [keysW])
  · have := hop.lt
    omega
theorem RchOk.first {W : Web} {T : List Nat} {M : Int} {f : WL} (b : RchOk W T M f) : W.first ∈ keysW f := by
  have := b.hd
  simpa [keysW] using this
/-- no way: a side that nothing leaves -/
def NoWay (W : Web) (T : List Nat) : Prop := ∃ S : Str → Bool, Sd W S ∧ ∀ k x y, Hop W T k x y → S x = true → S y = true
def Way (W : Web) : Str → List Nat → Str → Prop
  | a, [], b => a = b
  | a, k :: ks, b => ∃ t c, W.ties[k]? = some t ∧ bhd t a = some c ∧ Way W c ks b
structure WayOk (W : Web) (T ks : List Nat) : Prop where
  way : Way W W.first ks W.last
  no : ∀ k ∈ ks, k ∉ T
  lt : ∀ k ∈ ks, k < W.ties.length
  len : ks.length ≤ 7
theorem RchOk.noway {W : Web} {T : List Nat} {M : Int} {f : WL} (b : RchOk W T M f) (h : W.last ∉ keysW f) : NoWay W T :=
  ⟨fun x => decide (x ∈ keysW f), ⟨decide_eq_true b.first, decide_eq_false h⟩, fun k x y hop hx => decide_eq_true (b.clo (of_decide_eq_true hx) hop)⟩
theorem way_S {W : Web} {T : List Nat} {S : Str → Bool} (hS : ∀ k x y, Hop W T k x y → S x = true → S y = true) : ∀ {ks : List Nat} {a b : Str}, Way W a ks b → (∀ k ∈ ks, k ∉ T) → S a = true → S b = true
  | [], a, b, h, _, ha => by
    have h : a = b := h
    rw [← h]
    exact ha
  | k :: ks, a, b, ⟨t, c, e1, e2, h⟩, hn, ha => way_S hS h (fun j hj => hn j (List.mem_cons_of_mem _ hj)) (hS k a c ⟨hn k List.mem_cons_self, t, e1, e2⟩ ha)
/-- a taking that leaves no way holds a tie of each way -/
theorem NoWay.hit {W : Web} {T ks : List Nat} (h : NoWay W T) (hw : Way W W.first ks W.last) : ∃ k ∈ ks, k ∈ T := by
  obtain ⟨S, ⟨s1, s2⟩, hS⟩ := h
  refine Classical.byContradiction fun hn => ?_
  have := way_S hS hw (fun k hk hT => hn ⟨k, hk, hT⟩) s1
  rw [s2] at this
  cases this
theorem NoWay.up {W : Web} {T U : List Nat} (h : NoWay W T) (hs : ∀ k ∈ T, k ∈ U) : NoWay W U := by
  obtain ⟨S, s1, s2⟩ := h
  exact ⟨S, s1, fun k x y hop => s2 k x y ⟨fun z => hop.1 (hs k z), hop.2⟩⟩
end Fc
namespace Fc
open PySem PySem.Spec PyProof.Rows L2 Sy
section
variable {P : Program} {w : World} {K : Fg} {mg : Str → Option Value} {base : Heap} {C : Addr}
variable {s : Option Addr} {mu : Addr → Prop} {G0 H0 G H : Hp} {gs : List Hp} {ds : List SC} {ms : List (Addr × MO)} {σ : L2.St} {D : Ends} {t tr : TA} {ta tb te ti to : TE} {tz : TS} {E : XK} {p d : Addr}
abbrev s_nearest : Stmt := topS 63
theorem sc_nearest : FnScope ["waiting", "found", "place"] ["waiting"] (defScope s_nearest) := ⟨rfl, rfl, rfl, by decide +kernel, rfl, by decide +kernel, by decide +kernel⟩

def spNear (K : Fg) : Sp := fun vs H Q _ => ∃ (d : Addr) (G : Hp) (wt : WL), vs = [.ref d] ∧ Same G H ∧ MOk K G H d (.dct (kvW wt)) ∧ G d = none ∧ wt ≠ [] ∧ (keysW wt).Nodup ∧ ∀ v G' H' y, Stp mu0 G H G' H' → Is K G' v (.str y) → y ∈ keysW wt → Q v H'
theorem isN_opt (o : Option Str) : isN (optS o) = o.isNone := by cases o <;> rfl
theorem ok_nearest {f : Addr} {fd : FuncData} (F : Fun K "nearest" "nearest" s_nearest f fd) : FnOk P w K mg base CX0 1 f fd ["waiting"] (spNear K) := by
  refine F.ok sc_nearest (fun vs H Q E h => ?_) (fun cdv A outer s H vs Q E hr h => ?_)
  · obtain ⟨d, G, wt, rfl, _⟩ := h
    rfl
  · obtain ⟨d, G, wt, rfl, hg, hm, gd, hne, hnd, q⟩ := h
    obtain ⟨kv, ed, rd⟩ := hm
    have hm : MOk K G H d (.dct (kvW wt)) := ⟨kv, ed, rd⟩
    have A0 : At K none (fun c => c = d) G H [] [.ref d, .no, .no] [(d, .dct (kvW wt))] (L2.start ["waiting", "found", "place"] [.ref d]) G H := by
      refine at_startM hg (.cons rfl (.cons True.intro (.cons True.intro .nil))) (fun r hr => ?_) (by simp)
      cases List.mem_singleton.mp hr
      exact ⟨hm, gd⟩
    refine ⟨_, (pss_cons (ps_set (i := 1) sc_nearest.nd rfl (Or.inl rfl) pe_non)
      (pss_cons (ps_lock (ps_for PassesOwn.never rfl (pi_keys (pv 0)) (pg_name (i := 2) sc_nearest.nd rfl (Or.inl rfl)) (pss_one (ps_if (PW.pt (pw_or (pt_cmpR o_isN (pv 1) pe_non (nomark _)) (pw_or1 (pt_cmpR o_lt (pe_ix (w_ixT (K := K)) (pe_dget (hu_of hr) (pv 0) (pv 2) (fun _ _ => rfl)) pe_int (fun _ _ => rfl)) (pe_ix (w_ixT (K := K)) (pe_dget (hu_of hr) (pv 0) (pv 1) (fun _ _ => rfl)) pe_int (fun _ _ => rfl)) (nomark _))))) (pss_one (ps_set (i := 1) sc_nearest.nd rfl (Or.inl rfl) (pv 2))) pss_nil))))
      (pss_one (ps_ret (pv 1))))), ?_⟩
    have hH1 : ∀ {H1 : Hp}, Stp mu0 G H G H1 → H1 d = some (.dK kv) := fun a => a.hh d _ (fun z => z) ed
    -- found = None : nothing of the heap changes
    refine ⟨d, .dK kv, ed, True.intro, fun od => ?_⟩
    have A1 : At K none (fun c => c = d) G H [] [.ref d, .dat (optS none), .no] [(d, .fdc od kv (kvW wt))] _ G (upd H d (.frz od (.dK kv))) := (A0.write (i := 0) (m' := .fdc od kv (kvW wt)) (.inr rfl) rfl ⟨upd_same, rd⟩).slot (i := 1) (c := .dat .none) (CP.dat .non)
    have ka : ∀ y, y ∈ keysW wt → ∃ e : WE, aget (kvW wt) y = some (weD e) := fun y hy => by
      obtain ⟨j, e, hj⟩ := memW hy
      exact ⟨e, by rw [aget_kvW, aget_at hnd (List.mem_of_getElem? hj)] <;> rfl⟩
    refine s_for A1 (it_keysF (od := od) (kv := kv) (p := d) (kvs := kvW wt) (ev_var rfl) List.mem_cons_self) (fun i e he => tg_name)
      (fun i ds ms => ∃ (o : Option Str) (c : SC), ds = [.ref d, .dat (optS o), c] ∧ ms = [(d, .fdc od kv (kvW wt))] ∧ (∀ y, o = some y → y ∈ keysW wt) ∧ (0 < i → o ≠ none)) ⟨none, .no, rfl, rfl, fun y h => (by cases h), fun h => absurd h (by omega)⟩ (fun i ds ms _ j => by
        obtain ⟨_, _, _, rfl, _⟩ := j
        exact List.mem_cons_self) (fun gs i e ds ms σ2 G2 H2 L he j A2 hL => ?_) fun ds ms σ2 G2 H2 j A2 => ?_
    · obtain ⟨o, c, rfl, rfl, ho, _⟩ := j
      obtain ⟨⟨y, dy⟩, hy, rfl⟩ := smap_get he
      have hyk : y ∈ keysW wt := by
        rw [← keys_kvW]
        exact List.mem_map.mpr ⟨_, List.mem_of_getElem? hy, rfl⟩
      obtain ⟨ey, hey⟩ := ka y hyk
      obtain ⟨a1, b1, s1⟩ := we_shape ey
      have evD : ∀ {z : Str} {ez : WE} {j : Nat} {ds : List SC}, ds[0]? = some (.ref d) → ds[j]? = some (.dat (.str z)) → aget (kvW wt) z = some (weD ez) → EvD K none (tOp (rIxT K) (tDGet (tVar 0) (tVar j)) (tC (.int 0))) ds [(d, .fdc od kv (kvW wt))] (.int ez.1) := fun {z ez j ds} h0 hj hz => by
        obtain ⟨a2, b2, s2⟩ := we_shape ez
        refine ev_ixT0 (xs := [.int ez.1, a2, b2]) ?_ rfl
        rw [← s2]
        exact ev_dgetF (od := od) (kv := kv) (p := d) (ev_var h0) (ev_var hj) List.mem_cons_self hz
      cases o with
      | none =>
        refine s_if (b := true || false) A2 (et_or (b := false) (et_test (ev_isN (x := .none) (ev_var rfl))) fun h => by cases h) (fun hb G3 H3 A3 => ?_) fun hb G3 H3 A3 => by cases hb
        refine s_set A3 (ev_var (i := 2) (c := .dat (.str y)) rfl) fun σ4 G4 H4 A4 => ?_
        exact hL _ _ _ _ _ ⟨some y, _, rfl, rfl, fun z hz => (by cases hz; exact hyk), fun _ => by simp⟩ A4
      | some z =>
        obtain ⟨ez, hez⟩ := ka z (ho z rfl)
        refine s_if A2 (et_or (et_test (ev_isN (x := .str z) (ev_var rfl))) fun _ => et_test (ev_lt (evD rfl rfl hey) (evD rfl rfl hez))) (fun hb G3 H3 A3 => ?_) fun hb G3 H3 A3 => ?_
        · refine s_set A3 (ev_var (i := 2) (c := .dat (.str y)) rfl) fun σ4 G4 H4 A4 => ?_
          exact hL _ _ _ _ _ ⟨some y, _, rfl, rfl, fun z hz => (by cases hz; exact hyk), fun _ => by simp⟩ A4
        · exact hL _ _ _ _ _ ⟨some z, _, rfl, rfl, ho, fun _ => by simp⟩ A3
    · obtain ⟨o, c, rfl, rfl, ho, hpos⟩ := j
      have hl : 0 < ((kvW wt).map fun q => PyData.str q.1).length := by
        rw [List.length_map]
        unfold kvW
        rw [List.length_map]
        exact List.length_pos_iff.mpr hne
      cases o with
      | none => exact absurd rfl (hpos hl)
      | some y =>
        obtain ⟨m1, g2, _⟩ := A2.kn.mo _ List.mem_cons_self
        have hf : H2 d = some (.frz od (.dK kv)) := m1.1
        refine ⟨hf, ?_⟩
        obtain ⟨v, ev, hv⟩ := pget (i := 1) A2.kn.sl rfl
        obtain ⟨v, rfl, hv⟩ := hv
        refine ⟨v, ev, ?_⟩
        have g2 : G2 d = none := g2
        refine q v G2 (upd H2 d (.dK kv)) y ⟨A2.sp.gg, fun a u h => ?_, fun a u _ h => ?_, A2.sp.nw, fun a n => ?_⟩ hv (ho y rfl)
        · rw [upd_ne (ne_of_none h g2)]
          exact A2.kn.gh a u h
        · by_cases e : a = d
          · subst e
            rw [upd_same]
            rw [ed] at h
            exact h
          · rw [upd_ne e]
            exact A2.sp.hh a u e h
        · by_cases e : a = d
          · subst e
            rw [upd_same]
            exact fun z => nomatch z
          · rw [upd_ne e]
            exact A2.sp.st a n
theorem evr_nearest {wt : WL} (hd : EvC K s ta ds ms (.ref d)) (hm : (d, MO.dct (kvW wt)) ∈ ms) (hne : wt ≠ []) (hnd : (keysW wt).Nodup) : EvR K s (tCall (spNear K) [] E (tCons ta tNil)) ds ms (fun e => ∃ y, e = .str y ∧ y ∈ keysW wt) := fun σ G H k Q q =>
  hd σ G H k _ fun v G1 H1 a1 o1 x1 => by
    have k1 := k.step a1 o1
    cases x1.ref
    obtain ⟨m1, g1, _⟩ := k1.mo _ hm
    exact ⟨d, G1, wt, rfl, k1.gh, m1, g1, hne, hnd, fun v G2 H2 y a2 x2 hy => q v G2 H2 _ (a1.trans a2.of0) (k1.stO a2) x2 ⟨y, rfl, hy⟩⟩
end
end Fc
namespace Fc
open PySem PySem.Spec PyProof.Rows L2 Sy
section
variable {P : Program} {w : World} {K : Fg} {mg : Str → Option Value} {base : Heap} {C : Addr}
variable {s : Option Addr} {mu : Addr → Prop} {G0 H0 G H : Hp} {gs : List Hp} {ds : List SC} {ms : List (Addr × MO)} {σ : L2.St} {D : Ends} {t tr : TA} {ta tb te ti to : TE} {tz : TS} {E : XK} {p d : Addr}
abbrev s_reached : Stmt := topS 64
theorem sc_reached : FnScope ["web", "taken", "wholes", "waiting", "found", "here", "number", "place", "far"] ["web", "taken", "wholes"] (defScope s_reached) := ⟨rfl, rfl, rfl, by decide +kernel, rfl, by decide +kernel, by decide +kernel⟩

structure RPre (W : Web) (ws : List Int) (M : Int) : Prop where
  hW : WebOk W
  len : ws.length = W.ties.length
  ws : ∀ w ∈ ws, 0 ≤ w ∧ w ≤ M
  M0 : 0 ≤ M
def spRch (K : Fg) : Sp := fun vs H Q _ => ∃ (W : Web) (T : List Nat) (ws : List Int) (M : Int) (G : Hp), Same G H ∧ IsA K G vs [webD W, natD T, .list (intsD ws)] ∧ RPre W ws M ∧
  ∀ d G' H' f, Stp mu0 G H G' H' → H d = none → G' d = none → MOk K G' H' d (.dct (kvW f)) → RchOk W T M f → Q (.ref d) H'
theorem kvW_nd {l : WL} (h : (keysW l).Nodup) : ((kvW l).map (·.1)).Nodup := by
  rw [keys_kvW]
  exact h
theorem kvW_len (l : WL) : (kvW l).length = l.length := by
  unfold kvW
  rw [List.length_map]
theorem aget_isS (l : WL) (y : Str) : (aget (kvW l) y).isSome = decide (y ∈ keysW l) := by
  rw [aget_some, keys_kvW]
theorem aput_kvW (l : WL) (y : Str) (e : WE) : aput (kvW l) y (weD e) = kvW (aput l y e) := aput_map weD y e l
theorem adel_kvW (l : WL) (y : Str) : adel (kvW l) y = kvW (adel l y) := adel_map weD y l
theorem adel_len {β : Type} (l : List (Str × β)) (y : Str) : (adel l y).length ≤ l.length := List.length_filter_le _ _
theorem optS_noAny (o : Option Str) : noAny (optS o) = true := by cases o <;> rfl
theorem ok_reached {f : Addr} {fd : FuncData} (F : Fun K "reached" "reached" s_reached f fd) (B : Bl mg) (c_nearest : Cal P w K mg base "nearest" 1 ["waiting"] (spNear K)) (c_behind : Cal P w K mg base "behind" 1 ["tie", "place"] (spBehind K)) : FnOk P w K mg base CX0 2 f fd ["web", "taken", "wholes"] (spRch K) := by
  refine F.ok sc_reached (fun vs H Q E h => ?_) (fun cdv A outer s H vs Q E hr h => ?_)
  · obtain ⟨W, T, ws, M, G, hg, hI, _⟩ := h
    exact hI.length
  · obtain ⟨W, T, ws, M, G, hg, hI, hp, q⟩ := h
    have hW := hp.hW
    have A0 := at_start (K := K) (N := ["web", "taken", "wholes", "waiting", "found", "here", "number", "place", "far"]) (ds := [.dat (webD W), .dat (natD T), .dat (.list (intsD ws)), .no, .no, .no, .no, .no, .no]) hg hI
    refine ⟨_, (pss_cons (ps_set (i := 3) sc_reached.nd rfl (Or.inl rfl) (pe_disp (pps_cons (pe_ix (w_ixT (K := K)) (pv 0) pe_int (fun _ _ => rfl)) (pe_tup (pa_cons pe_int (pa_cons pe_non (pa_cons pe_non pa_nil)))) pps_nil) (by rfl) (by rfl) (fun z => by cases z) (by decide)))
      (pss_cons (ps_set (i := 4) sc_reached.nd rfl (Or.inl rfl) pe_dnewK)
      (pss_cons (ps_while PassesOwn.never (pt_cmpR (op_neDict hr.units) (pv 3) pe_dnewK (nomark _)) (pss_cons (ps_set (i := 5) sc_reached.nd rfl (Or.inl rfl) (p_call c_nearest (hr.mono (by first | exact Nat.le_refl _ | omega)) (pa_cons (pv 3) pa_nil)))
      (pss_cons (ps_dput (hu_of hr) (pv 4) (pv 5) (pe_dpop1 (pv 3) (pv 5) ⟨rfl, rfl, rfl, rfl⟩) rfl)
      (pss_one (ps_for PassesOwn.never rfl (pi_range1 (by rfl) B.range_ (pa_cons (pe_callB (w_len (K := K)) (by rfl) B.len_ PySem.boot_len (pa_cons (pv 2) pa_nil)) pa_nil)) (pg_name (i := 6) sc_reached.nd rfl (Or.inl rfl)) (pss_cons (ps_set (i := 7) sc_reached.nd rfl (Or.inl rfl) (p_call c_behind (hr.mono (by first | exact Nat.le_refl _ | omega)) (pa_cons (pe_ix (w_ixL (K := K)) (pe_ix (w_ixT (K := K)) (pv 0) pe_int (fun _ _ => rfl)) (pv 6) (fun _ _ => rfl)) (pa_cons (pv 5) pa_nil))))
      (pss_one (ps_if (PW.pt (pw_and (pt_cmpR o_notN (pv 7) pe_non (nomark _)) (pw_and (pt_cmp (pc_dnotin (hu_of hr) (pv 7) (pv 4)) (by rfl)) (pw_and1 (pt_cmpR (w_ni (K := K)) (pv 6) (pv 1) (by rfl)))))) (pss_cons (ps_set (i := 8) sc_reached.nd rfl (Or.inl rfl) (pe_op o_add (pe_ix (w_ixT (K := K)) (pe_dget (hu_of hr) (pv 4) (pv 5) (fun _ _ => rfl)) pe_int (fun _ _ => rfl)) (pe_ix (w_ixL (K := K)) (pv 2) (pv 6) (fun _ _ => rfl))))
      (pss_one (ps_if (PW.pt (pw_or (pt_cmp (pc_dnotin (hu_of hr) (pv 7) (pv 3)) (by rfl)) (pw_or1 (pt_cmpR o_lt (pv 8) (pe_ix (w_ixT (K := K)) (pe_dget (hu_of hr) (pv 3) (pv 7) (fun _ _ => rfl)) pe_int (fun _ _ => rfl)) (nomark _))))) (pss_one (ps_dput (hu_of hr) (pv 3) (pv 7) (pe_tup (pa_cons (pv 8) (pa_cons (pv 6) (pa_cons (pv 5) pa_nil)))) rfl)) pss_nil))) pss_nil))))))))
      (pss_one (ps_ret (pv 4)))))), ?_⟩
    refine q_disp' A0 (x := W.first) (d := weD (0, none)) (fun r => ev_ixT2 (ev_var rfl) rfl) (fun r => ev_tup (dl := [.int 0, .none, .none]) (el_cons ev_int (el_cons ev_non (el_cons ev_non el_nil)))) fun wd σ1 G1 H1 hwd A1 => ?_
    refine q_newD A1 fun fo σ2 G2 H2 hfo A2 => ?_
    have hle := hW.hi
    have htl := hW.tl
    refine q_while A2 (fun n ds ms => ∃ (f wt : WL) (x : Str) (c1 c2 c3 c4 : SC), ds = [.dat (webD W), .dat (natD T), .dat (.list (intsD ws)), .ref wd, .ref fo, c1, c2, c3, c4] ∧ ms = [(fo, .dct (kvW f)), (wd, .dct (kvW wt))] ∧ PB W T M f wt x W.ties.length ∧ n + f.length = W.places.length) W.places.length
      ⟨[], [(W.first, (0, none))], W.first, .no, .no, .no, .no, rfl, rfl, PB.start hW T _, rfl⟩ fun n ds ms σ3 G3 H3 j A3 => ?_
    obtain ⟨f, wt, x0, c1, c2, c3, c4, rfl, rfl, hb, hn⟩ := j
    refine ⟨_, et_test (ev_neDict (p := wd) (kvs := kvW wt) (ev_var rfl) (List.mem_cons_of_mem _ List.mem_cons_self)), fun hbl G4 H4 L A4 hL => ?_, fun hbl G4 H4 A4 => ?_⟩
    · have hne : wt ≠ [] := fun z => by
        subst z
        cases hbl
      refine q_setR A4 (evr_nearest (wt := wt) (ev_var rfl) (List.mem_cons_of_mem _ List.mem_cons_self) hne hb.ndW) fun dy σ5 G5 H5 hy A5 => ?_
      obtain ⟨y, rfl, hyk⟩ := hy
      obtain ⟨jy, ey, hjy⟩ := memW hyk
      have hmem := List.mem_of_getElem? hjy
      have hget : aget (kvW wt) y = some (weD ey) := by rw [aget_kvW, aget_at hb.ndW hmem] <;> rfl
      have hyf : y ∉ keysW f := fun z => (List.nodup_append.mp hb.nd).2.2 y z y hyk rfl
      have hfl := hb.fl
      obtain ⟨hb1, hg0, hgM⟩ := hb.pop hW hp.M0 hmem
      have A5 : At K none mu0 G H [] [.dat (webD W), .dat (natD T), .dat (.list (intsD ws)), .ref wd, .ref fo, .dat (.str y), c2, c3, c4] [(fo, .dct (kvW f)), (wd, .dct (kvW wt))] σ5 G5 H5 := A5
      refine q_dputX (i := 0) (p := fo) (kvs := kvW f) (x := y) (.inl hfo) A5 (ex_dpop (i := 1) (p := wd) (.inl hwd) (ev_var rfl) (ev_var rfl) rfl hget) (fun ms => ev_var rfl) (fun ms => ev_var rfl) (fun ms' d h => by
        obtain ⟨rfl, _⟩ := h
        rfl) (kvW_nd hb.ndF) (by rw [kvW_len]; omega) fun ms' d G6 H6 hd A6 => ?_
      obtain ⟨rfl, rfl⟩ := hd
      have ef : aput (kvW f) y (weD ey) = kvW (f ++ [(y, ey)]) := by
        rw [aput_new (aget_none.mpr (by rw [keys_kvW]; exact hyf))]
        unfold kvW
        rw [List.map_append]
        rfl
      have A6 : At K none mu0 G H [] [.dat (webD W), .dat (natD T), .dat (.list (intsD ws)), .ref wd, .ref fo, .dat (.str y), c2, c3, c4] [(fo, .dct (aput (kvW f) y (weD ey))), (wd, .dct (adel (kvW wt) y))] σ5 G6 H6 := A6
      rw [ef, adel_kvW] at A6
      have hk1 : y ∈ keysW (f ++ [(y, ey)]) := by
        unfold keysW
        rw [List.map_append]
        exact List.mem_append_right _ List.mem_cons_self
      have hgy : aget (kvW (f ++ [(y, ey)])) y = some (weD ey) := by rw [aget_kvW, aget_at hb1.ndF (List.mem_append_right _ List.mem_cons_self)] <;> rfl
      refine s_for A6 (it_nats (n := ws.length) (EvL.to (el_cons (ev_lenL (xs := intsD ws) (ev_var rfl)) el_nil) (by unfold intsD; rw [List.length_map])) (by rw [hp.len]; omega)) (fun i e he => tg_name)
        (fun i ds ms => ∃ (w1 : WL) (c2 c3 c4 : SC), ds = [.dat (webD W), .dat (natD T), .dat (.list (intsD ws)), .ref wd, .ref fo, .dat (.str y), c2, c3, c4] ∧ ms = [(fo, .dct (kvW (f ++ [(y, ey)]))), (wd, .dct (kvW w1))] ∧ PB W T M (f ++ [(y, ey)]) w1 y i)
        ⟨adel wt y, _, _, _, rfl, rfl, hb1⟩ (fun _ _ _ _ _ => trivial) (fun gs i e ds ms σ7 G7 H7 L' he j A7 hL' => ?_) fun ds ms σ7 G7 H7 j A7 => ?_
      · obtain ⟨w1, c2, c3, c4, rfl, rfl, hb2⟩ := j
        obtain ⟨k, hk, rfl⟩ := natsD_get he
        obtain ⟨hi, rfl⟩ := range_get hk
        rw [hp.len] at hi
        have hkt := List.getElem?_eq_getElem hi
        have hws := List.getElem?_eq_getElem (show k < ws.length by rw [hp.len]; exact hi)
        obtain ⟨hw0, hwM⟩ := hp.ws _ (List.mem_of_getElem? hws)
        have hfl2 := hb2.fl
        refine q_set A7 (ev_behind (T := W.ties[k]) (x := y) (el_cons (ev_ixLn (xs := W.ties.map tieD) (ev_ixT1 (ev_var rfl) rfl) (ev_var rfl) (smap_at hkt)) (el_cons (ev_var rfl) el_nil))) fun σ8 G8 H8 A8 => ?_
        have A8 : At K none mu0 G H gs [.dat (webD W), .dat (natD T), .dat (.list (intsD ws)), .ref wd, .ref fo, .dat (.str y), .dat (.int ((k : Nat) : Int)), .dat (optS (bhd W.ties[k] y)), c4] [(fo, .dct (kvW (f ++ [(y, ey)]))), (wd, .dct (kvW w1))] σ8 G8 H8 := A8
        have hopi : ∀ z, Hop W T k y z ↔ k ∉ T ∧ bhd W.ties[k] y = some z := fun z => ⟨fun ⟨h1, t, e1, e2⟩ => ⟨h1, by rw [hkt] at e1; cases e1; exact e2⟩, fun ⟨h1, h2⟩ => ⟨h1, _, hkt, h2⟩⟩
        cases hz : bhd W.ties[k] y with
        | none =>
          rw [hz] at A8
          refine s_no A8 (et_and (a := false) (b := true) (et_test (ev_notN (x := .none) (ev_var rfl))) fun h => by cases h) fun G9 H9 A9 => ?_
          refine hL' _ _ _ _ _ ⟨w1, _, _, _, rfl, rfl, hb2.skip fun z hop => ?_⟩ A9
          have := ((hopi z).mp hop).2
          rw [hz] at this
          cases this
        | some z =>
          rw [hz] at A8
          refine s_if A8 (et_and (et_test (ev_notN (x := .str z) (ev_var rfl))) fun _ => et_and (et_test (ev_dni (p := fo) (kvs := kvW (f ++ [(y, ey)])) (ev_var rfl) (ev_var rfl) List.mem_cons_self)) fun _ => et_test (ev_niN (k := k) (l := T) (ev_var rfl) (ev_var rfl))) (fun hbb G9 H9 A9 => ?_) fun hbb G9 H9 A9 => ?_
          · rw [aget_isS] at hbb
            have hzf : z ∉ keysW (f ++ [(y, ey)]) := by
              intro h
              rw [decide_eq_true h] at hbb
              simp at hbb
            have hkT : k ∉ T := by
              intro h
              rw [decide_eq_true h] at hbb
              simp at hbb
            have hop : Hop W T k y z := (hopi z).mpr ⟨hkT, hz⟩
            obtain ⟨a1, b1, s1⟩ := we_shape ey
            refine q_set A9 (ev_add (i := ey.1) (j := ws[k]'(by rw [hp.len]; exact hi)) (ev_ixT0 (xs := [.int ey.1, a1, b1]) (EvC.to (ev_dget (p := fo) (kvs := kvW (f ++ [(y, ey)])) (x := y) (ev_var rfl) (ev_var rfl) List.mem_cons_self hgy) (by rw [s1])) rfl) (ev_ixLn (xs := intsD ws) (ev_var rfl) (ev_var rfl) (smap_at hws))) fun σ10 G10 H10 A10 => ?_
            have A10 : At K none mu0 G H gs [.dat (webD W), .dat (natD T), .dat (.list (intsD ws)), .ref wd, .ref fo, .dat (.str y), .dat (.int ((k : Nat) : Int)), .dat (.str z), .dat (.int (ey.1 + ws[k]'(by rw [hp.len]; exact hi)))] [(fo, .dct (kvW (f ++ [(y, ey)]))), (wd, .dct (kvW w1))] σ10 G10 H10 := A10
            have hfar : ey.1 + ws[k]'(by rw [hp.len]; exact hi) ≤ (f ++ [(y, ey)]).length * M := by
              rw [List.length_append]
              show _ ≤ ((f.length + 1 : Nat) : Int) * M
              rw [Int.natCast_add, Int.add_mul]
              show _ ≤ (f.length : Int) * M + 1 * M
              omega
            have put : ∀ G11 H11, At K none mu0 G H gs [.dat (webD W), .dat (natD T), .dat (.list (intsD ws)), .ref wd, .ref fo, .dat (.str y), .dat (.int ((k : Nat) : Int)), .dat (.str z), .dat (.int (ey.1 + ws[k]'(by rw [hp.len]; exact hi)))] [(fo, .dct (kvW (f ++ [(y, ey)]))), (wd, .dct (kvW w1))] σ10 G11 H11 → ∀ D : Ends, D.nx = L' → sDPut (tVar 3) (tVar 7) (tTup (tCons (tVar 8) (tCons (tVar 6) (tCons (tVar 5) tNil)))) D σ10 H11 := fun G11 H11 A11 D hD => by
              refine s_dput (i := 1) (p := wd) (kvs := kvW w1) (x := z) (d := weD (ey.1 + ws[k]'(by rw [hp.len]; exact hi), some (k, y))) (.inl hwd) A11 (ev_tup (dl := [.int (ey.1 + ws[k]'(by rw [hp.len]; exact hi)), .int ((k : Nat) : Int), .str y]) (el_cons (ev_var rfl) (el_cons (ev_var rfl) (el_cons (ev_var rfl) el_nil)))) (ev_var rfl) (ev_var rfl) rfl (kvW_nd hb2.ndW) (by rw [kvW_len]; omega) fun G12 H12 A12 => ?_
              rw [hD]
              refine hL' _ _ _ _ _ ⟨aput w1 z (ey.1 + ws[k]'(by rw [hp.len]; exact hi), some (k, y)), _, _, _, rfl, ?_, hb2.put hW hk1 hop hzf (by omega) hfar⟩ A12
              rw [← aput_kvW]
              rfl
            by_cases hzw : z ∈ keysW w1
            · obtain ⟨jz, ez, hjz⟩ := memW hzw
              obtain ⟨a2, b2, s2⟩ := we_shape ez
              have hgz : aget (kvW w1) z = some (weD ez) := by rw [aget_kvW, aget_at hb2.ndW (List.mem_of_getElem? hjz)] <;> rfl
              refine s_if A10 (et_or (et_test (ev_dni (p := wd) (kvs := kvW w1) (ev_var rfl) (ev_var rfl) (List.mem_cons_of_mem _ List.mem_cons_self))) fun _ => et_test (ev_lt (j := ez.1) (ev_var rfl) (ev_ixT0 (xs := [.int ez.1, a2, b2]) (EvC.to (ev_dget (p := wd) (kvs := kvW w1) (x := z) (ev_var rfl) (ev_var rfl) (List.mem_cons_of_mem _ List.mem_cons_self) hgz) (by rw [s2])) rfl))) (fun hb3 G11 H11 A11 => put _ _ A11 _ rfl) fun hb3 G11 H11 A11 => ?_
              refine hL' _ _ _ _ _ ⟨w1, _, _, _, rfl, rfl, hb2.skip fun z' hop' => ?_⟩ A11
              have h1 := ((hopi z').mp hop').2
              rw [hz] at h1
              cases h1
              exact .inr hzw
            · refine s_if (b := true || false) A10 (et_or (a := true) (b := false) (EvT.to (et_test (ev_dni (p := wd) (kvs := kvW w1) (ev_var rfl) (ev_var rfl) (List.mem_cons_of_mem _ List.mem_cons_self))) (by rw [aget_isS, decide_eq_false hzw] <;> rfl)) fun h => by cases h) (fun hb3 G11 H11 A11 => put _ _ A11 _ rfl) fun hb3 G11 H11 A11 => by cases hb3
          · refine hL' _ _ _ _ _ ⟨w1, _, _, _, rfl, rfl, hb2.skip fun z' hop' => ?_⟩ A9
            obtain ⟨h0, h1⟩ := (hopi z').mp hop'
            rw [hz] at h1
            cases h1
            rw [aget_isS, decide_eq_false h0] at hbb
            refine .inl (Classical.byContradiction fun h2 => ?_)
            rw [decide_eq_false h2] at hbb
            cases hbb
      · obtain ⟨w1, c2, c3, c4, rfl, rfl, hb2⟩ := j
        rw [natsD_len, List.length_range, hp.len] at hb2
        refine hL (n - 1) _ _ _ _ _ ?_ ⟨f ++ [(y, ey)], w1, y, _, _, _, _, rfl, rfl, hb2, ?_⟩ A7
        · have := hb2.fl
          simp only [List.length_append, List.length_cons, List.length_nil] at this
          omega
        · have := hb2.fl
          simp only [List.length_append, List.length_cons, List.length_nil] at this ⊢
          omega
    · cases wt with
      | cons a r => cases hbl
      | nil => exact s_retK A4 (p := fo) (ev_var rfl) List.mem_cons_self fun G' H' st so hm gd => q fo G' H' f st hfo gd hm hb.fin
end
end Fc
namespace Fc
open PySem PySem.Spec PyProof.Rows L2 Sy
section
variable {P : Program} {w : World} {K : Fg} {mg : Str → Option Value} {base : Heap} {C : Addr}
variable {s : Option Addr} {mu : Addr → Prop} {G0 H0 G H : Hp} {gs : List Hp} {ds : List SC} {ms : List (Addr × MO)} {σ : L2.St} {D : Ends} {t tr : TA} {ta tb te ti to : TE} {tz : TS} {E : XK} {p d : Addr}
theorem q_rch {i : Nat} {W : Web} {T : List Nat} {ws : List Int} {M : Int} (A : At K s mu G0 H0 gs ds ms σ G H) (h : EvL K s tr ds ms [webD W, natD T, .list (intsD ws)]) (hp : RPre W ws M)
    (k : ∀ d σ' G' H' f, H0 d = none → RchOk W T M f → At K s mu G0 H0 gs (ds.set i (.ref d)) ((d, .dct (kvW f)) :: ms) σ' G' H' → tz D σ' H') : tSeq (tAsg (tCall (spRch K) [] E tr) (gName i)) tz D σ H :=
  h σ G H A.kn _ fun vs G1 H1 a1 o1 x1 => by
    have A1 := A.step a1 o1
    refine ⟨W, T, ws, M, G1, A1.kn.gh, by rw [List.append_nil]; exact x1, hp, fun d G2 H2 f a2 hd gd hm hf => ?_⟩
    obtain ⟨A2, hd0⟩ := A1.got (m := .dct (kvW f)) a2 hd gd hm (fun _ z => z)
    exact k d _ G2 H2 f hd0 hf (A2.slot rfl)
abbrev s_way_back : Stmt := topS 65
theorem sc_way_back : FnScope ["web", "found", "way", "place", "far", "number", "ahead"] ["web", "found"] (defScope s_way_back) := ⟨rfl, rfl, rfl, by decide +kernel, rfl, by decide +kernel, by decide +kernel⟩

def spWB (K : Fg) : Sp := fun vs H Q _ => ∃ (W : Web) (T : List Nat) (M : Int) (f : WL) (G : Hp) (d : Addr) (vw : V), vs = [vw, .ref d] ∧ Same G H ∧ Is K G vw (webD W) ∧ MOk K G H d (.dct (kvW f)) ∧ G d = none ∧ RchOk W T M f ∧ W.last ∈ keysW f ∧ WebOk W ∧
  ∀ v G' H' ks, Stp mu0 G H G' H' → Is K G' v (natD ks) → WayOk W T ks → Q v H'
theorem ev_revM {a : Addr} {xs : List Sy.D} (ha : EvC K s ta ds ms (.ref a)) (hm : (a, MO.lst xs) ∈ ms) : EvD K s (tRevL K ta) ds ms (.list xs.reverse) := fun σ G H k Q q =>
  ha σ G H k _ fun v G1 H1 a1 o1 x1 => by
    have k1 := k.step a1 o1
    obtain ⟨vs, e1, h1⟩ := k1.get hm
    cases x1.ref
    refine ⟨a, vs, rfl, SqL.of e1, fun p hp => ?_⟩
    have a2 : Stp mu0 G1 H1 _ _ := Stp.new (o := .lst vs.reverse) k1.gh hp
    exact q _ _ _ (a1.trans a2.of0) (k1.stO a2) (.dat (is_newL (Same.free k1.gh hp) h1.reverse))
theorem ok_way_back {f : Addr} {fd : FuncData} (F : Fun K "way_back" "way_back" s_way_back f fd) : FnOk P w K mg base CX0 1 f fd ["web", "found"] (spWB K) := by
  refine F.ok sc_way_back (fun vs H Q E h => ?_) (fun cdv A outer s H vs Q E hr h => ?_)
  · obtain ⟨W, T, M, f, G, d, vw, rfl, _⟩ := h
    rfl
  · obtain ⟨W, T, M, f, G, d, vw, rfl, hg, hw, hm, gd, hf, hla, hW, q⟩ := h
    have A0 : At K none mu0 G H [] [.dat (webD W), .ref d, .no, .no, .no, .no, .no] [(d, .dct (kvW f))] (L2.start ["web", "found", "way", "place", "far", "number", "ahead"] [vw, .ref d]) G H := by
      refine at_startM hg (.cons ⟨vw, rfl, hw⟩ (.cons rfl (.cons True.intro (.cons True.intro (.cons True.intro (.cons True.intro (.cons True.intro .nil))))))) (fun r hr => ?_) (by simp)
      cases List.mem_singleton.mp hr
      exact ⟨hm, gd⟩
    refine ⟨_, (pss_cons (ps_set (i := 2) sc_way_back.nd rfl (Or.inl rfl) (pe_lst pa_nil))
      (pss_cons (ps_set (i := 3) sc_way_back.nd rfl (Or.inl rfl) (pe_ix (w_ixT (K := K)) (pv 0) pe_int (fun _ _ => rfl)))
      (pss_cons (ps_while PassesOwn.never (pt_cmpR op_ne (pv 3) (pe_ix (w_ixT (K := K)) (pv 0) pe_int (fun _ _ => rfl)) (nomark _)) (pss_cons (ps_asg (pe_dget (hu_of hr) (pv 1) (pv 3) (fun _ _ => rfl)) (w_tup (K := K) (by rfl) (pgs_cons (pg_name (i := 4) sc_way_back.nd rfl (Or.inl rfl)) (pgs_cons (pg_name (i := 5) sc_way_back.nd rfl (Or.inl rfl)) (pgs_cons (pg_name (i := 6) sc_way_back.nd rfl (Or.inl rfl)) pgs_nil)))))
      (pss_cons (ps_expr (w_bm (K := K) PySem.F.plainAttrs_list PySem.F.slot_list_append PySem.F.type_list_append mt_append (pv 2) (pa_cons (pv 5) pa_nil)))
      (pss_one (ps_set (i := 3) sc_way_back.nd rfl (Or.inl rfl) (pv 6))))))
      (pss_one (ps_ret (w_revL (K := K) (pv 2))))))), ?_⟩
    refine q_new A0 (en_lst (dl := []) el_nil) fun wy dl σ1 G1 H1 hdl hwy A1 => ?_
    subst hdl
    refine q_set A1 (ev_ixT3 (xs := [.list (W.places.map .str), .list (W.ties.map tieD), .str W.first, .str W.last]) (ev_var rfl) rfl) fun σ2 G2 H2 A2 => ?_
    obtain ⟨j0, e0, hj0⟩ := memW hla
    have hfl := hf.fl
    have h7 := hW.hi
    have hj0l := (List.getElem?_eq_some_iff.mp hj0).1
    refine q_while A2 (fun n ds ms => ∃ (l : List Nat) (y : Str) (e : WE) (c1 c2 c3 : SC), ds = [.dat (webD W), .ref d, .ref wy, .dat (.str y), c1, c2, c3] ∧ ms = [(wy, .lst (natsD l)), (d, .dct (kvW f))] ∧ f[n]? = some (y, e) ∧ Way W y l.reverse W.last ∧ (∀ k ∈ l, k ∉ T ∧ k < W.ties.length) ∧ l.length + n < f.length) j0
      ⟨[], W.last, e0, .no, .no, .no, rfl, rfl, hj0, rfl, fun k h => absurd h (by simp), by simpa using hj0l⟩ fun n ds ms σ3 G3 H3 j A3 => ?_
    obtain ⟨l, y, e, c1, c2, c3, rfl, rfl, hn, hway, hl, hln⟩ := j
    refine ⟨_, et_test (ev_neS (i := y) (j := W.first) (ev_var rfl) (ev_ixT2 (ev_var rfl) rfl)), fun hb G4 H4 L A4 hL => ?_, fun hb G4 H4 A4 => ?_⟩
    · have hyn : y ≠ W.first := of_decide_eq_true hb
      obtain ⟨g, o⟩ := e
      cases o with
      | none => exact absurd (hf.non y g (by rw [List.append_nil]; exact List.mem_of_getElem? hn)) hyn
      | some kz =>
        obtain ⟨k, z⟩ := kz
        obtain ⟨hop, m, e', hm1, hm2⟩ := hf.parF n y g k z hn
        refine q_unp A4 (d := weD (g, some (k, z))) (ev_dget (p := d) (kvs := kvW f) (x := y) (ev_var rfl) (ev_var rfl) (List.mem_cons_of_mem _ List.mem_cons_self) (by rw [aget_kvW, aget_at hf.ndF (List.mem_of_getElem? hn)] <;> rfl)) (tg_tup [4, 5, 6] rfl rfl) fun σ5 G5 H5 A5 => ?_
        refine q_app (i := 0) (.inl hwy) A5 (ev_var rfl) rfl (ev_var (i := 5) (c := .dat (.int ((k : Nat) : Int))) rfl) (by rw [natsD_len]; omega) fun G6 H6 A6 => ?_
        refine s_set A6 (ev_var (i := 6) (c := .dat (.str z)) rfl) fun σ7 G7 H7 A7 => ?_
        refine hL m _ _ _ _ _ hm1 ⟨l ++ [k], z, e', _, _, _, rfl, ?_, hm2, ?_, ?_, ?_⟩ A7
        · show [(wy, MO.lst (natsD l ++ [_])), (d, _)] = _
          unfold natsD
          rw [List.map_append]
          rfl
        · rw [List.reverse_append]
          obtain ⟨_, t, e1, e2⟩ := hop
          exact ⟨t, y, e1, e2, hway⟩
        · intro j hj
          rcases List.mem_append.mp hj with hj | hj
          · exact hl j hj
          · cases List.mem_singleton.mp hj
            exact ⟨hop.1, hop.lt⟩
        · rw [List.length_append]
          show l.length + 1 + m < f.length
          omega
    · have hyn : y = W.first := Classical.byContradiction fun z => of_decide_eq_false hb z
      subst hyn
      refine s_retD A4 (d := natD l.reverse) (EvC.to (ev_revM (a := wy) (xs := natsD l) (ev_var rfl) List.mem_cons_self) (by unfold natD natsD; rw [List.map_reverse])) fun v G' H' st iv => q v G' H' l.reverse st iv ⟨hway, fun k hk => (hl k (List.mem_reverse.mp hk)).1, fun k hk => (hl k (List.mem_reverse.mp hk)).2, by rw [List.length_reverse]; omega⟩
theorem evr_way_back {W : Web} {T : List Nat} {M : Int} {f : WL} (hw : EvD K s tb ds ms (webD W)) (hd : EvC K s ta ds ms (.ref d)) (hm : (d, MO.dct (kvW f)) ∈ ms) (hf : RchOk W T M f) (hla : W.last ∈ keysW f) (hW : WebOk W) : EvR K s (tCall (spWB K) [] E (tCons tb (tCons ta tNil))) ds ms (fun e => ∃ ks, e = natD ks ∧ WayOk W T ks) := fun σ G H k Q q =>
  hw σ G H k _ fun v0 G0 H0 a0 o0 x0 => hd σ G0 H0 (k.step a0 o0) _ fun v G1 H1 a1 o1 x1 => by
    have k1 := (k.step a0 o0).step a1 o1
    cases x1.ref
    obtain ⟨m1, g1, _⟩ := k1.mo _ hm
    exact ⟨W, T, M, f, G1, d, v0, rfl, k1.gh, x0.is.mono a1.gg, m1, g1, hf, hla, hW, fun v G2 H2 ks a2 x2 hk => q v G2 H2 _ ((a0.trans a1).trans a2.of0) (k1.stO a2) x2 ⟨ks, rfl, hk⟩⟩
abbrev s_least_by : Stmt := topS 66
theorem sc_least_by : FnScope ["web", "taken", "lengths", "part", "found", "one", "prices", "place"] ["web", "taken", "lengths"] (defScope s_least_by) := ⟨rfl, rfl, rfl, by decide +kernel, rfl, by decide +kernel, by decide +kernel⟩

def LeastRes (W : Web) (T : List Nat) (d : Sy.D) : Prop := ∃ a b, d = .tuple [a, optD b, .dict []] ∧ ((a = .none ∧ b = none ∧ NoWay W T) ∨ ∃ ks q, a = natD ks ∧ b = some q ∧ Sz q ∧ WayOk W T ks)
structure LPre (W : Web) (ls : List Rat) : Prop where
  hW : WebOk W
  len : ls.length = W.ties.length
  ls : ∀ q ∈ ls, 0 ≤ q ∧ Bd 1 q
def spLeastBy (K : Fg) : Sp := SpD K (fun a : Web × List Nat × List Rat => [webD a.1, natD a.2.1, frL a.2.2]) (fun a => LPre a.1 a.2.2) (fun a d => LeastRes a.1 a.2.1 d)
def prD (part : Nat) (f : WL) (y : Str) : Sy.D := match aget f y with
  | none => .none
  | some e => frD (mkRat e.1 part)
theorem aput_last {β : Type} {y : Str} {u v : β} : ∀ {l : List (Str × β)}, y ∉ l.map (·.1) → aput (l ++ [(y, u)]) y v = l ++ [(y, v)]
  | [], _ => by simp [aput]
  | p :: r, h => by
    have h1 : ¬ p.1 = y := fun z => h (by rw [← z]; exact List.mem_cons_self)
    have h2 : y ∉ r.map (·.1) := fun z => h (List.mem_cons_of_mem _ z)
    simp [aput, h1, aput_last h2]
theorem mk_sz {g : Int} {b : Nat} (h : g.natAbs < LN) (hb : b < LN) : Sz (mkRat g b) := by
  by_cases h0 : b = 0
  · subst h0
    exact (Bd.zero.sz (by omega))
  · refine ⟨?_, ?_⟩
    · rw [Rat.num_mkRat, if_neg h0]
      exact Nat.lt_of_le_of_lt (Int.natAbs_ediv_le_natAbs _ _) h
    · rw [Rat.den_mkRat, if_neg h0]
      exact Nat.lt_of_le_of_lt (Nat.div_le_self _ _) hb
theorem notin_take {l : List Str} (nd : l.Nodup) {i : Nat} {y : Str} (h : l[i]? = some y) : y ∉ l.take i := fun hm => by
  obtain ⟨j, hj⟩ := List.getElem?_of_mem hm
  have hjl : j < i := by
    have := (List.getElem?_eq_some_iff.mp hj).1
    rw [List.length_take] at this
    omega
  rw [List.getElem?_take_of_lt hjl] at hj
  have := nd_ix nd hj h
  omega
theorem ok_least_by {f : Addr} {fd : FuncData} (F : Fun K "least_by" "least_by" s_least_by f fd) (B : Bl mg) (c_common_of : Cal P w K mg base "common_of" 2 ["some"] (spComm K)) (c_whole_of : Cal P w K mg base "whole_of" 1 ["one", "part"] (spWholeOf K)) (c_reached : Cal P w K mg base "reached" 2 ["web", "taken", "wholes"] (spRch K)) (c_lowest : Cal P w K mg base "lowest" 2 ["top", "bottom"] (spLowest K)) (c_way_back : Cal P w K mg base "way_back" 1 ["web", "found"] (spWB K)) : FnOk P w K mg base CX0 3 f fd ["web", "taken", "lengths"] (spLeastBy K) := by
  refine F.ok sc_least_by (fun vs H Q E h => ?_) (fun cdv A outer s H vs Q E hr h => ?_)
  · obtain ⟨a, G, hg, hI, hp, q⟩ := h
    exact hI.length
  · obtain ⟨⟨W, T, ls⟩, G, hg, hI, hp, q⟩ := h
    have hp : LPre W ls := hp
    have hW := hp.hW
    have hbd := lcmF_dvd (l := ls) fun q hq => (hp.ls q hq).2.den
    have hb0 : 0 < lcmF ls := Nat.pos_of_dvd_of_pos hbd (by decide)
    have hble : lcmF ls ≤ 1008 := Nat.le_of_dvd (by decide) hbd
    have hLN : 1008 < LN := by decide +kernel
    have hLN2 : 1008 < LN2 := by decide +kernel
    have hlen := hp.len
    have htl := hW.tl
    have h7 := hW.hi
    have A0 := at_start (K := K) (N := ["web", "taken", "lengths", "part", "found", "one", "prices", "place"]) (ds := [.dat (webD W), .dat (natD T), .dat (frL ls), .no, .no, .no, .no, .no]) hg hI
    refine ⟨_, (pss_cons (ps_set (i := 3) sc_least_by.nd rfl (Or.inr rfl) (p_call c_common_of (hr.mono (by first | exact Nat.le_refl _ | omega)) (pa_cons (pv 2) pa_nil)))
      (pss_cons (ps_set (i := 4) sc_least_by.nd rfl (Or.inl rfl) (p_call c_reached (hr.mono (by first | exact Nat.le_refl _ | omega)) (pa_cons (pv 0) (pa_cons (pv 1) (pa_cons (pe_lc (own := [("one", 5)]) (g := gName 5) (tt := tYes) rfl sc_least_by.nd (w_list (K := K) (pv 2)) (blkOk_by (own := [("one", 5)]) (N := ["web", "taken", "lengths", "part", "found", "one", "prices", "place"]) (sc := defScope s_least_by) (by decide +kernel)) (fun _ _ _ _ _ => (pg_name (i := 5) sc_least_by.nd rfl (Or.inl rfl))) (fun _ _ _ _ _ => pts_nil) (fun _ _ _ _ _ => (p_call c_whole_of (hr.mono (by first | exact Nat.le_refl _ | omega)) (pa_cons (pv 5) (pa_cons (pv 3) pa_nil))))) pa_nil)))))
      (pss_cons (ps_set (i := 6) sc_least_by.nd rfl (Or.inl rfl) pe_dnewK)
      (pss_cons (ps_for PassesOwn.never rfl (w_list (K := K) (pe_ix (w_ixT (K := K)) (pv 0) pe_int (fun _ _ => rfl))) (pg_name (i := 7) sc_least_by.nd rfl (Or.inl rfl)) (pss_cons (ps_dput (hu_of hr) (pv 6) (pv 7) pe_non rfl)
      (pss_one (ps_if (pt_cmp (pc_din (hu_of hr) (pv 7) (pv 4)) (by rfl)) (pss_one (ps_dput (hu_of hr) (pv 6) (pv 7) (p_call c_lowest (hr.mono (by first | exact Nat.le_refl _ | omega)) (pa_cons (pe_ix (w_ixT (K := K)) (pe_dget (hu_of hr) (pv 4) (pv 7) (fun _ _ => rfl)) pe_int (fun _ _ => rfl)) (pa_cons (pv 3) pa_nil))) rfl)) pss_nil))))
      (pss_cons (ps_if (pt_cmp (pc_dnotin (hu_of hr) (pe_ix (w_ixT (K := K)) (pv 0) pe_int (fun _ _ => rfl)) (pv 4)) (by rfl)) (pss_one (ps_ret (pe_tup (pa_cons pe_non (pa_cons pe_non (pa_cons (pv 6) pa_nil)))))) pss_nil)
      (pss_one (ps_ret (pe_tup (pa_cons (p_call c_way_back (hr.mono (by first | exact Nat.le_refl _ | omega)) (pa_cons (pv 0) (pa_cons (pv 4) pa_nil))) (pa_cons (pe_dget (hu_of hr) (pv 6) (pe_ix (w_ixT (K := K)) (pv 0) pe_int (fun _ _ => rfl)) (fun _ _ => rfl)) (pa_cons (pv 6) pa_nil))))))))))), ?_⟩
    refine q_set A0 (ev_common_bottom (l := ls) (el_cons (ev_var rfl) el_nil) fun q hq => (hp.ls q hq).2.den) fun σ1 G1 H1 A1 => ?_
    have hpre : RPre W (roomsZ ls) ((1008 * MB : Nat) : Int) := by
      refine ⟨hW, by unfold roomsZ; rw [List.length_map]; exact hlen, fun w hw => ?_, Int.natCast_nonneg _⟩
      obtain ⟨q, hq, rfl⟩ := List.mem_map.mp hw
      obtain ⟨q0, qb⟩ := hp.ls q hq
      have n0 : 0 ≤ q.num := Rat.num_nonneg.mpr q0
      have h1 := qb.num_le
      have h2 : lcmF ls / q.den ≤ 1008 := Nat.le_trans (Nat.div_le_self _ _) hble
      refine ⟨Int.mul_nonneg n0 (Int.natCast_nonneg _), ?_⟩
      have h3 : q.num ≤ ((MB : Nat) : Int) := by omega
      have h4 : (((lcmF ls / q.den : Nat)) : Int) ≤ ((1008 : Nat) : Int) := by omega
      have h5 : q.num * ((lcmF ls / q.den : Nat) : Int) ≤ ((MB : Nat) : Int) * ((1008 : Nat) : Int) := Int.mul_le_mul h3 h4 (Int.natCast_nonneg _) (Int.natCast_nonneg _)
      rw [Int.natCast_mul, Int.mul_comm]
      rw [Int.mul_comm] at h5
      exact Int.le_trans (by rw [Int.mul_comm]; exact Int.le_refl _) h5
    refine q_rch (i := 4) (W := W) (T := T) (ws := roomsZ ls) A1 (el_cons (ev_var rfl) (el_cons (ev_var rfl) (el_cons (EvN.dat ((en_lcD (p := fun _ => true) (F := roD (lcmF ls)) (it_list (es := ls.map frD) (ev_var rfl)) trivial (fun i e he => tw_name) (fun i e he => et_yes) (fun i e he _ => ?_) (by rw [List.length_map]; omega)).imp fun dl h => h.trans (show _ = intsD (roomsZ ls) from ?_))) el_nil))) hpre fun fo σ2 G2 H2 f hfo hf A2 => ?_
    · obtain ⟨x, hx, rfl⟩ := smap_get he
      refine EvC.to (ev_whole_of (x := x) (b := lcmF ls) (el_cons (ev_var rfl) (el_cons (ev_var rfl) el_nil)) ((hp.ls x (List.mem_of_getElem? hx)).2.sz (by omega)) (by omega)) ?_
      show SC.dat (.int _) = SC.dat (.int (x.num * ((lcmF ls / ((x.den : Nat) : Int).toNat : Nat) : Int)))
      rw [Int.toNat_natCast]
    · rw [filter_all]
      unfold intsD roomsZ
      rw [List.map_map, List.map_map]
      refine List.map_congr_left fun r hr => ?_
      show PyData.int (r.num * ((lcmF ls / ((r.den : Nat) : Int).toNat : Nat) : Int)) = PyData.int (r.num * ((lcmF ls / r.den : Nat) : Int))
      rw [Int.toNat_natCast]
    · refine q_newD A2 fun pr σ3 G3 H3 hpr A3 => ?_
      have getF : ∀ {y : Str}, y ∈ keysW f → ∃ e : WE, aget f y = some e ∧ aget (kvW f) y = some (weD e) ∧ 0 ≤ e.1 ∧ e.1 ≤ 7 * ((1008 * MB : Nat) : Int) := fun {y} hy => by
        obtain ⟨j, e, hj⟩ := memW hy
        have hm := List.mem_of_getElem? hj
        have h1 := aget_at hf.ndF hm
        exact ⟨e, h1, by rw [aget_kvW, h1] <;> rfl, hf.farF y e hm⟩
      refine q_for A3 (it_list (es := W.places.map .str) (ev_ixT0 (xs := [.list (W.places.map .str), .list (W.ties.map tieD), .str W.first, .str W.last]) (ev_var rfl) rfl)) (fun i e he => tg_name)
        (fun i ds ms => ∃ c, ds = [.dat (webD W), .dat (natD T), .dat (frL ls), .dat (.int ((lcmF ls : Nat) : Int)), .ref fo, .no, .ref pr, c] ∧ ms = [(pr, .dct ((W.places.take i).map fun y => (y, prD (lcmF ls) f y))), (fo, .dct (kvW f))]) ⟨.no, rfl, rfl⟩ (fun _ _ _ _ _ => trivial) (fun gs i e ds ms σ4 G4 H4 L he j A4 hL => ?_) fun ds ms σ4 G4 H4 j A4 => ?_
      · obtain ⟨c, rfl, rfl⟩ := j
        obtain ⟨y, hy, rfl⟩ := smap_get he
        have hil := (List.getElem?_eq_some_iff.mp hy).1
        have hkeys : ((W.places.take i).map fun y => (y, prD (lcmF ls) f y)).map (·.1) = W.places.take i := by
          rw [List.map_map]
          exact List.map_id _
        have hnt := notin_take hW.nd hy
        have hlt : ((W.places.take i).map fun y => (y, prD (lcmF ls) f y)).length < 500 := by
          rw [List.length_map, List.length_take]
          omega
        have hstep : (W.places.take (i + 1)).map (fun y => (y, prD (lcmF ls) f y)) = (W.places.take i).map (fun y => (y, prD (lcmF ls) f y)) ++ [(y, prD (lcmF ls) f y)] := by
          rw [List.take_add_one, hy, List.map_append]
          rfl
        refine q_dput (i := 0) (p := pr) (.inl hpr) A4 ev_non (ev_var rfl) (ev_var (i := 7) (c := .dat (.str y)) rfl) rfl (by rw [hkeys]; exact hW.nd.sublist (List.take_sublist _ _)) (by omega) fun G5 H5 A5 => ?_
        rw [aput_new (aget_none.mpr (by rw [hkeys]; exact hnt))] at A5
        refine s_if A5 (et_test (ev_din (p := fo) (kvs := kvW f) (x := y) (ev_var rfl) (ev_var rfl) (List.mem_cons_of_mem _ List.mem_cons_self))) (fun hb G6 H6 A6 => ?_) fun hb G6 H6 A6 => ?_
        · rw [aget_isS] at hb
          obtain ⟨ey, h1, h2, h3, h4⟩ := getF (of_decide_eq_true hb)
          obtain ⟨a1, b1, s1⟩ := we_shape ey
          refine s_dput (i := 0) (p := pr) (.inl hpr) A6 (ev_lowest (a := ey.1) (b := ((lcmF ls : Nat) : Int)) (el_cons (ev_ixT0 (xs := [.int ey.1, a1, b1]) (EvC.to (ev_dget (p := fo) (kvs := kvW f) (x := y) (ev_var rfl) (ev_var rfl) (List.mem_cons_of_mem _ List.mem_cons_self) h2) (by rw [s1])) rfl) (el_cons (ev_var rfl) el_nil)) (by omega) (by omega)) (ev_var rfl) (ev_var (i := 7) (c := .dat (.str y)) rfl) rfl (by rw [List.map_append, hkeys]; exact nd_snoc (hW.nd.sublist (List.take_sublist _ _)) hnt) (by rw [List.length_append]; show _ + 1 < 1000; omega) fun G7 H7 A7 => ?_
          rw [aput_last (by rw [hkeys]; exact hnt)] at A7
          refine hL _ _ _ _ _ ⟨_, rfl, ?_⟩ A7
          rw [hstep]
          have : prD (lcmF ls) f y = frD (mkRat ey.1 (lcmF ls)) := by
            unfold prD
            rw [h1]
          rw [this]
          rfl
        · rw [aget_isS] at hb
          refine hL _ _ _ _ _ ⟨_, rfl, ?_⟩ A6
          rw [hstep]
          have : prD (lcmF ls) f y = .none := by
            unfold prD
            rw [aget_none.mpr (of_decide_eq_false hb)]
          rw [this]
          rfl
      · obtain ⟨c, rfl, rfl⟩ := j
        rw [List.length_map, List.take_length] at A4
        refine q_when A4 (et_test (ev_dni (p := fo) (kvs := kvW f) (x := W.last) (ev_ixT3 (xs := [.list (W.places.map .str), .list (W.ties.map tieD), .str W.first, .str W.last]) (ev_var rfl) rfl) (ev_var rfl) (List.mem_cons_of_mem _ List.mem_cons_self))) (fun hb G5 H5 A5 => ?_) fun hb G5 H5 A5 => ?_
        · rw [aget_isS] at hb
          have hla : W.last ∉ keysW f := by
            intro z
            rw [decide_eq_true z] at hb
            cases hb
          exact s_retD A5 (ev_tup (dl := [.none, .none, .dict []]) (el_cons ev_non (el_cons ev_non (el_cons (ev_any (ev_var (i := 6) (c := .ref pr) rfl)) el_nil)))) fun v G' H' st iv => q v G' H' _ st iv ⟨.none, none, rfl, .inl ⟨rfl, rfl, hf.noway hla⟩⟩
        · rw [aget_isS] at hb
          have hla : W.last ∈ keysW f := by
            refine Classical.byContradiction fun z => ?_
            rw [decide_eq_false z] at hb
            cases hb
          obtain ⟨el, h1, h2, h3, h4⟩ := getF hla
          have hpl : aget (W.places.map fun y => (y, prD (lcmF ls) f y)) W.last = some (frD (mkRat el.1 (lcmF ls))) := by
            rw [aget_at (v := prD (lcmF ls) f W.last) (by rw [List.map_map]; exact (List.map_id W.places).symm ▸ hW.nd) (List.mem_map.mpr ⟨W.last, hW.la, rfl⟩)]
            unfold prD
            rw [h1]
          refine s_retR A5 (evr_tup (elr_cons (evr_way_back (W := W) (T := T) (d := fo) (ev_var rfl) (ev_var rfl) (List.mem_cons_of_mem _ List.mem_cons_self) hf hla hW) (elr_cons (EvC.r (ev_dget (p := pr) (ev_var rfl) (ev_ixT3 (xs := [.list (W.places.map .str), .list (W.ties.map tieD), .str W.first, .str W.last]) (ev_var rfl) rfl) List.mem_cons_self hpl)) (elr_cons (EvC.r (ev_any (ev_var (i := 6) (c := .ref pr) rfl))) elr_nil))) fun dl h => by
            obtain ⟨_, _, rfl, _, _, _, rfl, _, _, _, rfl, _, rfl⟩ := h
            exact Nat.le_of_ble_eq_true rfl) fun v G' H' dd st so iv hd => q v G' H' dd st iv ?_
          obtain ⟨dl, rfl, d1, r1, rfl, ⟨ks, rfl, hks⟩, d2, r2, rfl, rfl, d3, r3, rfl, rfl, rfl⟩ := hd
          refine ⟨natD ks, some (mkRat el.1 (lcmF ls)), rfl, .inr ⟨ks, _, rfl, rfl, mk_sz ?_ (by omega), hks⟩⟩
          have hMB : 7 * (1008 * MB) < LN := by decide +kernel
          omega
theorem evr_least_by {W : Web} {T : List Nat} {ls : List Rat} (h : EvL K s t ds ms [webD W, natD T, frL ls]) (hp : LPre W ls) : EvR K s (tCall (spLeastBy K) [] E t) ds ms (LeastRes W T) := evr_call (a := (W, T, ls)) (post := fun (a : Web × List Nat × List Rat) d => LeastRes a.1 a.2.1 d) h hp
abbrev s_least_in : Stmt := topS 67
theorem sc_least_in : FnScope ["web", "taken"] ["web", "taken"] (defScope s_least_in) := ⟨rfl, rfl, rfl, by decide +kernel, rfl, by decide +kernel, by decide +kernel⟩

def spLeastIn (K : Fg) : Sp := SpD K (fun a : Web × List Nat => [webD a.1, natD a.2]) (fun a => WebOk a.1) (fun a d => LeastRes a.1 a.2 d)
theorem WebOk.lpre {W : Web} (h : WebOk W) : LPre W (lensR W) := ⟨h, by unfold lensR; rw [List.length_map], fun q hq => by
  obtain ⟨t, ht, rfl⟩ := List.mem_map.mp hq
  exact ⟨(h.tk t ht).len0, (h.tk t ht).lenB⟩⟩
theorem ok_least_in {f : Addr} {fd : FuncData} (F : Fun K "least_in" "least_in" s_least_in f fd) (c_least_by : Cal P w K mg base "least_by" 3 ["web", "taken", "lengths"] (spLeastBy K)) (c_lengths_in : Cal P w K mg base "lengths_in" 1 ["web"] (spLens K)) : FnOk P w K mg base CX0 4 f fd ["web", "taken"] (spLeastIn K) := by
  refine F.ok sc_least_in (fun vs H Q E h => ?_) (fun cdv A outer s H vs Q E hr h => ?_)
  · obtain ⟨a, G, hg, hI, hp, q⟩ := h
    exact hI.length
  · obtain ⟨⟨W, T⟩, G, hg, hI, hW, q⟩ := h
    have hW : WebOk W := hW
    have A0 := at_start (K := K) (N := ["web", "taken"]) (ds := [.dat (webD W), .dat (natD T)]) hg hI
    refine ⟨_, (pss_one (ps_ret (p_call c_least_by (hr.mono (by first | exact Nat.le_refl _ | omega)) (pa_cons (pv 0) (pa_cons (pv 1) (pa_cons (p_call c_lengths_in (hr.mono (by first | exact Nat.le_refl _ | omega)) (pa_cons (pv 0) pa_nil)) pa_nil)))))), ?_⟩
    exact s_retR A0 (evr_least_by (W := W) (T := T) (ls := lensR W) (el_cons (ev_var rfl) (el_cons (ev_var rfl) (el_cons (ev_lengths_in (el_cons (ev_var rfl) el_nil) hW.tl) el_nil))) hW.lpre) fun v G' H' d st so iv hd => q v G' H' d st iv hd
theorem evr_least_in {W : Web} {T : List Nat} (h : EvL K s t ds ms [webD W, natD T]) (hp : WebOk W) : EvR K s (tCall (spLeastIn K) [] E t) ds ms (LeastRes W T) := evr_call (a := (W, T)) (post := fun (a : Web × List Nat) d => LeastRes a.1 a.2 d) h hp
abbrev s_side_in : Stmt := topS 68
theorem sc_side_in : FnScope ["web", "taken", "found", "tie", "place"] ["web", "taken"] (defScope s_side_in) := ⟨rfl, rfl, rfl, by decide +kernel, rfl, by decide +kernel, by decide +kernel⟩

def spSideIn (K : Fg) : Sp := SpD K (fun a : Web × List Nat => [webD a.1, natD a.2]) (fun a => WebOk a.1) (fun a d => True)
theorem ok_side_in {f : Addr} {fd : FuncData} (F : Fun K "side_in" "side_in" s_side_in f fd) (c_reached : Cal P w K mg base "reached" 2 ["web", "taken", "wholes"] (spRch K)) : FnOk P w K mg base CX0 3 f fd ["web", "taken"] (spSideIn K) := by
  refine F.ok sc_side_in (fun vs H Q E h => ?_) (fun cdv A outer s H vs Q E hr h => ?_)
  · obtain ⟨a, G, hg, hI, hp, q⟩ := h
    exact hI.length
  · obtain ⟨⟨W, T⟩, G, hg, hI, hW, q⟩ := h
    have hW : WebOk W := hW
    have htl := hW.tl
    have h7 := hW.hi
    have A0 := at_start (K := K) (N := ["web", "taken", "found", "tie", "place"]) (ds := [.dat (webD W), .dat (natD T), .no, .no, .no]) hg hI
    refine ⟨_, (pss_cons (ps_set (i := 2) sc_side_in.nd rfl (Or.inr rfl) (p_call c_reached (hr.mono (by first | exact Nat.le_refl _ | omega)) (pa_cons (pv 0) (pa_cons (pv 1) (pa_cons (pe_lc (own := [("tie", 3)]) (g := gName 3) (tt := tYes) rfl sc_side_in.nd (w_list (K := K) (pe_ix (w_ixT (K := K)) (pv 0) pe_int (fun _ _ => rfl))) (blkOk_by (own := [("tie", 3)]) (N := ["web", "taken", "found", "tie", "place"]) (sc := defScope s_side_in) (by decide +kernel)) (fun _ _ _ _ _ => (pg_name (i := 3) sc_side_in.nd rfl (Or.inl rfl))) (fun _ _ _ _ _ => pts_nil) (fun _ _ _ _ _ => pe_int)) pa_nil)))))
      (pss_one (ps_ret (pe_lc (own := [("place", 4)]) (g := gName 4) (tt := _) rfl sc_side_in.nd (w_list (K := K) (pe_ix (w_ixT (K := K)) (pv 0) pe_int (fun _ _ => rfl))) (blkOk_by (own := [("place", 4)]) (N := ["web", "taken", "found", "tie", "place"]) (sc := defScope s_side_in) (by decide +kernel)) (fun _ _ _ _ _ => (pg_name (i := 4) sc_side_in.nd rfl (Or.inl rfl))) (fun _ _ _ _ _ => (pts_one (pt_cmp (pc_din (hu_of hr) (pv 4) (pv 2)) (by rfl)))) (fun _ _ _ _ _ => (pv 4)))))), ?_⟩
    have hpre : RPre W (W.ties.map fun _ => (0 : Int)) 0 := ⟨hW, by rw [List.length_map], fun w hw => by
      obtain ⟨_, _, rfl⟩ := List.mem_map.mp hw
      exact ⟨Int.le_refl _, Int.le_refl _⟩, Int.le_refl _⟩
    refine q_rch (i := 2) (W := W) (T := T) (ws := W.ties.map fun _ => (0 : Int)) A0 (el_cons (ev_var rfl) (el_cons (ev_var rfl) (el_cons (EvN.dat ((en_lcD (p := fun _ => true) (F := fun _ => .int 0) (it_list (es := W.ties.map tieD) (ev_ixT1 (xs := [.list (W.places.map .str), .list (W.ties.map tieD), .str W.first, .str W.last]) (ev_var rfl) rfl)) trivial (fun i e he => tw_name) (fun i e he => et_yes) (fun i e he _ => ev_int) (by rw [List.length_map]; omega)).imp fun dl h => h.trans (show _ = intsD _ from ?_))) el_nil))) hpre fun fo σ2 G2 H2 f hfo hf A2 => ?_
    · rw [filter_all]
      unfold intsD
      rw [List.map_map, List.map_map]
      rfl
    · refine s_retD A2 (EvN.dat (en_lcD (p := inD (keysW f)) (F := id) (it_list (es := strsD W.places) (ev_ixT0 (xs := [.list (W.places.map .str), .list (W.ties.map tieD), .str W.first, .str W.last]) (ev_var rfl) rfl)) trivial (fun i e he => tw_name) (fun i e he => ?_) (fun i e he _ => ?_) (by simp only [strsD, List.length_map]; omega))) fun v G' H' st iv => q v G' H' _ st iv trivial
      · obtain ⟨x, hx, rfl⟩ := smap_get he
        exact EvT.to (et_test (ev_din (kvs := kvW f) (x := x) (ev_var rfl) (ev_var rfl) List.mem_cons_self)) (aget_isS _ _)
      · obtain ⟨x, hx, rfl⟩ := smap_get he
        exact ev_var rfl
theorem evr_side_in {W : Web} {T : List Nat} (h : EvL K s t ds ms [webD W, natD T]) (hp : WebOk W) : EvR K s (tCall (spSideIn K) [] E t) ds ms (fun _ => True) := evr_call (a := (W, T)) (post := fun (a : Web × List Nat) d => True) h hp
abbrev s_least_way : Stmt := topS 69
theorem sc_least_way : FnScope ["web", "taking"] ["web", "taking"] (defScope s_least_way) := ⟨rfl, rfl, rfl, by decide +kernel, rfl, by decide +kernel, by decide +kernel⟩

def spLeastWay (K : Fg) : Sp := SpD K (fun a : Web × List Nat => [webD a.1, natD a.2]) (fun a => WebOk a.1 ∧ TakOk a.1 a.2 ∧ a.2.length ≤ 1000) (fun a d => LeastRes a.1 a.2 d)
theorem ok_least_way {f : Addr} {fd : FuncData} (F : Fun K "least_way" "least_way" s_least_way f fd) (c_look_at_taking : Cal P w K mg base "look_at_taking" 7 ["web", "thing"] (spLTaking K)) (c_least_in : Cal P w K mg base "least_in" 4 ["web", "taken"] (spLeastIn K)) : FnOk P w K mg base CX0 8 f fd ["web", "taking"] (spLeastWay K) := by
  refine F.ok sc_least_way (fun vs H Q E h => ?_) (fun cdv A outer s H vs Q E hr h => ?_)
  · obtain ⟨a, G, hg, hI, hp, q⟩ := h
    exact hI.length
  · obtain ⟨⟨W, T⟩, G, hg, hI, ⟨hW, hT, hz⟩, q⟩ := h
    have hW : WebOk W := hW
    have A0 := at_start (K := K) (N := ["web", "taking"]) (ds := [.dat (webD W), .dat (natD T)]) hg hI
    refine ⟨_, (pss_cons (ps_expr (p_call c_look_at_taking (hr.mono (by first | exact Nat.le_refl _ | omega)) (pa_cons (pv 0) (pa_cons (pv 1) pa_nil))))
      (pss_one (ps_ret (p_call c_least_in (hr.mono (by first | exact Nat.le_refl _ | omega)) (pa_cons (pv 0) (pa_cons (pv 1) pa_nil)))))), ?_⟩
    refine q_drop A0 (ev_look_at_taking (W := W) (T := T) (el_cons (ev_var rfl) (el_cons (ev_var rfl) el_nil)) hW hT hz) fun G1 H1 A1 => ?_
    exact s_retR A1 (evr_least_in (W := W) (T := T) (el_cons (ev_var rfl) (el_cons (ev_var rfl) el_nil)) hW) fun v G' H' d st so iv hd => q v G' H' d st iv hd
theorem evr_least_way {W : Web} {T : List Nat} (h : EvL K s t ds ms [webD W, natD T]) (hp : WebOk W) (hT : TakOk W T) (hz : T.length ≤ 1000) : EvR K s (tCall (spLeastWay K) [] E t) ds ms (LeastRes W T) := evr_call (a := (W, T)) (post := fun (a : Web × List Nat) d => LeastRes a.1 a.2 d) h ⟨hp, hT, hz⟩
end
end Fc
namespace Fc
open PySem PySem.Spec PyProof.Rows L2 Sy
structure SrcCls (K : Fg) (C : Addr) : Prop where
  cl : Cls K C
  web : NoAttr K C "searched_web"
  held : NoAttr K C "held"
  tops : NoAttr K C "tops"
structure Top where
  T : List Nat
  a : D
  q : Option Rat
def topD (e : Top) : D := .tuple [natD e.T, e.a, optD e.q, .dict []]
structure TopOk (W : Web) (P : Rat) (e : Top) : Prop where
  tk : TakOk W e.T
  nd : e.T.Nodup
  wo : worthOf W e.T ≤ P
  len : e.T.length ≤ 14
  sz : ∀ x, e.q = some x → Sz x
  na : noAny e.a = true
  isn : isN e.a = e.q.isNone
  no : e.q = none → NoWay W e.T
def srcFs (W : Web) (P : Rat) (o2 : Addr) : List (Str × SC) := [("searched_web", .dat (webD W)), ("held", .dat (frD P)), ("tops", .ref o2)]
structure ThPre (n : Nat) (W : Web) (P : Rat) (taken kept : List Nat) (es : List Top) : Prop where
  hW : WebOk W
  hP : Sz P
  on : atOnce W P < taken.length + n
  nd : taken.Nodup
  tk : Tk W taken
  wo : worthOf W taken ≤ P
  kz : kept.length + 14 * n ≤ 500
  ez : es.length + 15 ^ n ≤ 90000
  zz : taken.length ≤ 14
structure ThPost (n : Nat) (W : Web) (P : Rat) (taken kept : List Nat) (es : List Top) : Prop where
  ok : ∀ e ∈ es, TopOk W P e
  len : es.length ≤ 15 ^ n
  ne : es ≠ []
  cov : ∀ T, Fit W P T taken kept → NoWay W T → ∃ e ∈ es, e.q = none
theorem cover_way {W : Web} {P : Rat} {taken kept ks : List Nat} {Cov : Prop} (hW : WebOk W) (nd : taken.Nodup) (hk : WayOk W taken ks)
    (hc : ∀ j k, (askL W P ks taken kept)[j]? = some k → ∀ T, Fit W P T (taken ++ [k]) (kept ++ (askL W P ks taken kept).take j) → NoWay W T → Cov) (T : List Nat) (hT : Fit W P T taken kept) (hn : NoWay W T) : Cov := by
  obtain ⟨k, h1, h2⟩ := hn.hit hk.way
  have hask := hT.ask hW.wb nd h2 (hk.no k h1)
  obtain ⟨j, k', e1, e2, e3⟩ := first_in (L := askL W P ks taken kept) (T := T) ⟨k, List.mem_filter.mpr ⟨h1, hask⟩, h2⟩
  exact hc j k' e1 T (hT.next e2 e3) hn
section
variable {P : Program} {w : World} {K : Fg} {mg : Str → Option Value} {base : Heap} {C : Addr}
variable {s : Option Addr} {mu : Addr → Prop} {G0 H0 G H : Hp} {gs : List Hp} {ds : List SC} {ms : List (Addr × MO)} {σ : L2.St} {D : Ends} {t tr : TA} {ta tb te ti to : TE} {tz : TS} {E : XK} {dx p o2 d : Addr}
def spTh (n : Nat) (K : Fg) (C : Addr) : Sp := fun vs H Q _ => ∃ (W : Web) (P : Rat) (taken kept : List Nat) (es : List Top) (G : Hp) (dx p o2 : Addr) (vr : List V), vs = .ref p :: vr ∧ Same G H ∧ MOk K G H p (.ins C dx (srcFs W P o2)) ∧ MOk K G H o2 (.lst (es.map topD)) ∧ G p = none ∧ G o2 = none ∧ p ≠ o2 ∧ IsA K G vr [natD taken, natD kept] ∧ ThPre n W P taken kept es ∧
  ∀ v G' H' es' d, Stp (fun c => c = o2) G H G' H' → Is K G' v d → (d = .none ∨ d = anyT) → MOk K G' H' o2 (.lst ((es ++ es').map topD)) → ThPost n W P taken kept es' → Q v H'
theorem ex_th {n : Nat} {W : Web} {P : Rat} {taken kept : List Nat} {es : List Top} {i : Nat} (ho : H0 o2 = none ∨ mu o2) (h0 : EvC K s ta ds ms (.ref p)) (h1 : (p, MO.ins C dx (srcFs W P o2)) ∈ ms) (h2 : ms[i]? = some (o2, MO.lst (es.map topD))) (hne : p ≠ o2) (h : EvL K s tr ds ms [natD taken, natD kept]) (hp : ThPre n W P taken kept es) :
    EvX K s mu G0 H0 gs (tMeth C "go_through" (spTh n K C) [] E ta tr) ds ms σ (fun ms' d => ∃ es', (d = .none ∨ d = anyT) ∧ ms' = ms.set i (o2, .lst ((es ++ es').map topD)) ∧ ThPost n W P taken kept es') := fun G H A Q q =>
  h0 σ G H A.kn _ fun v0 G1 H1 a1 o1 x1 => by
    have A1 := A.step a1 o1
    obtain ⟨fv, e1, r⟩ := A1.kn.get h1
    cases x1.ref
    refine ⟨p, dx, fv, rfl, e1, flook_none r rfl, h σ G1 H1 A1.kn _ fun vs G2 H2 a2 o2' x2 => ?_⟩
    have A2 := A1.step a2 o2'
    obtain ⟨m1, g1, _⟩ := A2.kn.mo _ h1
    obtain ⟨m2, g2, _⟩ := A2.kn.mo _ (List.mem_of_getElem? h2)
    refine ⟨W, P, taken, kept, es, G2, dx, p, o2, vs, by rw [List.append_nil], A2.kn.gh, m1, m2, g1, g2, hne, x2, hp, fun v G3 H3 es' d a3 x3 hd m3 p3 => ?_⟩
    exact q v d _ G3 H3 ⟨es', hd, rfl, p3⟩ (A2.eff ho h2 a3 m3) ((a1.gg.trans a2.gg).trans a3.gg) x3
abbrev s_Search_go_through : Stmt := inClass (topS 74) 1
theorem sc_Search_go_through : FnScope ["self", "taken", "kept", "way", "length", "prices", "cases", "ahead", "there", "tie", "inner"] ["self", "taken", "kept"] (defScope s_Search_go_through) := ⟨rfl, rfl, rfl, by decide +kernel, rfl, by decide +kernel, by decide +kernel⟩

theorem res_noAny {d : Sy.D} (h : d = .none ∨ d = anyT) : noAny d = true := by
  rcases h with rfl | rfl <;> rfl
theorem ok_Search_go_through {f : Addr} {fd : FuncData} (F : Fun K "go_through" "Search.go_through" s_Search_go_through f fd) (B : Bl mg) (Z : SrcCls K C) (hm : Meth K C "go_through" f) (hbi : Binds K fd ["self", "taken", "kept"] []) (c_least_in : Cal P w K mg base "least_in" 4 ["web", "taken"] (spLeastIn K)) (c_askable : Cal P w K mg base "askable" 7 ["web", "purse", "ties", "taken", "kept"] (spAsk K)) : ∀ n : Nat, FnOk P w K mg base CX0 (n + 7) f fd ["self", "taken", "kept"] (spTh n K C)
  | 0 => by
    refine F.ok sc_Search_go_through (fun vs H Q E h => ?_) (fun cdv A outer s H vs Q E hr h => ?_)
    · obtain ⟨W, P, taken, kept, es, G, dx, p, o2, vr, rfl, _, _, _, _, _, _, hI, _⟩ := h
      rw [List.length_cons, hI.length]
      rfl
    · obtain ⟨W, P, taken, kept, es, G, dx, p, o2, vr, rfl, _, _, _, _, _, _, hI, hp, _⟩ := h
      have := len_once hp.hW.wb hp.tk hp.nd hp.wo
      have := hp.on
      omega
  | n + 1 => by
    have ih := ok_Search_go_through F B Z hm hbi c_least_in c_askable n
    have c_Search_go_through : CalM P w K mg base C "go_through" (n + 7) ["self", "taken", "kept"] (spTh n K C) := ⟨Z.cl, f, fd, hm, hbi, ih⟩
    refine F.ok sc_Search_go_through (fun vs H Q E h => ?_) (fun cdv A outer s H vs Q E hr h => ?_)
    · obtain ⟨W, P, taken, kept, es, G, dx, p, o2, vr, rfl, _, _, _, _, _, _, hI, _⟩ := h
      rw [List.length_cons, hI.length]
      rfl
    · obtain ⟨W, P, taken, kept, es, G, dx, p, o2, vr, rfl, hg, m1, m2, g1, g2, hne, hI, hp, q⟩ := h
      have A0 : At K none (fun c => c = o2) G H [] [.ref p, .dat (natD taken), .dat (natD kept), .no, .no, .no, .no, .no, .no, .no, .no] [(p, .ins C dx (srcFs W P o2)), (o2, .lst (es.map topD))] (L2.start ["self", "taken", "kept", "way", "length", "prices", "cases", "ahead", "there", "tie", "inner"] (.ref p :: vr)) G H := by
        refine at_startM hg ?_ (fun r hr => ?_) (by simp [hne])
        · unfold L2.start
          show Sl K G (some (.ref p) :: (vr.map some ++ List.replicate (10 + 1 - (vr.length + 1)) none)) _
          rw [hI.length]
          exact .cons rfl (sl_start 8 hI)
        · rcases List.mem_cons.mp hr with rfl | hr
          · exact ⟨m1, g1⟩
          · cases List.mem_singleton.mp hr
            exact ⟨m2, g2⟩
      refine ⟨_, (pss_cons (ps_asg (p_call c_least_in (hr.mono (by first | exact Nat.le_refl _ | omega)) (pa_cons (w_fld (K := K) (pv 0) rfl) (pa_cons (pv 1) pa_nil))) (w_tup (K := K) (by rfl) (pgs_cons (pg_name (i := 3) sc_Search_go_through.nd rfl (Or.inl rfl)) (pgs_cons (pg_name (i := 4) sc_Search_go_through.nd rfl (Or.inl rfl)) (pgs_cons (pg_name (i := 5) sc_Search_go_through.nd rfl (Or.inl rfl)) pgs_nil)))))
      (pss_cons (ps_expr (w_bm (K := K) PySem.F.plainAttrs_list PySem.F.slot_list_append PySem.F.type_list_append mt_append (w_fld (K := K) (pv 0) rfl) (pa_cons (pe_tup (pa_cons (pe_callB (w_sorted (K := K)) (by rfl) B.sorted_ (by decide +kernel) (pa_cons (pv 1) pa_nil)) (pa_cons (pv 3) (pa_cons (pv 4) (pa_cons (pv 5) pa_nil))))) pa_nil)))
      (pss_cons (ps_if (pt_cmpR o_isN (pv 3) pe_non (nomark _)) (pss_one (ps_ret pe_non)) pss_nil)
      (pss_cons (ps_set (i := 6) sc_Search_go_through.nd rfl (Or.inl rfl) (pe_lst pa_nil))
      (pss_cons (ps_set (i := 7) sc_Search_go_through.nd rfl (Or.inl rfl) (pe_lst pa_nil))
      (pss_cons (ps_set (i := 8) sc_Search_go_through.nd rfl (Or.inl rfl) pe_bl)
      (pss_cons (ps_for PassesOwn.never rfl (w_list (K := K) (p_call c_askable (hr.mono (by first | exact Nat.le_refl _ | omega)) (pa_cons (w_fld (K := K) (pv 0) rfl) (pa_cons (w_fld (K := K) (pv 0) rfl) (pa_cons (pv 3) (pa_cons (pv 1) (pa_cons (pv 2) pa_nil))))))) (pg_name (i := 9) sc_Search_go_through.nd rfl (Or.inl rfl)) (pss_cons (ps_set (i := 10) sc_Search_go_through.nd rfl (Or.inl rfl) (p_meth c_Search_go_through (hr.mono (by first | exact Nat.le_refl _ | omega)) (pv 0) (pa_cons (pe_op op_cat (pv 1) (pe_lst (pa_cons (pv 9) pa_nil))) (pa_cons (pe_op op_cat (pv 2) (pv 7)) pa_nil))))
      (pss_cons (ps_set (i := 8) sc_Search_go_through.nd rfl (Or.inl rfl) (pe_and (pv 8) (pe_one (pe_cmpR o_notN (pv 10) pe_non (nomark _)))))
      (pss_cons (ps_expr (w_bm (K := K) PySem.F.plainAttrs_list PySem.F.slot_list_append PySem.F.type_list_append mt_append (pv 6) (pa_cons (pe_tup (pa_cons (pv 9) (pa_cons (pv 10) pa_nil))) pa_nil)))
      (pss_one (ps_expr (w_bm (K := K) PySem.F.plainAttrs_list PySem.F.slot_list_append PySem.F.type_list_append mt_append (pv 7) (pa_cons (pv 9) pa_nil))))))))
      (pss_cons (ps_if (pt_not (pt_val (pv 8))) (pss_one (ps_ret pe_non)) pss_nil)
      (pss_one (ps_ret (pe_tup (pa_cons pe_str (pa_cons (pe_callTy (w_listof (K := K)) (by rfl) B.list_ (by decide +kernel) (pa_cons (pv 3) pa_nil)) (pa_cons (pv 6) pa_nil)))))))))))))), ?_⟩
      have htl := hp.hW.tl
      have hez := hp.ez
      have hkz := hp.kz
      have hzz := hp.zz
      have h15 : 15 ^ (n + 1) = 15 * 15 ^ n := by rw [Nat.pow_succ]; omega
      have h15p : 0 < 15 ^ n := Nat.pos_of_ne_zero (by simp)
      refine q_unpR (f := fun d ds => match d with
        | .tuple [x, y, z] => setAll ds [3, 4, 5] [x, y, z]
        | _ => ds) A0 (evr_least_in (W := W) (T := taken) (el_cons (ev_fld (p := p) (ev_var rfl) Z.cl Z.web List.mem_cons_self rfl) (el_cons (ev_var rfl) el_nil)) hp.hW) (fun d hd => ?_) fun d σ1 G1 H1 hd A1 => ?_
      · obtain ⟨a, b, rfl, _⟩ := hd
        exact tg_tup [3, 4, 5] rfl rfl
      obtain ⟨a, b, rfl, hres⟩ := hd
      have A1 : At K none (fun c => c = o2) G H [] [.ref p, .dat (natD taken), .dat (natD kept), .dat a, .dat (optD b), .dat (.dict []), .no, .no, .no, .no, .no] [(p, .ins C dx (srcFs W P o2)), (o2, .lst (es.map topD))] σ1 G1 H1 := A1
      have hna : noAny a = true := by
        rcases hres with ⟨rfl, _⟩ | ⟨ks, _, rfl, _⟩ <;> rfl
      have hisn : isN a = b.isNone := by
        rcases hres with ⟨rfl, rfl, _⟩ | ⟨ks, _, rfl, rfl, _⟩ <;> rfl
      refine q_appR5 (i := 1) (p := o2) (mu := fun c => c = o2) (.inr rfl) A1 (ev_fld (p := p) (ev_var rfl) Z.cl Z.tops List.mem_cons_self rfl) rfl ((evr_tup (elr_cons (evr_sorted (ns := taken.map Int.ofNat) (EvC.to (ev_var (i := 1) (c := .dat (natD taken)) rfl) (by unfold natD; rw [natsD_ints])) (by rw [List.length_map]; omega)) (elr_cons (EvC.r (d := a) (ev_var rfl)) (elr_cons (EvC.r (d := optD b) (ev_var rfl)) (elr_cons (EvC.r (d := .dict []) (ev_var rfl)) elr_nil)))) (fun dl h => by
          obtain ⟨_, _, rfl, _, _, _, rfl, _, _, _, rfl, _, _, _, rfl, _, rfl⟩ := h
          exact Nat.le_of_ble_eq_true rfl)).imp (Ψ := fun d => ∃ e : Top, d = topD e ∧ TopOk W P e ∧ e.q = b) fun d hd => ?_) (by rw [List.length_map]; omega) fun d G2 H2 hd A2 => ?_
      · obtain ⟨dl, rfl, d1, r1, rfl, ⟨ns', rfl, hpm, hpw⟩, d2, r2, rfl, rfl, d3, r3, rfl, rfl, d4, r4, rfl, rfl, rfl⟩ := hd
        obtain ⟨T', rfl, pT, sT⟩ := sorted_nat hpm hpw hp.nd
        refine ⟨⟨T', d2, b⟩, ?_, ⟨⟨sT, fun k hk => hp.tk k (pT.mem_iff.mp hk)⟩, pT.symm.nodup hp.nd, ?_, by show T'.length ≤ 14; rw [pT.length_eq]; exact hzz, fun x hx => ?_, hna, hisn, fun hx => ?_⟩, rfl⟩
        · show PyData.tuple [.list ((T'.map Int.ofNat).map .int), d2, optD b, .dict []] = .tuple [natD T', d2, optD b, .dict []]
          unfold natD
          rw [natsD_ints]
        · show sumR (T'.map (wOf W)) ≤ P
          rw [sumR_perm (pT.map (wOf W))]
          exact hp.wo
        · have hx : b = some x := hx
          subst hx
          rcases hres with ⟨_, h, _⟩ | ⟨ks, q, _, h, hs, _⟩
          · cases h
          · cases h
            exact hs
        · have hx : b = none := hx
          subst hx
          rcases hres with ⟨_, _, h⟩ | ⟨ks, q, _, h, _⟩
          · exact h.up fun k hk => pT.mem_iff.mpr hk
          · cases h
      obtain ⟨e0, rfl, he0, heq⟩ := hd
      have A2 : At K none (fun c => c = o2) G H [] [.ref p, .dat (natD taken), .dat (natD kept), .dat a, .dat (optD b), .dat (.dict []), .no, .no, .no, .no, .no] [(p, .ins C dx (srcFs W P o2)), (o2, .lst (es.map topD ++ [topD e0]))] σ1 G2 H2 := A2
      rw [show es.map topD ++ [topD e0] = (es ++ [e0]).map topD by rw [List.map_append]; rfl] at A2
      refine q_when A2 (et_test (ev_isN (x := a) (ev_var rfl) hna)) (fun hb G3 H3 A3 => ?_) fun hb G3 H3 A3 => ?_
      · refine ev_non σ1 G3 H3 A3.kn _ fun v G4 H4 a4 o4 x4 => ?_
        have A4 := A3.step a4 o4
        rw [hisn] at hb
        refine q v G4 H4 [e0] .none A4.sp x4.is (.inl rfl) (A4.kn.mo (o2, _) (List.mem_cons_of_mem _ List.mem_cons_self)).1 ⟨fun e he => ?_, ?_, by simp, fun T hT hn => ⟨e0, List.mem_cons_self, ?_⟩⟩
        · cases List.mem_singleton.mp he
          exact he0
        · show 1 ≤ _
          omega
        · rw [heq]
          cases b with
          | none => rfl
          | some x => cases hb
      · obtain ⟨ks, qv, rfl, rfl, _, hks⟩ : ∃ ks q, a = natD ks ∧ b = some q ∧ Sz q ∧ WayOk W taken ks := by
          rcases hres with ⟨rfl, rfl, _⟩ | h
          · cases hb
          · exact h
        have hkl := hks.len
        refine q_new A3 (en_lst (dl := []) el_nil) fun cs dl σ4 G4 H4 hdl hcs0 A4 => ?_
        subst hdl
        refine q_new A4 (en_lst (dl := []) el_nil) fun ah dl σ5 G5 H5 hdl hah0 A5 => ?_
        subst hdl
        refine q_set A5 ev_bl fun σ5 G5 H5 A5 => ?_
        have hLl : (askL W P ks taken kept).length ≤ 14 := Nat.le_trans (ask_len _ _ _ _ _) (by omega)
        refine q_for A5 (it_list (es := natsD (askL W P ks taken kept)) (ev_askable (W := W) (p := P) (ties := ks) (taken := taken) (kept := kept) (el_cons (ev_fld (p := p) (ev_var rfl) Z.cl Z.web (List.mem_cons_of_mem _ (List.mem_cons_of_mem _ List.mem_cons_self)) rfl) (el_cons (ev_fld (p := p) (ev_var rfl) Z.cl Z.held (List.mem_cons_of_mem _ (List.mem_cons_of_mem _ List.mem_cons_self)) rfl) (el_cons (ev_var rfl) (el_cons (ev_var rfl) (el_cons (ev_var rfl) el_nil))))) hp.hW.wb hp.hP hks.lt hp.tk (by omega) (by omega))) (fun i e he => tg_name)
          (fun i ds ms => ∃ (cl : List Sy.D) (new : List Top) (bb : Bool) (c c' : SC), ds = [.ref p, .dat (natD taken), .dat (natD kept), .dat (natD ks), .dat (optD (some qv)), .dat (.dict []), .ref cs, .ref ah, .dat (.bool bb), c, c'] ∧ ms = [(ah, .lst (natsD ((askL W P ks taken kept).take i))), (cs, .lst cl), (p, .ins C dx (srcFs W P o2)), (o2, .lst ((es ++ [e0] ++ new).map topD))] ∧ cl.length = i ∧ new.length ≤ i * 15 ^ n ∧ (∀ e ∈ new, TopOk W P e) ∧
            ∀ j k, j < i → (askL W P ks taken kept)[j]? = some k → ∀ T, Fit W P T (taken ++ [k]) (kept ++ (askL W P ks taken kept).take j) → NoWay W T → ∃ e ∈ new, e.q = none)
          ⟨[], [], true, .no, .no, rfl, by rw [List.append_nil]; rfl, rfl, Nat.zero_le _, fun e h => absurd h (by simp), fun j k h => absurd h (Nat.not_lt_zero _)⟩ (fun _ _ _ _ _ => trivial) (fun gs i e ds ms σ6 G6 H6 L he j A6 hL => ?_) fun ds ms σ6 G6 H6 j A6 => ?_
        · obtain ⟨cl, new, bb, c, c', rfl, rfl, hcl, hnew, hok, hcov⟩ := j
          obtain ⟨k, hk, rfl⟩ := natsD_get he
          have hi : i < (askL W P ks taken kept).length := (List.getElem?_eq_some_iff.mp hk).1
          obtain ⟨⟨tt, qq, e1, e2⟩, hkt, hkw⟩ := askb_iff (List.mem_filter.mp (List.mem_of_getElem? hk)).2
          have hlk : ((askL W P ks taken kept).take i).length = i := by rw [List.length_take]; omega
          have hpre : ThPre n W P (taken ++ [k]) (kept ++ (askL W P ks taken kept).take i) (es ++ [e0] ++ new) := by
            have hi15 : i * 15 ^ n ≤ 13 * 15 ^ n := Nat.mul_le_mul_right _ (by omega)
            have hon := hp.on
            have hT2 : Tk W (taken ++ [k]) := fun j hj => by
              rcases List.mem_append.mp hj with hj | hj
              · exact hp.tk j hj
              · cases List.mem_singleton.mp hj
                exact ⟨tt, qq, e1, e2⟩
            have hnd2 := snoc_nd hp.nd hkt
            have hl2 := len_once hp.hW.wb hT2 hnd2 hkw
            refine ⟨hp.hW, hp.hP, by rw [List.length_append]; show _ < _ + 1 + n; omega, hnd2, hT2, hkw, by rw [List.length_append, hlk]; omega, ?_, ?_⟩
            · simp only [List.length_append, List.length_cons, List.length_nil]
              omega
            · have := nodup_len (m := List.range W.ties.length) hnd2 fun j hj => by
                obtain ⟨t', q', e1', _⟩ := hT2 j hj
                exact List.mem_range.mpr (List.getElem?_eq_some_iff.mp e1').1
              rw [List.length_range] at this
              omega
          refine q_setX A6 (ex_th (i := 3) (p := p) (o2 := o2) (mu := fun c => c = o2) (.inr rfl) (ev_var rfl) (List.mem_cons_of_mem _ (List.mem_cons_of_mem _ List.mem_cons_self)) rfl hne
            (el_cons (EvC.to (ev_cat (xs := natsD taken) (ys := [.int ((k : Nat) : Int)]) (ev_var rfl) (ev_lst (el_cons (ev_var rfl) el_nil)) (by rw [natsD_len]; show _ + 1 ≤ 1000; omega)) (by unfold natD natsD; rw [List.map_append]; rfl)) (el_cons (EvC.to (ev_catM (a := ah) (xs := natsD kept) (ys := natsD ((askL W P ks taken kept).take i)) (ev_var rfl) (ev_var rfl) List.mem_cons_self (by rw [natsD_len, natsD_len, hlk]; omega)) (by unfold natD natsD; rw [List.map_append])) el_nil)) hpre) fun dv ms' σ7 G7 H7 hd A7 => ?_
          obtain ⟨es', hdv, rfl, hpost⟩ := hd
          have A7 : At K none (fun c => c = o2) G H gs [.ref p, .dat (natD taken), .dat (natD kept), .dat (natD ks), .dat (optD (some qv)), .dat (.dict []), .ref cs, .ref ah, .dat (.bool bb), .dat (.int ((k : Nat) : Int)), .dat dv] [(ah, .lst (natsD ((askL W P ks taken kept).take i))), (cs, .lst cl), (p, .ins C dx (srcFs W P o2)), (o2, .lst ((es ++ [e0] ++ new ++ es').map topD))] σ7 G7 H7 := A7
          refine q_set A7 (ev_andV (a := bb) (ev_var rfl) fun _ => ev_notN (x := dv) (ev_var rfl) (res_noAny hdv)) fun σ8 G8 H8 A8 => ?_
          refine q_app (i := 1) (p := cs) (d := .tuple [.int ((k : Nat) : Int), dv]) (mu := fun c => c = o2) (.inl hcs0) A8 (ev_var rfl) rfl (ev_tup (el_cons (ev_var rfl) (el_cons (ev_var rfl) el_nil))) (by omega) fun G9 H9 A9 => ?_
          refine s_app (i := 0) (p := ah) (mu := fun c => c = o2) (.inl hah0) A9 (ev_var rfl) rfl (ev_var (i := 9) (c := .dat (.int ((k : Nat) : Int))) rfl) (by rw [natsD_len, hlk]; omega) fun G10 H10 A10 => ?_
          refine hL _ _ _ _ _ ⟨cl ++ [.tuple [.int ((k : Nat) : Int), dv]], new ++ es', _, _, _, rfl, ?_, by rw [List.length_append, hcl]; rfl, ?_, ?_, ?_⟩ A10
          · show [(ah, MO.lst (natsD _ ++ [_])), (cs, MO.lst (cl ++ [_])), (p, _), (o2, MO.lst _)] = _
            have e1 : natsD ((askL W P ks taken kept).take (i + 1)) = natsD ((askL W P ks taken kept).take i) ++ [.int ((k : Nat) : Int)] := by
              rw [List.take_add_one, hk]
              unfold natsD
              rw [List.map_append]
              rfl
            rw [e1, ← List.append_assoc]
          · rw [List.length_append, Nat.add_mul]
            have := hpost.len
            omega
          · intro e he
            rcases List.mem_append.mp he with he | he
            · exact hok e he
            · exact hpost.ok e he
          · intro j k' hj hk' T hT hn
            by_cases hji : j = i
            · subst hji
              rw [hk] at hk'
              cases hk'
              obtain ⟨e, he, hS⟩ := hpost.cov T hT hn
              exact ⟨e, List.mem_append_right _ he, hS⟩
            · obtain ⟨e, he, hS⟩ := hcov j k' (by omega) hk' T hT hn
              exact ⟨e, List.mem_append_left _ he, hS⟩
        · obtain ⟨cl, new, bb, c, c', rfl, rfl, hcl, hnew, hok, hcov⟩ := j
          rw [natsD_len] at hcl hnew hcov
          have hn2 : new.length ≤ 14 * 15 ^ n := Nat.le_trans hnew (Nat.mul_le_mul_right _ hLl)
          have fin : ∀ v G7 H7 d, At K none (fun c => c = o2) G H [] [.ref p, .dat (natD taken), .dat (natD kept), .dat (natD ks), .dat (optD (some qv)), .dat (.dict []), .ref cs, .ref ah, .dat (.bool bb), c, c'] [(ah, .lst (natsD ((askL W P ks taken kept).take (natsD (askL W P ks taken kept)).length))), (cs, .lst cl), (p, .ins C dx (srcFs W P o2)), (o2, .lst ((es ++ [e0] ++ new).map topD))] σ6 G7 H7 → Is K G7 v d → (d = .none ∨ d = anyT) → Q v H7 := fun v G7 H7 d A7 iv hd => by
            refine q v G7 H7 (e0 :: new) d A7.sp iv hd ?_ ⟨fun e he => ?_, ?_, by simp, fun T hT hn => ?_⟩
            · rw [show es ++ e0 :: new = es ++ [e0] ++ new by simp]
              exact (A7.kn.mo (o2, _) (List.mem_cons_of_mem _ (List.mem_cons_of_mem _ (List.mem_cons_of_mem _ List.mem_cons_self)))).1
            · rcases List.mem_cons.mp he with rfl | he
              · exact he0
              · exact hok e he
            · rw [List.length_cons]
              omega
            · obtain ⟨e, he, hq⟩ := cover_way (Cov := ∃ e ∈ new, e.q = none) hp.hW hp.nd hks (fun j k hj T hT hn => hcov j k (List.getElem?_eq_some_iff.mp hj).1 hj T hT hn) T hT hn
              exact ⟨e, List.mem_cons_of_mem _ he, hq⟩
          refine q_when A6 (et_not (et_B (b := bb) (ev_var rfl))) (fun hb G7 H7 A7 => ?_) fun hb G7 H7 A7 => ?_
          · refine ev_non σ6 G7 H7 A7.kn _ fun v G8 H8 a8 o8 x8 => fin v G8 H8 .none (A7.step a8 o8) x8.is (.inl rfl)
          · refine (ev_tupAny (cs := [.dat (.str "way"), .dat (natD ks), .ref cs]) (ea_cons ev_str (ea_cons (EvN.dat (en_listof (ev_var rfl))) (ea_cons (ev_var rfl) ea_nil)))) σ6 G7 H7 A7.kn _ fun v G8 H8 a8 o8 x8 => fin v G8 H8 anyT (A7.step a8 o8) x8.is (.inr rfl)
end
end Fc
namespace Fc
open PySem PySem.Spec PyProof.Rows L2 Sy
section
variable {P : Program} {w : World} {K : Fg} {mg : Str → Option Value} {base : Heap} {C : Addr}
variable {s : Option Addr} {mu : Addr → Prop} {G0 H0 G H : Hp} {gs : List Hp} {ds : List SC} {ms : List (Addr × MO)} {σ : L2.St} {D : Ends} {t tr : TA} {ta tb te ti to : TE} {tz : TS} {E : XK} {dx p o2 d : Addr}
abbrev s_Search___init__ : Stmt := inClass (topS 74) 0
theorem sc_Search___init__ : FnScope ["self", "web", "purse"] ["self", "web", "purse"] (defScope s_Search___init__) := ⟨rfl, rfl, rfl, by decide +kernel, rfl, by decide +kernel, by decide +kernel⟩

def spTInit (K : Fg) (C : Addr) : Sp := fun vs H Q _ => ∃ (W : Web) (P : Rat) (G : Hp) (dx x : Addr) (vr : List V), vs = .ref x :: vr ∧ Same G H ∧ G x = none ∧ H x = some (.ins C dx []) ∧ IsA K G vr [webD W, frD P] ∧
  ∀ G' H' o2, Stp (fun c => c = x) G H G' H' → MOk K G' H' x (.ins C dx (srcFs W P o2)) → MOk K G' H' o2 (.lst []) → G' o2 = none → x ≠ o2 → H o2 = none → Q .non H'
theorem ok_Search___init__ {f : Addr} {fd : FuncData} (F : Fun K "__init__" "Search.__init__" s_Search___init__ f fd) (Z : SrcCls K C) : FnOk P w K mg base CX0 1 f fd ["self", "web", "purse"] (spTInit K C) := by
  refine F.ok sc_Search___init__ (fun vs H Q E h => ?_) (fun cdv A outer s H vs Q E hr h => ?_)
  · obtain ⟨W, P, G, dx, x, vr, rfl, _, _, _, hI, _⟩ := h
    rw [List.length_cons, hI.length]
    rfl
  · obtain ⟨W, P, G, dx, x, vr, rfl, hg, gx, hx, hI, q⟩ := h
    have A0 : At K none (fun c => c = x) G H [] [.ref x, .dat (webD W), .dat (frD P)] [(x, .ins C dx [])] (L2.start ["self", "web", "purse"] (.ref x :: vr)) G H := by
      refine at_startM hg ?_ (fun r hr => ?_) (by simp)
      · unfold L2.start
        show Sl K G (some (.ref x) :: (vr.map some ++ List.replicate (2 + 1 - (vr.length + 1)) none)) _
        rw [hI.length]
        exact .cons rfl (sl_start 0 hI)
      · cases List.mem_singleton.mp hr
        exact ⟨⟨[], hx, .nil⟩, gx⟩
    refine ⟨_, (pss_cons (w_sfld (K := K) (pv 0) (pv 1) rfl)
      (pss_cons (w_sfld (K := K) (pv 0) (pv 2) rfl)
      (pss_one (w_sfld (K := K) (pv 0) (pe_lst pa_nil) rfl)))), ?_⟩
    refine q_fld (i := 0) (mu := fun c => c = x) (.inr rfl) A0 Z.cl Z.web (ev_var (i := 1) rfl) (ev_var rfl) rfl (Nat.le_of_ble_eq_true rfl) fun G1 H1 A1 => ?_
    refine q_fld (i := 0) (mu := fun c => c = x) (.inr rfl) A1 Z.cl Z.held (ev_var (i := 2) rfl) (ev_var rfl) rfl (Nat.le_of_ble_eq_true rfl) fun G3 H3 A3 => ?_
    refine s_fldN (i := 0) (mu := fun c => c = x) (.inr rfl) A3 Z.cl Z.tops (en_lst (dl := []) el_nil) (fun ms => ev_var rfl) rfl (Nat.le_of_ble_eq_true rfl) fun o2 dl G4 H4 hdl ho2 A4 => ?_
    subst hdl
    have A4 : At K none (fun c => c = x) G H [] [.ref x, .dat (webD W), .dat (frD P)] [(o2, .lst []), (x, .ins C dx (srcFs W P o2))] _ G4 H4 := A4
    have hnd : [o2, x].Nodup := A4.kn.nd
    have n2 : o2 ≠ x := fun z => by subst z; simp at hnd
    obtain ⟨m2, g2, _⟩ := A4.kn.mo _ List.mem_cons_self
    exact q G4 H4 o2 A4.sp (A4.kn.mo _ (List.mem_cons_of_mem _ List.mem_cons_self)).1 m2 g2 (fun z => n2 z.symm) ho2
theorem q_makeT {i : Nat} {W : Web} {P : Rat} (A : At K s mu G0 H0 gs ds ms σ G H) (h : EvL K s tr ds ms [webD W, frD P])
    (k : ∀ dx x o2 σ' G' H', H0 x = none → H0 o2 = none → x ≠ o2 → At K s mu G0 H0 gs (ds.set i (.ref x)) ((o2, .lst []) :: (x, .ins C dx (srcFs W P o2)) :: ms) σ' G' H' → tz D σ' H') : tSeq (tAsg (tMake C (spTInit K C) [] E tr) (gName i)) tz D σ H :=
  h σ G H A.kn _ fun vs G1 H1 a1 o1 x1 x dx hx hdx hne => by
    have A1 := A.step a1 o1
    have A2 := A1.alloc (o := .own x) hdx
    have hx2 : upd H1 dx (.own x) x = none := by rw [upd_ne (fun z => hne z.symm)]; exact hx
    have A3 := A2.newM (o := .ins C dx []) (m := .ins C dx []) hx2 ⟨[], upd_same, .nil⟩
    have h0x := (A2.fresh0 hx2).1
    refine ⟨W, P, G1, dx, x, vs, by rw [List.append_nil], A3.kn.gh, (A3.kn.mo _ List.mem_cons_self).2.1, upd_same, x1, fun G2 H2 o2 a2 mx ml gl hn ho => ⟨rfl, ?_⟩⟩
    have A4 := A3.eff (i := 0) (.inl h0x) rfl a2 mx
    obtain ⟨f1, f2, f3⟩ := A3.fresh0 ho
    have A5 := A4.add (p := o2) ml gl (fun q hq => by
      rcases List.mem_cons.mp (show q ∈ (x, _) :: ms from hq) with rfl | hq
      · exact hn
      · exact f2 q (List.mem_cons_of_mem _ hq)) f3
    exact k dx x o2 _ G2 H2 h0x f1 hn (A5.slot rfl)
theorem s_ret2 (h : ta σ H (fun v H1 => tb σ H1 fun w H2 => 2 ≤ sizeLine ∧ ∀ p, H2 p = none → D.rt (.ref p) (upd H2 p (.tup [v, w])))) : tRet (tTup (tCons ta (tCons tb tNil))) D σ H := h
abbrev s_searched : Stmt := topS 76
theorem sc_searched : FnScope ["web", "purse", "search"] ["web", "purse"] (defScope s_searched) := ⟨rfl, rfl, rfl, by decide +kernel, rfl, by decide +kernel, by decide +kernel⟩

structure TPre (W : Web) (P : Rat) : Prop where
  hW : WebOk W
  hP : Sz P
  h0 : 0 ≤ P
  on : atOnce W P ≤ 3
theorem TPre.start {W : Web} {P : Rat} (h : TPre W P) : ThPre 4 W P [] [] [] := ⟨h.hW, h.hP, by show _ < 0 + 4; have := h.on; omega, List.nodup_nil, fun k hk => absurd hk (by simp), by show sumR _ ≤ P; exact h.h0, by decide, by decide, by decide⟩
def spSrchd (K : Fg) (C : Addr) : Sp := fun vs H Q _ => ∃ (W : Web) (P : Rat) (G : Hp), Same G H ∧ IsA K G vs [webD W, frD P] ∧ TPre W P ∧
  ∀ tp x o2 dx vc dc G' H' es, Stp mu0 G H G' H' → H' tp = some (.tup [.ref x, vc]) → Is K G' vc dc → H x = none → H o2 = none → x ≠ o2 → G' x = none → G' o2 = none → MOk K G' H' x (.ins C dx (srcFs W P o2)) → MOk K G' H' o2 (.lst (es.map topD)) → ThPost 4 W P [] [] es → Q (.ref tp) H'
theorem ok_searched {f : Addr} {fd : FuncData} (F : Fun K "searched" "searched" s_searched f fd) (Z : SrcCls K C) (c_Search : CalC P w K mg base "Search" C 1 ["self", "web", "purse"] (spTInit K C)) (c_Search_go_through : CalM P w K mg base C "go_through" 11 ["self", "taken", "kept"] (spTh 4 K C)) : FnOk P w K mg base CX0 12 f fd ["web", "purse"] (spSrchd K C) := by
  refine F.ok sc_searched (fun vs H Q E h => ?_) (fun cdv A outer s H vs Q E hr h => ?_)
  · obtain ⟨W, P, G, hg, hI, _⟩ := h
    exact hI.length
  · obtain ⟨W, P, G, hg, hI, hp, q⟩ := h
    have A0 := at_start (K := K) (N := ["web", "purse", "search"]) (ds := [.dat (webD W), .dat (frD P), .no]) hg hI
    refine ⟨_, (pss_cons (ps_set (i := 2) sc_searched.nd rfl (Or.inl rfl) (p_make c_Search (hr.mono (by first | exact Nat.le_refl _ | omega)) (pa_cons (pv 0) (pa_cons (pv 1) pa_nil))))
      (pss_one (ps_ret (pe_tup (pa_cons (pv 2) (pa_cons (p_meth c_Search_go_through (hr.mono (by first | exact Nat.le_refl _ | omega)) (pv 2) (pa_cons (pe_lst pa_nil) (pa_cons (pe_lst pa_nil) pa_nil))) pa_nil)))))), ?_⟩
    refine q_makeT (W := W) (P := P) A0 (el_cons (ev_var rfl) (el_cons (ev_var rfl) el_nil)) fun dx x o2 σ5 G5 H5 hx0 ho0 hne A5 => ?_
    refine s_ret2 ((ev_var (i := 2) (c := .ref x) rfl) σ5 G5 H5 A5.kn _ fun v0 G6 H6 a6 o6 x6 => ?_)
    have A6 := A5.step a6 o6
    cases x6.ref
    refine (ex_th (i := 0) (p := x) (o2 := o2) (es := []) (.inl ho0) (ev_var (i := 2) (c := .ref x) rfl) (List.mem_cons_of_mem _ List.mem_cons_self) rfl hne (el_cons (ev_lst (dl := []) el_nil) (el_cons (ev_lst (dl := []) el_nil) el_nil)) hp.start) G6 H6 A6 _ fun v d ms' G7 H7 hd A7 _ hv => ?_
    obtain ⟨es, hdv, rfl, hpo⟩ := hd
    have hsl := sizeLine_eq
    refine ⟨show 2 ≤ sizeLine by omega, fun tp htp => ?_⟩
    have A7 : At K none mu0 G H [] [.dat (webD W), .dat (frD P), .ref x] [(o2, .lst (es.map topD)), (x, .ins C dx (srcFs W P o2))] σ5 G7 H7 := A7
    have A8 := A7.alloc (o := .tup [.ref x, v]) htp
    obtain ⟨m1, g1, _⟩ := A8.kn.mo _ List.mem_cons_self
    obtain ⟨m2, g2, _⟩ := A8.kn.mo _ (List.mem_cons_of_mem _ List.mem_cons_self)
    exact q tp x o2 dx v d G7 _ es A8.sp upd_same hv hx0 ho0 hne g2 g1 m2 m1 hpo
theorem q_searched {i j : Nat} {W : Web} {P : Rat} (A : At K s mu G0 H0 gs ds ms σ G H) (h : EvL K s tr ds ms [webD W, frD P]) (hp : TPre W P)
    (k : ∀ dx x o2 dc es σ' G' H', H0 x = none → H0 o2 = none → ThPost 4 W P [] [] es → At K s mu G0 H0 gs ((ds.set i (.ref x)).set j (.dat dc)) ((o2, .lst (es.map topD)) :: (x, .ins C dx (srcFs W P o2)) :: ms) σ' G' H' → tz D σ' H') : tSeq (tAsg (tCall (spSrchd K C) [] E tr) (gTup K 2 (gNms [i, j]))) tz D σ H :=
  h σ G H A.kn _ fun vs G1 H1 a1 o1 x1 => by
    have A1 := A.step a1 o1
    refine ⟨W, P, G1, A1.kn.gh, by rw [List.append_nil]; exact x1, hp, fun tp x o2 dx vc dc G2 H2 es a2 htp hv hx ho hne gx go mx mo hpo => ?_⟩
    obtain ⟨f1, f2, f3⟩ := A1.fresh0 hx
    obtain ⟨e1, e2, e3⟩ := A1.fresh0 ho
    have A2 := A1.step a2.of0 (A1.kn.stO a2)
    have A3 := A2.add mx gx f2 f3
    have A4 := A3.add mo go (fun r hr => by
      rcases List.mem_cons.mp hr with rfl | hr
      · exact hne
      · exact e2 r hr) e3
    refine ⟨tp, [.ref x, vc], rfl, SqT.of htp, rfl, .ref x, _, rfl, vc, _, rfl, rfl, ?_⟩
    exact k dx x o2 dc es _ G2 H2 f1 e1 hpo ((A4.slot (i := i) (c := .ref x) rfl).slot (i := j) (c := .dat dc) (CP.dat hv))
abbrev s_best_in : Stmt := topS 77
theorem sc_best_in : FnScope ["web", "purse", "search", "cases", "best", "top", "taking", "way", "length", "prices"] ["web", "purse"] (defScope s_best_in) := ⟨rfl, rfl, rfl, by decide +kernel, rfl, by decide +kernel, by decide +kernel⟩

def TakRes (W : Web) (P : Rat) (d : Sy.D) : Prop :=
  (∃ T c, d = .tuple [.str "cut", natD T, c] ∧ TakOk W T ∧ T.Nodup ∧ T.length ≤ 14 ∧ worthOf W T ≤ P ∧ NoWay W T) ∨
  ∃ a b c e, d = .tuple [.str "left", a, b, c, e] ∧ ∀ T, Fit W P T [] [] → ¬ NoWay W T
def spBestIn (K : Fg) : Sp := SpD K (fun a : Web × Rat => [webD a.1, frD a.2]) (fun a => TPre a.1 a.2) (fun a d => TakRes a.1 a.2 d)
theorem lngr_t {a b : Option Rat} (h : lngr a b = true) : b ≠ none := fun z => by
  subst z
  cases a <;> cases h
theorem lngr_f {a b : Option Rat} (h : lngr a b = false) (ha : a = none) : b = none := by
  subst ha
  cases b with
  | none => rfl
  | some x => cases h
theorem ok_best_in {f : Addr} {fd : FuncData} (F : Fun K "best_in" "best_in" s_best_in f fd) (Z : SrcCls K C) (c_searched : Cal P w K mg base "searched" 12 ["web", "purse"] (spSrchd K C)) (c_is_longer : Cal P w K mg base "is_longer" 2 ["length", "other"] (spLonger K)) (c_side_in : Cal P w K mg base "side_in" 3 ["web", "taken"] (spSideIn K)) : FnOk P w K mg base CX0 13 f fd ["web", "purse"] (spBestIn K) := by
  refine F.ok sc_best_in (fun vs H Q E h => ?_) (fun cdv A outer s H vs Q E hr h => ?_)
  · obtain ⟨a, G, hg, hI, hp, q⟩ := h
    exact hI.length
  · obtain ⟨⟨W, P⟩, G, hg, hI, hp, q⟩ := h
    have hp : TPre W P := hp
    have hW := hp.hW
    have A0 := at_start (K := K) (N := ["web", "purse", "search", "cases", "best", "top", "taking", "way", "length", "prices"]) (ds := [.dat (webD W), .dat (frD P), .no, .no, .no, .no, .no, .no, .no, .no]) hg hI
    refine ⟨_, (pss_cons (ps_asg (p_call c_searched (hr.mono (by first | exact Nat.le_refl _ | omega)) (pa_cons (pv 0) (pa_cons (pv 1) pa_nil))) (w_tup (K := K) (by rfl) (pgs_cons (pg_name (i := 2) sc_best_in.nd rfl (Or.inl rfl)) (pgs_cons (pg_name (i := 3) sc_best_in.nd rfl (Or.inl rfl)) pgs_nil))))
      (pss_cons (ps_set (i := 4) sc_best_in.nd rfl (Or.inl rfl) (pe_ix (w_ixL (K := K)) (w_fld (K := K) (pv 2) rfl) pe_int (fun _ _ => rfl)))
      (pss_cons (ps_for PassesOwn.never rfl (w_list (K := K) (w_fld (K := K) (pv 2) rfl)) (pg_name (i := 5) sc_best_in.nd rfl (Or.inl rfl)) (pss_one (ps_if (pt_val (p_call c_is_longer (hr.mono (by first | exact Nat.le_refl _ | omega)) (pa_cons (pe_ix (w_ixT (K := K)) (pv 5) pe_int (fun _ _ => rfl)) (pa_cons (pe_ix (w_ixT (K := K)) (pv 4) pe_int (fun _ _ => rfl)) pa_nil)))) (pss_one (ps_set (i := 4) sc_best_in.nd rfl (Or.inl rfl) (pv 5))) pss_nil)))
      (pss_cons (ps_asg (pv 4) (w_tup (K := K) (by rfl) (pgs_cons (pg_name (i := 6) sc_best_in.nd rfl (Or.inl rfl)) (pgs_cons (pg_name (i := 7) sc_best_in.nd rfl (Or.inl rfl)) (pgs_cons (pg_name (i := 8) sc_best_in.nd rfl (Or.inl rfl)) (pgs_cons (pg_name (i := 9) sc_best_in.nd rfl (Or.inl rfl)) pgs_nil))))))
      (pss_cons (ps_if (pt_cmpR o_isN (pv 7) pe_non (nomark _)) (pss_one (ps_ret (pe_tup (pa_cons pe_str (pa_cons (pv 6) (pa_cons (p_call c_side_in (hr.mono (by first | exact Nat.le_refl _ | omega)) (pa_cons (pv 0) (pa_cons (pv 6) pa_nil))) pa_nil)))))) pss_nil)
      (pss_one (ps_ret (pe_tup (pa_cons pe_str (pa_cons (pv 6) (pa_cons (pv 7) (pa_cons (pv 9) (pa_cons (pv 3) pa_nil))))))))))))), ?_⟩
    refine q_searched (i := 2) (j := 3) (W := W) (P := P) A0 (el_cons (ev_var rfl) (el_cons (ev_var rfl) el_nil)) hp fun dx x o2 dc es σ1 G1 H1 hx0 ho0 hpo A1 => ?_
    have A1 : At K none mu0 G H [] [.dat (webD W), .dat (frD P), .ref x, .dat dc, .no, .no, .no, .no, .no, .no] [(o2, .lst (es.map topD)), (x, .ins C dx (srcFs W P o2))] σ1 G1 H1 := A1
    obtain ⟨e0, er, rfl⟩ : ∃ e0 er, es = e0 :: er := by
      cases es with
      | nil => exact absurd rfl hpo.ne
      | cons a b => exact ⟨a, b, rfl⟩
    refine q_set A1 (ev_ixM (a := o2) (xs := (e0 :: er).map topD) (ev_fld (p := x) (ev_var rfl) Z.cl Z.tops (List.mem_cons_of_mem _ List.mem_cons_self) rfl) List.mem_cons_self ev_int (atI_nat (j := 0) rfl)) fun σ7 G7 H7 A7 => ?_
    refine q_for A7 (it_known (p := o2) (es := (e0 :: er).map topD) (ev_fld (p := x) (ev_var rfl) Z.cl Z.tops (List.mem_cons_of_mem _ List.mem_cons_self) rfl) List.mem_cons_self) (fun i e he => tg_name)
      (fun i ds ms => ∃ (b : Top) (c : SC), ds = [.dat (webD W), .dat (frD P), .ref x, .dat dc, .dat (topD b), c, .no, .no, .no, .no] ∧ ms = [(o2, .lst ((e0 :: er).map topD)), (x, .ins C dx (srcFs W P o2))] ∧ b ∈ e0 :: er ∧ ∀ e ∈ (e0 :: er).take i, e.q = none → b.q = none)
      ⟨e0, .no, rfl, rfl, List.mem_cons_self, fun e h => absurd h (by simp)⟩ (fun i ds ms _ j => by
        obtain ⟨_, _, _, rfl, _⟩ := j
        exact List.mem_cons_self) (fun gs i e ds ms σ8 G8 H8 L he j A8 hL => ?_) fun ds ms σ8 G8 H8 j A8 => ?_
    · obtain ⟨b, c, rfl, rfl, hb, hmin⟩ := j
      obtain ⟨e, hee, rfl⟩ := smap_get he
      refine s_if A8 (et_B (ev_is_longer (a := e.q) (b := b.q) (el_cons (ev_ixT2 (xs := [natD e.T, e.a, optD e.q, .dict []]) (ev_var rfl) rfl) (el_cons (ev_ixT2 (xs := [natD b.T, b.a, optD b.q, .dict []]) (ev_var rfl) rfl) el_nil)) (hpo.ok e (List.mem_of_getElem? hee)).sz (hpo.ok b hb).sz)) (fun hlt G9 H9 A9 => ?_) fun hlt G9 H9 A9 => ?_
      · refine s_set A9 (ev_var (i := 5) (c := .dat (topD e)) rfl) fun σ10 G10 H10 A10 => ?_
        refine hL _ _ _ _ _ ⟨e, .dat (topD e), rfl, rfl, List.mem_of_getElem? hee, fun y hy hq => ?_⟩ A10
        rw [List.take_add_one, hee] at hy
        rcases List.mem_append.mp hy with hy | hy
        · exact absurd (hmin y hy hq) (lngr_t hlt)
        · cases List.mem_singleton.mp hy
          exact hq
      · refine hL _ _ _ _ _ ⟨b, .dat (topD e), rfl, rfl, hb, fun y hy hq => ?_⟩ A9
        rw [List.take_add_one, hee] at hy
        rcases List.mem_append.mp hy with hy | hy
        · exact hmin y hy hq
        · cases List.mem_singleton.mp hy
          exact lngr_f hlt hq
    · obtain ⟨b, c, rfl, rfl, hb, hmin⟩ := j
      rw [List.length_map, List.take_length] at hmin
      have hbo := hpo.ok b hb
      refine q_unp A8 (d := topD b) (ev_var rfl) (tg_tup [6, 7, 8, 9] rfl rfl) fun σ9 G9 H9 A9 => ?_
      have A9 : At K none mu0 G H [] [.dat (webD W), .dat (frD P), .ref x, .dat dc, .dat (topD b), c, .dat (natD b.T), .dat b.a, .dat (optD b.q), .dat (.dict [])] [(o2, .lst ((e0 :: er).map topD)), (x, .ins C dx (srcFs W P o2))] σ9 G9 H9 := A9
      refine q_when A9 (et_test (ev_isN (x := b.a) (ev_var rfl) hbo.na)) (fun hb2 G10 H10 A10 => ?_) fun hb2 G10 H10 A10 => ?_
      · rw [hbo.isn] at hb2
        have hq : b.q = none := by
          cases e : b.q with
          | none => rfl
          | some y => rw [e] at hb2; cases hb2
        refine s_retR A10 (evr_tup (elr_cons (EvC.r (d := .str "cut") ev_str) (elr_cons (EvC.r (d := natD b.T) (ev_var rfl)) (elr_cons (evr_side_in (W := W) (T := b.T) (el_cons (ev_var rfl) (el_cons (ev_var rfl) el_nil)) hW) elr_nil))) fun dl h => by
          obtain ⟨_, _, rfl, _, _, _, rfl, _, _, _, rfl, _, rfl⟩ := h
          exact Nat.le_of_ble_eq_true rfl) fun v G' H' dd st so iv hd => q v G' H' dd st iv ?_
        obtain ⟨dl, rfl, d1, r1, rfl, rfl, d2, r2, rfl, rfl, d3, r3, rfl, _, rfl⟩ := hd
        exact .inl ⟨b.T, d3, rfl, hbo.tk, hbo.nd, hbo.len, hbo.wo, hbo.no hq⟩
      · rw [hbo.isn] at hb2
        refine s_retD A10 (ev_tup (dl := [.str "left", natD b.T, b.a, .dict [], dc]) (el_cons ev_str (el_cons (ev_var rfl) (el_cons (ev_var rfl) (el_cons (ev_var rfl) (el_cons (ev_var rfl) el_nil)))))) fun v G' H' st iv => q v G' H' _ st iv (.inr ⟨_, _, _, _, rfl, fun T hT hn => ?_⟩)
        obtain ⟨e, he, hq⟩ := hpo.cov T hT hn
        rw [hmin e he hq] at hb2
        cases hb2
theorem evr_best_in {W : Web} {P : Rat} (h : EvL K s t ds ms [webD W, frD P]) (hp : TPre W P) : EvR K s (tCall (spBestIn K) [] E t) ds ms (TakRes W P) := evr_call (a := (W, P)) (post := fun (a : Web × Rat) d => TakRes a.1 a.2 d) h hp
abbrev s_best_taking : Stmt := topS 78
theorem sc_best_taking : FnScope ["web", "purse"] ["web", "purse"] (defScope s_best_taking) := ⟨rfl, rfl, rfl, by decide +kernel, rfl, by decide +kernel, by decide +kernel⟩

theorem ok_best_taking {f : Addr} {fd : FuncData} (F : Fun K "best_taking" "best_taking" s_best_taking f fd) (c_look_at_web : Cal P w K mg base "look_at_web" 6 ["thing"] (spLWeb K)) (c_look_at_purse : Cal P w K mg base "look_at_purse" 5 ["thing"] (spLPurse K)) (c_look_at_size : Cal P w K mg base "look_at_size" 5 ["web", "purse"] (spLSize K)) (c_best_in : Cal P w K mg base "best_in" 13 ["web", "purse"] (spBestIn K)) : FnOk P w K mg base CX0 14 f fd ["web", "purse"] (spBestIn K) := by
  refine F.ok sc_best_taking (fun vs H Q E h => ?_) (fun cdv A outer s H vs Q E hr h => ?_)
  · obtain ⟨a, G, hg, hI, hp, q⟩ := h
    exact hI.length
  · obtain ⟨⟨W, P⟩, G, hg, hI, hp, q⟩ := h
    have hp : TPre W P := hp
    have A0 := at_start (K := K) (N := ["web", "purse"]) (ds := [.dat (webD W), .dat (frD P)]) hg hI
    refine ⟨_, (pss_cons (ps_expr (p_call c_look_at_web (hr.mono (by first | exact Nat.le_refl _ | omega)) (pa_cons (pv 0) pa_nil)))
      (pss_cons (ps_expr (p_call c_look_at_purse (hr.mono (by first | exact Nat.le_refl _ | omega)) (pa_cons (pv 1) pa_nil)))
      (pss_cons (ps_expr (p_call c_look_at_size (hr.mono (by first | exact Nat.le_refl _ | omega)) (pa_cons (pv 0) (pa_cons (pv 1) pa_nil))))
      (pss_one (ps_ret (p_call c_best_in (hr.mono (by first | exact Nat.le_refl _ | omega)) (pa_cons (pv 0) (pa_cons (pv 1) pa_nil)))))))), ?_⟩
    refine q_drop A0 (ev_look_at_web (el_cons (ev_var rfl) el_nil) hp.hW) fun G1 H1 A1 => ?_
    refine q_drop A1 (ev_look_at_purse (a := P) (el_cons (ev_var rfl) el_nil) hp.h0) fun G3 H3 A3 => ?_
    refine q_drop A3 (ev_look_at_size (W := W) (p := P) (el_cons (ev_var rfl) (el_cons (ev_var rfl) el_nil)) hp.hW.wb hp.hP hp.on) fun G4 H4 A4 => ?_
    exact s_retR A4 (evr_best_in (W := W) (P := P) (el_cons (ev_var rfl) (el_cons (ev_var rfl) el_nil)) hp) fun v G' H' d st so iv hd => q v G' H' d st iv hd
end
end Fc
/-! The plain law: what is left; scaling, no purse, a tie made watched, cuts. -/
namespace Fc
open PySem L2 Sy
theorem cutT_nn {t : Tie} {r : Rat} {S : Str → Bool} (h : 0 ≤ r) : 0 ≤ cutT t r S := by
  unfold cutT
  split
  · exact h
  · split
    · exact h
    · exact Rat.le_refl
theorem cutT_zero (t : Tie) (S : Str → Bool) : cutT t 0 S = 0 := by
  unfold cutT
  split
  · rfl
  · split <;> rfl
theorem cutR_nn {S : Str → Bool} : ∀ {ts : List Tie} {R : List Rat}, (∀ r ∈ R, 0 ≤ r) → 0 ≤ cutR ts R S
  | [], _, _ => Rat.le_refl
  | _ :: _, [], _ => Rat.le_refl
  | t :: ts, r :: R, h => Rat.add_nonneg (cutT_nn (h r List.mem_cons_self)) (cutR_nn fun q hq => h q (List.mem_cons_of_mem _ hq))
theorem cutR_term {S : Str → Bool} : ∀ {ts : List Tie} {R : List Rat}, (∀ r ∈ R, 0 ≤ r) → cutR ts R S = 0 → ∀ (k : Nat) (t : Tie) (r : Rat), ts[k]? = some t → R[k]? = some r → cutT t r S = 0
  | [], _, _, _, _, _, _, h, _ => by simp at h
  | _ :: _, [], _, _, _, _, _, _, h => by simp at h
  | t0 :: ts, r0 :: R, hR, h0, k, t, r, h1, h2 => by
    have h0 : cutT t0 r0 S + cutR ts R S = 0 := h0
    have a : 0 ≤ cutT t0 r0 S := cutT_nn (hR r0 List.mem_cons_self)
    have b : 0 ≤ cutR ts R S := cutR_nn fun q hq => hR q (List.mem_cons_of_mem _ hq)
    have ea : cutT t0 r0 S = 0 := by grind
    have eb : cutR ts R S = 0 := by grind
    cases k with
    | zero =>
      have e1 : t0 = t := by simpa using h1
      have e2 : r0 = r := by simpa using h2
      rw [← e1, ← e2]
      exact ea
    | succ k => exact cutR_term (fun q hq => hR q (List.mem_cons_of_mem _ hq)) eb k t r (by simpa using h1) (by simpa using h2)
theorem cutR_all0 {S : Str → Bool} : ∀ {ts : List Tie} {R : List Rat}, (∀ (k : Nat) (t : Tie) (r : Rat), ts[k]? = some t → R[k]? = some r → cutT t r S = 0) → cutR ts R S = 0
  | [], _, _ => rfl
  | _ :: _, [], _ => rfl
  | t :: ts, r :: R, h => by
    show cutT t r S + cutR ts R S = 0
    rw [h 0 t r rfl rfl, cutR_all0 (ts := ts) (R := R) fun k t r h1 h2 => h (k + 1) t r (by simpa using h1) (by simpa using h2), Rat.add_zero]
theorem cutT_mono {t : Tie} {r r' : Rat} {S : Str → Bool} (h : r ≤ r') : cutT t r S ≤ cutT t r' S := by
  unfold cutT
  split
  · exact h
  · split
    · exact h
    · exact Rat.le_refl
theorem cutR_mono {S : Str → Bool} : ∀ {ts : List Tie} {R R' : List Rat}, R.length = R'.length → (∀ (k : Nat) (r r' : Rat), R[k]? = some r → R'[k]? = some r' → r ≤ r') → cutR ts R S ≤ cutR ts R' S
  | [], _, _, _, _ => Rat.le_refl
  | _ :: _, [], [], _, _ => Rat.le_refl
  | _ :: _, [], _ :: _, h, _ => by simp at h
  | _ :: _, _ :: _, [], h, _ => by simp at h
  | t :: ts, r :: R, r' :: R', hl, h => by
    have ih := cutR_mono (S := S) (ts := ts) (R := R) (R' := R') (by simpa using hl) fun k r r' h1 h2 => h (k + 1) r r' (by simpa using h1) (by simpa using h2)
    have h0 := cutT_mono (t := t) (S := S) (h 0 r r' rfl rfl)
    show cutT t r S + cutR ts R S ≤ cutT t r' S + cutR ts R' S
    grind
theorem cutR_ties {S : Str → Bool} : ∀ {ts us : List Tie} {R : List Rat}, ts.length = us.length → (∀ (k : Nat) (t u : Tie), ts[k]? = some t → us[k]? = some u → t.one = u.one ∧ t.other = u.other ∧ t.both = u.both) → cutR ts R S = cutR us R S
  | [], [], _, _, _ => rfl
  | [], _ :: _, _, h, _ => by simp at h
  | _ :: _, [], _, h, _ => by simp at h
  | _ :: _, _ :: _, [], _, _ => rfl
  | t :: ts, u :: us, r :: R, hl, h => by
    have ih := cutR_ties (S := S) (ts := ts) (us := us) (R := R) (by simpa using hl) fun k t u h1 h2 => h (k + 1) t u (by simpa using h1) (by simpa using h2)
    obtain ⟨e1, e2, e3⟩ := h 0 t u rfl rfl
    show cutT t r S + cutR ts R S = cutT u r S + cutR us R S
    rw [ih]
    unfold cutT
    rw [e1, e2, e3]
theorem room_nn {W : Web} {R : List Rat} {T : List Nat} {S : Str → Bool} (h : RoomsOk W R) : 0 ≤ room W R T S := cutR_nn (zer_nn h.nn)
theorem zer_get {R : List Rat} {T : List Nat} {k : Nat} {r : Rat} (h : R[k]? = some r) : (zer R T)[k]? = some (if k ∈ T then 0 else r) := by
  unfold zer
  rw [List.getElem?_mapIdx, h] <;> rfl
theorem NoWay.room {W : Web} {R : List Rat} {T : List Nat} (hW : WebOk W) (h : NoWay W T) : ∃ S, Sd W S ∧ Fc.room W R T S = 0 := by
  obtain ⟨S, sd, hS⟩ := h
  refine ⟨S, sd, cutR_all0 fun k t r h1 h2 => ?_⟩
  obtain ⟨r0, e1, e2⟩ := zer_at h2
  by_cases hk : k ∈ T
  · rw [e2, if_pos hk]
    exact cutT_zero t S
  · have ht := hW.tk t (List.mem_of_getElem? h1)
    have f1 := hS k t.one t.other ⟨hk, t, h1, by unfold bhd; rw [if_pos rfl]⟩
    unfold cutT
    split
    · rename_i hc
      rw [f1 hc.1] at hc
      cases hc.2
    · split
      · rename_i hc
        have f2 := hS k t.other t.one ⟨hk, t, h1, by unfold bhd; rw [if_neg ht.ne, if_pos ⟨rfl, hc.2.2⟩]⟩ hc.1
        rw [f2] at hc
        cases hc.2.1
      · rfl
theorem noway_of {W : Web} {R : List Rat} {T : List Nat} {S : Str → Bool} (hR : RoomsOk W R) (hp : ∀ r ∈ R, 0 < r) (hS : Sd W S) (h : Fc.room W R T S = 0) : NoWay W T := by
  refine ⟨S, hS, fun k x y hop hx => ?_⟩
  obtain ⟨hk, t, ht, hb⟩ := hop
  have hkl := (List.getElem?_eq_some_iff.mp ht).1
  have hr := List.getElem?_eq_getElem (show k < R.length by rw [hR.len]; exact hkl)
  have h0 := cutR_term (zer_nn hR.nn) h k t _ ht (zer_get hr)
  rw [if_neg hk] at h0
  have hr0 := hp _ (List.getElem_mem (show k < R.length by rw [hR.len]; exact hkl))
  refine Classical.byContradiction fun hy => ?_
  have hy : S y = false := by simpa using hy
  unfold bhd at hb
  unfold cutT at h0
  split at hb
  · rename_i e
    cases hb
    subst e
    rw [if_pos ⟨hx, hy⟩] at h0
    rw [h0] at hr0
    exact absurd hr0 (by decide +kernel)
  · split at hb
    · rename_i e2
      cases hb
      obtain ⟨e2, e3⟩ := e2
      subst e2
      rw [if_neg (by rw [hy]; exact fun z => nomatch z.1), if_pos ⟨hx, hy, e3⟩] at h0
      rw [h0] at hr0
      exact absurd hr0 (by decide +kernel)
    · cases hb
/-! what is left -/
structure IsLeft (W : Web) (R : List Rat) (P x : Rat) : Prop where
  at_ : ∃ T S, Fit W P T [] [] ∧ Sd W S ∧ x = room W R T S
  le : ∀ T, Fit W P T [] [] → ∀ S, Sd W S → x ≤ room W R T S
theorem IsLeft.unique {W : Web} {R : List Rat} {P x y : Rat} (h : IsLeft W R P x) (h' : IsLeft W R P y) : x = y := by
  obtain ⟨T, S, h1, h2, h3⟩ := h.at_
  obtain ⟨T', S', h1', h2', h3'⟩ := h'.at_
  refine Rat.le_antisymm ?_ ?_
  · rw [h3']
    exact h.le T' h1' S' h2'
  · rw [h3]
    exact h'.le T h1 S h2
theorem fit_of {W : Web} {P : Rat} {T : List Nat} (h1 : TakOk W T) (h2 : T.Nodup) (h3 : worthOf W T ≤ P) : Fit W P T [] [] := ⟨h1.tie, h2, h3, fun k hk => absurd hk (by simp), fun k _ => by simp⟩
theorem fit_nil {W : Web} {P : Rat} (h : 0 ≤ P) : Fit W P [] [] [] := ⟨fun k hk => absurd hk (by simp), List.nodup_nil, h, fun k hk => hk, fun k hk => absurd hk (by simp)⟩
theorem StopRes.left {W : Web} {R : List Rat} {P : Rat} {e : Ent} (h : StopRes W R P e) : IsLeft W R P (amtR W e.fl) :=
  ⟨⟨e.T, _, fit_of h.ok.tk h.ok.nd h.ok.wo, h.ok.mo.sd, h.ok.mo.cut⟩, h.best⟩
theorem IsLeft.nn {W : Web} {R : List Rat} {P x : Rat} (hR : RoomsOk W R) (h : IsLeft W R P x) : 0 ≤ x := by
  obtain ⟨T, S, _, _, e⟩ := h.at_
  rw [e]
  exact room_nn hR
theorem IsLeft.cut {W : Web} {R : List Rat} {P x : Rat} (hW : WebOk W) (hR : RoomsOk W R) (h : IsLeft W R P x) {T : List Nat} (hT : Fit W P T [] []) (hn : NoWay W T) : x = 0 := by
  obtain ⟨S, hS, e⟩ := NoWay.room (R := R) hW hn
  refine Rat.le_antisymm ?_ (h.nn hR)
  rw [← e]
  exact h.le T hT S hS
theorem IsLeft.nocut {W : Web} {R : List Rat} {P x : Rat} (hR : RoomsOk W R) (hp : ∀ r ∈ R, 0 < r) (h : IsLeft W R P x) (hn : ∀ T, Fit W P T [] [] → ¬ NoWay W T) : x ≠ 0 := fun z => by
  obtain ⟨T, S, h1, h2, e⟩ := h.at_
  exact hn T h1 (noway_of hR hp h2 (e.symm.trans z))
/-! scaling -/
theorem cutR_scale (c : Rat) (S : Str → Bool) : ∀ (ts : List Tie) (R : List Rat), cutR ts (R.map (· * c)) S = cutR ts R S * c
  | [], _ => (Rat.zero_mul c).symm
  | _ :: _, [] => (Rat.zero_mul c).symm
  | t :: ts, r :: R => by
    show cutT t (r * c) S + cutR ts (R.map (· * c)) S = (cutT t r S + cutR ts R S) * c
    rw [cutR_scale c S ts R, Rat.add_mul]
    congr 1
    unfold cutT
    split
    · rfl
    · split
      · rfl
      · exact (Rat.zero_mul c).symm
theorem zer_scale (R : List Rat) (T : List Nat) (c : Rat) : zer (R.map (· * c)) T = (zer R T).map (· * c) := by
  refine List.ext_getElem? fun k => ?_
  rw [List.getElem?_map]
  unfold zer
  rw [List.getElem?_mapIdx, List.getElem?_mapIdx, List.getElem?_map]
  cases R[k]? with
  | none => rfl
  | some r =>
    show some (if k ∈ T then (0 : Rat) else r * c) = some ((if k ∈ T then (0 : Rat) else r) * c)
    split
    · rw [Rat.zero_mul]
    · rfl
theorem room_scale (W : Web) (R : List Rat) (T : List Nat) (S : Str → Bool) (c : Rat) : room W (R.map (· * c)) T S = room W R T S * c := by
  unfold room
  rw [zer_scale, cutR_scale]
theorem IsLeft.scale {W : Web} {R : List Rat} {P x c : Rat} (h : IsLeft W R P x) (hc : 0 ≤ c) : IsLeft W (R.map (· * c)) P (x * c) := by
  obtain ⟨T, S, h1, h2, e⟩ := h.at_
  refine ⟨⟨T, S, h1, h2, by rw [room_scale, e]⟩, fun T hT S hS => ?_⟩
  rw [room_scale]
  exact Rat.mul_le_mul_of_nonneg_right (h.le T hT S hS) hc
/-! no purse -/
theorem fit_zero {W : Web} {T : List Nat} (hW : WB W) (h : Fit W 0 T [] []) : T = [] := by
  cases T with
  | nil => rfl
  | cons k r =>
    obtain ⟨t, q, e1, e2⟩ := h.tk k List.mem_cons_self
    have hq := (hW.2 t (List.mem_of_getElem? e1) q e2).2
    have hw := h.wo
    unfold worthOf at hw
    rw [List.map_cons, sumR_cons, wOf_at e1 e2] at hw
    have hr : 0 ≤ sumR (r.map (wOf W)) := sumR_nn fun x hx => by
      obtain ⟨j, hj, rfl⟩ := List.mem_map.mp hx
      exact wOf_nn hW h.tk j (List.mem_cons_of_mem _ hj)
    grind
theorem left_zero {W : Web} {R fl : List Rat} {S : List Str} (hW : WebOk W) (h : MostOk W R [] fl S) : IsLeft W R 0 (amtR W fl) :=
  ⟨⟨[], _, fit_nil Rat.le_refl, h.sd, h.cut⟩, fun T hT S' hS => by
    rw [fit_zero hW.wb hT]
    exact weak hW h.flw hS⟩
theorem left_most {W : Web} {R fl : List Rat} {S : List Str} {P x : Rat} (hP : 0 ≤ P) (h : MostOk W R [] fl S) (hx : IsLeft W R P x) : x ≤ amtR W fl := by
  rw [h.cut]
  exact hx.le [] (fit_nil hP) _ h.sd
theorem once_zero {W : Web} (hW : WB W) : atOnce W 0 = 0 := by
  obtain ⟨A, a1, a2, a3⟩ := once_ach (p := 0) (worths W).length (worths W) 0 0 rfl Rat.le_refl
  cases A with
  | nil => exact a3.symm
  | cons a r =>
    rw [sumR_cons] at a2
    have h1 := worths_pos hW a (a1.mem List.mem_cons_self)
    have h2 : 0 ≤ sumR r := sumR_nn fun q hq => Rat.le_of_lt (worths_pos hW q (a1.mem (List.mem_cons_of_mem _ hq)))
    grind
/-! a tie made watched -/
def watch (W : Web) (k : Nat) (t : Tie) : Web := { W with ties := W.ties.set k { t with worth := none } }
theorem watch_at {W : Web} {k : Nat} {t : Tie} (h : W.ties[k]? = some t) {j : Nat} {u : Tie} (hu : (watch W k t).ties[j]? = some u) : ∃ v, W.ties[j]? = some v ∧ v.one = u.one ∧ v.other = u.other ∧ v.both = u.both ∧ v.len = u.len ∧ (u.worth = none ∨ (j ≠ k ∧ u = v)) := by
  have hu : (W.ties.set k { t with worth := none })[j]? = some u := hu
  by_cases e : k = j
  · subst e
    rw [List.getElem?_set_self (List.getElem?_eq_some_iff.mp h).1] at hu
    cases hu
    exact ⟨t, h, rfl, rfl, rfl, rfl, .inl rfl⟩
  · rw [List.getElem?_set_ne e] at hu
    exact ⟨u, hu, rfl, rfl, rfl, rfl, .inr ⟨fun z => e z.symm, rfl⟩⟩
theorem watch_len (W : Web) (k : Nat) (t : Tie) : (watch W k t).ties.length = W.ties.length := List.length_set
theorem watch_ok {W : Web} {k : Nat} {t : Tie} (hW : WebOk W) (h : W.ties[k]? = some t) : WebOk (watch W k t) := by
  refine ⟨hW.lo, hW.hi, hW.nd, hW.nm, by rw [watch_len]; exact hW.tl, fun u hu => ?_, hW.fi, hW.la, hW.ne⟩
  obtain ⟨j, hj⟩ := List.getElem?_of_mem hu
  obtain ⟨v, e1, e2, e3, e4, e5, e6⟩ := watch_at h hj
  have hv := hW.tk v (List.mem_of_getElem? e1)
  refine ⟨e2 ▸ hv.one, e3 ▸ hv.other, by rw [← e2, ← e3]; exact hv.ne, e5 ▸ hv.len0, e5 ▸ hv.lenB, fun q hq => ?_, fun q hq => ?_⟩
  · rcases e6 with e6 | ⟨_, e6⟩
    · rw [e6] at hq; cases hq
    · subst e6
      exact hv.worth0 q hq
  · rcases e6 with e6 | ⟨_, e6⟩
    · rw [e6] at hq; cases hq
    · subst e6
      exact hv.worthB q hq
theorem watch_tk {W : Web} {k : Nat} {t : Tie} (h : W.ties[k]? = some t) {T : List Nat} (hT : Tk (watch W k t) T) : Tk W T ∧ k ∉ T ∧ T.map (wOf (watch W k t)) = T.map (wOf W) := by
  have base : ∀ j ∈ T, ∃ u q, (watch W k t).ties[j]? = some u ∧ u.worth = some q ∧ W.ties[j]? = some u ∧ j ≠ k := fun j hj => by
    obtain ⟨u, q, e1, e2⟩ := hT j hj
    obtain ⟨v, f1, _, _, _, _, f6⟩ := watch_at h e1
    rcases f6 with f6 | ⟨f6, f7⟩
    · rw [f6] at e2; cases e2
    · subst f7
      exact ⟨u, q, e1, e2, f1, f6⟩
  refine ⟨fun j hj => ?_, fun hk => ?_, List.map_congr_left fun j hj => ?_⟩
  · obtain ⟨u, q, _, e2, e3, _⟩ := base j hj
    exact ⟨u, q, e3, e2⟩
  · obtain ⟨_, _, _, _, _, e⟩ := base k hk
    exact e rfl
  · obtain ⟨u, q, e1, e2, e3, _⟩ := base j hj
    rw [wOf_at e1 e2, wOf_at e3 e2]
theorem watch_fit {W : Web} {k : Nat} {t : Tie} {P : Rat} (h : W.ties[k]? = some t) {T : List Nat} (hT : Fit (watch W k t) P T [] []) : Fit W P T [] [] := by
  obtain ⟨h1, _, h3⟩ := watch_tk h hT.tk
  refine ⟨h1, hT.nd, ?_, hT.up, hT.no⟩
  have := hT.wo
  unfold worthOf at this ⊢
  rw [h3] at this
  exact this
theorem fit_watch {W : Web} {k : Nat} {t : Tie} {P : Rat} (hW : WB W) (h : W.ties[k]? = some t) {T : List Nat} (hT : Fit W P T [] []) : Fit (watch W k t) P (T.erase k) [] [] := by
  have hk : k ∉ T.erase k := fun z => (List.Nodup.mem_erase_iff hT.nd).mp z |>.1 rfl
  have tk : Tk (watch W k t) (T.erase k) := fun j hj => by
    have hjk : j ≠ k := fun z => hk (z ▸ hj)
    obtain ⟨u, q, e1, e2⟩ := hT.tk j (List.mem_of_mem_erase hj)
    refine ⟨u, q, ?_, e2⟩
    show (W.ties.set k _)[j]? = some u
    rw [List.getElem?_set_ne (fun z => hjk z.symm)]
    exact e1
  obtain ⟨_, _, h3⟩ := watch_tk h tk
  refine ⟨tk, hT.nd.erase k, ?_, fun j hj => absurd hj (by simp), fun j _ => by simp⟩
  unfold worthOf
  rw [h3]
  exact Rat.le_trans (sum_sub (wOf W) (hT.nd.erase k) (fun j hj => List.mem_of_mem_erase hj) (wOf_nn hW hT.tk)) hT.wo
theorem room_watch {W : Web} {k : Nat} {t : Tie} (h : W.ties[k]? = some t) (R : List Rat) (T : List Nat) (S : Str → Bool) : room (watch W k t) R T S = room W R T S :=
  cutR_ties (watch_len W k t) fun j u v h1 h2 => by
    obtain ⟨v', e1, e2, e3, e4, _⟩ := watch_at h h1
    rw [h2] at e1
    cases e1
    exact ⟨e2.symm, e3.symm, e4.symm⟩
theorem room_erase {W : Web} {R : List Rat} {T : List Nat} {k : Nat} (nd : T.Nodup) (h : R[k]? = some 0) (S : Str → Bool) : room W R (T.erase k) S = room W R T S := by
  have e : zer R (T.erase k) = zer R T := by
    refine List.ext_getElem? fun j => ?_
    unfold zer
    rw [List.getElem?_mapIdx, List.getElem?_mapIdx]
    by_cases hj : j = k
    · subst hj
      rw [h]
      show some (if j ∈ T.erase j then (0 : Rat) else 0) = some (if j ∈ T then (0 : Rat) else 0)
      split <;> split <;> rfl
    · cases R[j]? with
      | none => rfl
      | some r =>
        show some (if j ∈ T.erase k then (0 : Rat) else r) = some (if j ∈ T then (0 : Rat) else r)
        simp only [List.mem_erase_of_ne hj]
  unfold room
  rw [e]
theorem watch_left {W : Web} {k : Nat} {t : Tie} {R : List Rat} {P x y : Rat} (hW : WB W) (h : W.ties[k]? = some t) (hk : R[k]? = some 0) (hx : IsLeft W R P x) (hy : IsLeft (watch W k t) R P y) : x = y := by
  refine Rat.le_antisymm ?_ ?_
  · obtain ⟨T, S, h1, h2, e⟩ := hy.at_
    rw [e, room_watch h]
    exact hx.le T (watch_fit h h1) S h2
  · obtain ⟨T, S, h1, h2, e⟩ := hx.at_
    rw [e, ← room_erase h1.nd hk, ← room_watch h]
    exact hy.le (T.erase k) (fit_watch hW h h1) S h2
theorem less_left {W : Web} {k : Nat} {R : List Rat} {P x y : Rat} (hR : RoomsOk W R) (hx : IsLeft W R P x) (hy : IsLeft W (R.set k 0) P y) : y ≤ x := by
  obtain ⟨T, S, h1, h2, e⟩ := hx.at_
  rw [e]
  refine Rat.le_trans (hy.le T h1 S h2) (cutR_mono (by rw [zer_len, zer_len, List.length_set]) fun j r r' e1 e2 => ?_)
  obtain ⟨r0, f1, f2⟩ := zer_at e1
  obtain ⟨r1, g1, g2⟩ := zer_at e2
  rw [f2, g2]
  split
  · exact Rat.le_refl
  · by_cases hj : k = j
    · subst hj
      rw [List.getElem?_set_self (List.getElem?_eq_some_iff.mp g1).1] at f1
      cases f1
      exact hR.nn r1 (List.mem_of_getElem? g1)
    · rw [List.getElem?_set_ne hj, g1] at f1
      cases f1
      exact Rat.le_refl
theorem less_ok {W : Web} {R : List Rat} (h : RoomsOk W R) (k : Nat) : RoomsOk W (R.set k 0) := by
  refine ⟨by rw [List.length_set]; exact h.len, fun q hq => ?_, fun q hq => ?_⟩
  · rcases List.mem_or_eq_of_mem_set hq with hq | rfl
    · exact h.nn q hq
    · exact Rat.le_refl
  · rcases List.mem_or_eq_of_mem_set hq with hq | rfl
    · exact h.bd q hq
    · exact Bd.zero.mono (by omega)
theorem watch_rooms {W : Web} {R : List Rat} (h : RoomsOk W R) (k : Nat) (t : Tie) : RoomsOk (watch W k t) R := ⟨by rw [watch_len]; exact h.len, h.nn, h.bd⟩
theorem set_count (x : Rat) (t' : Tie) (h : t'.worth = none) : ∀ (ts : List Tie) (k : Nat), ((ts.set k t').filterMap Tie.worth).count x ≤ (ts.filterMap Tie.worth).count x
  | [], _ => Nat.le_refl _
  | t :: ts, 0 => by
    show ((t' :: ts).filterMap Tie.worth).count x ≤ _
    rw [List.filterMap_cons, List.filterMap_cons, h]
    cases t.worth with
    | none => exact Nat.le_refl _
    | some q =>
      show _ ≤ (q :: ts.filterMap Tie.worth).count x
      rw [List.count_cons]
      exact Nat.le_add_right _ _
  | t :: ts, k + 1 => by
    show ((t :: ts.set k t').filterMap Tie.worth).count x ≤ _
    rw [List.filterMap_cons, List.filterMap_cons]
    have ih := set_count x t' h ts k
    cases t.worth with
    | none => exact ih
    | some q =>
      show (q :: (ts.set k t').filterMap Tie.worth).count x ≤ (q :: ts.filterMap Tie.worth).count x
      rw [List.count_cons, List.count_cons]
      omega
theorem watch_once {W : Web} {k : Nat} {t : Tie} {P : Rat} (hW : WB W) (hP : 0 ≤ P) : atOnce (watch W k t) P ≤ atOnce W P := by
  obtain ⟨A, a1, a2, a3⟩ := once_ach (p := P) (worths (watch W k t)).length (worths (watch W k t)) 0 0 rfl hP
  have h := once_max (p := P) (worths W).length (worths W) A 0 0 rfl (worths_pos hW) (fun x => Nat.le_trans (a1 x) (set_count x { t with worth := none } rfl W.ties k)) a2
  unfold atOnce
  rw [← a3]
  exact h
end Fc
namespace Fc
open PySem PySem.Spec PyProof.Rows L2 Sy
section
variable {P : Program} {w : World} {K : Fg} {mg : Str → Option Value} {base : Heap} {C : Addr}
variable {s : Option Addr} {mu : Addr → Prop} {G0 H0 G H : Hp} {gs : List Hp} {ds : List SC} {ms : List (Addr × MO)} {σ : L2.St} {D : Ends} {t tr : TA} {ta tb te ti to : TE} {tt : TT} {tz u : TS} {E : XK} {sa : Addr}
/-! ### the drawing state -/
theorem stw_at {vs : List V} (A : At K (some sa) mu G0 H0 gs ds ms σ G H) (h : StAt (upd H sa (.lst vs)) sa) : At K (some sa) mu G0 H0 gs ds ms σ G (upd H sa (.lst vs)) := by
  have g0 : G sa = none := A.kn.vg sa rfl
  refine A.step ⟨.refl G, fun a u e => ?_, fun a u n e => ?_, fun a e _ => e, fun a n => ?_⟩ fun b e => by
    cases e
    exact h
  · rw [upd_ne (ne_of_none e g0)]
    exact A.kn.gh a u e
  · rw [upd_ne (fun z => n (by rw [z]; rfl))]
    exact e
  · by_cases z : a = sa
    · subst z
      rw [upd_same]
      exact fun q => nomatch q
    · rw [upd_ne z]
      exact n
theorem evr_st {j : Nat} (ha : EvC K (some sa) ta ds ms (.ref sa)) (hj : j < 3) : EvR K (some sa) (tOp (rIxL K) ta (tC (.int ((j : Nat) : Int)))) ds ms (fun d => (j = 0 → ∃ n : Int, d = .int n ∧ 0 ≤ n) ∧ (j = 1 → ∃ n : Int, d = .int n ∧ 0 ≤ n ∧ n < 2147483647) ∧ (j = 2 → ∃ b, d = .bool b)) := fun σ G H k Q q =>
  ha σ G H k _ fun v G1 H1 a1 o1 x1 => by
    have k1 := k.step a1 o1
    cases x1.ref
    obtain ⟨n, m, b, e, h1, h2, h3⟩ := k1.vo sa rfl
    refine ⟨sa, _, ((j : Nat) : Int), if j = 0 then .int n else if j = 1 then .int m else .bl b, rfl, rfl, SqL.of e, atI_nat (j := j) ?_, q _ G1 H1 (if j = 0 then .int n else if j = 1 then .int m else .bool b) a1 o1 ?_ ⟨fun z => ⟨n, by rw [if_pos z], h1⟩, fun z => ⟨m, by rw [if_neg (by omega), if_pos z], h2, h3⟩, fun z => ⟨b, by rw [if_neg (by omega), if_neg (by omega)]⟩⟩⟩
    · rcases j with _ | _ | _ | j
      · rfl
      · rfl
      · rfl
      · omega
    · rcases j with _ | _ | _ | j
      · exact .int _
      · exact .int _
      · exact .bl _
      · omega
theorem evr_st0 (ha : EvC K (some sa) ta ds ms (.ref sa)) : EvR K (some sa) (tOp (rIxL K) ta (tC (.int 0))) ds ms (fun d => ∃ n : Int, d = .int n ∧ 0 ≤ n) := (evr_st (j := 0) ha (by omega)).imp fun d h => h.1 rfl
theorem evr_st1 (ha : EvC K (some sa) ta ds ms (.ref sa)) : EvR K (some sa) (tOp (rIxL K) ta (tC (.int 1))) ds ms (fun d => ∃ n : Int, d = .int n ∧ 0 ≤ n ∧ n < 2147483647) := (evr_st (j := 1) ha (by omega)).imp fun d h => h.2.1 rfl
theorem evr_st2 (ha : EvC K (some sa) ta ds ms (.ref sa)) : EvR K (some sa) (tOp (rIxL K) ta (tC (.int 2))) ds ms (fun d => ∃ b, d = .bool b) := (evr_st (j := 2) ha (by omega)).imp fun d h => h.2.2 rfl
theorem etr_B {Φ : Sy.D → Prop} (h : EvR K s te ds ms Φ) (hb : ∀ d, Φ d → ∃ b, d = .bool b) : EvTR K s (tB te) ds ms (fun _ => True) := fun σ G H k Q q => h σ G H k _ fun v G1 H1 d a1 o1 x1 p1 => by
  obtain ⟨b, rfl⟩ := hb d p1
  cases x1
  exact ⟨b, rfl, q b G1 H1 a1 o1 trivial⟩
theorem q_stSet {j : Nat} {Φ : Sy.D → Prop} (A : At K (some sa) mu G0 H0 gs ds ms σ G H) (h : EvR K (some sa) te ds ms Φ) (ha : EvC K (some sa) to ds ms (.ref sa)) (hj : j < 3) (hΦ : ∀ d, Φ d → (j = 0 → ∃ n : Int, d = .int n ∧ 0 ≤ n) ∧ (j = 1 → ∃ n : Int, d = .int n ∧ 0 ≤ n ∧ n < 2147483647) ∧ (j = 2 → ∃ b, d = .bool b)) (k : ∀ G' H', At K (some sa) mu G0 H0 gs ds ms σ G' H' → tz D σ H') :
    tSeq (tAsg te (gSub to (tC (.int ((j : Nat) : Int))) rSetL)) tz D σ H :=
  h σ G H A.kn _ fun v G1 H1 d a1 o1 x1 p1 => ha σ G1 H1 (A.step a1 o1).kn _ fun w G2 H2 a2 o2 x2 => by
    have A2 := (A.step a1 o1).step a2 o2
    cases x2.ref
    obtain ⟨n, m, b, e, h1, h2, h3⟩ := A2.kn.vo sa rfl
    refine ⟨sa, _, ((j : Nat) : Int), j, rfl, rfl, e, ixN_nat (by exact hj), k G2 _ (stw_at A2 ?_)⟩
    obtain ⟨q0, q1, q2⟩ := hΦ d p1
    rcases j with _ | _ | _ | j
    · obtain ⟨i, rfl, hi⟩ := q0 rfl
      cases x1
      exact ⟨i, m, b, upd_same, hi, h2, h3⟩
    · obtain ⟨i, rfl, hi⟩ := q1 rfl
      cases x1
      exact ⟨n, i, b, upd_same, h1, hi⟩
    · obtain ⟨i, rfl⟩ := q2 rfl
      cases x1
      exact ⟨n, m, i, upd_same, h1, h2, h3⟩
    · omega
/-! ints told by properties -/
theorem evr_opI {C : Int → Int → Prop} {g : Int → Int → Int} {Φ Ψ : Int → Prop} (ha : EvR K s ta ds ms (fun d => ∃ i, d = .int i ∧ Φ i)) (hb : EvR K s tb ds ms (fun d => ∃ i, d = .int i ∧ Ψ i)) (hc : ∀ i j, Φ i → Ψ j → C i j) : EvR K s (tOp (rI C fun i j => .int (g i j)) ta tb) ds ms (fun d => ∃ r, d = .int r ∧ ∃ i j, Φ i ∧ Ψ j ∧ r = g i j) :=
  ev_opR ha hb fun x y ⟨i, e1, p1⟩ ⟨j, e2, p2⟩ => by
    subst e1
    subst e2
    exact ⟨.int (g i j), ⟨_, rfl, i, j, p1, p2, rfl⟩, od_I (hc i j p1 p2) fun _ => .int _⟩
theorem evr_opI0 {g : Int → Int → Int} {Φ Ψ : Int → Prop} (ha : EvR K s ta ds ms (fun d => ∃ i, d = .int i ∧ Φ i)) (hb : EvR K s tb ds ms (fun d => ∃ i, d = .int i ∧ Ψ i)) : EvR K s (tOp (rI0 fun i j => .int (g i j)) ta tb) ds ms (fun d => ∃ r, d = .int r ∧ ∃ i j, Φ i ∧ Ψ j ∧ r = g i j) :=
  ev_opR ha hb fun x y ⟨i, e1, p1⟩ ⟨j, e2, p2⟩ => by
    subst e1
    subst e2
    exact ⟨.int (g i j), ⟨_, rfl, i, j, p1, p2, rfl⟩, od_I0 fun _ => .int _⟩
theorem evr_opB0 {g : Int → Int → Bool} {Φ Ψ : Int → Prop} (ha : EvR K s ta ds ms (fun d => ∃ i, d = .int i ∧ Φ i)) (hb : EvR K s tb ds ms (fun d => ∃ i, d = .int i ∧ Ψ i)) : EvR K s (tOp (rI0 fun i j => .bl (g i j)) ta tb) ds ms (fun d => ∃ b, d = .bool b) :=
  ev_opR ha hb fun x y ⟨i, e1, p1⟩ ⟨j, e2, p2⟩ => by
    subst e1
    subst e2
    exact ⟨.bool (g i j), ⟨_, rfl⟩, od_I0 fun _ => .bl _⟩
theorem EvC.rI {i : Int} (h : EvD K s te ds ms (.int i)) : EvR K s te ds ms (fun d => ∃ j, d = .int j ∧ j = i) := h.r.imp fun d e => ⟨i, e, rfl⟩
def rPowI : R2 := rI CPowW fun i j => .int (i ^ j.toNat)
theorem ev_powW {i j : Int} (ha : EvD K s ta ds ms (.int i)) (hb : EvD K s tb ds ms (.int j)) (hc : CPowW i j) : EvD K s (tOp (rI CPowW fun i j => .int (i ^ j.toNat)) ta tb) ds ms (.int (i ^ j.toNat)) := ev_op ha hb (od_I hc fun _ => .int _)
theorem pow10_ok {n : Nat} (h : n ≤ 1000) : CPowW 10 ((n : Nat) : Int) := ⟨Int.natCast_nonneg n, by
  have : (Builtin.Int.intBits 10 : Int) = 4 := by decide +kernel
  rw [this]
  have : ((n : Nat) : Int) ≤ 1000 := by omega
  have e : (2 : Int) ^ 27 = 134217728 := by decide
  omega⟩
/-! ### _law_low, .. -/
abbrev s__law_low : Stmt := topS 82
theorem sc__law_low : FnScope ["_law_top", "_law_bottom", "_law_one", "_law_other"] ["_law_top", "_law_bottom"] (defScope s__law_low) := ⟨rfl, rfl, rfl, by decide +kernel, rfl, by decide +kernel, by decide +kernel⟩

theorem ok__law_low {f : Addr} {fd : FuncData} (F : Fun K "_law_low" "_law_low" s__law_low f fd) (B : Bl mg) : FnOk P w K mg base CX0 1 f fd ["_law_top", "_law_bottom"] (spLowest K) := by
  refine F.ok sc__law_low (fun vs H Q E h => ?_) (fun cdv A outer s H vs Q E hr h => ?_)
  · obtain ⟨a, G, hg, hI, hp, q⟩ := h
    exact hI.length
  · obtain ⟨⟨a, b'⟩, G, hg, hI, ⟨hb0, hbL⟩, q⟩ := h
    have hb0 : 0 < b' := hb0
    have hbL : b'.natAbs < LN2 := hbL
    obtain ⟨b, rfl⟩ : ∃ b : Nat, b' = b := ⟨b'.toNat, by omega⟩
    rw [Int.natAbs_natCast] at hbL
    have hb0 : 0 < b := by omega
    have A0 := at_start (K := K) (N := ["_law_top", "_law_bottom", "_law_one", "_law_other"]) (ds := [.dat (.int a), .dat (.int (b : Nat)), .no, .no]) hg hI
    refine ⟨_, (pss_cons (ps_set (i := 2) sc__law_low.nd rfl (Or.inl rfl) (pe_callB w_abs (by rfl) B.abs_ (by decide +kernel) (pa_cons (pv 0) pa_nil)))
      (pss_cons (ps_set (i := 3) sc__law_low.nd rfl (Or.inl rfl) (pv 1))
      (pss_cons (ps_while PassesOwn.never (pt_cmpR op_ne (pv 3) pe_int (nomark _)) (pss_one (ps_par (i := 2) (j := 3) (by rfl) sc__law_low.nd rfl rfl (by decide) rfl rfl (pa_cons (pv 3) (pa_cons (pe_op o_mod (pv 2) (pv 3)) pa_nil)) (by rfl))))
      (pss_one (ps_ret (pe_tup (pa_cons (pe_op o_fdivW (pv 0) (pv 2)) (pa_cons (pe_op o_fdivW (pv 1) (pv 2)) pa_nil)))))))), ?_⟩
    have hgp : 0 < Int.gcd a b := Nat.pos_of_ne_zero fun z => by
      have := (Int.gcd_eq_zero_iff.mp z).2
      omega
    have hgl : Int.gcd a b ≤ b := by
      have := Int.gcd_dvd_right (a := a) (b := (b : Int))
      exact Nat.le_of_dvd hb0 (Int.natCast_dvd_natCast.mp this)
    have ab : ∀ x : Int, (if x < 0 then -x else x) = ((x.natAbs : Nat) : Int) := fun x => by split <;> omega
    refine q_set A0 (ev_abs (ev_var rfl)) fun σ1 G1 H1 A1 => ?_
    refine q_set A1 (ev_var (i := 1) (c := .dat (.int ((b : Nat) : Int))) rfl) fun σ2 G2 H2 A2 => ?_
    refine q_while A2 (fun m ds ms => ∃ x y : Nat, ds = [.dat (.int a), .dat (.int (b : Nat)), .dat (.int x), .dat (.int y)] ∧ ms = [] ∧ Nat.gcd x y = Int.gcd a b ∧ m = y) b ⟨a.natAbs, b, by
      show [_, _, SC.dat (.int (if a < 0 then -a else a)), _] = _
      rw [ab], rfl, rfl, rfl⟩ fun m ds ms σ3 G3 H3 j A3 => ?_
    obtain ⟨x, y, rfl, rfl, e, hm⟩ := j
    subst m
    refine ⟨_, et_test (ev_neI (ev_var rfl) ev_int), fun hb G4 H4 L A4 hL => ?_, fun hb G4 H4 A4 => ?_⟩
    · have hy : ((y : Nat) : Int) ≠ 0 := of_decide_eq_true hb
      refine s_par A4 (el_cons (ev_var rfl) (el_cons (ev_mod (ev_var rfl) (ev_var rfl) (by omega)) el_nil)) fun σ5 G5 H5 A5 => ?_
      refine hL (x % y) _ [] _ _ _ (Nat.mod_lt _ (by omega)) ⟨y, x % y, rfl, rfl, ?_, rfl⟩ A5
      rw [← e, Nat.gcd_comm y, ← Nat.gcd_rec, Nat.gcd_comm]
    · have hy : ((y : Nat) : Int) = 0 := Classical.byContradiction fun z => absurd hb (by rw [decide_eq_true z]; exact fun q => nomatch q)
      have hy : y = 0 := by omega
      subst hy
      rw [Nat.gcd_zero_right] at e
      subst e
      refine s_retD A4 (d := frD (mkRat a b)) ?_ fun v G' H' st iv => q v G' H' _ st iv rfl
      unfold frD
      rw [low_num a b hb0, low_den a b hb0]
      exact ev_tup (el_cons (ev_fdivW (ev_var rfl) (ev_var rfl) (divW2 (by omega) (by rw [Int.natAbs_natCast]; omega))) (el_cons (ev_fdivW (ev_var rfl) (ev_var rfl) (divW2 (by omega) (by rw [Int.natAbs_natCast]; omega))) el_nil))
abbrev s__law_plus : Stmt := topS 83
theorem sc__law_plus : FnScope ["_law_one", "_law_other"] ["_law_one", "_law_other"] (defScope s__law_plus) := ⟨rfl, rfl, rfl, by decide +kernel, rfl, by decide +kernel, by decide +kernel⟩

theorem ok__law_plus {f : Addr} {fd : FuncData} (F : Fun K "_law_plus" "_law_plus" s__law_plus f fd) (c__law_low : Cal P w K mg base "_law_low" 1 ["_law_top", "_law_bottom"] (spLowest K)) : FnOk P w K mg base CX0 3 f fd ["_law_one", "_law_other"] (spPlus K) := by
  refine F.ok sc__law_plus (fun vs H Q E h => ?_) (fun cdv A outer s H vs Q E hr h => ?_)
  · obtain ⟨a, G, hg, hI, hp, q⟩ := h
    exact hI.length
  · obtain ⟨⟨a, b⟩, G, hg, hI, ⟨ha, hb⟩, q⟩ := h
    have ha : Sz a := ha
    have hb : Sz b := hb
    have A0 := at_start (K := K) (N := ["_law_one", "_law_other"]) (ds := [.dat (frD a), .dat (frD b)]) hg hI
    refine ⟨_, (pss_one (ps_ret (p_call c__law_low (hr.mono (by first | exact Nat.le_refl _ | omega)) (pa_cons (pe_op o_add (pe_op o_mulW (pe_ix (w_ixT (K := K)) (pv 0) pe_int (fun _ _ => rfl)) (pe_ix (w_ixT (K := K)) (pv 1) pe_int (fun _ _ => rfl))) (pe_op o_mulW (pe_ix (w_ixT (K := K)) (pv 1) pe_int (fun _ _ => rfl)) (pe_ix (w_ixT (K := K)) (pv 0) pe_int (fun _ _ => rfl)))) (pa_cons (pe_op o_mulW (pe_ix (w_ixT (K := K)) (pv 0) pe_int (fun _ _ => rfl)) (pe_ix (w_ixT (K := K)) (pv 1) pe_int (fun _ _ => rfl))) pa_nil))))), ?_⟩
    have h1 := mulW ha.n hb.d
    have h2 := mulW hb.n ha.d
    have h3 := mulW ha.d hb.d
    refine s_retD A0 (ev_lowest (by walk_at "ev") (Int.mul_pos (den0 a) (den0 b)) (by rw [Int.natAbs_mul, Int.natAbs_natCast, Int.natAbs_natCast]; exact mulLN ha.2 hb.2)) fun v G' H' st iv => q v G' H' _ st iv ?_
    show frD _ = frD (a + b)
    rw [Rat.add_def', ← Int.natCast_mul, Int.toNat_natCast]
abbrev s__law_under : Stmt := topS 84
theorem sc__law_under : FnScope ["_law_one", "_law_other"] ["_law_one", "_law_other"] (defScope s__law_under) := ⟨rfl, rfl, rfl, by decide +kernel, rfl, by decide +kernel, by decide +kernel⟩

theorem ok__law_under {f : Addr} {fd : FuncData} (F : Fun K "_law_under" "_law_under" s__law_under f fd) : FnOk P w K mg base CX0 1 f fd ["_law_one", "_law_other"] (spLess K) := by
  refine F.ok sc__law_under (fun vs H Q E h => ?_) (fun cdv A outer s H vs Q E hr h => ?_)
  · obtain ⟨a, G, hg, hI, hp, q⟩ := h
    exact hI.length
  · obtain ⟨⟨a, b⟩, G, hg, hI, ⟨ha, hb⟩, q⟩ := h
    have ha : Sz a := ha
    have hb : Sz b := hb
    have A0 := at_start (K := K) (N := ["_law_one", "_law_other"]) (ds := [.dat (frD a), .dat (frD b)]) hg hI
    refine ⟨_, (pss_one (ps_ret (pe_cmpR o_lt (pe_op o_mulW (pe_ix (w_ixT (K := K)) (pv 0) pe_int (fun _ _ => rfl)) (pe_ix (w_ixT (K := K)) (pv 1) pe_int (fun _ _ => rfl))) (pe_op o_mulW (pe_ix (w_ixT (K := K)) (pv 1) pe_int (fun _ _ => rfl)) (pe_ix (w_ixT (K := K)) (pv 0) pe_int (fun _ _ => rfl))) (nomark _)))), ?_⟩
    have h1 := mulW ha.n hb.d
    have h2 := mulW hb.n ha.d
    refine s_retD A0 (by walk_at "ev") fun v G' H' st iv => q v G' H' _ st iv ?_
    show PyData.bool _ = _
    rw [less_dec]
abbrev s__law_times : Stmt := topS 93
theorem sc__law_times : FnScope ["_law_one", "_law_other"] ["_law_one", "_law_other"] (defScope s__law_times) := ⟨rfl, rfl, rfl, by decide +kernel, rfl, by decide +kernel, by decide +kernel⟩

def spTimes (K : Fg) : Sp := SpD K (fun p : Rat × Rat => [frD p.1, frD p.2]) (fun p => Sz p.1 ∧ Sz p.2) (fun p d => d = frD (p.1 * p.2))
theorem ok__law_times {f : Addr} {fd : FuncData} (F : Fun K "_law_times" "_law_times" s__law_times f fd) (c__law_low : Cal P w K mg base "_law_low" 1 ["_law_top", "_law_bottom"] (spLowest K)) : FnOk P w K mg base CX0 2 f fd ["_law_one", "_law_other"] (spTimes K) := by
  refine F.ok sc__law_times (fun vs H Q E h => ?_) (fun cdv A outer s H vs Q E hr h => ?_)
  · obtain ⟨a, G, hg, hI, hp, q⟩ := h
    exact hI.length
  · obtain ⟨⟨a, b⟩, G, hg, hI, ⟨ha, hb⟩, q⟩ := h
    have ha : Sz a := ha
    have hb : Sz b := hb
    have A0 := at_start (K := K) (N := ["_law_one", "_law_other"]) (ds := [.dat (frD a), .dat (frD b)]) hg hI
    refine ⟨_, (pss_one (ps_ret (p_call c__law_low (hr.mono (by first | exact Nat.le_refl _ | omega)) (pa_cons (pe_op o_mulW (pe_ix (w_ixT (K := K)) (pv 0) pe_int (fun _ _ => rfl)) (pe_ix (w_ixT (K := K)) (pv 1) pe_int (fun _ _ => rfl))) (pa_cons (pe_op o_mulW (pe_ix (w_ixT (K := K)) (pv 0) pe_int (fun _ _ => rfl)) (pe_ix (w_ixT (K := K)) (pv 1) pe_int (fun _ _ => rfl))) pa_nil))))), ?_⟩
    have h1 := mulW ha.n hb.n
    have h3 := mulW ha.d hb.d
    refine s_retD A0 (ev_lowest (by walk_at "ev") (Int.mul_pos (den0 a) (den0 b)) (by rw [Int.natAbs_mul, Int.natAbs_natCast, Int.natAbs_natCast]; exact mulLN ha.2 hb.2)) fun v G' H' st iv => q v G' H' _ st iv ?_
    show frD _ = frD (a * b)
    rw [← Int.natCast_mul, Int.toNat_natCast, Rat.mul_def, Rat.normalize_eq_mkRat]
theorem ev_times {a b : Rat} (h : EvL K s t ds ms [frD a, frD b]) (h0 : Sz a) (h1 : Sz b) : EvD K s (tCall (spTimes K) [] E t) ds ms (frD (a * b)) := evd_call (a := (a, b)) h ⟨h0, h1⟩ fun x e => e
abbrev s__law_take : Stmt := topS 81
theorem sc__law_take : FnScope ["_law_state", "_law_many", "_law_digit", "_law_made", "_law_turn"] ["_law_state", "_law_many"] (defScope s__law_take) := ⟨rfl, rfl, rfl, by decide +kernel, rfl, by decide +kernel, by decide +kernel⟩

def spTake (K : Fg) : Sp := SpS K (fun n : Int => [.int n]) (fun n => 1 ≤ n ∧ n.natAbs < LN) (fun n d => ∃ i : Nat, d = .int ((i : Nat) : Int) ∧ ((i : Nat) : Int) < n)
theorem toN {i n : Int} (h0 : 0 ≤ i) (h : i < n) : ∃ j : Nat, PyData.int i = .int ((j : Nat) : Int) ∧ ((j : Nat) : Int) < n := ⟨i.toNat, by rw [Int.toNat_of_nonneg h0], by omega⟩
theorem ok__law_take {f : Addr} {fd : FuncData} (F : Fun K "_law_take" "_law_take" s__law_take f fd) (B : Bl mg) : FnOk P w K mg base CX0 1 f fd ["_law_state", "_law_many"] (spTake K) := by
  refine F.ok sc__law_take (fun vs H Q E h => ?_) (fun cdv A outer s H vs Q E hr h => ?_)
  · obtain ⟨a, G, sa, vr, rfl, hg, gs, hs, hI, hp, q⟩ := h
    rw [List.length_cons, hI.length]
    rfl
  · obtain ⟨n, G, sa, vr, rfl, hg, gs, hs, hI, ⟨hn, hnL⟩, q⟩ := h
    have hn : 1 ≤ n := hn
    have hnL : n.natAbs < LN := hnL
    have A0 := at_startS (K := K) (N := ["_law_state", "_law_many", "_law_digit", "_law_made", "_law_turn"]) (ds := [.ref sa, .dat (.int n), .no, .no, .no]) hg gs hs hI
    refine ⟨_, (pss_cons (ps_if (pt_val (pe_ix (w_ixL (K := K)) (pv 0) pe_int (fun _ _ => rfl))) (pss_cons (ps_set (i := 2) sc__law_take.nd rfl (Or.inl rfl) (pe_op o_mod (pe_ix (w_ixL (K := K)) (pv 0) pe_int (fun _ _ => rfl)) (pv 1)))
      (pss_cons (ps_asg (pe_op o_fdivW (pe_ix (w_ixL (K := K)) (pv 0) pe_int (fun _ _ => rfl)) (pv 1)) (pg_sub (pv 0) pe_int set_list))
      (pss_cons (ps_asg (pe_cmpR o_gt (pe_ix (w_ixL (K := K)) (pv 0) pe_int (fun _ _ => rfl)) pe_int (nomark _)) (pg_sub (pv 0) pe_int set_list))
      (pss_one (ps_ret (pv 2)))))) pss_nil)
      (pss_cons (ps_set (i := 3) sc__law_take.nd rfl (Or.inl rfl) pe_int)
      (pss_cons (ps_for PassesOwn.never rfl (pi_range1 (by rfl) B.range_ (pa_cons (pe_op o_add pe_int (pe_op o_mul pe_int (pe_callTy w_intB (by rfl) B.int_ (by decide +kernel) (pa_cons (pe_cmpR o_gt (pv 1) (pe_op op_powW pe_int pe_int) (nomark _)) pa_nil)))) pa_nil)) (pg_name (i := 4) sc__law_take.nd rfl (Or.inl rfl)) (pss_cons (ps_asg (pe_op o_mod (pe_op o_add (pe_op o_mul (pe_ix (w_ixL (K := K)) (pv 0) pe_int (fun _ _ => rfl)) pe_int) pe_int) pe_int) (pg_sub (pv 0) pe_int set_list))
      (pss_one (ps_set (i := 3) sc__law_take.nd rfl (Or.inl rfl) (pe_op o_add (pe_op o_mul (pv 3) pe_int) (pe_op o_mod (pe_op o_mulW (pe_ix (w_ixL (K := K)) (pv 0) pe_int (fun _ _ => rfl)) (pe_ix (w_ixL (K := K)) (pv 0) pe_int (fun _ _ => rfl))) pe_int))))))
      (pss_one (ps_ret (pe_op o_mod (pe_op o_fdivW (pv 3) pe_int) (pv 1))))))), ?_⟩
    refine q_ifR A0 (etr_B (evr_st2 (ev_var rfl)) fun d h => h) (fun _ G1 H1 A1 => ?_) fun _ G1 H1 A1 => ?_
    · refine q_setR A1 (evr_opI (C := fun _ j => 0 < j) (g := fun i j => i % j) (Φ := fun i => 0 ≤ i) (Ψ := fun j => j = n) (evr_st0 (ev_var rfl)) (EvC.rI (ev_var rfl)) fun i j _ h => by omega) fun d σ2 G2 H2 hd A2 => ?_
      obtain ⟨r, rfl, i, j, hi, rfl, rfl⟩ := hd
      have h0 := Int.emod_nonneg i (b := j) (by omega)
      have h1 := Int.emod_lt_of_pos i (b := j) (by omega)
      refine q_stSet (j := 0) A2 (evr_opI (C := CDivW) (g := fun i j => i / j) (Φ := fun i => 0 ≤ i) (Ψ := fun k => k = j) (evr_st0 (ev_var rfl)) (EvC.rI (ev_var rfl)) fun i k _ h => by rw [h]; exact divW (by omega) hnL) (ev_var rfl) (by omega) (fun d hd => ?_) fun G3 H3 A3 => ?_
      · obtain ⟨r, rfl, i', k, hi', rfl, rfl⟩ := hd
        exact ⟨fun _ => ⟨_, rfl, Int.ediv_nonneg hi' (by omega)⟩, fun z => by omega, fun z => by omega⟩
      · refine q_stSet (j := 2) A3 (evr_opB0 (g := fun i j => decide (j < i)) (Φ := fun i => 0 ≤ i) (Ψ := fun k => k = 0) (evr_st0 (ev_var rfl)) (EvC.rI ev_int)) (ev_var rfl) (by omega) (fun d hd => ⟨fun z => by omega, fun z => by omega, fun _ => hd⟩) fun G4 H4 A4 => ?_
        obtain ⟨m, em, hm⟩ := toN h0 h1
        exact s_ret A4 (c := .dat (.int (i % j))) (ev_var rfl) fun v G' H' st so cp => q v G' H' _ st (so sa rfl) cp.is ⟨m, em, hm⟩
    · refine q_set A1 (ev_int (i := 0)) fun σ2 G2 H2 A2 => ?_
      refine q_for A2 (it_rng1 (j := 1 + 8 * (if decide ((10 : Int) ^ ((6 : Int)).toNat < n) then 1 else 0)) (el_cons (ev_add ev_int (ev_mul ev_int (ev_intB (ev_gt (ev_var rfl) (ev_powW ev_int ev_int (pow10_ok (n := 6) (by omega))))) (.inl ⟨by decide, by decide⟩))) el_nil) (by split <;> omega) (by split <;> omega)) (fun i e he => tg_name)
        (fun i ds ms => ∃ (x : Int) (c : SC), ds = [.ref sa, .dat (.int n), .no, .dat (.int x), c] ∧ ms = [] ∧ 0 ≤ x) ⟨0, .no, rfl, rfl, Int.le_refl _⟩ (fun _ _ _ _ _ => trivial) (fun gs i e ds ms σ3 G3 H3 L he j A3 hL => ?_) fun ds ms σ3 G3 H3 j A3 => ?_
      · obtain ⟨x, c, rfl, rfl, hx⟩ := j
        obtain ⟨_, rfl⟩ := rngD_get he
        refine q_stSet (j := 1) A3 (evr_opI (C := fun _ j => 0 < j) (g := fun i j => i % j) (Φ := fun _ => True) (Ψ := fun j => j = 2147483647) ((evr_opI0 (g := fun i j => i + j) (Φ := fun _ => True) (Ψ := fun _ => True) ((evr_opI (C := CMul) (g := fun i j => i * j) (Φ := fun _ => True) (Ψ := fun j => j = 39373) ((evr_st1 (ev_var rfl)).imp fun d ⟨n, e, _⟩ => ⟨n, e, trivial⟩) (EvC.rI ev_int) fun i j _ h => by rw [h]; exact .inr ⟨by decide, by decide⟩).imp fun d ⟨r, e, _⟩ => ⟨r, e, trivial⟩) ((EvC.rI (i := 17) ev_int).imp fun d ⟨r, e, _⟩ => ⟨r, e, trivial⟩)).imp fun d ⟨r, e, _⟩ => ⟨r, e, trivial⟩) (EvC.rI ev_int) fun i j _ h => by omega) (ev_var rfl) (by omega) (fun d hd => ?_) fun G4 H4 A4 => ?_
        · obtain ⟨r, rfl, i', k, _, rfl, rfl⟩ := hd
          exact ⟨fun z => by omega, fun _ => ⟨_, rfl, Int.emod_nonneg _ (by omega), Int.emod_lt_of_pos _ (by omega)⟩, fun z => by omega⟩
        · refine s_setR A4 (evr_opI0 (g := fun i j => i + j) (Φ := fun i => 0 ≤ i) (Ψ := fun i => 0 ≤ i) ((EvC.rI (ev_mul (i := x) (j := 2147483587) (ev_var rfl) ev_int (.inr ⟨by decide, by decide⟩))).imp fun d ⟨r, e, h⟩ => ⟨r, e, by omega⟩) ((evr_opI (C := fun _ j => 0 < j) (g := fun i j => i % j) (Φ := fun _ => True) (Ψ := fun j => j = 2147483587) ((evr_opI (C := CMulW) (g := fun i j => i * j) (Φ := fun i => 0 ≤ i ∧ i < 2147483647) (Ψ := fun i => 0 ≤ i ∧ i < 2147483647) (evr_st1 (ev_var rfl)) (evr_st1 (ev_var rfl)) fun i j h1 h2 => wide_mul (a := 40) (b := 40) (by omega) (by omega) (by decide) (by decide) (by decide)).imp fun d ⟨r, e, _⟩ => ⟨r, e, trivial⟩) (EvC.rI ev_int) fun i j _ h => by omega).imp fun d ⟨r, e, i', k, _, hk, hr⟩ => ⟨r, e, by rw [hr]; exact Int.emod_nonneg _ (by omega)⟩)) fun d σ5 G5 H5 hd A5 => ?_
          obtain ⟨r, rfl, i', k, h1, h2, rfl⟩ := hd
          exact hL _ _ _ _ _ ⟨i' + k, _, rfl, rfl, by omega⟩ A5
      · obtain ⟨x, c, rfl, rfl, hx⟩ := j
        have h0 : 0 ≤ (x / 64) % n := Int.emod_nonneg _ (by omega)
        have h1 : (x / 64) % n < n := Int.emod_lt_of_pos _ (by omega)
        obtain ⟨m, em, hm⟩ := toN h0 h1
        exact s_ret A3 (c := .dat (.int ((x / 64) % n))) (ev_mod (ev_fdivW (ev_var rfl) ev_int (divW (by omega) (by decide +kernel))) (ev_var rfl) (by omega)) fun v G' H' st so cp => q v G' H' _ st (so sa rfl) cp.is ⟨m, em, hm⟩
theorem evr_take {n : Int} (h0 : EvC K (some sa) ta ds ms (.ref sa)) (h : EvL K (some sa) t ds ms [.int n]) (h1 : 1 ≤ n) (h2 : n.natAbs < LN) : EvR K (some sa) (tCall (spTake K) [] E (tCons ta t)) ds ms (fun d => ∃ i : Nat, d = .int ((i : Nat) : Int) ∧ ((i : Nat) : Int) < n) := evr_callS (post := fun (n : Int) d => ∃ i : Nat, d = .int ((i : Nat) : Int) ∧ ((i : Nat) : Int) < n) h0 h ⟨h1, h2⟩
end
end Fc
/-! Sy: comprehensions over what is told by a property alone. -/
namespace Sy
open PySem PySem.Spec PyProof.Rows L2
section
variable {K : Fg} {s : Option Addr} {mu : Addr → Prop} {G0 H0 G H G' H' : Hp} {gs : List Hp} {ds : List SC} {ms : List (Addr × MO)} {σ : L2.St} {D : Ends} {te ta tb tl to : TE} {tt : TT} {tr : TA} {t u tz tu tw : TS} {c : SC} {d : Sy.D} {g : TG} {E : XK}
def ItR (K : Fg) (s : Option Addr) (wi : TI) (ds : List SC) (ms : List (Addr × MO)) (ES : List Sy.D → Prop) (C : List (Addr × MO) → Prop) : Prop :=
  ∀ σ G H, Kn K s ds ms σ G H → ∀ R : It → Hp → Prop, (∀ J G1 H1 es, ES es → Stp (isS s) G H G1 H1 → StOk s H1 → (∀ (i : Nat) ds' ms' σ' G' H', Kn K s ds' ms' σ' G' H' → Same G1 G' → C ms' → (es.length ≤ i → J.stop i H') ∧ (i < es.length → J.go i H' ∧ ∀ x H'', J.yld i H' x H'' → H'' = H' ∧ ∃ e, es[i]? = some e ∧ Is K G' x e)) → R J H1) → wi σ H R
theorem itr_nats {N : Nat → Prop} (h : EvR K s te ds ms (fun d => ∃ n : Nat, d = .int ((n : Nat) : Int) ∧ N n)) (hN : ∀ n, N n → n ≤ 100000) : ItR K s (iRng1 (tCons te tNil)) ds ms (fun es => ∃ n, N n ∧ es = Fc.natsD (List.range n)) (fun _ => True) := fun σ G H k R q =>
  h σ G H k _ fun v G1 H1 d a1 o1 x1 p1 => by
    obtain ⟨n, rfl, hn⟩ := p1
    cases x1
    have hb := hN n hn
    refine ⟨((n : Nat) : Int), rfl, Int.le_trans (by decide) (Int.natCast_nonneg n), by omega, q _ G1 H1 _ ⟨n, hn, rfl⟩ a1 o1 fun i ds' ms' σ' G' H' k' e _ => ?_⟩
    rw [Fc.natsD_len, List.length_range]
    refine ⟨fun hi => by show ((n : Nat) : Int).toNat ≤ i; omega, fun hi => ⟨by show i < ((n : Nat) : Int).toNat; omega, fun y H'' hy => ⟨hy.1, .int ((i : Nat) : Int), Fc.natsD_at (List.getElem?_range hi), ?_⟩⟩⟩
    rw [hy.2, Int.zero_add]
    exact .int _
theorem en_lcR {wi : TI} {vs : List Nat} {ES : List Sy.D → Prop} {C : List (Addr × MO) → Prop} {f : Sy.D → List SC → List SC} {p : Sy.D → Bool} {Φ : Sy.D → Sy.D → Prop} (hw : ItR K s wi ds ms ES C) (hC : C ms) (hg : ∀ es, ES es → ∀ (i : Nat) (e : Sy.D), es[i]? = some e → TgW K g e (f e) vs)
    (ht : ∀ es, ES es → ∀ (i : Nat) (e : Sy.D), es[i]? = some e → EvT K s tt (f e (wipeD ds vs)) ms (p e)) (he : ∀ es, ES es → ∀ (i : Nat) (e : Sy.D), es[i]? = some e → p e = true → EvR K s te (f e (wipeD ds vs)) ms (Φ e)) (hz : ∀ es, ES es → es.length ≤ 1000) :
    EvN K s (tLc wi g tt te vs) ds ms (fun dl => ∃ es, ES es ∧ Paired Φ (es.filter p) dl) := fun σ G H k Q q =>
  hw σ G H k _ fun J G1 H1 es hes a1 o1 turn Dl hD => by
    have hg := hg es hes
    have ht := ht es hes
    have he := he es hes
    have hz := hz es hes
    have k1 := k.step a1 o1
    have g1 : G1 Dl = none := Same.free a1.gh hD
    have hD0 : H Dl = none := by
      cases e : H Dl with
      | none => rfl
      | some z => exact absurd hD (a1.st Dl (by rw [e]; exact fun q => nomatch q))
    have nes : ¬ isS s Dl := fun e' => by
      obtain ⟨n, m, b, e1, _⟩ := k1.vo Dl e'
      rw [hD] at e1
      cases e1
    -- putting at Dl
    have put : ∀ {G' H' : Hp} (o : HO), Stp (isS s) G1 H1 G' H' → StOk s H' → G' Dl = none → Stp (isS s) G1 H1 G' (upd H' Dl o) ∧ StOk s (upd H' Dl o) := fun {G' H'} o a so gd => by
      refine ⟨⟨a.gg, fun b u h => ?_, fun b u n h => ?_, a.nw, fun b n => ?_⟩, fun b e => ?_⟩
      · rw [upd_ne (ne_of_none h gd)]
        exact a.gh b u h
      · rw [upd_ne (ne_of_none h hD)]
        exact a.hh b u n h
      · have ne : b ≠ Dl := fun z => by
          subst z
          exact n hD
        rw [upd_ne ne]
        exact a.st b n
      · obtain ⟨n, m, t, e1, r⟩ := so b e
        refine ⟨n, m, t, ?_, r⟩
        rw [upd_ne (fun z => nes (by rw [← z]; exact e))]
        exact e1
    obtain ⟨b1, b2⟩ := put (.lst []) (.refl k1.gh) o1 g1
    refine ⟨fun i m H' => m = es.length - i ∧ i ≤ es.length ∧ ∃ G' xs dl, Stp (isS s) G1 H1 G' H' ∧ StOk s H' ∧ G' Dl = none ∧ H' Dl = some (.lst xs) ∧ IsA K G' xs dl ∧ Paired Φ ((es.take i).filter p) dl,
      ⟨es.length, by simp, Nat.zero_le _, G1, [], [], b1, b2, g1, upd_same, .nil, .nil⟩, ?_⟩
    rintro i m H' ⟨rfl, hi, G', xs, dl, sp, so, gd, hd, hx, pd⟩
    have k' := k1.step sp so
    obtain ⟨t1, t2⟩ := turn i ds ms σ G' H' k' sp.gg hC
    by_cases hlt : i < es.length
    · obtain ⟨go, y⟩ := t2 hlt
      refine .inr ⟨go, fun H2 => ∃ G2 xs dl, Stp (isS s) G1 H1 G2 H2 ∧ StOk s H2 ∧ G2 Dl = none ∧ H2 Dl = some (.lst xs) ∧ IsA K G2 xs dl ∧ Paired Φ ((es.take (i + 1)).filter p) dl, ?_, fun x H'' hy => ?_⟩
      · intro H2 r
        exact ⟨es.length - (i + 1), by omega, rfl, hlt, r⟩
      · obtain ⟨rfl, e, hee, hxe⟩ := y x H'' hy
        refine hg i e hee (wipeD ds vs) (wipe σ vs) G' H'' x _ (k'.sl.wipe vs) k'.gh hxe fun σ2 hs2 hw2 => ?_
        refine ⟨hw2.trans (wipe_idem σ vs), ?_⟩
        have kb : Kn K s (f e (wipeD ds vs)) ms σ2 G' H'' := ⟨k'.gh, hs2, k'.mo, k'.nd, k'.vo, k'.vg⟩
        refine ht i e hee σ2 G' H'' kb _ fun G3 H3 a3 o3 => ?_
        have hDn : H'' Dl ≠ none := by
          rw [hd]
          exact fun q => nomatch q
        have g3 : G3 Dl = none := a3.nw Dl gd hDn
        have h3 : H3 Dl = some (.lst xs) := a3.hh Dl _ nes hd
        have ft := filter_take p hee
        cases hp : p e with
        | true =>
          refine iteT ?_
          refine he i e hee hp σ2 G3 H3 (kb.step a3 o3) _ fun v G4 H4 d a4 o4 x4 p4 => ?_
          have g4 : G4 Dl = none := a4.nw Dl g3 (by rw [h3]; exact fun q => nomatch q)
          have h4 : H4 Dl = some (.lst xs) := a4.hh Dl _ nes h3
          have hxl := hx.length
          have hpl := Paired.length pd
          have hfl := List.length_filter_le p (es.take i)
          rw [List.length_take] at hfl
          have sp4 := (sp.trans a3).trans a4
          obtain ⟨c1, c2⟩ := put (.lst (xs ++ [v])) sp4 o4 g4
          refine ⟨xs, h4, Nat.lt_of_le_of_lt (show xs.length ≤ 1000 by omega) (by decide), G4, xs ++ [v], dl ++ [d], c1, c2, g4, upd_same, ((hx.mono a3.gg).mono a4.gg).snoc x4, ?_⟩
          rw [ft, hp]
          exact psnoc pd p4
        | false =>
          refine iteF ⟨G3, xs, dl, sp.trans a3, o3, g3, h3, hx.mono a3.gg, ?_⟩
          rw [ft, hp]
          show Paired Φ ((es.take i).filter p ++ []) dl
          rw [List.append_nil]
          exact pd
    · have e : i = es.length := by omega
      subst e
      rw [List.take_length] at pd
      exact .inl ⟨t1 (Nat.le_refl _), q Dl G' H' xs dl (a1.trans sp) so hD0 gd hd hx ⟨es, hes, pd⟩⟩
end
end Sy
namespace Fc
open PySem PySem.Spec PyProof.Rows L2 Sy
section
variable {P : Program} {w : World} {K : Fg} {mg : Str → Option Value} {base : Heap} {C : Addr}
variable {s : Option Addr} {mu : Addr → Prop} {G0 H0 G H : Hp} {gs : List Hp} {ds : List SC} {ms : List (Addr × MO)} {σ : L2.St} {D : Ends} {t tr : TA} {ta tb te ti to : TE} {tt : TT} {u tz ts : TS} {E : XK} {sa : Addr}
/-! ### the script -/
def scrD (ns : List Int) : Sy.D := .dict [(.none, .list (ns.map .int))]
theorem pln_ints : ∀ ns : List Int, plnA (ns.map .int) = true
  | [] => by simp [plnA]
  | n :: r => by simp [plnA, pln, pln_ints r]
theorem dep_ints : ∀ ns : List Int, PyData.depthAll (ns.map .int) = 0
  | [] => by simp [PyData.depthAll]
  | n :: r => by simp [PyData.depthAll, PyData.depth, dep_ints r]
theorem lay_ints : ∀ ns : List Int, PyData.canLayAll0 (ns.map .int) = true
  | [] => by simp [PyData.canLayAll0]
  | n :: r => by simp [PyData.canLayAll0, PyData.canLay0, lay_ints r]
theorem shp_ints (ns : List Int) : SeqAt.shaped (.list (ns.map .int)) = true := by
  have h1 := dep_ints ns
  have h2 : PyData.depth (.list (ns.map .int)) ≤ 64 := by
    simp only [PyData.depth]
    omega
  show (PyData.canLay0 (.list (ns.map .int)) && decide (PyData.depth (.list (ns.map .int)) ≤ 64)) = true
  rw [Bool.and_eq_true]
  exact ⟨by simp only [PyData.canLay0]; exact lay_ints ns, decide_eq_true h2⟩
theorem scr_inv {G : Hp} {v : V} {ns : List Int} (h : Is K G v (scrD ns)) : ∃ a, v = .ref a ∧ SqL K G a (ns.map V.int) := by
  generalize e : scrD ns = d at h
  cases h with
  | @scr a ns' h =>
    have e2 : ns.map PyData.int = ns'.map PyData.int := by
      unfold scrD at e
      simpa using e
    have e3 : ns = ns' := (List.map_inj_right (fun a b z => PyData.int.inj z)).mp e2
    subst e3
    exact ⟨a, rfl, h⟩
  | any v => cases e
  | non => cases e
  | bl b => cases e
  | int b => cases e
  | str b => cases e
  | lst h ha => cases e
  | tup h ha => cases e
theorem ev_scrNe {ns : List Int} (ha : EvD K s ta ds ms (scrD ns)) : EvD K s (tOp (rNeD K) ta (tLst tNil)) ds ms (.bool (!ns.isEmpty)) := fun σ G H k Q q =>
  ha σ G H k _ fun v G1 H1 a1 o1 x1 => (ev_lst (dl := []) el_nil) σ G1 H1 (k.step a1 o1) _ fun w G2 H2 a2 o2 x2 => by
    have k2 := (k.step a1 o1).step a2 o2
    obtain ⟨a, rfl, h⟩ := scr_inv x1.is
    · refine ⟨.list (ns.map .int), .list [], .lst (same_l (a2.gg.trans k2.gh) h) ((IsA.ofInts ns).dp (pln_ints ns)), (x2.is.mono k2.gh).dp (by simp [pln, plnA]), shp_ints ns, shp_ints [], q _ G2 H2 (a1.trans a2) o2 ?_⟩
      have e : PyData.eqv (.list (ns.map .int)) (.list []) = ns.isEmpty := by
        cases ns with
        | nil => simp [PyData.eqv, PyData.eqvAll]
        | cons a r => simp [PyData.eqv, PyData.eqvAll]
      rw [e]
      exact .dat (.bl _)
theorem ev_scrLen {ns : List Int} (ha : EvD K s ta ds ms (scrD ns)) : EvD K s (tCB (rLen K) (tCons ta tNil)) ds ms (.int ((ns.length : Nat) : Int)) := fun σ G H k Q q =>
  ha σ G H k _ fun v G1 H1 a1 o1 x1 => by
    obtain ⟨a, rfl, h⟩ := scr_inv x1.is
    · refine ⟨_, _, rfl, .inl (same_l a1.gh h), q _ G1 H1 a1 o1 ?_⟩
      rw [List.length_map]
      exact .dat (.int _)
theorem ev_scrIx {ns : List Int} {i : Nat} {x : Int} (ha : EvD K s ta ds ms (scrD ns)) (hb : EvD K s tb ds ms (.int ((i : Nat) : Int))) (hx : ns[i]? = some x) : EvD K s (tOp (rIxL K) ta tb) ds ms (.int x) := fun σ G H k Q q =>
  ha σ G H k _ fun v G1 H1 a1 o1 x1 => hb σ G1 H1 (k.step a1 o1) _ fun w G2 H2 a2 o2 x2 => by
    have k2 := (k.step a1 o1).step a2 o2
    cases x2.is
    obtain ⟨a, rfl, h⟩ := scr_inv x1.is
    · exact ⟨_, _, _, .int x, rfl, rfl, same_l (a2.gg.trans k2.gh) h, atI_nat (j := i) (by rw [List.getElem?_map, hx] <;> rfl), q _ G2 H2 (a1.trans a2) o2 (.dat (.int x))⟩
/-! ### branches that meet again -/
theorem q_whenJ {b : Bool} (A : At K s mu G0 H0 gs ds ms σ G H) (h : EvT K s tt ds ms b) (J : List SC → List (Addr × MO) → Prop)
    (h1 : b = true → ∀ G' H' (L : L2.St → Hp → Prop), At K s mu G0 H0 gs ds ms σ G' H' → (∀ ds2 ms2 σ2 G2 H2, J ds2 ms2 → At K s mu G0 H0 gs ds2 ms2 σ2 G2 H2 → L σ2 H2) → ts { D with nx := L } σ H') (h2 : b = false → J ds ms)
    (k : ∀ ds2 ms2 σ2 G2 H2, J ds2 ms2 → At K s mu G0 H0 gs ds2 ms2 σ2 G2 H2 → tz D σ2 H2) : tSeq (tIfS tt ts tNext) tz D σ H :=
  q_when A h (fun e G' H' A' => h1 e G' H' (tz D) A' k) fun e G' H' A' => k _ _ _ _ _ (h2 e) A'
theorem q_ifRJ {Φ : Bool → Prop} (A : At K s mu G0 H0 gs ds ms σ G H) (h : EvTR K s tt ds ms Φ) (J : List SC → List (Addr × MO) → Prop)
    (h1 : Φ true → ∀ G' H' (L : L2.St → Hp → Prop), At K s mu G0 H0 gs ds ms σ G' H' → (∀ ds2 ms2 σ2 G2 H2, J ds2 ms2 → At K s mu G0 H0 gs ds2 ms2 σ2 G2 H2 → L σ2 H2) → ts { D with nx := L } σ H') (h2 : Φ false → J ds ms)
    (k : ∀ ds2 ms2 σ2 G2 H2, J ds2 ms2 → At K s mu G0 H0 gs ds2 ms2 σ2 G2 H2 → tz D σ2 H2) : tSeq (tIfS tt ts tNext) tz D σ H :=
  q_ifR A h (fun e G' H' A' => h1 e G' H' (tz D) A' k) fun e G' H' A' => k _ _ _ _ _ (h2 e) A'
theorem etr_T {Φ : Sy.D → Prop} (h : EvR K s te ds ms Φ) (hb : ∀ d, Φ d → ∃ b, d = .bool b) : EvTR K s (tTest te) ds ms (fun _ => True) := fun σ G H k Q q => h σ G H k _ fun v G1 H1 d a1 o1 x1 p1 => by
  obtain ⟨b, rfl⟩ := hb d p1
  cases x1
  exact ⟨b, rfl, q b G1 H1 a1 o1 trivial⟩
theorem evr_ixL {xs : List Sy.D} {n : Nat} (ha : EvD K s ta ds ms (.list xs)) (hb : EvR K s tb ds ms (fun d => ∃ i : Nat, d = .int ((i : Nat) : Int) ∧ ((i : Nat) : Int) < ((n : Nat) : Int))) (hn : n ≤ xs.length) : EvR K s (tOp (rIxL K) ta tb) ds ms (fun d => d ∈ xs) :=
  ev_opR (EvC.r ha) hb fun x y e1 ⟨i, e2, hi⟩ => by
    subst e1
    subst e2
    have hl : i < xs.length := by omega
    exact ⟨xs[i], List.getElem_mem hl, od_ixL (atI_nat (List.getElem?_eq_getElem hl))⟩
/-! ### _law_begun -/
abbrev s__law_begun : Stmt := topS 80
theorem sc__law_begun : FnScope ["_law_script", "_law_k", "_law_cell", "_law_mixed"] ["_law_script", "_law_k"] (defScope s__law_begun) := ⟨rfl, rfl, rfl, by decide +kernel, rfl, by decide +kernel, by decide +kernel⟩

def spBegun (K : Fg) : Sp := fun vs H Q _ => ∃ (ns : List Int) (k : Nat) (G : Hp), Same G H ∧ IsA K G vs [scrD ns, .int ((k : Nat) : Int)] ∧ k ≤ 1000 ∧ ns.length ≤ 1000 ∧ ∀ sa G' H', Stp mu0 G H G' H' → H sa = none → G' sa = none → StAt H' sa → Q (.ref sa) H'
theorem powW_big : CPowW ((10 : Int) ^ ((60 : Int)).toNat) 8 := ⟨by decide, by decide +kernel⟩
theorem ok__law_begun {f : Addr} {fd : FuncData} (F : Fun K "_law_begun" "_law_begun" s__law_begun f fd) (B : Bl mg) : FnOk P w K mg base CX0 1 f fd ["_law_script", "_law_k"] (spBegun K) := by
  refine F.ok sc__law_begun (fun vs H Q E h => ?_) (fun cdv A outer s H vs Q E hr h => ?_)
  · obtain ⟨ns, k, G, hg, hI, _⟩ := h
    exact hI.length
  · obtain ⟨ns, k, G, hg, hI, hk, hz, q⟩ := h
    have A0 := at_start (K := K) (N := ["_law_script", "_law_k", "_law_cell", "_law_mixed"]) (ds := [.dat (scrD ns), .dat (.int ((k : Nat) : Int)), .no, .no]) hg hI
    refine ⟨_, (pss_cons (ps_set (i := 2) sc__law_begun.nd rfl (Or.inl rfl) pe_int)
      (pss_cons (ps_if (pt_cmpR (w_neD (K := K) hr.units) (pv 0) (pe_lst pa_nil) (nomark _)) (pss_one (ps_set (i := 2) sc__law_begun.nd rfl (Or.inl rfl) (pe_ix (w_ixL (K := K)) (pv 0) (pe_op o_mod (pv 1) (pe_callB (w_len (K := K)) (by rfl) B.len_ PySem.boot_len (pa_cons (pv 0) pa_nil))) (fun _ _ => rfl)))) pss_nil)
      (pss_cons (ps_set (i := 3) sc__law_begun.nd rfl (Or.inl rfl) (pe_op o_mod (pe_op o_add (pe_op o_add (pe_op o_add (pe_op o_mod (pv 2) pe_int) (pe_op o_mulW (pe_op o_mul pe_int (pv 1)) (pv 1))) (pe_op o_mul pe_int (pv 1))) pe_int) pe_int))
      (pss_one (ps_ret (pe_lst (pa_cons (pe_op o_mod (pe_callB w_abs (by rfl) B.abs_ (by decide +kernel) (pa_cons (pv 2) pa_nil)) (pe_op op_powW (pe_op op_powW pe_int pe_int) pe_int)) (pa_cons (pv 3) (pa_cons (pe_cmpR o_ge (pe_callB w_abs (by rfl) B.abs_ (by decide +kernel) (pa_cons (pv 2) pa_nil)) (pe_op op_powW pe_int pe_int) (nomark _)) pa_nil))))))))), ?_⟩
    refine q_set A0 (ev_int (i := 0)) fun σ1 G1 H1 A1 => ?_
    refine q_whenJ A1 (et_test (ev_scrNe (ns := ns) (ev_var rfl))) (fun ds ms => ∃ c : Int, ds = [.dat (scrD ns), .dat (.int ((k : Nat) : Int)), .dat (.int c), .no] ∧ ms = []) (fun hb G2 H2 L A2 hL => ?_) (fun _ => ⟨0, rfl, rfl⟩) fun ds ms σ3 G3 H3 j A3 => ?_
    · have hl : 0 < ns.length := by
        cases ns with
        | nil => cases hb
        | cons a r => exact Nat.succ_pos _
      have hm : k % ns.length < ns.length := Nat.mod_lt _ hl
      refine s_set A2 (ev_scrIx (ns := ns) (i := k % ns.length) (ev_var rfl) (EvC.to (ev_mod (i := ((k : Nat) : Int)) (j := ((ns.length : Nat) : Int)) (ev_var rfl) (ev_scrLen (ev_var rfl)) (by omega)) (by rw [Int.natCast_emod])) (List.getElem?_eq_getElem hm)) fun σ4 G4 H4 A4 => ?_
      exact hL _ _ _ _ _ ⟨_, rfl, rfl⟩ A4
    · obtain ⟨c, rfl, rfl⟩ := j
      have hkk : (((k : Nat) : Int)).natAbs < 2 ^ 20 := by
        rw [Int.natAbs_natCast]
        omega
      have hmul : CMul 104729 ((k : Nat) : Int) := .inl ⟨by decide, by decide⟩
      have hmul2 : CMulW (104729 * ((k : Nat) : Int)) ((k : Nat) : Int) := wide_mul (a := 40) (b := 20) (by omega) hkk (by decide) (by decide) (by decide)
      refine q_set A3 (ev_mod (j := 2147483587) (ev_add (ev_add (ev_add (ev_mod (ev_var rfl) ev_int (by decide)) (ev_mulW (ev_mul ev_int (ev_var rfl) hmul) (ev_var rfl) hmul2)) (ev_mul ev_int (ev_var rfl) (.inl ⟨by decide, by decide⟩))) ev_int) ev_int (by decide)) fun σ4 G4 H4 A4 => ?_
      refine (en_lst (el_cons (ev_mod (ev_abs (ev_var (i := 2) (c := .dat (.int c)) rfl)) (ev_powW (ev_powW (i := 10) (j := 60) ev_int ev_int (pow10_ok (n := 60) (by omega))) (ev_int (i := 8)) powW_big) (by decide +kernel)) (el_cons (ev_var rfl) (el_cons (ev_ge (ev_abs (ev_var (i := 2) (c := .dat (.int c)) rfl)) (ev_powW (i := 10) (j := 18) ev_int ev_int (pow10_ok (n := 18) (by omega)))) el_nil)))) σ4 G4 H4 A4.kn _ fun p G5 H5 vs dl a5 o5 hp gp e x5 px => ?_
      subst px
      have A5 := A4.step a5 o5
      refine q p G5 H5 A5.sp (A4.fresh0 hp).1 gp ?_
      cases x5 with
      | cons y1 x5 => cases x5 with
        | cons y2 x5 => cases x5 with
          | cons y3 x5 =>
            cases x5
            cases y1
            cases y2
            cases y3
            refine ⟨_, _, _, e, Int.emod_nonneg _ (by decide +kernel), Int.emod_nonneg _ (by decide), ?_⟩
            exact Int.lt_trans (Int.emod_lt_of_pos _ (by decide)) (by decide)
/-- a new drawing state, in a slot -/
theorem draw_at {sa : Addr} {G' H' : Hp} (A : At K none mu G0 H0 gs ds ms σ G H) (a : Stp mu0 G H G' H') (hs : H sa = none) (gs' : G' sa = none) (hst : StAt H' sa) : At K (some sa) mu G0 H0 gs ds ms σ G' H' := by
  obtain ⟨f1, f2, _⟩ := A.fresh0 hs
  have A1 := A.step a.of0 (A.kn.stO a)
  refine ⟨⟨A1.kn.gh, A1.kn.sl, fun q hq => ?_, A1.kn.nd, fun b e => by cases e; exact hst, fun b e => by cases e; exact gs'⟩, A1.sp, fun b e => ?_, A1.ke⟩
  · obtain ⟨h1, h2, _⟩ := A1.kn.mo q hq
    refine ⟨h1, h2, fun e => f2 q hq ?_⟩
    cases (show some sa = some q.1 from e)
    rfl
  · cases (show some sa = some b from e)
    exact .inr f1
theorem undraw (A : At K s mu G0 H0 gs ds ms σ G H) : At K none mu G0 H0 gs ds ms σ G H :=
  ⟨⟨A.kn.gh, A.kn.sl, fun q hq => ⟨(A.kn.mo q hq).1, (A.kn.mo q hq).2.1, fun e => absurd (show (none : Option Addr) = some _ from e) (by simp)⟩, A.kn.nd, fun b e => absurd e (by simp), fun b e => absurd e (by simp)⟩, A.sp, fun b e => absurd (show (none : Option Addr) = some b from e) (by simp), A.ke⟩
theorem q_begun {i : Nat} {ns : List Int} {n : Nat} (A : At K none mu G0 H0 gs ds ms σ G H) (h : EvL K none tr ds ms [scrD ns, .int ((n : Nat) : Int)]) (hn : n ≤ 1000) (hz : ns.length ≤ 1000) (k : ∀ sa σ' G' H', At K (some sa) mu G0 H0 gs (ds.set i (.ref sa)) ms σ' G' H' → tz D σ' H') : tSeq (tAsg (tCall (spBegun K) [] E tr) (gName i)) tz D σ H :=
  h σ G H A.kn _ fun vs G1 H1 a1 o1 x1 => by
    have A1 := A.step a1 o1
    refine ⟨ns, n, G1, A1.kn.gh, by rw [List.append_nil]; exact x1, hn, hz, fun sa G2 H2 a2 hs gs' hst => ?_⟩
    exact k sa _ G2 H2 ((draw_at A1 a2 hs gs' hst).slot rfl)
/-! ### _law_amount -/
abbrev s__law_amount : Stmt := topS 85
theorem sc__law_amount : FnScope ["_law_state", "_law_least", "_law_way", "_law_top"] ["_law_state", "_law_least"] (defScope s__law_amount) := ⟨rfl, rfl, rfl, by decide +kernel, rfl, by decide +kernel, by decide +kernel⟩

def B84 (q : Rat) : Prop := ∃ k : Int, q = mkRat k 84 ∧ k.natAbs ≤ 10 ^ 60
def AmtOk (least : Int) (d : Sy.D) : Prop := ∃ q, d = frD q ∧ Bd 1 q ∧ 0 ≤ q ∧ (1 ≤ least → 0 < q) ∧ B84 q
def spAmount (K : Fg) : Sp := SpS K (fun n : Int => [.int n]) (fun n => 0 ≤ n ∧ n ≤ 1) (fun n d => AmtOk n d)
theorem amt_ok {least : Int} {top : Int} {b : Nat} (h0 : 0 ≤ least) (h1 : least ≤ top) (h2 : top ≤ 10 ^ 57) (hb : b ∈ [1, 2, 6, 7, 12]) : AmtOk least (frD (mkRat top b)) := by
  have hb0 : 0 < b := by
    simp at hb
    omega
  obtain ⟨c, hc, hc2⟩ : ∃ c, 1008 = b * c ∧ c ≤ 1008 := by
    simp at hb
    rcases hb with rfl | rfl | rfl | rfl | rfl
    · exact ⟨1008, rfl, by omega⟩
    · exact ⟨504, rfl, by omega⟩
    · exact ⟨168, rfl, by omega⟩
    · exact ⟨144, rfl, by omega⟩
    · exact ⟨84, rfl, by omega⟩
  have hc0 : c ≠ 0 := fun z => by subst z; omega
  have hnn : 0 ≤ mkRat top b := mkr_nn hb0 (by omega)
  have pos_of : 1 ≤ least → 0 < mkRat top b := fun hl => by
    refine Rat.not_le.mp fun z => ?_
    have e : mkRat top b = 0 := Rat.le_antisymm z hnn
    rw [Rat.mkRat_eq_zero (by omega)] at e
    omega
  have b84 : B84 (mkRat top b) := by
    obtain ⟨c', hc', hc2'⟩ : ∃ c, 84 = b * c ∧ c ≤ 84 := by
      simp at hb
      rcases hb with rfl | rfl | rfl | rfl | rfl
      · exact ⟨84, rfl, by omega⟩
      · exact ⟨42, rfl, by omega⟩
      · exact ⟨14, rfl, by omega⟩
      · exact ⟨12, rfl, by omega⟩
      · exact ⟨7, rfl, by omega⟩
    have hc0' : c' ≠ 0 := fun z => by subst z; omega
    refine ⟨top * (c' : Int), by rw [hc', Rat.mkRat_mul_right hc0'], ?_⟩
    rw [Int.natAbs_mul, Int.natAbs_natCast]
    have e1 : top.natAbs ≤ 10 ^ 57 := by omega
    have e2 : top.natAbs * c' ≤ 10 ^ 57 * 84 := Nat.mul_le_mul e1 hc2'
    exact Nat.le_trans e2 (by decide +kernel)
  refine ⟨_, rfl, ⟨top * (c : Int), by rw [hc, Rat.mkRat_mul_right hc0], ?_⟩, hnn, ?_⟩
  · rw [Int.natAbs_mul, Int.natAbs_natCast, Nat.one_mul]
    have e1 : top.natAbs ≤ 10 ^ 57 := by omega
    have e2 : top.natAbs * c ≤ 10 ^ 57 * 1008 := Nat.mul_le_mul e1 hc2
    exact Nat.le_trans e2 (by decide +kernel)
  · refine ⟨fun hl => ?_, ?_⟩
    · exact pos_of hl
    · exact b84
theorem ok__law_amount {f : Addr} {fd : FuncData} (F : Fun K "_law_amount" "_law_amount" s__law_amount f fd) (B : Bl mg) (c__law_take : Cal P w K mg base "_law_take" 1 ["_law_state", "_law_many"] (spTake K)) (c__law_low : Cal P w K mg base "_law_low" 1 ["_law_top", "_law_bottom"] (spLowest K)) : FnOk P w K mg base CX0 2 f fd ["_law_state", "_law_least"] (spAmount K) := by
  refine F.ok sc__law_amount (fun vs H Q E h => ?_) (fun cdv A outer s H vs Q E hr h => ?_)
  · obtain ⟨a, G, sa, vr, rfl, hg, gs, hs, hI, hp, q⟩ := h
    rw [List.length_cons, hI.length]
    rfl
  · obtain ⟨least, G, sa, vr, rfl, hg, gs, hs, hI, ⟨hl0, hl1⟩, q⟩ := h
    have hl0 : 0 ≤ least := hl0
    have hl1 : least ≤ 1 := hl1
    have A0 := at_startS (K := K) (N := ["_law_state", "_law_least", "_law_way", "_law_top"]) (ds := [.ref sa, .dat (.int least), .no, .no]) hg gs hs hI
    refine ⟨_, (pss_cons (ps_set (i := 2) sc__law_amount.nd rfl (Or.inl rfl) (p_call c__law_take (hr.mono (by first | exact Nat.le_refl _ | omega)) (pa_cons (pv 0) (pa_cons pe_int pa_nil))))
      (pss_cons (ps_set (i := 3) sc__law_amount.nd rfl (Or.inl rfl) (pe_op o_add (pv 1) (p_call c__law_take (hr.mono (by first | exact Nat.le_refl _ | omega)) (pa_cons (pv 0) (pa_cons (pe_ix (w_ixL (K := K)) (pe_lst (pa_cons pe_int (pa_cons pe_int (pa_cons pe_int (pa_cons pe_int (pa_cons pe_int (pa_cons pe_int (pa_cons (pe_op op_powW pe_int pe_int) (pa_cons (pe_op op_powW pe_int pe_int) pa_nil))))))))) (pv 2) (fun _ _ => rfl)) pa_nil)))))
      (pss_one (ps_ret (p_call c__law_low (hr.mono (by first | exact Nat.le_refl _ | omega)) (pa_cons (pv 3) (pa_cons (pe_ix (w_ixL (K := K)) (pe_lst (pa_cons pe_int (pa_cons pe_int (pa_cons pe_int (pa_cons pe_int (pa_cons pe_int (pa_cons pe_int (pa_cons pe_int (pa_cons pe_int pa_nil))))))))) (pv 2) (fun _ _ => rfl)) pa_nil))))))), ?_⟩
    refine q_setR A0 (evr_take (n := 8) (ev_var rfl) (el_cons ev_int el_nil) (by decide) (by decide +kernel)) fun d σ1 G1 H1 hd A1 => ?_
    obtain ⟨i, rfl, hi⟩ := hd
    have hi8 : i < 8 := by omega
    have ix1 : ∃ m : Int, [(2 : Int), 3, 5, 9, 9, 40, 10 ^ ((12 : Int)).toNat, 10 ^ ((56 : Int)).toNat][i]? = some m ∧ 1 ≤ m ∧ m ≤ 10 ^ 56 := by
      rcases i with _ | _ | _ | _ | _ | _ | _ | _ | i
      · exact ⟨_, rfl, by decide +kernel, by decide +kernel⟩
      · exact ⟨_, rfl, by decide +kernel, by decide +kernel⟩
      · exact ⟨_, rfl, by decide +kernel, by decide +kernel⟩
      · exact ⟨_, rfl, by decide +kernel, by decide +kernel⟩
      · exact ⟨_, rfl, by decide +kernel, by decide +kernel⟩
      · exact ⟨_, rfl, by decide +kernel, by decide +kernel⟩
      · exact ⟨_, rfl, by decide +kernel, by decide +kernel⟩
      · exact ⟨_, rfl, by decide +kernel, by decide +kernel⟩
      · omega
    have ix2 : ∃ b : Nat, [(1 : Int), 1, 1, 1, 2, 6, 7, 12][i]? = some ((b : Nat) : Int) ∧ b ∈ [1, 2, 6, 7, 12] := by
      rcases i with _ | _ | _ | _ | _ | _ | _ | _ | i
      · exact ⟨1, rfl, by decide⟩
      · exact ⟨1, rfl, by decide⟩
      · exact ⟨1, rfl, by decide⟩
      · exact ⟨1, rfl, by decide⟩
      · exact ⟨2, rfl, by decide⟩
      · exact ⟨6, rfl, by decide⟩
      · exact ⟨7, rfl, by decide⟩
      · exact ⟨12, rfl, by decide⟩
      · omega
    obtain ⟨m, em, hm1, hm2⟩ := ix1
    obtain ⟨b, eb, hb⟩ := ix2
    refine q_setR A1 (evr_opI0 (g := fun i j => i + j) (Φ := fun i => i = least) (Ψ := fun j => 0 ≤ j ∧ j < m) (EvC.rI (ev_var rfl)) ((evr_take (n := m) (ev_var rfl) (el_cons (ev_ixLn (xs := [(2 : Int), 3, 5, 9, 9, 40, 10 ^ ((12 : Int)).toNat, 10 ^ ((56 : Int)).toNat].map .int) (ev_lst (dl := [(2 : Int), 3, 5, 9, 9, 40, 10 ^ ((12 : Int)).toNat, 10 ^ ((56 : Int)).toNat].map .int) (el_cons ev_int (el_cons ev_int (el_cons ev_int (el_cons ev_int (el_cons ev_int (el_cons ev_int (el_cons (ev_powW ev_int ev_int (pow10_ok (n := 12) (by omega))) (el_cons (ev_powW ev_int ev_int (pow10_ok (n := 56) (by omega))) el_nil))))))))) (ev_var rfl) (smap_at em)) el_nil) hm1 (by
      have : (10 : Nat) ^ 56 < LN := by decide +kernel
      omega)).imp fun d ⟨i, e, h⟩ => ⟨_, e, Int.natCast_nonneg _, h⟩)) fun d σ2 G2 H2 hd A2 => ?_
    obtain ⟨r, rfl, i', j, rfl, ⟨hj0, hj1⟩, rfl⟩ := hd
    have hb0 : 0 < b ∧ b ≤ 12 := by
      simp at hb
      omega
    refine s_ret A2 (c := .dat (frD (mkRat (i' + j) b))) (EvC.to (ev_lowest (a := i' + j) (b := ((b : Nat) : Int)) (el_cons (ev_var rfl) (el_cons (ev_ixLn (xs := [(1 : Int), 1, 1, 1, 2, 6, 7, 12].map .int) (ev_lst (dl := [(1 : Int), 1, 1, 1, 2, 6, 7, 12].map .int) (el_cons ev_int (el_cons ev_int (el_cons ev_int (el_cons ev_int (el_cons ev_int (el_cons ev_int (el_cons ev_int (el_cons ev_int el_nil))))))))) (ev_var rfl) (smap_at eb)) el_nil)) (by omega) (by
      rw [Int.natAbs_natCast]
      have : 12 < LN2 := by decide +kernel
      omega)) (by rw [Int.toNat_natCast])) fun v G' H' st so cp => q v G' H' _ st (so sa rfl) cp.is (amt_ok hl0 (by omega) (by
      have : (10 : Int) ^ 56 + 1 ≤ 10 ^ 57 := by decide +kernel
      omega) hb)
theorem evr_amount {n : Int} (h0 : EvC K (some sa) ta ds ms (.ref sa)) (h : EvL K (some sa) t ds ms [.int n]) (h1 : 0 ≤ n) (h2 : n ≤ 1) : EvR K (some sa) (tCall (spAmount K) [] E (tCons ta t)) ds ms (AmtOk n) := evr_callS (post := fun (n : Int) d => AmtOk n d) h0 h ⟨h1, h2⟩
end
end Fc
namespace Fc
open PySem PySem.Spec PyProof.Rows L2 Sy
/-! texts -/
def mkS (l : List Nat) : Str := ⟨l.toArray⟩
theorem mkS_len (l : List Nat) : (mkS l).length = l.length := by simp [mkS, Str.length]
theorem mkS_cps (l : List Nat) : (mkS l).cps.toList = l := rfl
theorem mkS_add (a b : List Nat) : mkS a ++ mkS b = mkS (a ++ b) := by
  show (⟨a.toArray ++ b.toArray⟩ : Str) = ⟨(a ++ b).toArray⟩
  exact congrArg Str.mk (by simp)
theorem mkS_take (l : List Nat) {n : Nat} (h : n ≤ l.length) : L2.cutS (mkS l) none (some ((n : Nat) : Int)) = mkS (l.take n) := by
  unfold L2.cutS
  rw [HT.sIx_none, HT.sIx_nat, mkS_len, mkS_cps, List.drop_zero, Nat.min_eq_left h, Nat.sub_zero]
  rfl
theorem mkS_drop (l : List Nat) {n : Nat} (h : n ≤ l.length) : L2.cutS (mkS l) (some ((n : Nat) : Int)) none = mkS (l.drop n) := by
  unfold L2.cutS
  rw [HT.sIx_none, HT.sIx_nat, mkS_len, mkS_cps, Nat.min_eq_left h, List.take_of_length_le (by rw [List.length_drop]; omega)]
  rfl
theorem mkS_join : ∀ cs : List Nat, Txt.join (mkS []) (cs.map fun c => mkS [c]) = mkS cs := fun cs => by
  rw [TL.join_eq]
  induction cs with
  | nil => rfl
  | cons a r ih =>
    cases r with
    | nil => rfl
    | cons b t =>
      show mkS [a] ++ mkS [] ++ Str.join (mkS []) ((b :: t).map fun c => mkS [c]) = _
      rw [ih, mkS_add, mkS_add]
      rfl
def alph : List Nat := (List.range 26).map (97 + ·)
theorem alph_eq : ("abcdefghijklmnopqrstuvwxyz" : Str) = mkS alph := by decide +kernel
theorem alph_letters : lettersL = alph := by decide +kernel
theorem empty_eq : ("" : Str) = mkS [] := by decide +kernel
theorem alph_at {i : Nat} (h : i < 26) : alph[i]? = some (97 + i) := by
  unfold alph
  rw [List.getElem?_map, List.getElem?_range h] <;> rfl
theorem alph_mem {c : Nat} (h : c ∈ alph) : ∃ i, i < 26 ∧ c = 97 + i := by
  obtain ⟨i, hi, rfl⟩ := List.mem_map.mp h
  exact ⟨i, List.mem_range.mp hi, rfl⟩
def rAddSt : R2 := fun x y H Q => ∃ i j, x = .str i ∧ y = .str j ∧ i.length + j.length ≤ sizeLine ∧ Q (.str (i ++ j)) H
/-- a name: a tail with a letter put in -/
def nameS (tl : List Nat) (n c : Nat) : Str := mkS (tl.take n ++ [c] ++ tl.drop n)
theorem name_ok {tl : List Nat} {n c : Nat} (h1 : tl.length ≤ 7) (h2 : ∀ x ∈ tl, x ∈ alph) (h3 : c ∈ alph) : NameOk (nameS tl n c) := by
  have hl : (tl.take n ++ [c] ++ tl.drop n).length = tl.length + 1 := by
    simp only [List.length_append, List.length_take, List.length_drop, List.length_cons, List.length_nil]
    omega
  refine ⟨?_, ?_, fun x hx => ?_⟩
  · unfold nameS
    rw [mkS_len, hl]
    omega
  · unfold nameS
    rw [mkS_len, hl]
    omega
  · rw [alph_letters]
    have hx : x ∈ tl.take n ++ [c] ++ tl.drop n := hx
    rcases List.mem_append.mp hx with hx | hx
    · rcases List.mem_append.mp hx with hx | hx
      · exact h2 x (List.mem_of_mem_take hx)
      · cases List.mem_singleton.mp hx
        exact h3
    · exact h2 x (List.mem_of_mem_drop hx)
theorem name_inj {tl : List Nat} {n c c' : Nat} (h : nameS tl n c = nameS tl n c') : c = c' := by
  have e : tl.take n ++ [c] ++ tl.drop n = tl.take n ++ [c'] ++ tl.drop n := by
    have := congrArg (fun x : Str => x.cps.toList) h
    exact this
  have e2 := List.append_cancel_right e
  have e3 := List.append_cancel_left e2
  exact List.cons.inj e3 |>.1
section
variable {P : Program} {w : World} {K : Fg} {mg : Str → Option Value} {base : Heap} {C : Addr}
variable {s : Option Addr} {mu : Addr → Prop} {G0 H0 G H : Hp} {gs : List Hp} {ds : List SC} {ms : List (Addr × MO)} {σ : L2.St} {D : Ends} {t tr : TA} {ta tb te ti to : TE} {tt : TT} {u tz ts : TS} {E : XK} {sa : Addr}
theorem evr_join {Ys : List Str → Prop} {a : Str} (ho : EvD K s to ds ms (.str a)) (h : EvR K s te ds ms (fun d => ∃ ys, d = .list (strsD ys) ∧ Ys ys)) (hz : ∀ ys, Ys ys → (ys.map (·.length)).sum + ys.length * a.length ≤ 16777216) : EvR K s (tM1 (rJoin K) to te) ds ms (fun d => ∃ ys, Ys ys ∧ d = .str (Txt.join a ys)) := fun σ G H k Q q =>
  ho σ G H k _ fun v G1 H1 a1 o1 x1 => by
    cases x1.is
    refine ⟨⟨a, rfl⟩, h σ G1 H1 (k.step a1 o1) _ fun w G2 H2 d a2 o2 x2 p2 => ?_⟩
    obtain ⟨ys, rfl, hy⟩ := p2
    cases x2 with
    | @lst p vs _ hp ha =>
      have e := ha.strs
      subst e
      exact ⟨a, p, ys, rfl, rfl, .inl (SqL.of (a2.gh _ _ hp)), hz ys hy, q _ G2 H2 _ (a1.trans a2) o2 (.str _) ⟨ys, hy, rfl⟩⟩
theorem ev_addS {a b : Str} (ha : EvD K s ta ds ms (.str a)) (hb : EvD K s tb ds ms (.str b)) (hz : a.length + b.length ≤ 1000) : EvD K s (tOp rAddSt ta tb) ds ms (.str (a ++ b)) := ev_op ha hb fun G H vx vy e hx hy Q q => by
  cases hx
  cases hy
  exact ⟨a, b, rfl, rfl, Nat.le_of_lt (small1000 hz), q _ G H (.refl e) (.str _)⟩
theorem evr_ixS {l : List Nat} {n : Nat} (ha : EvD K s ta ds ms (.str (mkS l))) (hb : EvR K s tb ds ms (fun d => ∃ i : Nat, d = .int ((i : Nat) : Int) ∧ ((i : Nat) : Int) < ((n : Nat) : Int))) (hn : n ≤ l.length) (hz : l.length ≤ 1000) : EvR K s (tOp rIxS ta tb) ds ms (fun d => ∃ c ∈ l, d = .str (mkS [c])) :=
  ev_opR (EvC.r ha) hb fun x y e1 ⟨i, e2, hi⟩ => by
    subst e1
    subst e2
    have hl : i < l.length := by omega
    exact ⟨.str (mkS [l[i]]), ⟨_, List.getElem_mem hl, rfl⟩, od_ixS (by rw [mkS_len]; exact Nat.le_of_lt (small1000 hz)) (atI_nat (List.getElem?_eq_getElem hl))⟩
theorem ev_ixS {l : List Nat} {i c : Nat} (ha : EvD K s ta ds ms (.str (mkS l))) (hb : EvD K s tb ds ms (.int ((i : Nat) : Int))) (h : l[i]? = some c) (hz : l.length ≤ 1000) : EvD K s (tOp rIxS ta tb) ds ms (.str (mkS [c])) := ev_op ha hb (od_ixS (by rw [mkS_len]; exact Nat.le_of_lt (small1000 hz)) (atI_nat h))
/-! ### _law_names -/
abbrev s__law_names : Stmt := topS 86
theorem sc__law_names : FnScope ["_law_state", "_law_many", "_law_letters", "_law_turn", "_law_step", "_law_tail", "_law_k", "_law_at", "_law_some", "_law_letter"] ["_law_state", "_law_many"] (defScope s__law_names) := ⟨rfl, rfl, rfl, by decide +kernel, rfl, by decide +kernel, by decide +kernel⟩

def NamesOk (n : Nat) (d : Sy.D) : Prop := ∃ ps : List Str, d = .list (strsD ps) ∧ ps.length = n ∧ ps.Nodup ∧ ∀ x ∈ ps, NameOk x
def spNames (K : Fg) : Sp := SpS K (fun n : Nat => [.int ((n : Nat) : Int)]) (fun n => n ≤ 7) NamesOk
theorem step_inj {turn step : Nat} (h : step = 1 ∨ step = 3 ∨ step = 5 ∨ step = 7 ∨ step = 11 ∨ step = 25) {a b : Nat} (ha : a < 8) (hb : b < 8) (e : (turn + step * a) % 26 = (turn + step * b) % 26) : a = b := by
  rcases h with rfl | rfl | rfl | rfl | rfl | rfl <;> omega
theorem strs_of {l : List Nat} : ∀ {n : Nat} {es dl : List Sy.D}, es.length = n → Paired (fun _ d => ∃ c ∈ l, d = PyData.str (mkS [c])) es dl → ∃ cs : List Nat, dl = strsD (cs.map fun c => mkS [c]) ∧ cs.length = n ∧ ∀ c ∈ cs, c ∈ l
  | 0, [], _, _, h => by
    cases h
    exact ⟨[], rfl, rfl, fun c h => absurd h (by simp)⟩
  | n + 1, e :: es, _, hn, h => by
    cases h with
    | cons h1 h2 =>
      obtain ⟨c, hc, rfl⟩ := h1
      obtain ⟨cs, rfl, hl, hm⟩ := strs_of (n := n) (by simpa using hn) h2
      exact ⟨c :: cs, rfl, by rw [List.length_cons, hl], fun x hx => (List.mem_cons.mp hx).elim (fun e => e ▸ hc) (hm x)⟩
  | 0, _ :: _, _, hn, _ => by simp at hn
  | n + 1, [], _, hn, _ => by simp at hn
theorem ones_len : ∀ cs : List Nat, ((cs.map fun c => mkS [c]).map (·.length)).sum = cs.length
  | [] => rfl
  | c :: r => by
    simp only [List.map_cons, List.sum_cons, List.length_cons, ones_len r, mkS_len, List.length_nil]
    omega
theorem ok__law_names {f : Addr} {fd : FuncData} (F : Fun K "_law_names" "_law_names" s__law_names f fd) (B : Bl mg) (c__law_take : Cal P w K mg base "_law_take" 1 ["_law_state", "_law_many"] (spTake K)) : FnOk P w K mg base CX0 2 f fd ["_law_state", "_law_many"] (spNames K) := by
  refine F.ok sc__law_names (fun vs H Q E h => ?_) (fun cdv A outer s H vs Q E hr h => ?_)
  · obtain ⟨a, G, sa, vr, rfl, hg, gs, hs, hI, hp, q⟩ := h
    rw [List.length_cons, hI.length]
    rfl
  · obtain ⟨many, G, sa, vr, rfl, hg, gs, hs, hI, hm, q⟩ := h
    have hm : many ≤ 7 := hm
    have A0 := at_startS (K := K) (N := ["_law_state", "_law_many", "_law_letters", "_law_turn", "_law_step", "_law_tail", "_law_k", "_law_at", "_law_some", "_law_letter"]) (ds := [.ref sa, .dat (.int ((many : Nat) : Int)), .no, .no, .no, .no, .no, .no, .no, .no]) hg gs hs hI
    refine ⟨_, (pss_cons (ps_set (i := 2) sc__law_names.nd rfl (Or.inr rfl) pe_str)
      (pss_cons (ps_set (i := 3) sc__law_names.nd rfl (Or.inr rfl) (p_call c__law_take (hr.mono (by first | exact Nat.le_refl _ | omega)) (pa_cons (pv 0) (pa_cons pe_int pa_nil))))
      (pss_cons (ps_set (i := 4) sc__law_names.nd rfl (Or.inr rfl) (pe_ix (w_ixL (K := K)) (pe_lst (pa_cons pe_int (pa_cons pe_int (pa_cons pe_int (pa_cons pe_int (pa_cons pe_int (pa_cons pe_int pa_nil))))))) (p_call c__law_take (hr.mono (by first | exact Nat.le_refl _ | omega)) (pa_cons (pv 0) (pa_cons pe_int pa_nil))) (fun _ _ => rfl)))
      (pss_cons (ps_set (i := 5) sc__law_names.nd rfl (Or.inr rfl) (w_join (K := K) pe_str (pe_lc (own := [("_law_k", 6)]) (g := gName 6) (tt := tYes) rfl sc__law_names.nd (pi_range1 (by rfl) B.range_ (pa_cons (p_call c__law_take (hr.mono (by first | exact Nat.le_refl _ | omega)) (pa_cons (pv 0) (pa_cons pe_int pa_nil))) pa_nil)) (blkOk_by (own := [("_law_k", 6)]) (N := ["_law_state", "_law_many", "_law_letters", "_law_turn", "_law_step", "_law_tail", "_law_k", "_law_at", "_law_some", "_law_letter"]) (sc := defScope s__law_names) (by decide +kernel)) (fun _ _ _ _ _ => (pg_name (i := 6) sc__law_names.nd rfl (Or.inl rfl))) (fun _ _ _ _ _ => pts_nil) (fun _ _ _ _ _ => (pe_ix ix_str (pv 2) (p_call c__law_take (hr.mono (by first | exact Nat.le_refl _ | omega)) (pa_cons (pv 0) (pa_cons pe_int pa_nil))) (fun _ _ => rfl))))))
      (pss_cons (ps_set (i := 7) sc__law_names.nd rfl (Or.inr rfl) (p_call c__law_take (hr.mono (by first | exact Nat.le_refl _ | omega)) (pa_cons (pv 0) (pa_cons (pe_op o_add (pe_callB w_lenS (by rfl) B.len_ PySem.boot_len (pa_cons (pv 5) pa_nil)) pe_int) pa_nil))))
      (pss_cons (ps_setLc (i := 8) (own := [("_law_k", 6)]) (g := gName 6) (tt := tYes) rfl sc__law_names.nd rfl rfl (sw_true rfl rfl rfl (by decide +kernel)) (pi_range1 (by rfl) B.range_ (pa_cons (pv 1) pa_nil)) (blkOk_by (own := [("_law_k", 6)]) (N := ["_law_state", "_law_many", "_law_letters", "_law_turn", "_law_step", "_law_tail", "_law_k", "_law_at", "_law_some", "_law_letter"]) (sc := defScope s__law_names) (by decide +kernel)) (fun _ _ _ _ _ => (pg_name (i := 6) sc__law_names.nd rfl (Or.inl rfl))) (fun _ _ _ _ _ => pts_nil) (fun _ _ _ _ _ => (pe_ix ix_str (pv 2) (pe_op o_mod (pe_op o_add (pv 3) (pe_op o_mulW (pv 4) (pv 6))) pe_int) (fun _ _ => rfl))))
      (pss_one (ps_ret (pe_lc (own := [("_law_letter", 9)]) (g := gName 9) (tt := tYes) rfl sc__law_names.nd (w_list (K := K) (pv 8)) (blkOk_by (own := [("_law_letter", 9)]) (N := ["_law_state", "_law_many", "_law_letters", "_law_turn", "_law_step", "_law_tail", "_law_k", "_law_at", "_law_some", "_law_letter"]) (sc := defScope s__law_names) (by decide +kernel)) (fun _ _ _ _ _ => (pg_name (i := 9) sc__law_names.nd rfl (Or.inl rfl))) (fun _ _ _ _ _ => pts_nil) (fun _ _ _ _ _ => (pe_op op_add_str (pe_op op_add_str (pe_slice sl_str (pv 5) po_none (po_some (pv 7))) (pv 9)) (pe_slice sl_str (pv 5) (po_some (pv 7)) po_none)))))))))))), ?_⟩
    refine q_set A0 (ev_str (i := ("abcdefghijklmnopqrstuvwxyz" : Str))) fun σ1 G1 H1 A1 => ?_
    rw [alph_eq] at A1
    refine q_setR A1 (evr_take (n := 26) (ev_var rfl) (el_cons ev_int el_nil) (by decide) (by decide +kernel)) fun d σ2 G2 H2 hd A2 => ?_
    obtain ⟨turn, rfl, hturn⟩ := hd
    refine q_setR A2 (evr_ixL (xs := [.int 1, .int 3, .int 5, .int 7, .int 11, .int 25]) (n := 6) (ev_lst (el_cons ev_int (el_cons ev_int (el_cons ev_int (el_cons ev_int (el_cons ev_int (el_cons ev_int el_nil))))))) (evr_take (n := 6) (ev_var rfl) (el_cons ev_int el_nil) (by decide) (by decide +kernel)) (by decide +kernel)) fun d σ3 G3 H3 hd A3 => ?_
    obtain ⟨step, rfl, hstep⟩ : ∃ step : Nat, d = .int ((step : Nat) : Int) ∧ (step = 1 ∨ step = 3 ∨ step = 5 ∨ step = 7 ∨ step = 11 ∨ step = 25) := by
      simp only [List.mem_cons, List.mem_singleton, List.not_mem_nil, or_false] at hd
      rcases hd with rfl | rfl | rfl | rfl | rfl | rfl
      · exact ⟨1, rfl, by omega⟩
      · exact ⟨3, rfl, by omega⟩
      · exact ⟨5, rfl, by omega⟩
      · exact ⟨7, rfl, by omega⟩
      · exact ⟨11, rfl, by omega⟩
      · exact ⟨25, rfl, by omega⟩
    have A3 : At K (some sa) (isS (some sa)) G H [] [.ref sa, .dat (.int ((many : Nat) : Int)), .dat (.str (mkS alph)), .dat (.int ((turn : Nat) : Int)), .dat (.int ((step : Nat) : Int)), .no, .no, .no, .no, .no] [] σ3 G3 H3 := A3
    have al26 : alph.length = 26 := rfl
    refine q_setR (Φ := fun d => ∃ tl : List Nat, d = .str (mkS tl) ∧ tl.length ≤ 7 ∧ ∀ x ∈ tl, x ∈ alph) A3 ((evr_join (a := ("" : Str)) (Ys := fun ys => ∃ cs : List Nat, ys = cs.map (fun c => mkS [c]) ∧ cs.length ≤ 7 ∧ ∀ c ∈ cs, c ∈ alph) ev_str ((EvN.r (en_lcR (p := fun _ => true) (Φ := fun _ d => ∃ c ∈ alph, d = PyData.str (mkS [c])) (itr_nats (N := fun n => n < 8) ((evr_take (n := 8) (ev_var rfl) (el_cons ev_int el_nil) (by decide) (by decide +kernel)).imp fun d ⟨i, e, h⟩ => ⟨i, e, by omega⟩) fun n h => by omega) trivial (fun es hes i e he => tw_name) (fun es hes i e he => et_yes) (fun es hes i e he _ => evr_ixS (l := alph) (n := 26) (ev_var rfl) (evr_take (n := 26) (ev_var rfl) (el_cons ev_int el_nil) (by decide) (by decide +kernel)) (by decide) (by decide)) fun es ⟨n, hn, e⟩ => by
      rw [e, natsD_len, List.length_range]
      omega)).imp fun d ⟨dl, e, es, ⟨n, hn, he⟩, hpd⟩ => ?_) (fun ys ⟨cs, e, h1, h2⟩ => ?_)).imp fun d ⟨ys, ⟨cs, e, h1, h2⟩, ed⟩ => ?_) fun d σ4 G4 H4 hd A4 => ?_
    · rw [filter_all] at hpd
      obtain ⟨cs, e2, hl, hmm⟩ := strs_of (n := n) (by rw [he, natsD_len, List.length_range]) hpd
      exact ⟨_, by rw [e, e2], cs, rfl, by omega, hmm⟩
    · subst e
      rw [ones_len, List.length_map]
      have : ("" : Str).length = 0 := by decide +kernel
      rw [this]
      omega
    · subst e
      rw [empty_eq, mkS_join] at ed
      exact ⟨cs, ed, h1, h2⟩
    obtain ⟨tl, rfl, htl, hta⟩ := hd
    refine q_setR A4 (evr_take (n := ((tl.length + 1 : Nat) : Int)) (ev_var rfl) (el_cons (EvC.to (ev_add (ev_lenS (x := mkS tl) (ev_var rfl) (by rw [mkS_len]; exact small8 (by omega))) ev_int) (by rw [mkS_len]; rfl)) el_nil) (by omega) (by
      have : 8 < LN := by decide +kernel
      omega)) fun d σ5 G5 H5 hd A5 => ?_
    obtain ⟨at_, rfl, hat⟩ := hd
    have hat : at_ ≤ tl.length := by omega
    refine q_set A5 (c := .dat (.list (strsD ((List.range many).map fun k => mkS [97 + (turn + step * k) % 26])))) (EvN.dat ((en_lcD (p := fun _ => true) (F := fun e => match e with
      | .int k => .str (mkS [97 + (turn + step * k.toNat) % 26])
      | _ => .none) (it_nats (n := many) (el_cons (ev_var rfl) el_nil) (by omega)) trivial (fun i e he => tw_name) (fun i e he => et_yes) (fun i e he _ => ?_) (by rw [natsD_len, List.length_range]; omega)).imp fun dl h => ?_)) fun σ6 G6 H6 A6 => ?_
    · obtain ⟨k, hk, rfl⟩ := natsD_get he
      obtain ⟨hi, rfl⟩ := range_get hk
      have hstep25 : step ≤ 25 := by omega
      have hsk : step * k ≤ 25 * 7 := Nat.mul_le_mul hstep25 (by omega)
      refine ev_ixS (l := alph) (i := (turn + step * k) % 26) (ev_var rfl) (EvC.to (ev_mod (j := 26) (ev_add (ev_var rfl) (ev_mulW (i := ((step : Nat) : Int)) (j := ((k : Nat) : Int)) (ev_var rfl) (ev_var rfl) (wide_mul (a := 10) (b := 10) (by rw [Int.natAbs_natCast]; omega) (by rw [Int.natAbs_natCast]; omega) (by decide) (by decide) (by decide)))) ev_int (by decide)) (by
        rw [← Int.natCast_mul, ← Int.natCast_add]
        rfl)) (alph_at (Nat.mod_lt _ (by decide))) (by decide)
    · rw [h, filter_all]
      unfold natsD strsD
      rw [List.map_map, List.map_map]
      rfl
    · have A6 : At K (some sa) (isS (some sa)) G H [] [.ref sa, .dat (.int ((many : Nat) : Int)), .dat (.str (mkS alph)), .dat (.int ((turn : Nat) : Int)), .dat (.int ((step : Nat) : Int)), .dat (.str (mkS tl)), .no, .dat (.int ((at_ : Nat) : Int)), .dat (.list (strsD ((List.range many).map fun k => mkS [97 + (turn + step * k) % 26]))), .no] [] σ6 G6 H6 := A6
      refine s_ret A6 (c := .dat (.list (strsD ((List.range many).map fun k => nameS tl at_ (97 + (turn + step * k) % 26))))) (EvN.dat ((en_lcD (p := fun _ => true) (F := fun e => match e with
        | .str x => .str (nameS tl at_ (x.cps.toList.getD 0 0))
        | _ => .none) (it_list (es := strsD ((List.range many).map fun k => mkS [97 + (turn + step * k) % 26])) (ev_var rfl)) trivial (fun i e he => tw_name) (fun i e he => et_yes) (fun i e he _ => ?_) (by simp only [strsD, List.length_map, List.length_range]; omega)).imp fun dl h => ?_)) fun v G' H' st so cp => q v G' H' _ st (so sa rfl) cp.is ⟨_, rfl, by rw [List.length_map, List.length_range], ?_, fun x hx => ?_⟩
      · obtain ⟨x, hx, rfl⟩ := smap_get he
        obtain ⟨k, hk, rfl⟩ := List.mem_map.mp (List.mem_of_getElem? hx)
        refine EvC.to (ev_addS (ev_addS (ev_slS (lo := none) (hi := some ((at_ : Nat) : Int)) (ev_var (i := 5) (c := .dat (.str (mkS tl))) rfl) eo_none (eo_some (ev_var rfl)) (by rw [mkS_len]; exact small8 (by omega))) (ev_var rfl) ?_) (ev_slS (lo := some ((at_ : Nat) : Int)) (hi := none) (ev_var (i := 5) (c := .dat (.str (mkS tl))) rfl) (eo_some (ev_var rfl)) eo_none (by rw [mkS_len]; exact small8 (by omega))) ?_) ?_
        · rw [mkS_take _ hat, mkS_len, mkS_len, List.length_take]
          show _ + 1 ≤ _
          omega
        · rw [mkS_take _ hat, mkS_drop _ hat, mkS_add, mkS_len, mkS_len]
          simp only [List.length_append, List.length_take, List.length_drop, List.length_cons, List.length_nil]
          omega
        · rw [mkS_take _ hat, mkS_drop _ hat, mkS_add, mkS_add]
          rfl
      · rw [h, filter_all]
        unfold strsD
        rw [List.map_map, List.map_map, List.map_map]
        rfl
      · refine List.pairwise_map.mpr (List.Pairwise.imp_of_mem (fun {a b} ha hb hne e => hne ?_) (List.nodup_range (n := many)))
        have h1 := name_inj e
        exact step_inj (turn := turn) hstep (by have := List.mem_range.mp ha; omega) (by have := List.mem_range.mp hb; omega) (by omega)
      · obtain ⟨k, hk, rfl⟩ := List.mem_map.mp hx
        exact name_ok htl hta (List.mem_of_getElem? (alph_at (Nat.mod_lt _ (by decide))))
end
end Fc
namespace Fc
open PySem PySem.Spec PyProof.Rows L2 Sy
section
variable {P : Program} {w : World} {K : Fg} {mg : Str → Option Value} {base : Heap} {C : Addr}
variable {s : Option Addr} {mu : Addr → Prop} {G0 H0 G H : Hp} {gs : List Hp} {ds : List SC} {ms : List (Addr × MO)} {σ : L2.St} {D : Ends} {t tr : TA} {ta tb te ti to : TE} {tt : TT} {u tz ts : TS} {E : XK} {sa p : Addr}
abbrev s__law_tie : Stmt := topS 87
theorem sc__law_tie : FnScope ["_law_state", "_law_order", "_law_k", "_law_at", "_law_far", "_law_one", "_law_other", "_law_length", "_law_some", "_law_worth_here"] ["_law_state", "_law_order", "_law_k"] (defScope s__law_tie) := ⟨rfl, rfl, rfl, by decide +kernel, rfl, by decide +kernel, by decide +kernel⟩

structure OrdOk (ps os : List Str) : Prop where
  nd : os.Nodup
  lo : 2 ≤ os.length
  hi : os.length ≤ 7
  sub : ∀ x ∈ os, x ∈ ps
def spLTie (K : Fg) : Sp := SpS K (fun a : List Str × List Str × Nat => [.list (strsD a.2.1), .int ((a.2.2 : Nat) : Int)]) (fun a => OrdOk a.1 a.2.1 ∧ a.2.2 ≤ 1000) (fun a d => ∃ t, d = tieD t ∧ TieOk a.1 t)
theorem fr_one : (PyData.tuple [.int 1, .int 1]) = frD 1 := rfl
theorem fr_two : (PyData.tuple [.int 2, .int 1]) = frD 2 := rfl
theorem fr_zero : (PyData.tuple [.int 0, .int 1]) = frD 0 := rfl
theorem bd_one : Bd 1 (1 : Rat) := ⟨1008, by decide +kernel, by decide +kernel⟩
theorem bd_two : Bd 1 (2 : Rat) := ⟨2016, by decide +kernel, by decide +kernel⟩
def WorthD (d : Sy.D) : Prop := ∃ o : Option Rat, d = optD o ∧ (∀ q, o = some q → 0 < q ∧ Bd 1 q)
theorem ok__law_tie {f : Addr} {fd : FuncData} (F : Fun K "_law_tie" "_law_tie" s__law_tie f fd) (B : Bl mg) (c__law_take : Cal P w K mg base "_law_take" 1 ["_law_state", "_law_many"] (spTake K)) (c__law_amount : Cal P w K mg base "_law_amount" 2 ["_law_state", "_law_least"] (spAmount K)) : FnOk P w K mg base CX0 3 f fd ["_law_state", "_law_order", "_law_k"] (spLTie K) := by
  refine F.ok sc__law_tie (fun vs H Q E h => ?_) (fun cdv A outer s H vs Q E hr h => ?_)
  · obtain ⟨a, G, sa, vr, rfl, hg, gs, hs, hI, hp, q⟩ := h
    rw [List.length_cons, hI.length]
    rfl
  · obtain ⟨⟨ps, os, k⟩, G, sa, vr, rfl, hg, gs, hs, hI, ⟨ho, hk⟩, q⟩ := h
    have ho : OrdOk ps os := ho
    have hk : k ≤ 1000 := hk
    have hlo := ho.lo
    have hhi := ho.hi
    have hL : 1000 < LN := by decide +kernel
    have A0 := at_startS (K := K) (N := ["_law_state", "_law_order", "_law_k", "_law_at", "_law_far", "_law_one", "_law_other", "_law_length", "_law_some", "_law_worth_here"]) (ds := [.ref sa, .dat (.list (strsD os)), .dat (.int ((k : Nat) : Int)), .no, .no, .no, .no, .no, .no, .no]) hg gs hs hI
    refine ⟨_, (pss_cons (ps_set (i := 3) sc__law_tie.nd rfl (Or.inl rfl) (p_call c__law_take (hr.mono (by first | exact Nat.le_refl _ | omega)) (pa_cons (pv 0) (pa_cons (pe_callB (w_len (K := K)) (by rfl) B.len_ PySem.boot_len (pa_cons (pv 1) pa_nil)) pa_nil))))
      (pss_cons (ps_set (i := 4) sc__law_tie.nd rfl (Or.inl rfl) (pe_op o_add pe_int (p_call c__law_take (hr.mono (by first | exact Nat.le_refl _ | omega)) (pa_cons (pv 0) (pa_cons (pe_op o_sub (pe_callB (w_len (K := K)) (by rfl) B.len_ PySem.boot_len (pa_cons (pv 1) pa_nil)) pe_int) pa_nil)))))
      (pss_cons (ps_par (i := 5) (j := 6) (by rfl) sc__law_tie.nd rfl rfl (by decide) rfl rfl (pa_cons (pe_ix (w_ixL (K := K)) (pv 1) (pv 3) (fun _ _ => rfl)) (pa_cons (pe_ix (w_ixL (K := K)) (pv 1) (pe_op o_mod (pe_op o_add (pv 3) (pv 4)) (pe_callB (w_len (K := K)) (by rfl) B.len_ PySem.boot_len (pa_cons (pv 1) pa_nil))) (fun _ _ => rfl)) pa_nil)) (by rfl))
      (pss_cons (ps_if (pt_cmpR o_gt (p_call c__law_take (hr.mono (by first | exact Nat.le_refl _ | omega)) (pa_cons (pv 0) (pa_cons pe_int pa_nil))) pe_int (nomark _)) (pss_cons (ps_set (i := 3) sc__law_tie.nd rfl (Or.inl rfl) (pe_op o_mod (pv 2) (pe_op o_sub (pe_callB (w_len (K := K)) (by rfl) B.len_ PySem.boot_len (pa_cons (pv 1) pa_nil)) pe_int)))
      (pss_one (ps_par (i := 5) (j := 6) (by rfl) sc__law_tie.nd rfl rfl (by decide) rfl rfl (pa_cons (pe_ix (w_ixL (K := K)) (pv 1) (pv 3) (fun _ _ => rfl)) (pa_cons (pe_ix (w_ixL (K := K)) (pv 1) (pe_op o_add (pv 3) pe_int) (fun _ _ => rfl)) pa_nil)) (by rfl)))) pss_nil)
      (pss_cons (ps_if (pt_cmpR op_eq (p_call c__law_take (hr.mono (by first | exact Nat.le_refl _ | omega)) (pa_cons (pv 0) (pa_cons pe_int pa_nil))) pe_int (nomark _)) (pss_one (ps_par (i := 5) (j := 6) (by rfl) sc__law_tie.nd rfl rfl (by decide) rfl rfl (pa_cons (pv 6) (pa_cons (pv 5) pa_nil)) (by rfl))) pss_nil)
      (pss_cons (ps_set (i := 7) sc__law_tie.nd rfl (Or.inl rfl) (p_call c__law_amount (hr.mono (by first | exact Nat.le_refl _ | omega)) (pa_cons (pv 0) (pa_cons pe_int pa_nil))))
      (pss_cons (ps_set (i := 8) sc__law_tie.nd rfl (Or.inl rfl) (pe_lst (pa_cons (pe_tup (pa_cons pe_int (pa_cons pe_int pa_nil))) (pa_cons (pe_tup (pa_cons pe_int (pa_cons pe_int pa_nil))) (pa_cons (pe_tup (pa_cons pe_int (pa_cons pe_int pa_nil))) (pa_cons (p_call c__law_amount (hr.mono (by first | exact Nat.le_refl _ | omega)) (pa_cons (pv 0) (pa_cons pe_int pa_nil))) (pa_cons pe_non pa_nil)))))))
      (pss_cons (ps_set (i := 9) sc__law_tie.nd rfl (Or.inl rfl) (pe_ix (w_ixL (K := K)) (pv 8) (pe_ix (w_ixL (K := K)) (pe_lst (pa_cons pe_int (pa_cons pe_int (pa_cons pe_int (pa_cons pe_int (pa_cons pe_int (pa_cons pe_int (pa_cons pe_int (pa_cons pe_int pa_nil))))))))) (p_call c__law_take (hr.mono (by first | exact Nat.le_refl _ | omega)) (pa_cons (pv 0) (pa_cons pe_int pa_nil))) (fun _ _ => rfl)) (fun _ _ => rfl)))
      (pss_one (ps_ret (pe_tup (pa_cons (pv 5) (pa_cons (pv 6) (pa_cons (pe_ix (w_ixL (K := K)) (pe_lst (pa_cons pe_str (pa_cons pe_str pa_nil))) (p_call c__law_take (hr.mono (by first | exact Nat.le_refl _ | omega)) (pa_cons (pv 0) (pa_cons pe_int pa_nil))) (fun _ _ => rfl)) (pa_cons (pv 7) (pa_cons (pv 9) pa_nil)))))))))))))))), ?_⟩
    have len : ∀ {ds : List SC}, ds[1]? = some (.dat (.list (strsD os))) → EvD K (some sa) (tCB (rLen K) (tCons (tVar 1) tNil)) ds [] (.int ((os.length : Nat) : Int)) := fun h => EvC.to (ev_lenL (xs := strsD os) (ev_var h)) (by unfold strsD; rw [List.length_map])
    refine q_setR A0 (evr_take (n := ((os.length : Nat) : Int)) (ev_var rfl) (el_cons (len rfl) el_nil) (by omega) (by rw [Int.natAbs_natCast]; omega)) fun d σ1 G1 H1 hd A1 => ?_
    obtain ⟨a, rfl, ha⟩ := hd
    refine q_setR A1 (evr_opI0 (g := fun i j => i + j) (Φ := fun i => i = 1) (Ψ := fun j => 0 ≤ j ∧ j < ((os.length : Nat) : Int) - 1) (EvC.rI ev_int) ((evr_take (n := ((os.length : Nat) : Int) - 1) (ev_var rfl) (el_cons (ev_sub (len rfl) ev_int) el_nil) (by omega) (by omega)).imp fun d ⟨i, e, h⟩ => ⟨_, e, Int.natCast_nonneg _, h⟩)) fun d σ2 G2 H2 hd A2 => ?_
    obtain ⟨far, rfl, i1, j1, rfl, ⟨hj0, hj1⟩, rfl⟩ := hd
    obtain ⟨b, hb⟩ : ∃ b : Nat, j1 = ((b : Nat) : Int) := ⟨j1.toNat, by omega⟩
    subst hb
    have hal : a < os.length := by omega
    have hbl : (a + (1 + b)) % os.length < os.length := Nat.mod_lt _ (by omega)
    have hne0 : a ≠ (a + (1 + b)) % os.length := by
      intro z
      have h1 : 1 + b < os.length := by omega
      by_cases h2 : a + (1 + b) < os.length
      · rw [Nat.mod_eq_of_lt h2] at z
        omega
      · have h3 : (a + (1 + b)) % os.length = a + (1 + b) - os.length := by
          rw [Nat.mod_eq_sub_mod (by omega), Nat.mod_eq_of_lt (by omega)]
        omega
    have pick : ∀ {i j : Nat} (hi : i < os.length) (hj : j < os.length), i ≠ j → os[i] ≠ os[j] := fun {i j} hi hj hn e => hn (nd_ix ho.nd (List.getElem?_eq_getElem hi) (by rw [e]; exact List.getElem?_eq_getElem hj))
    refine q_par A2 (el_cons (ev_ixLn (xs := strsD os) (ev_var (i := 1) rfl) (ev_var rfl) (smap_at (List.getElem?_eq_getElem hal))) (el_cons (ev_ixLn (j := (a + (1 + b)) % os.length) (xs := strsD os) (ev_var (i := 1) rfl) (EvC.to (ev_mod (ev_add (ev_var rfl) (ev_var rfl)) (len rfl) (by omega)) (by
      rw [show ((a : Nat) : Int) + (1 + ((b : Nat) : Int)) = ((a + (1 + b) : Nat) : Int) by omega, ← Int.natCast_emod])) (smap_at (List.getElem?_eq_getElem hbl))) el_nil)) fun σ3 G3 H3 A3 => ?_
    refine q_ifRJ A3 (etr_T (evr_opB0 (g := fun i j => decide (j < i)) (Φ := fun _ => True) (Ψ := fun _ => True) ((evr_take (n := 3) (ev_var rfl) (el_cons ev_int el_nil) (by decide) (by decide +kernel)).imp fun d ⟨i, e, _⟩ => ⟨_, e, trivial⟩) ((EvC.rI (i := 0) ev_int).imp fun d ⟨i, e, _⟩ => ⟨i, e, trivial⟩)) fun d h => h)
      (fun ds ms => ∃ (c1 c2 : SC) (x y : Str), ds = [.ref sa, .dat (.list (strsD os)), .dat (.int ((k : Nat) : Int)), c1, c2, .dat (.str x), .dat (.str y), .no, .no, .no] ∧ ms = [] ∧ x ∈ os ∧ y ∈ os ∧ x ≠ y)
      (fun _ G4 H4 L A4 hL => ?_) (fun _ => ⟨_, _, _, _, rfl, rfl, List.getElem_mem hal, List.getElem_mem hbl, pick hal hbl hne0⟩) fun ds ms σ4 G4 H4 j A4 => ?_
    · have hkm : k % (os.length - 1) < os.length - 1 := Nat.mod_lt _ (by omega)
      have h1 : k % (os.length - 1) < os.length := by omega
      have h2 : k % (os.length - 1) + 1 < os.length := by omega
      refine q_set A4 (c := .dat (.int ((k % (os.length - 1) : Nat) : Int))) (EvC.to (ev_mod (i := ((k : Nat) : Int)) (j := ((os.length : Nat) : Int) - 1) (ev_var rfl) (ev_sub (len rfl) ev_int) (by omega)) (by rw [show ((os.length : Nat) : Int) - 1 = ((os.length - 1 : Nat) : Int) by omega, ← Int.natCast_emod])) fun σ5 G5 H5 A5 => ?_
      refine s_par A5 (el_cons (ev_ixLn (xs := strsD os) (ev_var (i := 1) rfl) (ev_var rfl) (smap_at (List.getElem?_eq_getElem h1))) (el_cons (ev_ixLn (j := k % (os.length - 1) + 1) (xs := strsD os) (ev_var (i := 1) rfl) (EvC.to (ev_add (ev_var rfl) ev_int) rfl) (smap_at (List.getElem?_eq_getElem h2))) el_nil)) fun σ6 G6 H6 A6 => ?_
      exact hL _ _ _ _ _ ⟨_, _, _, _, rfl, rfl, List.getElem_mem h1, List.getElem_mem h2, pick h1 h2 (by omega)⟩ A6
    · obtain ⟨c1, c2, x, y, rfl, rfl, hx, hy, hxy⟩ := j
      refine q_ifRJ A4 (etr_T (ev_opR (r := rEq) (Θ := fun d => ∃ b, d = .bool b) (evr_take (n := 6) (ev_var rfl) (el_cons ev_int el_nil) (by decide) (by decide +kernel)) (EvC.r (d := .int 0) ev_int) fun x y ⟨i, e, _⟩ e2 => by subst e; subst e2; exact ⟨_, ⟨_, rfl⟩, od_eqI⟩) fun d h => h)
        (fun ds ms => ∃ (c1 c2 : SC) (x y : Str), ds = [.ref sa, .dat (.list (strsD os)), .dat (.int ((k : Nat) : Int)), c1, c2, .dat (.str x), .dat (.str y), .no, .no, .no] ∧ ms = [] ∧ x ∈ os ∧ y ∈ os ∧ x ≠ y)
        (fun _ G5 H5 L A5 hL => ?_) (fun _ => ⟨_, _, _, _, rfl, rfl, hx, hy, hxy⟩) fun ds ms σ5 G5 H5 j A5 => ?_
      · refine s_par A5 (el_cons (ev_var (i := 6) rfl) (el_cons (ev_var (i := 5) rfl) el_nil)) fun σ6 G6 H6 A6 => ?_
        exact hL _ _ _ _ _ ⟨_, _, _, _, rfl, rfl, hy, hx, fun z => hxy z.symm⟩ A6
      · obtain ⟨c1, c2, x, y, rfl, rfl, hx, hy, hxy⟩ := j
        refine q_setR A5 (evr_amount (n := 0) (ev_var rfl) (el_cons ev_int el_nil) (by decide) (by decide)) fun d σ6 G6 H6 hd A6 => ?_
        obtain ⟨ln, rfl, hln1, hln2, _⟩ := hd
        refine q_setR (Φ := fun d => ∃ q : Rat, d = .list ([some 1, some 1, some 2, some q, none].map optD) ∧ 0 < q ∧ Bd 1 q) A6 ((evr_lst (elr_cons (EvC.r (EvC.to (ev_tup (el_cons ev_int (el_cons ev_int el_nil))) (congrArg SC.dat fr_one))) (elr_cons (EvC.r (EvC.to (ev_tup (el_cons ev_int (el_cons ev_int el_nil))) (congrArg SC.dat fr_one))) (elr_cons (EvC.r (EvC.to (ev_tup (el_cons ev_int (el_cons ev_int el_nil))) (congrArg SC.dat fr_two))) (elr_cons (evr_amount (n := 1) (ev_var rfl) (el_cons ev_int el_nil) (by decide) (by decide)) (elr_cons (EvC.r ev_non) elr_nil))))) fun dl h => by
            obtain ⟨_, _, rfl, _, _, _, rfl, _, _, _, rfl, _, _, _, rfl, _, _, _, rfl, _, rfl⟩ := h
            exact Nat.le_of_ble_eq_true rfl).imp fun d ⟨dl, e, h⟩ => by
              obtain ⟨_, _, rfl, rfl, _, _, rfl, rfl, _, _, rfl, rfl, _, _, rfl, ⟨q, rfl, h1, h2, h3⟩, _, _, rfl, rfl, rfl⟩ := h
              exact ⟨q, e, h3.1 (by decide), h1⟩) fun d σ7 G7 H7 hd A7 => ?_
        obtain ⟨qw, rfl, hq0, hqb⟩ := hd
        refine q_setR (Φ := WorthD) A7 (ev_opR (r := rIxL K) (EvC.r (d := .list ([some 1, some 1, some 2, some qw, none].map optD)) (ev_var rfl)) (evr_ixL (xs := [0, 0, 1, 1, 2, 3, 3, 4].map fun n : Nat => PyData.int ((n : Nat) : Int)) (n := 8) (ev_lst (dl := [.int 0, .int 0, .int 1, .int 1, .int 2, .int 3, .int 3, .int 4]) (el_cons ev_int (el_cons ev_int (el_cons ev_int (el_cons ev_int (el_cons ev_int (el_cons ev_int (el_cons ev_int (el_cons ev_int el_nil))))))))) (evr_take (n := 8) (ev_var rfl) (el_cons ev_int el_nil) (by decide) (by decide +kernel)) (by decide)) fun x y e1 hy => ?_) fun d σ8 G8 H8 hd A8 => ?_
        · subst e1
          obtain ⟨n, hn, rfl⟩ := List.mem_map.mp hy
          have hn5 : n < 5 := by
            simp only [List.mem_cons, List.mem_singleton, List.not_mem_nil, or_false] at hn
            omega
          have w1 : WorthD (optD (some 1)) := ⟨some 1, rfl, fun q e => by cases e; exact ⟨by decide +kernel, bd_one⟩⟩
          rcases n with _ | _ | _ | _ | _ | n
          · exact ⟨_, w1, od_ixL (atI_nat (j := 0) rfl)⟩
          · exact ⟨_, w1, od_ixL (atI_nat (j := 1) rfl)⟩
          · exact ⟨_, ⟨some 2, rfl, fun q e => by cases e; exact ⟨by decide +kernel, bd_two⟩⟩, od_ixL (atI_nat (j := 2) rfl)⟩
          · exact ⟨_, ⟨some qw, rfl, fun q e => by cases e; exact ⟨hq0, hqb⟩⟩, od_ixL (atI_nat (j := 3) rfl)⟩
          · exact ⟨_, ⟨none, rfl, fun q e => by cases e⟩, od_ixL (atI_nat (j := 4) rfl)⟩
          · omega
        · obtain ⟨wo, rfl, hwo⟩ := hd
          refine s_retR A8 (evr_tup (elr_cons (EvC.r (d := .str x) (ev_var rfl)) (elr_cons (EvC.r (d := .str y) (ev_var rfl)) (elr_cons (evr_ixL (xs := [.str "one", .str "both"]) (n := 2) (ev_lst (el_cons ev_str (el_cons ev_str el_nil))) (evr_take (n := 2) (ev_var rfl) (el_cons ev_int el_nil) (by decide) (by decide +kernel)) (Nat.le_refl _)) (elr_cons (EvC.r (d := frD ln) (ev_var rfl)) (elr_cons (EvC.r (d := optD wo) (ev_var rfl)) elr_nil))))) fun dl h => by
            obtain ⟨_, _, rfl, _, _, _, rfl, _, _, _, rfl, _, _, _, rfl, _, _, _, rfl, _, rfl⟩ := h
            exact Nat.le_of_ble_eq_true rfl) fun v G' H' d st so iv hd => q v G' H' d st (so sa rfl) iv ?_
          obtain ⟨dl, rfl, _, _, rfl, rfl, _, _, rfl, rfl, dw, _, rfl, hw, _, _, rfl, rfl, _, _, rfl, rfl, rfl⟩ := hd
          have tk : ∀ b, TieOk ps ⟨x, y, b, ln, wo⟩ := fun b => ⟨ho.sub x hx, ho.sub y hy, hxy, hln2, hln1, fun q e => (hwo q e).1, fun q e => (hwo q e).2⟩
          rcases List.mem_cons.mp hw with rfl | hw
          · exact ⟨⟨x, y, false, ln, wo⟩, rfl, tk _⟩
          · cases List.mem_singleton.mp hw
            exact ⟨⟨x, y, true, ln, wo⟩, rfl, tk _⟩
end
end Fc
namespace Fc
open PySem PySem.Spec PyProof.Rows L2 Sy
section
variable {P : Program} {w : World} {K : Fg} {mg : Str → Option Value} {base : Heap} {C : Addr}
variable {s : Option Addr} {mu : Addr → Prop} {G0 H0 G H : Hp} {gs : List Hp} {ds : List SC} {ms : List (Addr × MO)} {σ : L2.St} {D : Ends} {t tr t1 t2 : TA} {ta tb te ti to : TE} {tt : TT} {u tz ts : TS} {E E' : XK} {sa p : Addr}
theorem redat {i : Nat} {d : Sy.D} (A : At K s mu G0 H0 gs ds ms σ G H) (h : ds[i]? = some (.ref p)) (hp : Is K G (.ref p) d) : At K s mu G0 H0 gs (ds.set i (.dat d)) ms σ G H := by
  have A1 := A.slot (i := i) (c := .dat d) (CP.dat hp)
  obtain ⟨o, e, h1⟩ := pget A.kn.sl h
  have h1 : o = some (.ref p) := h1
  subst h1
  have : σ.set i (some (.ref p)) = σ := by
    refine List.ext_getElem? fun j => ?_
    by_cases hj : i = j
    · subst hj
      rw [List.getElem?_set_self (List.getElem?_eq_some_iff.mp e).1, e]
    · rw [List.getElem?_set_ne hj]
  rw [this] at A1
  exact A1
theorem evr_ltie {ns : List Int} {n k : Nat} {os ps : List Str} (hb : EvL K s t1 ds ms [scrD ns, .int ((n : Nat) : Int)]) (ho : EvL K s t2 ds ms [.list (strsD os), .int ((k : Nat) : Int)]) (hn : n ≤ 1000) (hz : ns.length ≤ 1000) (hor : OrdOk ps os) (hk : k ≤ 1000) : EvR K s (tCall (spLTie K) [] E (tCons (tCall (spBegun K) [] E' t1) t2)) ds ms (fun d => ∃ t, d = tieD t ∧ TieOk ps t) := fun σ G H kn Q q =>
  hb σ G H kn _ fun vs G1 H1 a1 o1 x1 => by
    have k1 := kn.step a1 o1
    refine ⟨ns, n, G1, a1.gh, by rw [List.append_nil]; exact x1, hn, hz, fun sa G2 H2 a2 hs gs' hst => ?_⟩
    have k2 := k1.step a2.of0 (k1.stO a2)
    refine ho σ G2 H2 k2 _ fun ws G3 H3 a3 o3 x3 => ?_
    have ns' : ¬ isS s sa := fun e => by
      obtain ⟨n, m, b, e1, _⟩ := k1.vo sa e
      rw [hs] at e1
      cases e1
    have st3 : StAt H3 sa := by
      obtain ⟨n, m, b, e1, r⟩ := hst
      exact ⟨n, m, b, a3.hh sa _ ns' e1, r⟩
    have g3 : G3 sa = none := a3.nw sa gs' (by
      obtain ⟨n, m, b, e1, _⟩ := hst
      rw [e1]
      exact fun z => nomatch z)
    have a13 : Stp (isS s) G H G3 H3 := (a1.trans a2.of0).trans a3
    refine ⟨(ps, os, k), G3, sa, ws, by rw [List.append_nil], a3.gh, g3, st3, x3, ⟨hor, hk⟩, fun v G4 H4 d a4 st4 x4 p4 => q v G4 H4 d ?_ (fun b e => ?_) x4 p4⟩
    · refine ⟨a13.gg.trans a4.gg, a4.gh, fun c u n h => a4.hh c u (fun z => ?_) (a13.hh c u n h), fun c h n => a4.nw c (a13.nw c h n) (a13.st c n), fun c n => a4.st c (a13.st c n)⟩
      cases (show some sa = some c from z)
      have := a1.hh sa u n h
      rw [hs] at this
      cases this
    · obtain ⟨n, m, t, e1, r⟩ := o3 b e
      refine ⟨n, m, t, a4.hh b _ (fun z => ?_) e1, r⟩
      cases (show some sa = some b from z)
      exact ns' e
theorem s_shuf {j : Nat} {xs : List Sy.D} (ho : H0 p = none ∨ mu p) (A : At K s mu G0 H0 gs ds ms σ G H) (ha : EvC K s to ds ms (.ref p)) (hi : ms[j]? = some (p, .lst xs)) (hn : EvR K s te ds ms (fun d => ∃ n : Nat, d = .int ((n : Nat) : Int) ∧ n < xs.length)) (hz : xs.length ≤ 500) (k : ∀ n x G' H', xs[n]? = some x → At K s mu G0 H0 gs ds (ms.set j (p, .lst (xs.eraseIdx n ++ [x]))) σ G' H' → D.nx σ H') :
    tDrop (tBM K "list" rAppend to (tCons (tBM K "list" rPopAt to (tCons te tNil)) tNil)) D σ H :=
  ha σ G H A.kn _ fun v G1 H1 a1 o1 x1 => by
    have A1 := A.step a1 o1
    cases x1.ref
    obtain ⟨vs, e1, h1⟩ := A1.kn.get (List.mem_of_getElem? hi)
    refine ⟨tyV_lst e1, ha σ G1 H1 A1.kn _ fun v2 G2 H2 a2 o2 x2 => ?_⟩
    have A2 := A1.step a2 o2
    cases x2.ref
    obtain ⟨vs, e1, h1⟩ := A2.kn.get (List.mem_of_getElem? hi)
    refine ⟨tyV_lst e1, hn σ G2 H2 A2.kn _ fun w G3 H3 d a3 o3 x3 p3 => ?_⟩
    have A3 := A2.step a3 o3
    obtain ⟨vs, e1, h1⟩ := A3.kn.get (List.mem_of_getElem? hi)
    obtain ⟨n, rfl, hnl⟩ := p3
    cases x3
    have hx : xs[n]? = some xs[n] := List.getElem?_eq_getElem hnl
    obtain ⟨v, ev, hv⟩ := h1.get hx
    have hl := (List.getElem?_eq_some_iff.mp ev).1
    have hlen := h1.length
    refine ⟨p, vs, n, n, v, rfl, rfl, e1, Int.le_trans (by decide) (Int.natCast_nonneg n), by omega, ?_, ev, ?_⟩
    · have := seqIndex_of (k := ((n : Nat) : Int)) (n := vs.length) (Int.natCast_nonneg n) (by omega)
      rw [Int.toNat_natCast] at this
      exact this
    · have A4 := A3.write (m' := .lst (xs.eraseIdx n)) ho hi ⟨_, upd_same, h1.eraseIdx n⟩
      have hj : j < ms.length := (List.getElem?_eq_some_iff.mp hi).1
      have hi4 : (ms.set j (p, MO.lst (xs.eraseIdx n)))[j]? = some (p, .lst (xs.eraseIdx n)) := List.getElem?_set_self hj
      obtain ⟨vs4, e4, h4⟩ := A4.kn.get (List.mem_of_getElem? hi4)
      have hle := h4.length
      have hle2 : (xs.eraseIdx n).length ≤ xs.length := List.length_eraseIdx_le _ _
      have A5 := A4.write (m' := .lst (xs.eraseIdx n ++ [xs[n]])) ho hi4 ⟨_, upd_same, h4.snoc hv⟩
      rw [List.set_set] at A5
      exact ⟨p, vs4, v, rfl, rfl, e4, small1000 (by omega), k n xs[n] _ _ hx A5⟩
theorem ev_neg {i : Int} (h : EvD K s te ds ms (.int i)) : EvD K s (tUn (rU fun i => .int (-i)) te) ds ms (.int (-i)) := fun σ G H k Q q => h σ G H k _ fun v G1 H1 a1 o1 x1 => by
  cases x1.is
  exact ⟨i, rfl, q _ G1 H1 a1 o1 (.dat (.int _))⟩
theorem map_eraseG {α β : Type} (f : α → β) : ∀ (l : List α) (j : Nat), (l.map f).eraseIdx j = (l.eraseIdx j).map f
  | [], _ => rfl
  | _ :: _, 0 => rfl
  | n :: r, j + 1 => by
    show f n :: (r.map f).eraseIdx j = f n :: (r.eraseIdx j).map f
    rw [map_eraseG f r j]
theorem erase_perm : ∀ (l : List Str) (n : Nat) (x : Str), l[n]? = some x → (x :: l.eraseIdx n).Perm l
  | [], n, x, h => by simp at h
  | a :: r, 0, x, h => by
    have : a = x := by simpa using h
    subst this
    exact .refl _
  | a :: r, n + 1, x, h => by
    have ih := erase_perm r n x (by simpa using h)
    exact (List.Perm.swap a x _).trans (ih.cons a)
theorem shuf_perm {os : List Str} {n : Nat} {x : Str} (h : os[n]? = some x) : (os.eraseIdx n ++ [x]).Perm os := by
  exact (List.perm_append_singleton _ _).trans (erase_perm os n x h)
theorem paired_tie {ps : List Str} : ∀ {es dl : List Sy.D}, Paired (fun _ d => ∃ t, d = tieD t ∧ TieOk ps t) es dl → ∃ ts : List Tie, dl = ts.map tieD ∧ ts.length = es.length ∧ ∀ t ∈ ts, TieOk ps t
  | [], _, h => by
    cases h
    exact ⟨[], rfl, rfl, fun t h => absurd h (by simp)⟩
  | e :: es, _, h => by
    cases h with
    | cons h1 h2 =>
      obtain ⟨t, rfl, ht⟩ := h1
      obtain ⟨ts, rfl, hl, hm⟩ := paired_tie h2
      exact ⟨t :: ts, rfl, by rw [List.length_cons, List.length_cons, hl], fun x hx => (List.mem_cons.mp hx).elim (fun e => e ▸ ht) (hm x)⟩
abbrev s__law_web : Stmt := topS 88
theorem sc__law_web : FnScope ["_law_script", "_law_most_places", "_law_most_ties", "_law_state", "_law_places", "_law_order", "_law_k", "_law_many", "_law_ties"] ["_law_script", "_law_most_places", "_law_most_ties"] (defScope s__law_web) := ⟨rfl, rfl, rfl, by decide +kernel, rfl, by decide +kernel, by decide +kernel⟩

def WebRes (d : Sy.D) : Prop := ∃ W, d = webD W ∧ WebOk W ∧ W.ties.length ≤ 11
def spLWebL (K : Fg) : Sp := SpD K (fun ns : List Int => [scrD ns, .int 7, .int 11]) (fun ns => ns.length ≤ 1000) (fun _ d => WebRes d)
theorem ok__law_web {f : Addr} {fd : FuncData} (F : Fun K "_law_web" "_law_web" s__law_web f fd) (B : Bl mg) (c__law_begun : Cal P w K mg base "_law_begun" 1 ["_law_script", "_law_k"] (spBegun K)) (c__law_names : Cal P w K mg base "_law_names" 2 ["_law_state", "_law_many"] (spNames K)) (c__law_take : Cal P w K mg base "_law_take" 1 ["_law_state", "_law_many"] (spTake K)) (c__law_tie : Cal P w K mg base "_law_tie" 3 ["_law_state", "_law_order", "_law_k"] (spLTie K)) : FnOk P w K mg base CX0 4 f fd ["_law_script", "_law_most_places", "_law_most_ties"] (spLWebL K) := by
  refine F.ok sc__law_web (fun vs H Q E h => ?_) (fun cdv A outer s H vs Q E hr h => ?_)
  · obtain ⟨a, G, hg, hI, hp, q⟩ := h
    exact hI.length
  · obtain ⟨ns, G, hg, hI, hz, q⟩ := h
    have hz : ns.length ≤ 1000 := hz
    have hL : 1000 < LN := by decide +kernel
    have A0 := at_start (K := K) (N := ["_law_script", "_law_most_places", "_law_most_ties", "_law_state", "_law_places", "_law_order", "_law_k", "_law_many", "_law_ties"]) (ds := [.dat (scrD ns), .dat (.int 7), .dat (.int 11), .no, .no, .no, .no, .no, .no]) hg hI
    refine ⟨_, (pss_cons (ps_set (i := 3) sc__law_web.nd rfl (Or.inl rfl) (p_call c__law_begun (hr.mono (by first | exact Nat.le_refl _ | omega)) (pa_cons (pv 0) (pa_cons pe_int pa_nil))))
      (pss_cons (ps_set (i := 4) sc__law_web.nd rfl (Or.inl rfl) (p_call c__law_names (hr.mono (by first | exact Nat.le_refl _ | omega)) (pa_cons (pv 3) (pa_cons (pe_op o_add pe_int (p_call c__law_take (hr.mono (by first | exact Nat.le_refl _ | omega)) (pa_cons (pv 3) (pa_cons (pe_op o_sub (pv 1) pe_int) pa_nil)))) pa_nil))))
      (pss_cons (ps_set (i := 5) sc__law_web.nd rfl (Or.inr rfl) (pe_callTy (w_listof (K := K)) (by rfl) B.list_ (by decide +kernel) (pa_cons (pv 4) pa_nil)))
      (pss_cons (ps_for PassesOwn.never rfl (pi_range1 (by rfl) B.range_ (pa_cons (pe_callB (w_len (K := K)) (by rfl) B.len_ PySem.boot_len (pa_cons (pv 5) pa_nil)) pa_nil)) (pg_name (i := 6) sc__law_web.nd rfl (Or.inl rfl)) (pss_one (ps_expr (w_bm (K := K) PySem.F.plainAttrs_list PySem.F.slot_list_append PySem.F.type_list_append mt_append (pv 5) (pa_cons (w_bm (K := K) PySem.F.plainAttrs_list PySem.F.slot_list_pop PySem.F.type_list_pop mt_popAt (pv 5) (pa_cons (p_call c__law_take (hr.mono (by first | exact Nat.le_refl _ | omega)) (pa_cons (pv 3) (pa_cons (pe_op o_sub (pe_callB (w_len (K := K)) (by rfl) B.len_ PySem.boot_len (pa_cons (pv 5) pa_nil)) (pv 6)) pa_nil))) pa_nil)) pa_nil)))))
      (pss_cons (ps_set (i := 7) sc__law_web.nd rfl (Or.inl rfl) (pe_ix (w_ixL (K := K)) (pe_lst (pa_cons (p_call c__law_take (hr.mono (by first | exact Nat.le_refl _ | omega)) (pa_cons (pv 3) (pa_cons (pe_op o_add (pv 2) pe_int) pa_nil))) (pa_cons (pv 2) (pa_cons (pe_op o_sub (pv 2) pe_int) pa_nil)))) (p_call c__law_take (hr.mono (by first | exact Nat.le_refl _ | omega)) (pa_cons (pv 3) (pa_cons pe_int pa_nil))) (fun _ _ => rfl)))
      (pss_cons (ps_setLc (i := 8) (own := [("_law_k", 6)]) (g := gName 6) (tt := tYes) rfl sc__law_web.nd rfl rfl (sw_true rfl rfl rfl (by decide +kernel)) (pi_range1 (by rfl) B.range_ (pa_cons (pv 7) pa_nil)) (blkOk_by (own := [("_law_k", 6)]) (N := ["_law_script", "_law_most_places", "_law_most_ties", "_law_state", "_law_places", "_law_order", "_law_k", "_law_many", "_law_ties"]) (sc := defScope s__law_web) (by decide +kernel)) (fun _ _ _ _ _ => (pg_name (i := 6) sc__law_web.nd rfl (Or.inl rfl))) (fun _ _ _ _ _ => pts_nil) (fun _ _ _ _ _ => (p_call c__law_tie (hr.mono (by first | exact Nat.le_refl _ | omega)) (pa_cons (p_call c__law_begun (hr.mono (by first | exact Nat.le_refl _ | omega)) (pa_cons (pv 0) (pa_cons (pe_op o_add pe_int (pv 6)) pa_nil))) (pa_cons (pv 5) (pa_cons (pv 6) pa_nil))))))
      (pss_one (ps_ret (pe_tup (pa_cons (pv 4) (pa_cons (pv 8) (pa_cons (pe_ix (w_ixL (K := K)) (pv 5) pe_int (fun _ _ => rfl)) (pa_cons (pe_ix (w_ixL (K := K)) (pv 5) (pe_un un_neg pe_int) (fun _ _ => rfl)) pa_nil))))))))))))), ?_⟩
    refine q_begun (n := 0) A0 (el_cons (ev_var rfl) (el_cons ev_int el_nil)) (by omega) hz fun sa σ1 G1 H1 A1 => ?_
    refine q_setR (Φ := fun d => ∃ n, 2 ≤ n ∧ n ≤ 7 ∧ NamesOk n d) A1 ((evr_callSR (enc := fun n : Nat => [.int ((n : Nat) : Int)]) (pre := fun n => n ≤ 7) (post := NamesOk) (ev_var rfl) (elr_cons (evr_opI0 (g := fun i j => i + j) (Φ := fun i => i = 2) (Ψ := fun j => 0 ≤ j ∧ j < 6) (EvC.rI ev_int) ((evr_take (n := 6) (ev_var rfl) (el_cons (EvC.to (ev_sub (i := 7) (j := 1) (ev_var rfl) ev_int) rfl) el_nil) (by decide) (by decide +kernel)).imp fun d ⟨i, e, h⟩ => ⟨_, e, Int.natCast_nonneg _, h⟩)) elr_nil) fun dl h => ?_).imp fun d hd => ?_) fun d σ2 G2 H2 hd A2 => ?_
    · obtain ⟨d, r, rfl, ⟨r', rfl, i, j, rfl, ⟨h1, h2⟩, rfl⟩, rfl⟩ := h
      refine ⟨(2 + j).toNat, ?_, by show (2 + j).toNat ≤ 7; omega⟩
      show [PyData.int (2 + j)] = [.int (((2 + j).toNat : Nat) : Int)]
      rw [Int.toNat_of_nonneg (by omega)]
    · obtain ⟨a, ⟨d', r, e1, ⟨r', rfl, i, j, rfl, ⟨h1, h2⟩, rfl⟩, rfl⟩, hpo⟩ := hd
      have e2 : ((a : Nat) : Int) = 2 + j := PyData.int.inj (List.cons.inj e1).1
      exact ⟨a, by omega, by omega, hpo⟩
    obtain ⟨n, hn2, hn7, ps, rfl, hpl, hpn, hpk⟩ := hd
    refine q_new A2 (en_listof (ev_var rfl)) fun od dl σ3 G3 H3 hdl hod A3 => ?_
    subst hdl
    have A3 : At K (some sa) mu0 G H [] [.dat (scrD ns), .dat (.int 7), .dat (.int 11), .ref sa, .dat (.list (strsD ps)), .ref od, .no, .no, .no] [(od, .lst (strsD ps))] σ3 G3 H3 := A3
    refine q_for A3 (it_nats (n := n) (EvL.to (el_cons (ev_lenM (p := od) (xs := strsD ps) (ev_var rfl) List.mem_cons_self) el_nil) (by unfold strsD; rw [List.length_map, hpl])) (by omega)) (fun i e he => tg_name)
      (fun i ds ms => ∃ (os : List Str) (c : SC), ds = [.dat (scrD ns), .dat (.int 7), .dat (.int 11), .ref sa, .dat (.list (strsD ps)), .ref od, c, .no, .no] ∧ ms = [(od, .lst (strsD os))] ∧ os.Perm ps) ⟨ps, .no, rfl, rfl, .refl _⟩ (fun _ _ _ _ _ => trivial) (fun gs i e ds ms σ4 G4 H4 L he j A4 hL => ?_) fun ds ms σ4 G4 H4 j A4 => ?_
    · obtain ⟨os, c, rfl, rfl, hperm⟩ := j
      obtain ⟨k, hk, rfl⟩ := natsD_get he
      obtain ⟨hi, rfl⟩ := range_get hk
      have hol : os.length = n := by rw [hperm.length_eq, hpl]
      have hsl : (strsD os).length = n := by unfold strsD; rw [List.length_map, hol]
      refine s_shuf (j := 0) (p := od) (xs := strsD os) (.inl hod) A4 (ev_var rfl) rfl ((evr_take (n := ((n : Nat) : Int) - ((k : Nat) : Int)) (ev_var rfl) (el_cons (ev_sub (EvC.to (ev_lenM (p := od) (xs := strsD os) (ev_var rfl) List.mem_cons_self) (by rw [hsl])) (ev_var rfl)) el_nil) (by omega) (by omega)).imp fun d ⟨i, e, h⟩ => ⟨i, e, by rw [hsl]; omega⟩) (by omega) fun m x G5 H5 hx A5 => ?_
      obtain ⟨y, hy, rfl⟩ := smap_get hx
      refine hL _ _ _ _ _ ⟨os.eraseIdx m ++ [y], _, rfl, ?_, (shuf_perm hy).trans hperm⟩ A5
      show [(od, MO.lst ((strsD os).eraseIdx m ++ [.str y]))] = _
      unfold strsD
      rw [map_eraseG, List.map_append]
      rfl
    · obtain ⟨os, c, rfl, rfl, hperm⟩ := j
      have hol : os.length = n := by rw [hperm.length_eq, hpl]
      have hos : os.Nodup := hperm.symm.nodup hpn
      have hor : OrdOk ps os := ⟨hos, by omega, by omega, fun x hx => hperm.mem_iff.mp hx⟩
      refine q_setR (Φ := fun d => ∃ m : Nat, d = .int ((m : Nat) : Int) ∧ m ≤ 11) A4 (ev_opR (r := rIxL K) (Φ := fun d => ∃ m : Nat, m ≤ 11 ∧ d = .list [.int ((m : Nat) : Int), .int 11, .int 10]) ((evr_lst (elr_cons (evr_take (n := 12) (ev_var rfl) (el_cons (EvC.to (ev_add (i := 11) (j := 1) (ev_var rfl) ev_int) rfl) el_nil) (by decide) (by decide +kernel)) (elr_cons (EvC.r (d := .int 11) (ev_var rfl)) (elr_cons (EvC.r (EvC.to (ev_sub (i := 11) (j := 1) (ev_var rfl) ev_int) (show _ = SC.dat (.int 10) from rfl))) elr_nil))) fun dl h => by
          obtain ⟨_, _, rfl, _, _, _, rfl, _, _, _, rfl, _, rfl⟩ := h
          exact Nat.le_of_ble_eq_true rfl).imp fun d ⟨dl, e, h⟩ => by
            obtain ⟨_, _, rfl, ⟨m, rfl, hm⟩, _, _, rfl, rfl, _, _, rfl, rfl, rfl⟩ := h
            exact ⟨m, by omega, e⟩) (evr_take (n := 3) (ev_var rfl) (el_cons ev_int el_nil) (by decide) (by decide +kernel)) fun x y ⟨m, hm, e1⟩ ⟨i, e2, hi⟩ => ?_) fun d σ5 G5 H5 hd A5 => ?_
      · subst e1
        subst e2
        have hi3 : i < 3 := by omega
        rcases i with _ | _ | _ | i
        · exact ⟨_, ⟨m, rfl, hm⟩, od_ixL (atI_nat (j := 0) rfl)⟩
        · exact ⟨_, ⟨11, rfl, by omega⟩, od_ixL (atI_nat (j := 1) rfl)⟩
        · exact ⟨_, ⟨10, rfl, by omega⟩, od_ixL (atI_nat (j := 2) rfl)⟩
        · omega
      · obtain ⟨m, rfl, hm⟩ := hd
        obtain ⟨G6, A6, i6, _⟩ := A5.freeze (p := od) (xs := strsD os) List.mem_cons_self hod
        have A6 := redat (i := 5) A6 rfl i6
        have A6 := A6.sub (ms' := []) (List.nil_sublist _)
        have A6 : At K (some sa) mu0 G H [] [.dat (scrD ns), .dat (.int 7), .dat (.int 11), .ref sa, .dat (.list (strsD ps)), .dat (.list (strsD os)), c, .dat (.int ((m : Nat) : Int)), .no] [] σ5 G6 H5 := A6
        refine q_setR (Φ := fun d => ∃ ts : List Tie, d = .list (ts.map tieD) ∧ ts.length = m ∧ ∀ t ∈ ts, TieOk ps t) A6 ((EvN.r (en_lc (p := fun _ => true) (Φ := fun _ d => ∃ t, d = tieD t ∧ TieOk ps t) (it_nats (n := m) (el_cons (ev_var rfl) el_nil) (by omega)) trivial (fun i e he => tw_name) (fun i e he => et_yes) (fun i e he _ => ?_) (by rw [natsD_len, List.length_range]; omega))).imp fun d ⟨dl, e, hpd⟩ => ?_) fun d σ7 G7 H7 hd A7 => ?_
        · obtain ⟨k, hk, rfl⟩ := natsD_get he
          obtain ⟨hi, rfl⟩ := range_get hk
          exact evr_ltie (ns := ns) (n := 1 + k) (k := k) (os := os) (ps := ps) (el_cons (ev_var rfl) (el_cons (EvC.to (ev_add (i := 1) (j := ((k : Nat) : Int)) ev_int (ev_var rfl)) (by rw [Int.natCast_add]; rfl)) el_nil)) (el_cons (ev_var rfl) (el_cons (ev_var rfl) el_nil)) (by omega) hz hor (by omega)
        · rw [filter_all] at hpd
          obtain ⟨ts, e2, hl, ht⟩ := paired_tie hpd
          exact ⟨ts, by rw [e, e2], by rw [hl, natsD_len, List.length_range], ht⟩
        · obtain ⟨ts, rfl, htl, hts⟩ := hd
          have h0 : 0 < os.length := by omega
          have hne : os ≠ [] := fun z => by rw [z] at h0; exact absurd h0 (by simp)
          have hlast : atI (strsD os) (-1) = some (.str (os.getLast hne)) := by
            have e := List.dropLast_concat_getLast hne
            have e2 : strsD os = strsD os.dropLast ++ [.str (os.getLast hne)] := by
              unfold strsD
              rw [← List.map_singleton, ← List.map_append, e]
            rw [e2]
            exact atI_last _ _
          have A7 : At K (some sa) mu0 G H [] [.dat (scrD ns), .dat (.int 7), .dat (.int 11), .ref sa, .dat (.list (strsD ps)), .dat (.list (strsD os)), c, .dat (.int ((m : Nat) : Int)), .dat (.list (ts.map tieD))] [] σ7 G7 H7 := A7
          refine s_retD A7 (ev_tup (dl := [.list (strsD ps), .list (ts.map tieD), .str os[0], .str (os.getLast hne)]) (el_cons (ev_var rfl) (el_cons (ev_var rfl) (el_cons (ev_ixL0 (xs := strsD os) (ev_var rfl) (smap_at (List.getElem?_eq_getElem h0))) (el_cons (ev_ixL (xs := strsD os) (ev_var rfl) (ev_neg ev_int) hlast) el_nil))))) fun v G' H' st iv => q v G' H' _ st iv ⟨⟨ps, ts, os[0], os.getLast hne⟩, rfl, ⟨by show 2 ≤ ps.length; omega, by show ps.length ≤ 7; omega, hpn, hpk, ?_, hts, ?_, ?_, ?_⟩, ?_⟩
          · show ts.length ≤ 14
            omega
          · exact hor.sub _ (List.getElem_mem h0)
          · exact hor.sub _ (List.getLast_mem hne)
          · show os.getLast hne ≠ os[0]
            rw [List.getLast_eq_getElem]
            intro z
            have := nd_ix hos (List.getElem?_eq_getElem (show os.length - 1 < os.length by omega)) (by rw [z]; exact List.getElem?_eq_getElem h0)
            omega
          · show ts.length ≤ 11
            omega
end
end Fc
namespace Fc
open PySem PySem.Spec PyProof.Rows L2 Sy
/-! the cheapest first -/
def cheapL : Nat → List Rat → List Rat
  | 0, _ => []
  | n + 1, l => leastR l :: cheapL n (l.erase (leastR l))
theorem cheapL_len : ∀ (n : Nat) (l : List Rat), (cheapL n l).length = n
  | 0, _ => rfl
  | n + 1, l => by
    show (cheapL n _).length + 1 = n + 1
    rw [cheapL_len n]
theorem cheapL_mem : ∀ (n : Nat) (l : List Rat), l.length = n → ∀ x ∈ cheapL n l, x ∈ l
  | 0, _, _, x, h => absurd h (by simp [cheapL])
  | n + 1, l, hn, x, h => by
    have hl : l ≠ [] := fun z => by rw [z] at hn; cases hn
    have hm := leastR_mem hl
    rcases List.mem_cons.mp h with rfl | h
    · exact hm
    · exact List.mem_of_mem_erase (cheapL_mem n (l.erase (leastR l)) (by rw [List.length_erase_of_mem hm, hn]; rfl) x h)
theorem once_le {p : Rat} : ∀ (n : Nat) (l : List Rat) (sp : Rat) (m j : Nat), (j < n → p < sp + sumR ((cheapL n l).take (j + 1))) → atOnceL p n l sp m ≤ m + j
  | 0, l, sp, m, j, _ => by
    show m ≤ m + j
    omega
  | n + 1, l, sp, m, j, h => by
    show (if p < sp + leastR l then m else atOnceL p n (l.erase (leastR l)) (sp + leastR l) (m + 1)) ≤ m + j
    split
    · omega
    · rename_i hc
      cases j with
      | zero =>
        have := h (by omega)
        rw [show (cheapL (n + 1) l).take (0 + 1) = [leastR l] from rfl, sumR_cons, sumR_nil, Rat.add_zero] at this
        exact absurd this hc
      | succ j =>
        have := once_le n (l.erase (leastR l)) (sp + leastR l) (m + 1) j (p := p) fun hj => by
          have h1 := h (by omega)
          rw [show (cheapL (n + 1) l).take (j + 1 + 1) = leastR l :: (cheapL n (l.erase (leastR l))).take (j + 1) from rfl, sumR_cons, ← Rat.add_assoc] at h1
          exact h1
        omega
def cheap (W : Web) : List Rat := cheapL (worths W).length (worths W)
theorem cheap_bd {W : Web} (h : WB W) : ∀ q ∈ cheap W, Bd 1 q ∧ 0 < q := fun q hq => by
  have := cheapL_mem _ _ rfl q hq
  exact ⟨worths_bd h q this, worths_pos h q this⟩
theorem cheap_len {W : Web} (h : WB W) : (cheap W).length ≤ 14 := by
  unfold cheap
  rw [cheapL_len]
  exact Nat.le_trans (List.length_filterMap_le _ _) h.1
/-- a part of the next one -/
theorem part_lt {q : Rat} (hq : 0 < q) {part : Nat} (hp : part < 4) : 0 ≤ mkRat (q.num * ((part : Nat) : Int)) (q.den * 4) ∧ mkRat (q.num * ((part : Nat) : Int)) (q.den * 4) < q := by
  have hd := q.den_pos
  have hn : 0 < q.num := by
    have h1 : 0 ≤ q.num := Rat.num_nonneg.mpr (Rat.le_of_lt hq)
    have h2 : q.num ≠ 0 := fun z => by
      have : q = 0 := Rat.num_eq_zero.mp z
      rw [this] at hq
      exact absurd hq (by decide +kernel)
    omega
  refine ⟨mkr_nn (by omega) (Int.mul_nonneg (by omega) (Int.natCast_nonneg _)), ?_⟩
  have e : q = mkRat (q.num * 4) (q.den * 4) := by
    rw [show (4 : Int) = ((4 : Nat) : Int) from rfl, Rat.mkRat_mul_right (by decide)]
    exact (Rat.mkRat_self q).symm
  have h3 : q.num * ((part : Nat) : Int) < q.num * 4 := Int.mul_lt_mul_of_pos_left (by omega) hn
  refine Rat.not_le.mp fun z => ?_
  rw [e] at z
  rw [Rat.le_iff_sub_nonneg] at z
  rw [← e] at z
  have e2 : mkRat (q.num * ((part : Nat) : Int)) (q.den * 4) - q = mkRat (q.num * ((part : Nat) : Int) - q.num * 4) (q.den * 4) := by
    rw [← mkr_sub _ _ (by omega), ← e]
  rw [e2, ← Rat.divInt_ofNat, Rat.divInt_nonneg_iff_of_pos_right (by omega)] at z
  omega
section
variable {P : Program} {w : World} {K : Fg} {mg : Str → Option Value} {base : Heap} {C : Addr}
variable {s : Option Addr} {mu : Addr → Prop} {G0 H0 G H : Hp} {gs : List Hp} {ds : List SC} {ms : List (Addr × MO)} {σ : L2.St} {D : Ends} {t tr t1 t2 : TA} {ta tb te ti to : TE} {tt : TT} {u tz ts : TS} {E E' : XK} {sa p : Addr}
abbrev s__law_cheapest : Stmt := topS 89
theorem sc__law_cheapest : FnScope ["_law_web_here", "_law_left_here", "_law_tie_here", "_law_found", "_law_least", "_law_worth_here"] ["_law_web_here"] (defScope s__law_cheapest) := ⟨rfl, rfl, rfl, by decide +kernel, rfl, by decide +kernel, by decide +kernel⟩

def spCheap (K : Fg) : Sp := SpD K (fun W : Web => [webD W]) (fun W => WB W) (fun W d => d = frL (cheap W))
theorem ok__law_cheapest {f : Addr} {fd : FuncData} (F : Fun K "_law_cheapest" "_law_cheapest" s__law_cheapest f fd) (c__law_under : Cal P w K mg base "_law_under" 1 ["_law_one", "_law_other"] (spLess K)) : FnOk P w K mg base CX0 2 f fd ["_law_web_here"] (spCheap K) := by
  refine F.ok sc__law_cheapest (fun vs H Q E h => ?_) (fun cdv A outer s H vs Q E hr h => ?_)
  · obtain ⟨a, G, hg, hI, hp, q⟩ := h
    exact hI.length
  · obtain ⟨W, G, hg, hI, hW, q⟩ := h
    have hW : WB W := hW
    have A0 := at_start (K := K) (N := ["_law_web_here", "_law_left_here", "_law_tie_here", "_law_found", "_law_least", "_law_worth_here"]) (ds := [.dat (webD W), .no, .no, .no, .no, .no]) hg hI
    refine ⟨_, (pss_cons (ps_setLc (i := 1) (own := [("_law_tie_here", 2)]) (g := gName 2) (tt := _) rfl sc__law_cheapest.nd rfl rfl (sw_true rfl rfl rfl (by decide +kernel)) (w_list (K := K) (pe_ix (w_ixT (K := K)) (pv 0) pe_int (fun _ _ => rfl))) (blkOk_by (own := [("_law_tie_here", 2)]) (N := ["_law_web_here", "_law_left_here", "_law_tie_here", "_law_found", "_law_least", "_law_worth_here"]) (sc := defScope s__law_cheapest) (by decide +kernel)) (fun _ _ _ _ _ => (pg_name (i := 2) sc__law_cheapest.nd rfl (Or.inl rfl))) (fun _ _ _ _ _ => (pts_one (pt_cmpR o_notN (pe_ix (w_ixT (K := K)) (pv 2) pe_int (fun _ _ => rfl)) pe_non (nomark _)))) (fun _ _ _ _ _ => (pe_ix (w_ixT (K := K)) (pv 2) pe_int (fun _ _ => rfl))))
      (pss_cons (ps_set (i := 3) sc__law_cheapest.nd rfl (Or.inl rfl) (pe_lst pa_nil))
      (pss_cons (ps_while PassesOwn.never (pt_cmpR (w_neD (K := K) hr.units) (pv 1) (pe_lst pa_nil) (nomark _)) (pss_cons (ps_set (i := 4) sc__law_cheapest.nd rfl (Or.inl rfl) (pe_ix (w_ixL (K := K)) (pv 1) pe_int (fun _ _ => rfl)))
      (pss_cons (ps_for PassesOwn.never rfl (w_list (K := K) (pv 1)) (pg_name (i := 5) sc__law_cheapest.nd rfl (Or.inl rfl)) (pss_one (ps_if (pt_val (p_call c__law_under (hr.mono (by first | exact Nat.le_refl _ | omega)) (pa_cons (pv 5) (pa_cons (pv 4) pa_nil)))) (pss_one (ps_set (i := 4) sc__law_cheapest.nd rfl (Or.inl rfl) (pv 5))) pss_nil)))
      (pss_cons (ps_expr (w_bm (K := K) PySem.F.plainAttrs_list PySem.F.slot_list_remove PySem.F.type_list_remove (w_rem (K := K) (hu65_of hr)) (pv 1) (pa_cons (pv 4) pa_nil)))
      (pss_one (ps_expr (w_bm (K := K) PySem.F.plainAttrs_list PySem.F.slot_list_append PySem.F.type_list_append mt_append (pv 3) (pa_cons (pv 4) pa_nil))))))))
      (pss_one (ps_ret (pv 3)))))), ?_⟩
    have hzW : (worths W).length ≤ 14 := Nat.le_trans (List.length_filterMap_le _ _) hW.1
    refine q_new A0 ((en_lcD (p := fun e => !isN (n4 e)) (F := n4) (it_list (es := W.ties.map tieD) (ev_ixT1 (ev_var rfl) rfl)) trivial (fun i e he => tw_name) (fun i e he => ?_) (fun i e he hp => ?_) (by rw [List.length_map]; have := hW.1; omega)).imp fun dl h => h.trans (worths_lc W.ties)) fun p dl σ1 G1 H1 hdl hmu A1 => ?_
    · obtain ⟨t, ht, rfl⟩ := smap_get he
      exact et_test (ev_notN (ev_ixT4 (ev_var rfl) rfl) (optD_noAny _))
    · obtain ⟨t, ht, rfl⟩ := smap_get he
      exact ev_ixT4 (ev_var rfl) rfl
    subst hdl
    refine q_new A1 (en_lst (dl := []) el_nil) fun fo dl σ2 G2 H2 hdl hfo A2 => ?_
    subst hdl
    have A2 : At K none mu0 G H [] [.dat (webD W), .ref p, .no, .ref fo, .no, .no] [(fo, .lst []), (p, .lst ((worths W).map frD))] σ2 G2 H2 := A2
    refine q_while A2 (fun n ds ms => ∃ (l F : List Rat) (c2 c3 : SC), ds = [.dat (webD W), .ref p, .no, .ref fo, c2, c3] ∧ ms = [(fo, .lst (F.map frD)), (p, .lst (l.map frD))] ∧ n = l.length ∧ (∀ q ∈ l, Bd 1 q) ∧ l.length + F.length = (worths W).length ∧ F ++ cheapL l.length l = cheap W) (worths W).length
      ⟨worths W, [], .no, .no, rfl, rfl, rfl, worths_bd hW, rfl, rfl⟩ fun n ds ms σ4 G4 H4 j A4 => ?_
    obtain ⟨l, F, c2, c3, rfl, rfl, hn, hb, hll, hch⟩ := j
    refine ⟨_, et_test (ev_neNil (p := p) (l := l) (ev_var rfl) (List.mem_cons_of_mem _ List.mem_cons_self)), fun hbl G5 H5 L A5 hL => ?_, fun hbl G5 H5 A5 => ?_⟩
    · cases l with
      | nil => exact absurd hbl (by simp)
      | cons l0 r =>
        refine q_set A5 (ev_ixM (a := p) (xs := (l0 :: r).map frD) (ev_var rfl) (List.mem_cons_of_mem _ List.mem_cons_self) ev_int (atI_nat (j := 0) rfl)) fun σ6 G6 H6 A6 => ?_
        refine q_for A6 (it_known (p := p) (es := (l0 :: r).map frD) (ev_var rfl) (List.mem_cons_of_mem _ List.mem_cons_self)) (fun i e he => tg_name) (fun i ds ms => ∃ c3, ds = [.dat (webD W), .ref p, .no, .ref fo, .dat (frD (minR l0 ((l0 :: r).take i))), c3] ∧ ms = [(fo, .lst (F.map frD)), (p, .lst ((l0 :: r).map frD))]) ⟨_, rfl, rfl⟩ (fun i ds ms hi j => ?_) (fun gs i e ds ms σ7 G7 H7 L' he j A7 hL' => ?_) fun ds ms σ7 G7 H7 j A7 => ?_
        · obtain ⟨c, _, rfl⟩ := j
          exact List.mem_cons_of_mem _ List.mem_cons_self
        · obtain ⟨c, rfl, rfl⟩ := j
          obtain ⟨x, hx, rfl⟩ := smap_get he
          have hbx : Bd 1 x := hb x (List.mem_of_getElem? hx)
          have hbm : Bd 1 (minR l0 ((l0 :: r).take i)) := by
            rcases minR_mem l0 ((l0 :: r).take i) with e | e
            · rw [e]
              exact hb l0 List.mem_cons_self
            · exact hb _ (List.mem_of_mem_take e)
          have hst : minR l0 ((l0 :: r).take (i + 1)) = if x < minR l0 ((l0 :: r).take i) then x else minR l0 ((l0 :: r).take i) := by
            unfold minR
            rw [List.take_add_one, hx, List.foldl_append]
            rfl
          refine s_if A7 (et_B (ev_is_less (a := x) (b := minR l0 ((l0 :: r).take i)) (el_cons (ev_var rfl) (el_cons (ev_var rfl) el_nil)) (hbx.sz (by omega)) (hbm.sz (by omega)))) (fun hlt G8 H8 A8 => ?_) fun hlt G8 H8 A8 => ?_
          · refine s_set A8 (ev_var (i := 5) (c := .dat (frD x)) rfl) fun σ9 G9 H9 A9 => ?_
            refine hL' _ _ _ _ _ ⟨.dat (frD x), ?_, rfl⟩ A9
            rw [hst, if_pos (of_decide_eq_true hlt)]
            rfl
          · refine hL' _ _ _ _ _ ⟨.dat (frD x), ?_, rfl⟩ A8
            rw [hst, if_neg (of_decide_eq_false hlt)]
            rfl
        · obtain ⟨c, rfl, rfl⟩ := j
          rw [List.length_map, List.take_length] at A7
          have hle : minR l0 (l0 :: r) = leastR (l0 :: r) := rfl
          rw [hle] at A7
          have hmem : leastR (l0 :: r) ∈ l0 :: r := leastR_mem (by simp)
          have hlw := List.length_cons (a := l0) (as := r)
          refine q_remF (i := 1) (p := p) (l := l0 :: r) (x := leastR (l0 :: r)) (.inl hmu) A7 (ev_var rfl) rfl (ev_var rfl) hmem fun G8 H8 A8 => ?_
          have hlen : ((l0 :: r).erase (leastR (l0 :: r))).length + 1 = (l0 :: r).length := by
            rw [List.length_erase_of_mem hmem, List.length_cons]
            omega
          refine s_app (i := 0) (p := fo) (d := frD (leastR (l0 :: r))) (.inl hfo) A8 (ev_var rfl) rfl (ev_var rfl) (by rw [List.length_map]; omega) fun G9 H9 A9 => ?_
          refine hL _ _ _ _ _ _ ?_ ⟨(l0 :: r).erase (leastR (l0 :: r)), F ++ [leastR (l0 :: r)], _, _, rfl, ?_, rfl, fun q hq => hb q (List.mem_of_mem_erase hq), ?_, ?_⟩ A9
          · omega
          · rw [List.map_append]
            rfl
          · rw [List.length_append]
            show _ + (F.length + 1) = _
            omega
          · rw [← hch, show ((l0 :: r).erase (leastR (l0 :: r))).length = r.length by omega, List.append_assoc]
            rfl
    · cases l with
      | cons l0 r => exact absurd hbl (by simp)
      | nil =>
        have e : F = cheap W := by
          rw [← hch]
          exact (List.append_nil F).symm
        subst e
        exact s_retM A5 (p := fo) (ev_var rfl) List.mem_cons_self hfo fun v G' H' st so iv => q v G' H' _ st iv rfl
theorem ev_cheap {W : Web} (h : EvL K s t ds ms [webD W]) (hp : WB W) : EvD K s (tCall (spCheap K) [] E t) ds ms (frL (cheap W)) := evd_call (a := W) h hp fun x e => e
structure PurOk (W : Web) (P : Rat) : Prop where
  sz : Sz P
  nn : 0 ≤ P
  on : atOnce W P ≤ 2
def spLawPurse (K : Fg) : Sp := SpS K (fun W : Web => [webD W, .int 2]) (fun W => WB W) (fun W d => ∃ P, d = frD P ∧ PurOk W P)
end
end Fc
namespace Fc
open PySem PySem.Spec PyProof.Rows L2 Sy
section
variable {P : Program} {w : World} {K : Fg} {mg : Str → Option Value} {base : Heap} {C : Addr}
variable {s : Option Addr} {mu : Addr → Prop} {G0 H0 G H : Hp} {gs : List Hp} {ds : List SC} {ms : List (Addr × MO)} {σ : L2.St} {D : Ends} {t tr t1 t2 : TA} {ta tb te ti to : TE} {tt : TT} {u tz ts : TS} {E E' : XK} {sa p : Addr}
def prtR (part : Nat) (q : Rat) : Rat := mkRat (q.num * ((part : Nat) : Int)) (q.den * 4)
theorem cut_mid {α β : Type} (f : α → β) (l : List α) {k : Nat} (h : k ≤ l.length) : Sy.cutD (l.map f) (some ((k : Nat) : Int)) (some ((k + 1 : Nat) : Int)) = ((l.drop k).take 1).map f := by
  unfold Sy.cutD
  rw [HT.sIx_nat, HT.sIx_nat, List.length_map, Nat.min_eq_left h, List.map_take, List.map_drop]
  by_cases hk : k < l.length
  · rw [Nat.min_eq_left (by omega)]
    congr 1
    omega
  · have e : l.drop k = [] := List.drop_eq_nil_of_le (by omega)
    rw [← List.map_drop, e]
    simp
theorem prt_sz {q : Rat} (h : Bd 1 q) {part : Nat} (hp : part < 4) : (prtR part q).num.natAbs ≤ 3 * MB ∧ (prtR part q).den ≤ 4032 := by
  have h1 := h.num_le
  have h2 := h.den_le
  have hd := q.den_pos
  unfold prtR
  refine ⟨?_, ?_⟩
  · rw [Rat.num_mkRat, if_neg (by omega)]
    refine Nat.le_trans (Int.natAbs_ediv_le_natAbs _ _) ?_
    rw [Int.natAbs_mul, Int.natAbs_natCast]
    have := Nat.mul_le_mul (show q.num.natAbs ≤ MB by omega) (show part ≤ 3 by omega)
    omega
  · rw [Rat.den_mkRat, if_neg (by omega)]
    refine Nat.le_trans (Nat.div_le_self _ _) ?_
    omega
theorem add_sz {a b : Rat} (ha : Bd 14 a) (h1 : b.num.natAbs ≤ 3 * MB) (h2 : b.den ≤ 4032) : Sz (a + b) := by
  rw [Rat.add_def']
  have a1 := ha.num_le
  have a2 := ha.den_le
  have e1 : a.num.natAbs * b.den ≤ 14 * MB * 4032 := Nat.mul_le_mul a1 h2
  have e2 : b.num.natAbs * a.den ≤ 3 * MB * 1008 := Nat.mul_le_mul h1 a2
  have e3 : 14 * MB * 4032 + 3 * MB * 1008 < LN := by decide +kernel
  have e4 : a.den * b.den ≤ 1008 * 4032 := Nat.mul_le_mul a2 h2
  have e5 : 1008 * 4032 < LN := by decide +kernel
  refine mk_sz ?_ (by omega)
  have := Int.natAbs_add_le (a.num * ((b.den : Nat) : Int)) (b.num * ((a.den : Nat) : Int))
  rw [Int.natAbs_mul, Int.natAbs_mul, Int.natAbs_natCast, Int.natAbs_natCast] at this
  omega
theorem pur_ok {W : Web} (hW : WB W) {many part : Nat} (hm : many ≤ 2) (hml : many ≤ (cheap W).length) (hp : part < 4) : PurOk W (sumR ((cheap W).take many) + sumR ((((cheap W).drop many).take 1).map (prtR part))) := by
  have hcb := cheap_bd hW
  have hbase : Bd 14 (sumR ((cheap W).take many)) := by
    refine (Bd.sum (n := 1) fun q hq => (hcb q (List.mem_of_mem_take hq)).1).mono ?_
    rw [List.length_take]
    omega
  have hb0 : 0 ≤ sumR ((cheap W).take many) := sumR_nn fun q hq => Rat.le_of_lt (hcb q (List.mem_of_mem_take hq)).2
  by_cases hk : many < (cheap W).length
  · have hget := List.getElem?_eq_getElem hk
    have e : ((cheap W).drop many).take 1 = [(cheap W)[many]] := by
      rw [List.drop_eq_getElem_cons hk]
      rfl
    have hq := hcb _ (List.getElem_mem hk)
    rw [e, List.map_singleton, sumR_cons, sumR_nil, Rat.add_zero]
    obtain ⟨p0, p1⟩ := part_lt hq.2 hp
    obtain ⟨s1, s2⟩ := prt_sz hq.1 hp
    refine ⟨add_sz hbase s1 s2, Rat.add_nonneg hb0 p0, ?_⟩
    refine Nat.le_trans (once_le (p := sumR ((cheap W).take many) + prtR part (cheap W)[many]) (worths W).length (worths W) 0 0 many fun _ => ?_) (by omega)
    rw [Rat.zero_add, show cheapL (worths W).length (worths W) = cheap W from rfl, sumR_take hget]
    have p1 : prtR part (cheap W)[many] < (cheap W)[many] := p1
    grind
  · have e : ((cheap W).drop many).take 1 = [] := by
      rw [List.drop_eq_nil_of_le (by omega)]
      rfl
    rw [e, List.map_nil, sumR_nil, Rat.add_zero]
    refine ⟨hbase.sz (by omega), hb0, ?_⟩
    refine Nat.le_trans (once_le (worths W).length (worths W) 0 0 many fun hj => ?_) (by omega)
    unfold cheap at hk
    rw [cheapL_len] at hk
    omega
abbrev s__law_purse : Stmt := topS 90
theorem sc__law_purse : FnScope ["_law_state", "_law_web_here", "_law_most", "_law_worths", "_law_many", "_law_purse_here", "_law_worth_here", "_law_part"] ["_law_state", "_law_web_here", "_law_most"] (defScope s__law_purse) := ⟨rfl, rfl, rfl, by decide +kernel, rfl, by decide +kernel, by decide +kernel⟩

theorem ok__law_purse {f : Addr} {fd : FuncData} (F : Fun K "_law_purse" "_law_purse" s__law_purse f fd) (B : Bl mg) (c__law_cheapest : Cal P w K mg base "_law_cheapest" 2 ["_law_web_here"] (spCheap K)) (c__law_take : Cal P w K mg base "_law_take" 1 ["_law_state", "_law_many"] (spTake K)) (c__law_plus : Cal P w K mg base "_law_plus" 3 ["_law_one", "_law_other"] (spPlus K)) (c__law_low : Cal P w K mg base "_law_low" 1 ["_law_top", "_law_bottom"] (spLowest K)) : FnOk P w K mg base CX0 4 f fd ["_law_state", "_law_web_here", "_law_most"] (spLawPurse K) := by
  refine F.ok sc__law_purse (fun vs H Q E h => ?_) (fun cdv A outer s H vs Q E hr h => ?_)
  · obtain ⟨a, G, sa, vr, rfl, hg, gs, hs, hI, hp, q⟩ := h
    rw [List.length_cons, hI.length]
    rfl
  · obtain ⟨W, G, sa, vr, rfl, hg, gs, hs, hI, hW, q⟩ := h
    have hW : WB W := hW
    have A0 := at_startS (K := K) (N := ["_law_state", "_law_web_here", "_law_most", "_law_worths", "_law_many", "_law_purse_here", "_law_worth_here", "_law_part"]) (ds := [.ref sa, .dat (webD W), .dat (.int 2), .no, .no, .no, .no, .no]) hg gs hs hI
    refine ⟨_, (pss_cons (ps_set (i := 3) sc__law_purse.nd rfl (Or.inl rfl) (p_call c__law_cheapest (hr.mono (by first | exact Nat.le_refl _ | omega)) (pa_cons (pv 1) pa_nil)))
      (pss_cons (ps_set (i := 4) sc__law_purse.nd rfl (Or.inl rfl) (pe_callB (w_min2 rfl) (by rfl) B.min_ (by decide +kernel) (pa_cons (p_call c__law_take (hr.mono (by first | exact Nat.le_refl _ | omega)) (pa_cons (pv 0) (pa_cons (pe_op o_add (pv 2) pe_int) pa_nil))) (pa_cons (pe_callB (w_len (K := K)) (by rfl) B.len_ PySem.boot_len (pa_cons (pv 3) pa_nil)) pa_nil))))
      (pss_cons (ps_set (i := 5) sc__law_purse.nd rfl (Or.inl rfl) (pe_tup (pa_cons pe_int (pa_cons pe_int pa_nil))))
      (pss_cons (ps_for PassesOwn.never rfl (w_list (K := K) (pe_slice (w_slL (K := K)) (pv 3) po_none (po_some (pv 4)))) (pg_name (i := 6) sc__law_purse.nd rfl (Or.inl rfl)) (pss_one (ps_set (i := 5) sc__law_purse.nd rfl (Or.inl rfl) (p_call c__law_plus (hr.mono (by first | exact Nat.le_refl _ | omega)) (pa_cons (pv 5) (pa_cons (pv 6) pa_nil))))))
      (pss_cons (ps_set (i := 7) sc__law_purse.nd rfl (Or.inl rfl) (p_call c__law_take (hr.mono (by first | exact Nat.le_refl _ | omega)) (pa_cons (pv 0) (pa_cons pe_int pa_nil))))
      (pss_cons (ps_for PassesOwn.never rfl (w_list (K := K) (pe_slice (w_slL (K := K)) (pv 3) (po_some (pv 4)) (po_some (pe_op o_add (pv 4) pe_int)))) (pg_name (i := 6) sc__law_purse.nd rfl (Or.inl rfl)) (pss_one (ps_set (i := 5) sc__law_purse.nd rfl (Or.inl rfl) (p_call c__law_plus (hr.mono (by first | exact Nat.le_refl _ | omega)) (pa_cons (pv 5) (pa_cons (p_call c__law_low (hr.mono (by first | exact Nat.le_refl _ | omega)) (pa_cons (pe_op o_mulW (pe_ix (w_ixT (K := K)) (pv 6) pe_int (fun _ _ => rfl)) (pv 7)) (pa_cons (pe_op o_mul (pe_ix (w_ixT (K := K)) (pv 6) pe_int (fun _ _ => rfl)) pe_int) pa_nil))) pa_nil))))))
      (pss_one (ps_ret (pv 5))))))))), ?_⟩
    have hcl := cheap_len hW
    have hcb := cheap_bd hW
    refine q_set A0 (ev_cheap (W := W) (el_cons (ev_var rfl) el_nil) hW) fun σ1 G1 H1 A1 => ?_
    refine q_setR (Φ := fun d => ∃ m : Nat, d = .int ((m : Nat) : Int) ∧ m ≤ 2 ∧ m ≤ (cheap W).length) A1 ((evr_min2 (j := (((cheap W).length : Nat) : Int)) (evr_take (n := 3) (ev_var rfl) (el_cons (EvC.to (ev_add (i := 2) (j := 1) (ev_var rfl) ev_int) rfl) el_nil) (by decide) (by decide +kernel)) (EvC.to (ev_lenL (xs := (cheap W).map frD) (ev_var rfl)) (by rw [List.length_map])) fun d ⟨i, e, _⟩ => ⟨_, e⟩).imp fun d ⟨i, ⟨n, e, hn⟩, e2⟩ => ?_) fun d σ2 G2 H2 hd A2 => ?_
    · have e3 : i = ((n : Nat) : Int) := PyData.int.inj e
      subst e3
      split at e2
      · exact ⟨(cheap W).length, e2, by omega, Nat.le_refl _⟩
      · exact ⟨n, e2, by omega, by omega⟩
    obtain ⟨many, rfl, hm2, hml⟩ := hd
    refine q_set A2 (EvC.to (ev_tup (el_cons ev_int (el_cons ev_int el_nil))) (congrArg SC.dat fr_zero)) fun σ3 G3 H3 A3 => ?_
    have A3 : At K (some sa) (isS (some sa)) G H [] [.ref sa, .dat (webD W), .dat (.int 2), .dat (frL (cheap W)), .dat (.int ((many : Nat) : Int)), .dat (frD 0), .no, .no] [] σ3 G3 H3 := A3
    have hbd : ∀ i, Bd 14 (sumR (((cheap W).take many).take i)) := fun i => by
      refine (Bd.sum (n := 1) fun q hq => (hcb q (List.mem_of_mem_take (List.mem_of_mem_take hq))).1).mono ?_
      rw [List.length_take, List.length_take]
      omega
    refine q_for A3 (it_list (es := ((cheap W).take many).map frD) (EvC.to (ev_slL (lo := none) (hi := some ((many : Nat) : Int)) (xs := (cheap W).map frD) (ev_var rfl) eo_none (eo_some (ev_var rfl))) (by rw [cut_take frD _ hml]))) (fun i e he => tg_name)
      (fun i ds ms => ∃ c, ds = [.ref sa, .dat (webD W), .dat (.int 2), .dat (frL (cheap W)), .dat (.int ((many : Nat) : Int)), .dat (frD (sumR (((cheap W).take many).take i))), c, .no] ∧ ms = []) ⟨_, rfl, rfl⟩ (fun _ _ _ _ _ => trivial) (fun gs i e ds ms σ4 G4 H4 L he j A4 hL => ?_) fun ds ms σ4 G4 H4 j A4 => ?_
    · obtain ⟨c, rfl, rfl⟩ := j
      obtain ⟨x, hx, rfl⟩ := smap_get he
      refine s_set A4 (ev_plus (a := sumR (((cheap W).take many).take i)) (b := x) (el_cons (ev_var rfl) (el_cons (ev_var rfl) el_nil)) ((hbd i).sz (by omega)) ((hcb x (List.mem_of_mem_take (List.mem_of_getElem? hx))).1.sz (by omega))) fun σ5 G5 H5 A5 => ?_
      refine hL _ _ _ _ _ ⟨.dat (frD x), ?_, rfl⟩ A5
      rw [sumR_take hx]
      rfl
    · obtain ⟨c, rfl, rfl⟩ := j
      rw [List.length_map, List.take_length] at A4
      refine q_setR A4 (evr_take (n := 4) (ev_var rfl) (el_cons ev_int el_nil) (by decide) (by decide +kernel)) fun d σ5 G5 H5 hd A5 => ?_
      obtain ⟨part, rfl, hpart⟩ := hd
      have hpart : part < 4 := by omega
      have hbase := hbd many
      rw [List.take_of_length_le (by rw [List.length_take]; omega)] at hbase
      refine q_for A5 (it_list (es := (((cheap W).drop many).take 1).map frD) (EvC.to (ev_slL (lo := some ((many : Nat) : Int)) (hi := some ((many + 1 : Nat) : Int)) (xs := (cheap W).map frD) (ev_var rfl) (eo_some (ev_var rfl)) (eo_some (EvC.to (ev_add (ev_var rfl) ev_int) rfl))) (by rw [cut_mid frD _ hml]))) (fun i e he => tg_name)
        (fun i ds ms => ∃ c, ds = [.ref sa, .dat (webD W), .dat (.int 2), .dat (frL (cheap W)), .dat (.int ((many : Nat) : Int)), .dat (frD (sumR ((cheap W).take many) + sumR (((((cheap W).drop many).take 1).map (prtR part)).take i))), c, .dat (.int ((part : Nat) : Int))] ∧ ms = []) ⟨c, ?_, rfl⟩ (fun _ _ _ _ _ => trivial) (fun gs i e ds ms σ6 G6 H6 L he j A6 hL => ?_) fun ds ms σ6 G6 H6 j A6 => ?_
      · rw [List.take_zero, sumR_nil, Rat.add_zero]
        rfl
      · obtain ⟨c, rfl, rfl⟩ := j
        obtain ⟨x, hx, rfl⟩ := smap_get he
        have hi0 : i = 0 := by
          have := (List.getElem?_eq_some_iff.mp hx).1
          rw [List.length_take] at this
          omega
        subst hi0
        have hxb := hcb x (List.mem_of_mem_drop (List.mem_of_mem_take (List.mem_of_getElem? hx)))
        obtain ⟨s1, s2⟩ := prt_sz hxb.1 hpart
        have hMB : 3 * MB < LN := by decide +kernel
        have h4032 : 4032 < LN := by decide +kernel
        have hnum := hxb.1.num_le
        have hden := hxb.1.den_le
        have hdp := x.den_pos
        have szp : Sz (prtR part x) := ⟨by omega, by omega⟩
        rw [List.take_zero, sumR_nil, Rat.add_zero] at A6
        refine s_set A6 (ev_plus (a := sumR ((cheap W).take many)) (b := prtR part x) (el_cons (ev_var rfl) (el_cons (EvC.to (ev_lowest (a := x.num * ((part : Nat) : Int)) (b := ((x.den : Nat) : Int) * 4) (el_cons (ev_mulW (ev_ixT0 (xs := [.int x.num, .int (x.den : Nat)]) (ev_var rfl) rfl) (ev_var rfl) (mulW (hxb.1.sz (by omega)).n (by rw [Int.natAbs_natCast]; omega))) (el_cons (ev_mul (ev_ixT1 (xs := [.int x.num, .int (x.den : Nat)]) (ev_var rfl) rfl) ev_int (.inr ⟨by decide, by decide⟩)) el_nil)) (by omega) (by
          have : 4032 < LN2 := by decide +kernel
          omega)) (by
            show SC.dat (frD (mkRat _ (((x.den : Nat) : Int) * 4).toNat)) = SC.dat (frD (prtR part x))
            rw [show (((x.den : Nat) : Int) * 4).toNat = x.den * 4 by omega]
            rfl)) el_nil)) (hbase.sz (by omega)) szp) fun σ7 G7 H7 A7 => ?_
        refine hL _ _ _ _ _ ⟨.dat (frD x), ?_, rfl⟩ A7
        have e1 : ((((cheap W).drop many).take 1).map (prtR part)).take (0 + 1) = [prtR part x] := by
          rw [List.take_add_one, List.getElem?_map, hx]
          rfl
        rw [e1, sumR_cons, sumR_nil, Rat.add_zero]
        rfl
      · obtain ⟨c, rfl, rfl⟩ := j
        have et : ((((cheap W).drop many).take 1).map (prtR part)).take ((((cheap W).drop many).take 1).map frD).length = (((cheap W).drop many).take 1).map (prtR part) := List.take_of_length_le (by rw [List.length_map, List.length_map]; exact Nat.le_refl _)
        rw [et] at A6
        exact s_ret A6 (c := .dat (frD (sumR ((cheap W).take many) + sumR ((((cheap W).drop many).take 1).map (prtR part))))) (ev_var rfl) fun v G' H' st so cp => q v G' H' _ st (so sa rfl) cp.is ⟨_, rfl, pur_ok hW hm2 hml hpart⟩
theorem evr_purse {W : Web} (h0 : EvC K (some sa) ta ds ms (.ref sa)) (h : EvL K (some sa) t ds ms [webD W, .int 2]) (hW : WB W) : EvR K (some sa) (tCall (spLawPurse K) [] E (tCons ta t)) ds ms (fun d => ∃ P, d = frD P ∧ PurOk W P) := evr_callS (a := W) (post := fun (W : Web) d => ∃ P, d = frD P ∧ PurOk W P) h0 h hW
end
end Fc
namespace Fc
open PySem PySem.Spec PyProof.Rows L2 Sy
section
variable {P : Program} {w : World} {K : Fg} {mg : Str → Option Value} {base : Heap} {C : Addr}
variable {s : Option Addr} {mu : Addr → Prop} {G0 H0 G H : Hp} {gs : List Hp} {ds : List SC} {ms : List (Addr × MO)} {σ : L2.St} {D : Ends} {t tr t1 t2 : TA} {ta tb te ti to : TE} {tt : TT} {u tz ts : TS} {E E' : XK} {sa p : Addr}
theorem EvR.d {Φ : Sy.D → Prop} {d0 : Sy.D} (h : EvR K s te ds ms Φ) (f : ∀ d, Φ d → d = d0) : EvD K s te ds ms d0 := fun σ G H k Q q => h σ G H k Q fun v G' H' d a o x p => q v G' H' a o (.dat (f d p ▸ x))
abbrev s__law_left : Stmt := topS 92
theorem sc__law_left : FnScope ["_law_web_here", "_law_rooms", "_law_purse_here", "_law_taking", "_law_flow", "_law_side", "_law_cases"] ["_law_web_here", "_law_rooms", "_law_purse_here"] (defScope s__law_left) := ⟨rfl, rfl, rfl, by decide +kernel, rfl, by decide +kernel, by decide +kernel⟩

structure LeftPre (W : Web) (R : List Rat) (P : Rat) : Prop where
  hW : WebOk W
  hR : RoomsOk W R
  hP : PurOk W P
def LeftRes (W : Web) (R : List Rat) (P : Rat) (d : Sy.D) : Prop := ∃ x, d = frD x ∧ IsLeft W R P x ∧ Bd 14000 x
def spLeft (K : Fg) : Sp := SpD K (fun a : Web × List Rat × Rat => [webD a.1, frL a.2.1, frD a.2.2]) (fun a => LeftPre a.1 a.2.1 a.2.2) (fun a d => LeftRes a.1 a.2.1 a.2.2 d)
theorem ok__law_left {f : Addr} {fd : FuncData} (F : Fun K "_law_left" "_law_left" s__law_left f fd) (c_best_stop : Cal P w K mg base "best_stop" 11 ["web", "rooms", "purse"] (spBestStop K)) (c_amount_of : Cal P w K mg base "amount_of" 7 ["web", "flow"] (spAmtOf K)) : FnOk P w K mg base CX0 12 f fd ["_law_web_here", "_law_rooms", "_law_purse_here"] (spLeft K) := by
  refine F.ok sc__law_left (fun vs H Q E h => ?_) (fun cdv A outer s H vs Q E hr h => ?_)
  · obtain ⟨a, G, hg, hI, hp, q⟩ := h
    exact hI.length
  · obtain ⟨⟨W, R, P⟩, G, hg, hI, hp, q⟩ := h
    have hp : LeftPre W R P := hp
    have hW := hp.hW
    have A0 := at_start (K := K) (N := ["_law_web_here", "_law_rooms", "_law_purse_here", "_law_taking", "_law_flow", "_law_side", "_law_cases"]) (ds := [.dat (webD W), .dat (frL R), .dat (frD P), .no, .no, .no, .no]) hg hI
    refine ⟨_, (pss_cons (ps_asg (p_call c_best_stop (hr.mono (by first | exact Nat.le_refl _ | omega)) (pa_cons (pv 0) (pa_cons (pv 1) (pa_cons (pv 2) pa_nil)))) (w_tup (K := K) (by rfl) (pgs_cons (pg_name (i := 3) sc__law_left.nd rfl (Or.inl rfl)) (pgs_cons (pg_name (i := 4) sc__law_left.nd rfl (Or.inl rfl)) (pgs_cons (pg_name (i := 5) sc__law_left.nd rfl (Or.inl rfl)) (pgs_cons (pg_name (i := 6) sc__law_left.nd rfl (Or.inl rfl)) pgs_nil))))))
      (pss_one (ps_ret (p_call c_amount_of (hr.mono (by first | exact Nat.le_refl _ | omega)) (pa_cons (pv 0) (pa_cons (pv 4) pa_nil)))))), ?_⟩
    refine q_unpR (f := fun d ds => match d with
      | .tuple [x, y, z, u] => setAll ds [3, 4, 5, 6] [x, y, z, u]
      | _ => ds) A0 (evr_best_stop (W := W) (R := R) (P := P) (el_cons (ev_var rfl) (el_cons (ev_var rfl) (el_cons (ev_var rfl) el_nil))) hW hp.hR hp.hP.sz hp.hP.nn hp.hP.on) (fun d hd => ?_) fun d σ1 G1 H1 hd A1 => ?_
    · obtain ⟨e, rfl, _⟩ := hd
      exact tg_tup [3, 4, 5, 6] rfl rfl
    · obtain ⟨e, rfl, he⟩ := hd
      have hfl := he.ok.mo.fl hW
      exact s_retD A1 (ev_amount_of (W := W) (fl := e.fl) (el_cons (ev_var (i := 0) (c := .dat (webD W)) rfl) (el_cons (ev_var (i := 4) (c := .dat (frL e.fl)) rfl) el_nil)) hW hfl) fun v G' H' st iv => q v G' H' _ st iv ⟨_, rfl, he.left, amt_bd hfl⟩
theorem evr_left {W : Web} {R : List Rat} {P : Rat} (h : EvL K s t ds ms [webD W, frL R, frD P]) (hp : LeftPre W R P) : EvR K s (tCall (spLeft K) [] E t) ds ms (LeftRes W R P) := evr_call (a := (W, R, P)) (post := fun (a : Web × List Rat × Rat) d => LeftRes a.1 a.2.1 a.2.2 d) h hp
theorem ev_left {W : Web} {R : List Rat} {P x : Rat} (h : EvL K s t ds ms [webD W, frL R, frD P]) (hp : LeftPre W R P) (hx : IsLeft W R P x) : EvD K s (tCall (spLeft K) [] E t) ds ms (frD x) := EvR.d (evr_left h hp) fun d ⟨y, e, hy, _⟩ => by rw [e, hy.unique hx]
theorem evr_callX {α : Type} {enc : α → List Sy.D} {pre : α → Prop} {post : α → Sy.D → Prop} {Φ : List Sy.D → Prop} {Ψ : α → Prop} (h : EvLR K s tr ds ms Φ) (hp : ∀ dl, Φ dl → ∃ a, dl = enc a ∧ pre a ∧ Ψ a) : EvR K s (tCall (SpD K enc pre post) [] E tr) ds ms (fun d => ∃ a, Ψ a ∧ post a d) := fun σ G H k Q q =>
  h σ G H k _ fun vs G1 H1 dl a1 o1 x1 p1 => by
    obtain ⟨a, e, hp, ha⟩ := hp dl p1
    subst e
    refine ⟨a, G1, a1.gh, by rw [List.append_nil]; exact x1, hp, fun v G2 H2 d a2 x2 p2 => q v G2 H2 d (a1.trans a2.of0) ((k.step a1 o1).stO a2) x2 ⟨a, ha, p2⟩⟩
/-- amount_of(web, most_flow(web, rooms, T)[0]) -/
theorem evr_most0 {W : Web} {R : List Rat} {T : List Nat} (h : EvL K s t ds ms [webD W, frL R, natD T]) (hw : EvD K s ta ds ms (webD W)) (hW : WebOk W) (hR : RoomsOk W R) (hT : TakOk W T) (hz : T.length ≤ 1000) : EvR K s (tCall (spAmtOf K) [] E (tCons ta (tCons (tOp (rIxT K) (tCall (spMostFlow K) [] E' t) (tC (.int 0))) tNil))) ds ms (fun d => ∃ fl S, d = frD (amtR W fl) ∧ MostOk W R T fl S) := by
  have h1 : EvR K s (tOp (rIxT K) (tCall (spMostFlow K) [] E' t) (tC (.int 0))) ds ms (fun d => ∃ fl S, d = frL fl ∧ MostOk W R T fl S) := ev_opR (r := rIxT K) (evr_most_flow (W := W) (R := R) (T := T) h hW hR hT hz) (EvC.r (d := .int 0) ev_int) fun x y ⟨fl, S, e1, hm⟩ e2 => by
    subst e1
    subst e2
    exact ⟨_, ⟨fl, S, rfl, hm⟩, od_ixT (atI_nat (j := 0) rfl)⟩
  have h2 := elr_cons (EvC.r hw) (elr_cons h1 elr_nil)
  refine (evr_callX (enc := fun p : Web × List Rat => [webD p.1, frL p.2]) (pre := fun p => WebOk p.1 ∧ FlOk p.1 p.2) (post := fun p d => d = frD (amtR p.1 p.2)) (Ψ := fun p => p.1 = W ∧ ∃ S, MostOk W R T p.2 S) h2 fun dl hd => ?_).imp fun d hd => ?_
  · obtain ⟨_, _, rfl, rfl, _, _, rfl, ⟨fl, S, rfl, hm⟩, rfl⟩ := hd
    exact ⟨(W, fl), rfl, ⟨hW, hm.fl hW⟩, rfl, S, hm⟩
  · obtain ⟨⟨W', fl⟩, ⟨e, S, hm⟩, hd⟩ := hd
    have e : W' = W := e
    subst e
    exact ⟨fl, S, hd, hm⟩
abbrev s__law_cuts : Stmt := topS 94
theorem sc__law_cuts : FnScope ["_law_web_here", "_law_rooms", "_law_purse_here", "_law_left_here", "_law_told", "_law_stop"] ["_law_web_here", "_law_rooms", "_law_purse_here", "_law_left_here"] (defScope s__law_cuts) := ⟨rfl, rfl, rfl, by decide +kernel, rfl, by decide +kernel, by decide +kernel⟩

structure CutPre (W : Web) (R : List Rat) (P x : Rat) : Prop extends LeftPre W R P where
  pos : ∀ r ∈ R, 0 < r
  lf : IsLeft W R P x
  sx : Bd 14000 x
def spCuts (K : Fg) : Sp := SpD K (fun a : Web × List Rat × Rat × Rat => [webD a.1, frL a.2.1, frD a.2.2.1, frD a.2.2.2]) (fun a => CutPre a.1 a.2.1 a.2.2.1 a.2.2.2) (fun a d => d = .bool true)
theorem ev_fr0 : EvD K s (tTup (tCons (tC (.int 0)) (tCons (tC (.int 1)) tNil))) ds ms (frD 0) := EvC.to (ev_tup (el_cons ev_int (el_cons ev_int el_nil))) (congrArg SC.dat fr_zero)
theorem ok__law_cuts {f : Addr} {fd : FuncData} (F : Fun K "_law_cuts" "_law_cuts" s__law_cuts f fd) (c_best_taking : Cal P w K mg base "best_taking" 14 ["web", "purse"] (spBestIn K)) (c_best_stop : Cal P w K mg base "best_stop" 11 ["web", "rooms", "purse"] (spBestStop K)) (c_least_way : Cal P w K mg base "least_way" 8 ["web", "taking"] (spLeastWay K)) (c_most_flow : Cal P w K mg base "most_flow" 8 ["web", "rooms", "taking"] (spMostFlow K)) (c_amount_of : Cal P w K mg base "amount_of" 7 ["web", "flow"] (spAmtOf K)) : FnOk P w K mg base CX0 15 f fd ["_law_web_here", "_law_rooms", "_law_purse_here", "_law_left_here"] (spCuts K) := by
  refine F.ok sc__law_cuts (fun vs H Q E h => ?_) (fun cdv A outer s H vs Q E hr h => ?_)
  · obtain ⟨a, G, hg, hI, hp, q⟩ := h
    exact hI.length
  · obtain ⟨⟨W, R, P, x⟩, G, hg, hI, hp, q⟩ := h
    have hp : CutPre W R P x := hp
    have hW := hp.hW
    have hR := hp.hR
    have hpon := hp.hP.on
    have A0 := at_start (K := K) (N := ["_law_web_here", "_law_rooms", "_law_purse_here", "_law_left_here", "_law_told", "_law_stop"]) (ds := [.dat (webD W), .dat (frL R), .dat (frD P), .dat (frD x), .no, .no]) hg hI
    refine ⟨_, (pss_cons (ps_set (i := 4) sc__law_cuts.nd rfl (Or.inl rfl) (p_call c_best_taking (hr.mono (by first | exact Nat.le_refl _ | omega)) (pa_cons (pv 0) (pa_cons (pv 2) pa_nil))))
      (pss_cons (ps_if (pt_cmpR op_ne (pe_cmpR op_eq (pe_ix (w_ixT (K := K)) (pv 4) pe_int (fun _ _ => rfl)) pe_str (nomark _)) (pe_cmpR (w_eqD (K := K) hr.units) (pv 3) (pe_tup (pa_cons pe_int (pa_cons pe_int pa_nil))) (nomark _)) (nomark _)) (pss_one (ps_ret pe_bl)) pss_nil)
      (pss_cons (ps_if (pt_cmpR op_eq (pe_ix (w_ixT (K := K)) (pv 4) pe_int (fun _ _ => rfl)) pe_str (nomark _)) (pss_one (ps_ret pe_bl)) pss_nil)
      (pss_cons (ps_set (i := 5) sc__law_cuts.nd rfl (Or.inl rfl) (pe_ix (w_ixT (K := K)) (p_call c_best_stop (hr.mono (by first | exact Nat.le_refl _ | omega)) (pa_cons (pv 0) (pa_cons (pv 1) (pa_cons (pv 2) pa_nil)))) pe_int (fun _ _ => rfl)))
      (pss_cons (ps_if (pt_cmpR o_notN (pe_ix (w_ixT (K := K)) (p_call c_least_way (hr.mono (by first | exact Nat.le_refl _ | omega)) (pa_cons (pv 0) (pa_cons (pv 5) pa_nil))) pe_int (fun _ _ => rfl)) pe_non (nomark _)) (pss_one (ps_ret pe_bl)) pss_nil)
      (pss_one (ps_ret (pe_cmpR (w_eqD (K := K) hr.units) (p_call c_amount_of (hr.mono (by first | exact Nat.le_refl _ | omega)) (pa_cons (pv 0) (pa_cons (pe_ix (w_ixT (K := K)) (p_call c_most_flow (hr.mono (by first | exact Nat.le_refl _ | omega)) (pa_cons (pv 0) (pa_cons (pv 1) (pa_cons (pe_ix (w_ixT (K := K)) (pv 4) pe_int (fun _ _ => rfl)) pa_nil)))) pe_int (fun _ _ => rfl)) pa_nil))) (pe_tup (pa_cons pe_int (pa_cons pe_int pa_nil))) (nomark _))))))))), ?_⟩
    refine q_setR A0 (evr_best_in (W := W) (P := P) (el_cons (ev_var rfl) (el_cons (ev_var rfl) el_nil)) ⟨hW, hp.hP.sz, hp.hP.nn, by omega⟩) fun d σ1 G1 H1 hd A1 => ?_
    rcases hd with ⟨T, c, rfl, hT, hTn, hTl, hTw, hno⟩ | ⟨a, b, c, e, rfl, hno⟩
    · have hx : x = 0 := hp.lf.cut hW hR (fit_of hT hTn hTw) hno
      refine q_no A1 (EvT.to (et_test (ev_neB (ev_eqS (ev_ixT0 (ev_var rfl) rfl) ev_str) (ev_eqF (a := x) (b := 0) (ev_var rfl) ev_fr0))) (by rw [decide_eq_true hx]; decide +kernel)) fun G2 H2 A2 => ?_
      refine q_no A2 (EvT.to (et_test (ev_eqS (i := "cut") (j := "left") (ev_ixT0 (ev_var rfl) rfl) ev_str)) (by decide +kernel)) fun G3 H3 A3 => ?_
      refine q_setR A3 (ev_opR (r := rIxT K) (Θ := fun d => ∃ e, d = natD e.T ∧ StopRes W R P e) (evr_best_stop (W := W) (R := R) (P := P) (el_cons (ev_var rfl) (el_cons (ev_var rfl) (el_cons (ev_var rfl) el_nil))) hW hR hp.hP.sz hp.hP.nn hpon) (EvC.r (d := .int 0) ev_int) fun x y ⟨e, e1, he⟩ e2 => by subst e1; subst e2; exact ⟨_, ⟨e, rfl, he⟩, od_ixT (atI_nat (j := 0) rfl)⟩) fun d σ4 G4 H4 hd A4 => ?_
      obtain ⟨e, rfl, he⟩ := hd
      have hxe : amtR W e.fl = 0 := (he.left.unique hp.lf).trans hx
      have hne : NoWay W e.T := noway_of hR hp.pos he.ok.mo.sd (he.ok.mo.cut.symm.trans hxe)
      have hel := he.ok.len
      have lw : EvD K none (tOp (rIxT K) (tCall (spLeastWay K) [] E0 (tCons (tVar 0) (tCons (tVar 5) tNil))) (tC (.int 0))) [.dat (webD W), .dat (frL R), .dat (frD P), .dat (frD x), .dat (.tuple [.str "cut", natD T, c]), .dat (natD e.T)] [] .none := EvR.d (ev_opR (r := rIxT K) (Θ := fun d => d = .none) (evr_least_way (W := W) (T := e.T) (el_cons (ev_var rfl) (el_cons (ev_var rfl) el_nil)) hW he.ok.tk (by omega)) (EvC.r (d := .int 0) ev_int) fun x y hx e2 => by
        subst e2
        obtain ⟨a, b, rfl, h⟩ := hx
        rcases h with ⟨rfl, _, _⟩ | ⟨ks, q, _, _, _, hks⟩
        · exact ⟨_, rfl, od_ixT (atI_nat (j := 0) rfl)⟩
        · obtain ⟨k, h1, h2⟩ := hne.hit hks.way
          exact absurd h2 (hks.no k h1)) fun d h => h
      refine q_no A4 (et_test (ev_notN (x := .none) lw)) fun G5 H5 A5 => ?_
      refine s_retD A5 (EvC.to (ev_eqF (a := 0) (b := 0) (EvR.d (evr_most0 (W := W) (R := R) (T := T) (el_cons (ev_var rfl) (el_cons (ev_var rfl) (el_cons (ev_ixT1 (xs := [.str "cut", natD T, c]) (ev_var (i := 4) rfl) rfl) el_nil))) (ev_var rfl) hW hR hT (by omega)) fun d ⟨fl, S, e1, hm⟩ => ?_) ev_fr0) (by rw [decide_eq_true rfl])) fun v G' H' st iv => q v G' H' _ st iv rfl
      obtain ⟨S', hS', e0⟩ := NoWay.room (R := R) hW hno
      have h1 := weak hW hm.flw hS'
      have h2 : 0 ≤ amtR W fl := by
        rw [hm.cut]
        exact cutR_nn hm.flw.nn
      have h3 : amtR W fl = 0 := Rat.le_antisymm (by rw [← e0]; exact h1) h2
      rw [e1, h3]
    · have hx : x ≠ 0 := hp.lf.nocut hR hp.pos hno
      refine q_no A1 (EvT.to (et_test (ev_neB (ev_eqS (ev_ixT0 (ev_var rfl) rfl) ev_str) (ev_eqF (a := x) (b := 0) (ev_var rfl) ev_fr0))) (by rw [decide_eq_false hx]; decide +kernel)) fun G2 H2 A2 => ?_
      refine q_yes A2 (EvT.to (et_test (ev_eqS (i := "left") (j := "left") (ev_ixT0 (ev_var rfl) rfl) ev_str)) (by decide +kernel)) fun G3 H3 A3 => ?_
      exact s_retD A3 ev_bl fun v G' H' st iv => q v G' H' _ st iv rfl
theorem ev_cuts {W : Web} {R : List Rat} {P x : Rat} (h : EvL K s t ds ms [webD W, frL R, frD P, frD x]) (hp : CutPre W R P x) : EvD K s (tCall (spCuts K) [] E t) ds ms (.bool true) := evd_call (a := (W, R, P, x)) h hp fun x e => e
end
end Fc
namespace Fc
open PySem PySem.Spec PyProof.Rows L2 Sy
/-! ties as data: for == -/
theorem word_lay (b : Bool) : PyData.canLay0 (.str (wordS b)) = true := by
  cases b <;> decide +kernel
theorem opt_lay (o : Option Rat) : PyData.canLay0 (optD o) = true := by
  cases o with
  | none => simp [optD, PyData.canLay0]
  | some q => exact lay_fr q
theorem opt_pln (o : Option Rat) : pln (optD o) = true := by
  cases o with
  | none => simp [optD, pln]
  | some q => exact pln_fr q
theorem opt_dep (o : Option Rat) : (optD o).depth ≤ 1 := by
  cases o with
  | none => simp [optD, PyData.depth]
  | some q =>
    have := dep_fr q
    show (frD q).depth ≤ 1
    omega
theorem tie_pln (t : Tie) : pln (tieD t) = true := by
  have h1 := pln_fr t.len
  have h2 := opt_pln t.worth
  simp [tieD, pln, plnA, h1, h2]
theorem tie_lay {t : Tie} (h1 : NameOk t.one) (h2 : NameOk t.other) : PyData.canLay0 (tieD t) = true := by
  have e1 := h1.lay
  have e2 := h2.lay
  have e3 := word_lay t.both
  have e4 := lay_fr t.len
  have e5 := opt_lay t.worth
  simp only [tieD, PyData.canLay0, PyData.canLayAll0]
  simp only [PyData.canLay0] at e1 e2 e3
  simp [e1, e2, e3, e4, e5]
theorem tie_dep (t : Tie) : (tieD t).depth ≤ 3 := by
  have h1 := dep_fr t.len
  have h2 := opt_dep t.worth
  simp only [tieD, PyData.depth, PyData.depthAll]
  omega
theorem ties_pln : ∀ ts : List Tie, plnA (ts.map tieD) = true
  | [] => by simp [plnA]
  | t :: r => by simp [plnA, tie_pln t, ties_pln r]
theorem ties_shp {W : Web} (hW : WebOk W) : SeqAt.shaped (.list (W.ties.map tieD)) = true := by
  have hl : ∀ ts : List Tie, (∀ t ∈ ts, TieOk W.places t) → PyData.canLayAll0 (ts.map tieD) = true := fun ts => by
    induction ts with
    | nil => intro _; simp [PyData.canLayAll0]
    | cons t r ih =>
      intro h
      have ht := h t List.mem_cons_self
      have e := tie_lay (hW.nm _ ht.one) (hW.nm _ ht.other)
      simp only [List.map_cons, PyData.canLayAll0, e, ih fun t ht => h t (List.mem_cons_of_mem _ ht), Bool.and_self]
  have hd : ∀ ts : List Tie, PyData.depthAll (ts.map tieD) ≤ 3 := fun ts => by
    induction ts with
    | nil => simp [PyData.depthAll]
    | cons t r ih =>
      have := tie_dep t
      simp only [List.map_cons, PyData.depthAll]
      omega
  have h1 := hd W.ties
  have h2 : PyData.depth (.list (W.ties.map tieD)) ≤ 64 := by
    simp only [PyData.depth]
    omega
  show (PyData.canLay0 (.list (W.ties.map tieD)) && decide (PyData.depth (.list (W.ties.map tieD)) ≤ 64)) = true
  rw [Bool.and_eq_true]
  exact ⟨by simp only [PyData.canLay0]; exact hl _ hW.tk, decide_eq_true h2⟩
section
variable {P : Program} {w : World} {K : Fg} {mg : Str → Option Value} {base : Heap} {C : Addr}
variable {s : Option Addr} {mu : Addr → Prop} {G0 H0 G H : Hp} {gs : List Hp} {ds : List SC} {ms : List (Addr × MO)} {σ : L2.St} {D : Ends} {t tr t1 t2 : TA} {ta tb te ti to : TE} {tt : TT} {u tz ts : TS} {E E' : XK} {sa p : Addr}
theorem ev_eqNilF {l : List Sy.D} (pl : plnA l = true) (sh : SeqAt.shaped (.list l) = true) (ha : EvD K s ta ds ms (.list l)) : EvD K s (tOp (rEqD K) ta (tLst tNil)) ds ms (.bool l.isEmpty) :=
  (ev_op ha (ev_lst (dl := []) el_nil) (od_eqD (x := .list l) (y := .list []) (by simpa [pln] using pl) (by simp [pln, plnA]) sh (shpL_fr []))).to (by
    have e : PyData.eqv (.list l) (.list []) = l.isEmpty := by
      cases l with
      | nil => simp [PyData.eqv, PyData.eqvAll]
      | cons a r => simp [PyData.eqv, PyData.eqvAll]
    rw [e])
theorem set_cut {α : Type} (f : α → Sy.D) (l : List α) {k : Nat} (h : k < l.length) (x : α) : (l.take k).map f ++ [f x] ++ (l.drop (k + 1)).map f = (l.set k x).map f := by
  rw [List.set_eq_take_append_cons_drop, if_pos h, List.map_append, List.map_cons, List.append_assoc]
  rfl
theorem ev_setAt {α : Type} {f : α → Sy.D} {l : List α} {k : Nat} {x : α} {te1 te3 tx : TE} (h1 : EvD K s te1 ds ms (.list (l.map f))) (hx : EvD K s tx ds ms (f x)) (h3 : EvD K s te3 ds ms (.list (l.map f))) (hk : k < l.length) (hz : l.length ≤ 400) {tlo1 thi1 tlo2 thi2 : TO}
    (e1 : EvO K s tlo1 ds ms none) (e2 : EvO K s thi1 ds ms (some ((k : Nat) : Int))) (e3 : EvO K s tlo2 ds ms (some ((k + 1 : Nat) : Int))) (e4 : EvO K s thi2 ds ms none) :
    EvD K s (tOp rCat (tOp rCat (tSl (rSlL K) te1 tlo1 thi1) (tLst (tCons tx tNil))) (tSl (rSlL K) te3 tlo2 thi2)) ds ms (.list ((l.set k x).map f)) := by
  have a1 : EvD K s (tSl (rSlL K) te1 tlo1 thi1) ds ms (.list ((l.take k).map f)) := EvC.to (ev_slL (lo := none) (hi := some ((k : Nat) : Int)) h1 e1 e2) (by rw [cut_take f _ (Nat.le_of_lt hk)])
  have a2 : EvD K s (tSl (rSlL K) te3 tlo2 thi2) ds ms (.list ((l.drop (k + 1)).map f)) := EvC.to (ev_slL (lo := some ((k + 1 : Nat) : Int)) (hi := none) h3 e3 e4) (by rw [cut_drop f _ hk])
  have a3 := ev_cat (xs := (l.take k).map f) (ys := [f x]) a1 (ev_lst (el_cons hx el_nil)) (by rw [List.length_map, List.length_take]; show _ + 1 ≤ 1000; omega)
  refine EvC.to (ev_cat (xs := (l.take k).map f ++ [f x]) (ys := (l.drop (k + 1)).map f) a3 a2 (by simp only [List.length_append, List.length_map, List.length_take, List.length_drop, List.length_cons, List.length_nil]; omega)) ?_
  rw [set_cut f l hk x]
abbrev s__law_watched : Stmt := topS 95
theorem sc__law_watched : FnScope ["_law_state", "_law_web_here", "_law_rooms", "_law_purse_here", "_law_left_here", "_law_at", "_law_less", "_law_one", "_law_other", "_law_word", "_law_length", "_law_worth_here", "_law_ties", "_law_here", "_law_there"] ["_law_state", "_law_web_here", "_law_rooms", "_law_purse_here", "_law_left_here"] (defScope s__law_watched) := ⟨rfl, rfl, rfl, by decide +kernel, rfl, by decide +kernel, by decide +kernel⟩

def spWatched (K : Fg) : Sp := SpS K (fun a : Web × List Rat × Rat × Rat => [webD a.1, frL a.2.1, frD a.2.2.1, frD a.2.2.2]) (fun a => CutPre a.1 a.2.1 a.2.2.1 a.2.2.2) (fun a d => d = .bool true)
theorem watch_pre {W : Web} {R : List Rat} {P : Rat} {k : Nat} {T : Tie} (h : LeftPre W R P) (hk : W.ties[k]? = some T) : LeftPre W (R.set k 0) P ∧ LeftPre (watch W k T) (R.set k 0) P := by
  have hR := less_ok h.hR k
  refine ⟨⟨h.hW, hR, h.hP⟩, ⟨watch_ok h.hW hk, watch_rooms hR k T, h.hP.sz, h.hP.nn, ?_⟩⟩
  exact Nat.le_trans (watch_once h.hW.wb h.hP.nn) h.hP.on
theorem ok__law_watched {f : Addr} {fd : FuncData} (F : Fun K "_law_watched" "_law_watched" s__law_watched f fd) (B : Bl mg) (c__law_take : Cal P w K mg base "_law_take" 1 ["_law_state", "_law_many"] (spTake K)) (c__law_left : Cal P w K mg base "_law_left" 12 ["_law_web_here", "_law_rooms", "_law_purse_here"] (spLeft K)) (c__law_under : Cal P w K mg base "_law_under" 1 ["_law_one", "_law_other"] (spLess K)) : FnOk P w K mg base CX0 13 f fd ["_law_state", "_law_web_here", "_law_rooms", "_law_purse_here", "_law_left_here"] (spWatched K) := by
  refine F.ok sc__law_watched (fun vs H Q E h => ?_) (fun cdv A outer s H vs Q E hr h => ?_)
  · obtain ⟨a, G, sa, vr, rfl, hg, gs, hs, hI, hp, q⟩ := h
    rw [List.length_cons, hI.length]
    rfl
  · obtain ⟨⟨W, R, P, x⟩, G, sa, vr, rfl, hg, gs, hs, hI, hp, q⟩ := h
    have hp : CutPre W R P x := hp
    have hW := hp.hW
    have hR := hp.hR
    have htl := hW.tl
    have hL : 1000 < LN := by decide +kernel
    have A0 := at_startS (K := K) (N := ["_law_state", "_law_web_here", "_law_rooms", "_law_purse_here", "_law_left_here", "_law_at", "_law_less", "_law_one", "_law_other", "_law_word", "_law_length", "_law_worth_here", "_law_ties", "_law_here", "_law_there"]) (ds := [.ref sa, .dat (webD W), .dat (frL R), .dat (frD P), .dat (frD x), .no, .no, .no, .no, .no, .no, .no, .no, .no, .no]) hg gs hs hI
    refine ⟨_, (pss_cons (ps_if (pt_cmpR (w_eqD (K := K) hr.units) (pe_ix (w_ixT (K := K)) (pv 1) pe_int (fun _ _ => rfl)) (pe_lst pa_nil) (nomark _)) (pss_one (ps_ret pe_bl)) pss_nil)
      (pss_cons (ps_set (i := 5) sc__law_watched.nd rfl (Or.inl rfl) (p_call c__law_take (hr.mono (by first | exact Nat.le_refl _ | omega)) (pa_cons (pv 0) (pa_cons (pe_callB (w_len (K := K)) (by rfl) B.len_ PySem.boot_len (pa_cons (pe_ix (w_ixT (K := K)) (pv 1) pe_int (fun _ _ => rfl)) pa_nil)) pa_nil))))
      (pss_cons (ps_set (i := 6) sc__law_watched.nd rfl (Or.inl rfl) (pe_op op_cat (pe_op op_cat (pe_slice (w_slL (K := K)) (pv 2) po_none (po_some (pv 5))) (pe_lst (pa_cons (pe_tup (pa_cons pe_int (pa_cons pe_int pa_nil))) pa_nil))) (pe_slice (w_slL (K := K)) (pv 2) (po_some (pe_op o_add (pv 5) pe_int)) po_none)))
      (pss_cons (ps_asg (pe_ix (w_ixL (K := K)) (pe_ix (w_ixT (K := K)) (pv 1) pe_int (fun _ _ => rfl)) (pv 5) (fun _ _ => rfl)) (w_tup (K := K) (by rfl) (pgs_cons (pg_name (i := 7) sc__law_watched.nd rfl (Or.inl rfl)) (pgs_cons (pg_name (i := 8) sc__law_watched.nd rfl (Or.inl rfl)) (pgs_cons (pg_name (i := 9) sc__law_watched.nd rfl (Or.inl rfl)) (pgs_cons (pg_name (i := 10) sc__law_watched.nd rfl (Or.inl rfl)) (pgs_cons (pg_name (i := 11) sc__law_watched.nd rfl (Or.inl rfl)) pgs_nil)))))))
      (pss_cons (ps_set (i := 12) sc__law_watched.nd rfl (Or.inl rfl) (pe_op op_cat (pe_op op_cat (pe_slice (w_slL (K := K)) (pe_ix (w_ixT (K := K)) (pv 1) pe_int (fun _ _ => rfl)) po_none (po_some (pv 5))) (pe_lst (pa_cons (pe_tup (pa_cons (pv 7) (pa_cons (pv 8) (pa_cons (pv 9) (pa_cons (pv 10) (pa_cons pe_non pa_nil)))))) pa_nil))) (pe_slice (w_slL (K := K)) (pe_ix (w_ixT (K := K)) (pv 1) pe_int (fun _ _ => rfl)) (po_some (pe_op o_add (pv 5) pe_int)) po_none)))
      (pss_cons (ps_set (i := 13) sc__law_watched.nd rfl (Or.inl rfl) (p_call c__law_left (hr.mono (by first | exact Nat.le_refl _ | omega)) (pa_cons (pv 1) (pa_cons (pv 6) (pa_cons (pv 3) pa_nil)))))
      (pss_cons (ps_set (i := 14) sc__law_watched.nd rfl (Or.inl rfl) (p_call c__law_left (hr.mono (by first | exact Nat.le_refl _ | omega)) (pa_cons (pe_tup (pa_cons (pe_ix (w_ixT (K := K)) (pv 1) pe_int (fun _ _ => rfl)) (pa_cons (pv 12) (pa_cons (pe_ix (w_ixT (K := K)) (pv 1) pe_int (fun _ _ => rfl)) (pa_cons (pe_ix (w_ixT (K := K)) (pv 1) pe_int (fun _ _ => rfl)) pa_nil))))) (pa_cons (pv 6) (pa_cons (pv 3) pa_nil)))))
      (pss_one (ps_ret (pe_and (pe_cmpR (w_eqD (K := K) hr.units) (pv 13) (pv 14) (nomark _)) (pe_one (pe_not (p_call c__law_under (hr.mono (by first | exact Nat.le_refl _ | omega)) (pa_cons (pv 4) (pa_cons (pv 13) pa_nil))))))))))))))), ?_⟩
    have web1 : ∀ {ds : List SC} {s : Option Addr}, ds[1]? = some (.dat (webD W)) → EvD K s (tOp (rIxT K) (tVar 1) (tC (.int 1))) ds [] (.list (W.ties.map tieD)) := fun h => ev_ixT1 (xs := [.list (W.places.map .str), .list (W.ties.map tieD), .str W.first, .str W.last]) (ev_var h) rfl
    refine q_when A0 (et_test (ev_eqNilF (l := W.ties.map tieD) (ties_pln _) (ties_shp hW) (web1 rfl))) (fun hb G1 H1 A1 => ?_) fun hb G1 H1 A1 => ?_
    · exact s_ret A1 (c := .dat (.bool true)) ev_bl fun v G' H' st so cp => q v G' H' _ st (so sa rfl) cp.is rfl
    · have hl : 0 < W.ties.length := by
        cases e : W.ties with
        | nil => rw [e] at hb; cases hb
        | cons a r => exact Nat.succ_pos _
      refine q_setR A1 (evr_take (n := ((W.ties.length : Nat) : Int)) (ev_var rfl) (el_cons (EvC.to (ev_lenL (xs := W.ties.map tieD) (web1 rfl)) (by rw [List.length_map])) el_nil) (by omega) (by rw [Int.natAbs_natCast]; omega)) fun d σ2 G2 H2 hd A2 => ?_
      obtain ⟨k, rfl, hk⟩ := hd
      have hk : k < W.ties.length := by omega
      have hkt := List.getElem?_eq_getElem hk
      have hRl := hR.len
      have A2 : At K (some sa) (isS (some sa)) G H [] [.ref sa, .dat (webD W), .dat (frL R), .dat (frD P), .dat (frD x), .dat (.int ((k : Nat) : Int)), .no, .no, .no, .no, .no, .no, .no, .no, .no] [] σ2 G2 H2 := A2
      have eoL : ∀ {ds : List SC} {s : Option Addr}, ds[5]? = some (.dat (.int ((k : Nat) : Int))) → EvO K s (tPart (tVar 5)) ds [] (some ((k : Nat) : Int)) := fun h => eo_some (ev_var h)
      have eoH : ∀ {ds : List SC} {s : Option Addr}, ds[5]? = some (.dat (.int ((k : Nat) : Int))) → EvO K s (tPart (tOp rAddI (tVar 5) (tC (.int 1)))) ds [] (some ((k + 1 : Nat) : Int)) := fun h => eo_some (EvC.to (ev_add (i := ((k : Nat) : Int)) (j := 1) (ev_var h) ev_int) rfl)
      refine q_set A2 (ev_setAt (f := frD) (l := R) (k := k) (x := 0) (ev_var (i := 2) rfl) ev_fr0 (ev_var (i := 2) rfl) (by omega) (by omega) eo_none (eoL rfl) (eoH rfl) eo_none) fun σ3 G3 H3 A3 => ?_
      refine q_unp A3 (d := tieD W.ties[k]) (ev_ixLn (xs := W.ties.map tieD) (web1 rfl) (ev_var rfl) (smap_at hkt)) (tg_tup [7, 8, 9, 10, 11] rfl rfl) fun σ4 G4 H4 A4 => ?_
      have A4 : At K (some sa) (isS (some sa)) G H [] [.ref sa, .dat (webD W), .dat (frL R), .dat (frD P), .dat (frD x), .dat (.int ((k : Nat) : Int)), .dat (frL (R.set k 0)), .dat (.str W.ties[k].one), .dat (.str W.ties[k].other), .dat (.str (wordS W.ties[k].both)), .dat (frD W.ties[k].len), .dat (optD W.ties[k].worth), .no, .no, .no] [] σ4 G4 H4 := A4
      refine q_set A4 (ev_setAt (f := tieD) (l := W.ties) (k := k) (x := { W.ties[k] with worth := none }) (web1 rfl) (ev_tup (dl := [.str W.ties[k].one, .str W.ties[k].other, .str (wordS W.ties[k].both), frD W.ties[k].len, .none]) (el_cons (ev_var rfl) (el_cons (ev_var rfl) (el_cons (ev_var rfl) (el_cons (ev_var rfl) (el_cons ev_non el_nil)))))) (web1 rfl) hk (by omega) eo_none (eoL rfl) (eoH rfl) eo_none) fun σ5 G5 H5 A5 => ?_
      obtain ⟨pre1, pre2⟩ := watch_pre hp.toLeftPre hkt
      refine q_setR A5 (evr_left (W := W) (R := R.set k 0) (P := P) (el_cons (ev_var rfl) (el_cons (ev_var rfl) (el_cons (ev_var rfl) el_nil))) pre1) fun d σ6 G6 H6 hd A6 => ?_
      obtain ⟨y, rfl, hy, hyb⟩ := hd
      refine q_setR A6 (evr_left (W := watch W k W.ties[k]) (R := R.set k 0) (P := P) (el_cons (ev_tup (dl := [.list (W.places.map .str), .list ((W.ties.set k { W.ties[k] with worth := none }).map tieD), .str W.first, .str W.last]) (el_cons (ev_ixT0 (xs := [.list (W.places.map .str), .list (W.ties.map tieD), .str W.first, .str W.last]) (ev_var (i := 1) rfl) rfl) (el_cons (ev_var rfl) (el_cons (ev_ixT2 (xs := [.list (W.places.map .str), .list (W.ties.map tieD), .str W.first, .str W.last]) (ev_var (i := 1) rfl) rfl) (el_cons (ev_ixT3 (xs := [.list (W.places.map .str), .list (W.ties.map tieD), .str W.first, .str W.last]) (ev_var (i := 1) rfl) rfl) el_nil))))) (el_cons (ev_var rfl) (el_cons (ev_var rfl) el_nil))) pre2) fun d σ7 G7 H7 hd A7 => ?_
      obtain ⟨z, rfl, hz, hzb⟩ := hd
      have h0 : (R.set k 0)[k]? = some 0 := List.getElem?_set_self (by omega)
      have hyz : y = z := watch_left hW.wb hkt h0 hy hz
      have hle : y ≤ x := less_left hR hp.lf hy
      have A7 : At K (some sa) (isS (some sa)) G H [] [.ref sa, .dat (webD W), .dat (frL R), .dat (frD P), .dat (frD x), .dat (.int ((k : Nat) : Int)), .dat (frL (R.set k 0)), .dat (.str W.ties[k].one), .dat (.str W.ties[k].other), .dat (.str (wordS W.ties[k].both)), .dat (frD W.ties[k].len), .dat (optD W.ties[k].worth), .dat (.list ((W.ties.set k { W.ties[k] with worth := none }).map tieD)), .dat (frD y), .dat (frD z)] [] σ7 G7 H7 := A7
      refine s_ret A7 (c := .dat (.bool true)) (EvC.to (ev_andV (ev_eqF (a := y) (b := z) (ev_var rfl) (ev_var rfl)) fun _ => ev_notV (ev_is_less (a := x) (b := y) (el_cons (ev_var rfl) (el_cons (ev_var rfl) el_nil)) (hp.sx.sz (by omega)) (hyb.sz (by omega)))) (by rw [decide_eq_true hyz, decide_eq_false (Rat.not_lt.mpr hle)] <;> rfl)) fun v G' H' st so cp => q v G' H' _ st (so sa rfl) cp.is rfl
theorem evr_watched {W : Web} {R : List Rat} {P x : Rat} (h0 : EvC K (some sa) ta ds ms (.ref sa)) (h : EvL K (some sa) t ds ms [webD W, frL R, frD P, frD x]) (hp : CutPre W R P x) : EvD K (some sa) (tCall (spWatched K) [] E (tCons ta t)) ds ms (.bool true) := EvR.d (evr_callS (a := (W, R, P, x)) (post := fun (_ : Web × List Rat × Rat × Rat) d => d = .bool true) h0 h hp) fun d h => h
end
end Fc
namespace Fc
open PySem PySem.Spec PyProof.Rows L2 Sy
def timD (c : Rat) : Sy.D → Sy.D
  | .tuple [.int n, .int m] => frD (mkRat n m.toNat * c)
  | _ => .none
theorem timD_fr (c q : Rat) : timD c (frD q) = frD (q * c) := by
  show frD (mkRat q.num ((q.den : Nat) : Int).toNat * c) = _
  rw [Int.toNat_natCast, Rat.mkRat_self]
theorem paired_amt : ∀ {es dl : List Sy.D}, Paired (fun _ d => AmtOk 1 d) es dl → ∃ R : List Rat, dl = R.map frD ∧ R.length = es.length ∧ ∀ q ∈ R, Bd 1 q ∧ 0 < q ∧ B84 q
  | [], _, h => by
    cases h
    exact ⟨[], rfl, rfl, fun t h => absurd h (by simp)⟩
  | e :: es, _, h => by
    cases h with
    | cons h1 h2 =>
      obtain ⟨q, rfl, q1, _, q2, q3⟩ := h1
      obtain ⟨R, rfl, hl, hm⟩ := paired_amt h2
      exact ⟨q :: R, rfl, by rw [List.length_cons, List.length_cons, hl], fun x hx => (List.mem_cons.mp hx).elim (fun e => e ▸ ⟨q1, q2 (by decide), q3⟩) (hm x)⟩
theorem b84_mul {q : Rat} (h : B84 q) {a b : Nat} (ha : a ≤ 9) (hb0 : 1 ≤ b) (hb : b ≤ 4) : Bd 100 (q * mkRat ((a : Nat) : Int) b) := by
  obtain ⟨k, rfl, hk⟩ := h
  obtain ⟨c, hc, hc2⟩ : ∃ c, 12 = b * c ∧ c ≤ 12 := by
    have : b = 1 ∨ b = 2 ∨ b = 3 ∨ b = 4 := by omega
    rcases this with rfl | rfl | rfl | rfl
    · exact ⟨12, rfl, by omega⟩
    · exact ⟨6, rfl, by omega⟩
    · exact ⟨4, rfl, by omega⟩
    · exact ⟨3, rfl, by omega⟩
  have hc0 : c ≠ 0 := fun z => by subst z; omega
  refine ⟨k * ((a : Nat) : Int) * ((c : Nat) : Int), ?_, ?_⟩
  · rw [Rat.mkRat_mul_mkRat, show (1008 : Nat) = 84 * b * c by rw [Nat.mul_assoc, ← hc], Rat.mkRat_mul_right hc0]
  · rw [Int.natAbs_mul, Int.natAbs_mul, Int.natAbs_natCast, Int.natAbs_natCast]
    have h1 : k.natAbs * a ≤ 10 ^ 60 * 9 := Nat.mul_le_mul hk ha
    have h2 : k.natAbs * a * c ≤ 10 ^ 60 * 9 * 12 := Nat.mul_le_mul h1 hc2
    exact Nat.le_trans h2 (by decide +kernel)
section
variable {P : Program} {w : World} {K : Fg} {mg : Str → Option Value} {base : Heap} {C : Addr}
variable {s : Option Addr} {mu : Addr → Prop} {G0 H0 G H : Hp} {gs : List Hp} {ds : List SC} {ms : List (Addr × MO)} {σ : L2.St} {D : Ends} {t tr t1 t2 : TA} {ta tb te ti to : TE} {tt : TT} {u tz ts : TS} {E E' : XK} {sa p : Addr}
abbrev s_law : Stmt := topS 96
theorem sc_law : FnScope ["_law_script", "_law_web_here", "_law_k", "_law_state", "_law_rooms", "_law_purse_here", "_law_left_here", "_law_factor", "_law_many", "_law_most", "_law_tie_here", "_law_room"] ["_law_script"] (defScope s_law) := ⟨rfl, rfl, rfl, by decide +kernel, rfl, by decide +kernel, by decide +kernel⟩

def spLaw (K : Fg) : Sp := fun vs H Q _ => ∃ (a : Addr) (ns : List Int), vs = [.ref a] ∧ SqL K H a (ns.map V.int) ∧ ns.length ≤ 63 ∧ ∀ H', Q (.bl true) H'
theorem ok_law {f : Addr} {fd : FuncData} (F : Fun K "law" "law" s_law f fd) (B : Bl mg) (c__law_web : Cal P w K mg base "_law_web" 4 ["_law_script", "_law_most_places", "_law_most_ties"] (spLWebL K)) (c__law_begun : Cal P w K mg base "_law_begun" 1 ["_law_script", "_law_k"] (spBegun K)) (c__law_amount : Cal P w K mg base "_law_amount" 2 ["_law_state", "_law_least"] (spAmount K)) (c__law_purse : Cal P w K mg base "_law_purse" 4 ["_law_state", "_law_web_here", "_law_most"] (spLawPurse K))
    (c__law_left : Cal P w K mg base "_law_left" 12 ["_law_web_here", "_law_rooms", "_law_purse_here"] (spLeft K)) (c__law_cuts : Cal P w K mg base "_law_cuts" 15 ["_law_web_here", "_law_rooms", "_law_purse_here", "_law_left_here"] (spCuts K)) (c__law_low : Cal P w K mg base "_law_low" 1 ["_law_top", "_law_bottom"] (spLowest K)) (c__law_take : Cal P w K mg base "_law_take" 1 ["_law_state", "_law_many"] (spTake K)) (c__law_times : Cal P w K mg base "_law_times" 2 ["_law_one", "_law_other"] (spTimes K))
    (c_most_flow : Cal P w K mg base "most_flow" 8 ["web", "rooms", "taking"] (spMostFlow K)) (c_amount_of : Cal P w K mg base "amount_of" 7 ["web", "flow"] (spAmtOf K)) (c__law_under : Cal P w K mg base "_law_under" 1 ["_law_one", "_law_other"] (spLess K)) (c__law_watched : Cal P w K mg base "_law_watched" 13 ["_law_state", "_law_web_here", "_law_rooms", "_law_purse_here", "_law_left_here"] (spWatched K)) : FnOk P w K mg base CX0 16 f fd ["_law_script"] (spLaw K) := by
  refine F.ok sc_law (fun vs H Q E h => ?_) (fun cdv A outer s H vs Q E hr h => ?_)
  · obtain ⟨a, ns, rfl, _⟩ := h
    rfl
  · obtain ⟨a, ns, rfl, hS, hz, q⟩ := h
    have hI : IsA K H [.ref a] [scrD ns] := .cons (.scr hS) .nil
    have A0 := at_start (K := K) (N := ["_law_script", "_law_web_here", "_law_k", "_law_state", "_law_rooms", "_law_purse_here", "_law_left_here", "_law_factor", "_law_many", "_law_most", "_law_tie_here", "_law_room"]) (ds := [.dat (scrD ns), .no, .no, .no, .no, .no, .no, .no, .no, .no, .no, .no]) (Same.refl H) hI
    refine ⟨_, (pss_cons (ps_set (i := 1) sc_law.nd rfl (Or.inl rfl) (p_call c__law_web (hr.mono (by first | exact Nat.le_refl _ | omega)) (pa_cons (pv 0) (pa_cons pe_int (pa_cons pe_int pa_nil)))))
      (pss_cons (ps_for PassesOwn.never rfl (pi_range2 (by rfl) B.range_ (pa_cons pe_int (pa_cons (pe_callB (w_max2 rfl) (by rfl) B.max_ (by decide +kernel) (pa_cons pe_int (pa_cons (pe_callB (w_min2 rfl) (by rfl) B.min_ (by decide +kernel) (pa_cons (pe_callB (w_len (K := K)) (by rfl) B.len_ PySem.boot_len (pa_cons (pv 0) pa_nil)) (pa_cons pe_int pa_nil))) pa_nil))) pa_nil))) (pg_name (i := 2) sc_law.nd rfl (Or.inl rfl)) (pss_cons (ps_set (i := 3) sc_law.nd rfl (Or.inr rfl) (p_call c__law_begun (hr.mono (by first | exact Nat.le_refl _ | omega)) (pa_cons (pv 0) (pa_cons (pv 2) pa_nil))))
      (pss_cons (ps_setLc (i := 4) (own := [("_law_tie_here", 10)]) (g := gName 10) (tt := tYes) rfl sc_law.nd rfl rfl (sw_true rfl rfl rfl (by decide +kernel)) (w_list (K := K) (pe_ix (w_ixT (K := K)) (pv 1) pe_int (fun _ _ => rfl))) (blkOk_by (own := [("_law_tie_here", 10)]) (N := ["_law_script", "_law_web_here", "_law_k", "_law_state", "_law_rooms", "_law_purse_here", "_law_left_here", "_law_factor", "_law_many", "_law_most", "_law_tie_here", "_law_room"]) (sc := defScope s_law) (by decide +kernel)) (fun _ _ _ _ _ => (pg_name (i := 10) sc_law.nd rfl (Or.inl rfl))) (fun _ _ _ _ _ => pts_nil) (fun _ _ _ _ _ => (p_call c__law_amount (hr.mono (by first | exact Nat.le_refl _ | omega)) (pa_cons (pv 3) (pa_cons pe_int pa_nil)))))
      (pss_cons (ps_set (i := 5) sc_law.nd rfl (Or.inl rfl) (p_call c__law_purse (hr.mono (by first | exact Nat.le_refl _ | omega)) (pa_cons (pv 3) (pa_cons (pv 1) (pa_cons pe_int pa_nil)))))
      (pss_cons (ps_set (i := 6) sc_law.nd rfl (Or.inl rfl) (p_call c__law_left (hr.mono (by first | exact Nat.le_refl _ | omega)) (pa_cons (pv 1) (pa_cons (pv 4) (pa_cons (pv 5) pa_nil)))))
      (pss_cons (ps_if (pt_not (pt_val (p_call c__law_cuts (hr.mono (by first | exact Nat.le_refl _ | omega)) (pa_cons (pv 1) (pa_cons (pv 4) (pa_cons (pv 5) (pa_cons (pv 6) pa_nil))))))) (pss_one (ps_ret pe_bl)) pss_nil)
      (pss_cons (ps_set (i := 7) sc_law.nd rfl (Or.inr rfl) (p_call c__law_low (hr.mono (by first | exact Nat.le_refl _ | omega)) (pa_cons (pe_op o_add pe_int (p_call c__law_take (hr.mono (by first | exact Nat.le_refl _ | omega)) (pa_cons (pv 3) (pa_cons pe_int pa_nil)))) (pa_cons (pe_op o_add pe_int (p_call c__law_take (hr.mono (by first | exact Nat.le_refl _ | omega)) (pa_cons (pv 3) (pa_cons pe_int pa_nil)))) pa_nil))))
      (pss_cons (ps_setLc (i := 8) (own := [("_law_room", 11)]) (g := gName 11) (tt := tYes) rfl sc_law.nd rfl rfl (sw_true rfl rfl rfl (by decide +kernel)) (w_list (K := K) (pv 4)) (blkOk_by (own := [("_law_room", 11)]) (N := ["_law_script", "_law_web_here", "_law_k", "_law_state", "_law_rooms", "_law_purse_here", "_law_left_here", "_law_factor", "_law_many", "_law_most", "_law_tie_here", "_law_room"]) (sc := defScope s_law) (by decide +kernel)) (fun _ _ _ _ _ => (pg_name (i := 11) sc_law.nd rfl (Or.inl rfl))) (fun _ _ _ _ _ => pts_nil) (fun _ _ _ _ _ => (p_call c__law_times (hr.mono (by first | exact Nat.le_refl _ | omega)) (pa_cons (pv 11) (pa_cons (pv 7) pa_nil)))))
      (pss_cons (ps_if (pt_cmpR (w_neD (K := K) hr.units) (p_call c__law_left (hr.mono (by first | exact Nat.le_refl _ | omega)) (pa_cons (pv 1) (pa_cons (pv 8) (pa_cons (pv 5) pa_nil)))) (p_call c__law_times (hr.mono (by first | exact Nat.le_refl _ | omega)) (pa_cons (pv 6) (pa_cons (pv 7) pa_nil))) (nomark _)) (pss_one (ps_ret pe_bl)) pss_nil)
      (pss_cons (ps_set (i := 9) sc_law.nd rfl (Or.inl rfl) (p_call c_amount_of (hr.mono (by first | exact Nat.le_refl _ | omega)) (pa_cons (pv 1) (pa_cons (pe_ix (w_ixT (K := K)) (p_call c_most_flow (hr.mono (by first | exact Nat.le_refl _ | omega)) (pa_cons (pv 1) (pa_cons (pv 4) (pa_cons (pe_lst pa_nil) pa_nil)))) pe_int (fun _ _ => rfl)) pa_nil))))
      (pss_cons (ps_if (PW.pt (pw_or (pt_cmpR (w_neD (K := K) hr.units) (p_call c__law_left (hr.mono (by first | exact Nat.le_refl _ | omega)) (pa_cons (pv 1) (pa_cons (pv 4) (pa_cons (pe_tup (pa_cons pe_int (pa_cons pe_int pa_nil))) pa_nil)))) (pv 9) (nomark _)) (pw_or1 (pt_val (p_call c__law_under (hr.mono (by first | exact Nat.le_refl _ | omega)) (pa_cons (pv 9) (pa_cons (pv 6) pa_nil))))))) (pss_one (ps_ret pe_bl)) pss_nil)
      (pss_one (ps_if (pt_not (pt_val (p_call c__law_watched (hr.mono (by first | exact Nat.le_refl _ | omega)) (pa_cons (pv 3) (pa_cons (pv 1) (pa_cons (pv 4) (pa_cons (pv 5) (pa_cons (pv 6) pa_nil)))))))) (pss_one (ps_ret pe_bl)) pss_nil)))))))))))))
      (pss_one (ps_ret pe_bl)))), ?_⟩
    refine q_setR A0 (evr_call (enc := fun ns : List Int => [scrD ns, .int 7, .int 11]) (pre := fun ns => ns.length ≤ 1000) (post := fun _ d => WebRes d) (a := ns) (el_cons (ev_var rfl) (el_cons ev_int (el_cons ev_int el_nil))) (show ns.length ≤ 1000 by omega)) fun d σ1 G1 H1 hd A1 => ?_
    obtain ⟨W, rfl, hW, htl⟩ := hd
    have A1 : At K none mu0 H H [] [.dat (scrD ns), .dat (webD W), .no, .no, .no, .no, .no, .no, .no, .no, .no, .no] [] σ1 G1 H1 := A1
    refine q_for A1 (it_rng2 (l := 15) (j := if (if (19 : Int) < ((ns.length : Nat) : Int) then (19 : Int) else ((ns.length : Nat) : Int)) > 16 then (if (19 : Int) < ((ns.length : Nat) : Int) then (19 : Int) else ((ns.length : Nat) : Int)) else 16) (el_cons ev_int (el_cons (ev_max2 ev_int (ev_min2 (ev_scrLen (ns := ns) (ev_var rfl)) ev_int)) el_nil)) ⟨by decide, by decide, by split <;> split <;> omega, by split <;> split <;> omega⟩) (fun i e he => tg_name)
      (fun i ds ms => ∃ c2 c3 c4 c5 c6 c7 c8 c9 c10 c11 : SC, ds = [.dat (scrD ns), .dat (webD W), c2, c3, c4, c5, c6, c7, c8, c9, c10, c11] ∧ ms = []) ⟨_, _, _, _, _, _, _, _, _, _, rfl, rfl⟩ (fun _ _ _ _ _ => trivial) (fun gs i e ds ms σ2 G2 H2 L he j A2 hL => ?_) fun ds ms σ2 G2 H2 j A2 => ?_
    · obtain ⟨c2, c3, c4, c5, c6, c7, c8, c9, c10, c11, rfl, rfl⟩ := j
      obtain ⟨hi, rfl⟩ := rngD_get he
      have hi4 : i ≤ 10 := by
        revert hi
        split <;> split <;> omega
      have A2 : At K none mu0 H H gs [.dat (scrD ns), .dat (webD W), .dat (.int (15 + ((i : Nat) : Int))), c3, c4, c5, c6, c7, c8, c9, c10, c11] [] σ2 G2 H2 := A2
      refine q_begun (n := 15 + i) A2 (el_cons (ev_var rfl) (el_cons (EvC.to (ev_var (i := 2) (c := .dat (.int (15 + ((i : Nat) : Int)))) rfl) (by rw [Int.natCast_add]; rfl)) el_nil)) (by omega) (by omega) fun sa σ3 G3 H3 A3 => ?_
      -- rooms
      refine q_setR (Φ := fun d => ∃ R : List Rat, d = frL R ∧ R.length = W.ties.length ∧ ∀ q ∈ R, Bd 1 q ∧ 0 < q ∧ B84 q) A3 ((EvN.r (en_lc (p := fun _ => true) (Φ := fun _ d => AmtOk 1 d) (it_list (es := W.ties.map tieD) (ev_ixT1 (xs := [.list (W.places.map .str), .list (W.ties.map tieD), .str W.first, .str W.last]) (ev_var (i := 1) rfl) rfl)) trivial (fun i e he => tw_name) (fun i e he => et_yes) (fun i e he _ => evr_amount (n := 1) (ev_var rfl) (el_cons ev_int el_nil) (by decide) (by decide)) (by rw [List.length_map]; omega))).imp fun d ⟨dl, e, hpd⟩ => ?_) fun d σ4 G4 H4 hd A4 => ?_
      · rw [filter_all] at hpd
        obtain ⟨R, e2, hl, hq⟩ := paired_amt hpd
        exact ⟨R, by rw [e, e2]; rfl, by rw [hl, List.length_map], hq⟩
      obtain ⟨R, rfl, hRl, hRq⟩ := hd
      have hR : RoomsOk W R := ⟨hRl, fun q hq => Rat.le_of_lt (hRq q hq).2.1, fun q hq => (hRq q hq).1.mono (by omega)⟩
      have hpos : ∀ r ∈ R, 0 < r := fun r hr => (hRq r hr).2.1
      -- purse
      refine q_setR A4 (evr_purse (W := W) (ev_var rfl) (el_cons (ev_var rfl) (el_cons ev_int el_nil)) hW.wb) fun d σ5 G5 H5 hd A5 => ?_
      obtain ⟨P, rfl, hP⟩ := hd
      have hlp : LeftPre W R P := ⟨hW, hR, hP⟩
      refine q_setR A5 (evr_left (W := W) (R := R) (P := P) (el_cons (ev_var rfl) (el_cons (ev_var rfl) (el_cons (ev_var rfl) el_nil))) hlp) fun d σ6 G6 H6 hd A6 => ?_
      obtain ⟨x, rfl, hx, hxb⟩ := hd
      have hcp : CutPre W R P x := ⟨hlp, hpos, hx, hxb⟩
      have A6 : At K (some sa) mu0 H H gs [.dat (scrD ns), .dat (webD W), .dat (.int (15 + ((i : Nat) : Int))), .ref sa, .dat (frL R), .dat (frD P), .dat (frD x), c7, c8, c9, c10, c11] [] σ6 G6 H6 := A6
      refine q_no A6 (et_not (et_B (ev_cuts (W := W) (R := R) (P := P) (x := x) (el_cons (ev_var rfl) (el_cons (ev_var rfl) (el_cons (ev_var rfl) (el_cons (ev_var rfl) el_nil)))) hcp))) fun G7 H7 A7 => ?_
      -- factor
      refine q_setR (Φ := fun d => ∃ a b : Nat, d = frD (mkRat ((a : Nat) : Int) b) ∧ 1 ≤ a ∧ a ≤ 9 ∧ 1 ≤ b ∧ b ≤ 4) A7 ((evr_callX (enc := fun p : Int × Int => [.int p.1, .int p.2]) (pre := fun p => 0 < p.2 ∧ p.2.natAbs < LN2) (post := fun p d => d = frD (mkRat p.1 p.2.toNat)) (Ψ := fun p => 1 ≤ p.1 ∧ p.1 ≤ 9 ∧ 1 ≤ p.2 ∧ p.2 ≤ 4)
        (elr_cons (evr_opI0 (g := fun i j => i + j) (Φ := fun i => i = 1) (Ψ := fun j => 0 ≤ j ∧ j < 9) (EvC.rI ev_int) ((evr_take (n := 9) (ev_var rfl) (el_cons ev_int el_nil) (by decide) (by decide +kernel)).imp fun d ⟨i, e, h⟩ => ⟨_, e, Int.natCast_nonneg _, h⟩))
          (elr_cons (evr_opI0 (g := fun i j => i + j) (Φ := fun i => i = 1) (Ψ := fun j => 0 ≤ j ∧ j < 4) (EvC.rI ev_int) ((evr_take (n := 4) (ev_var rfl) (el_cons ev_int el_nil) (by decide) (by decide +kernel)).imp fun d ⟨i, e, h⟩ => ⟨_, e, Int.natCast_nonneg _, h⟩)) elr_nil)) fun dl hd => ?_).imp fun d hd => ?_) fun d σ8 G8 H8 hd A8 => ?_
      · obtain ⟨_, _, rfl, ⟨r1, rfl, i1, j1, rfl, ⟨h1, h2⟩, rfl⟩, _, _, rfl, ⟨r2, rfl, i2, j2, rfl, ⟨h3, h4⟩, rfl⟩, rfl⟩ := hd
        refine ⟨(1 + j1, 1 + j2), rfl, ⟨by show 0 < 1 + j2; omega, ?_⟩, by show 1 ≤ 1 + j1; omega, by show 1 + j1 ≤ 9; omega, by show 1 ≤ 1 + j2; omega, by show 1 + j2 ≤ 4; omega⟩
        have : 5 < LN2 := by decide +kernel
        show (1 + j2).natAbs < LN2
        omega
      · obtain ⟨⟨a, b⟩, ⟨h1, h2, h3, h4⟩, hd⟩ := hd
        have h1 : 1 ≤ a := h1
        have h2 : a ≤ 9 := h2
        have h3 : 1 ≤ b := h3
        have h4 : b ≤ 4 := h4
        refine ⟨a.toNat, b.toNat, ?_, by omega, by omega, by omega, by omega⟩
        rw [Int.toNat_of_nonneg (by omega)]
        exact hd
      obtain ⟨a, b, rfl, ha1, ha9, hb1, hb4⟩ := hd
      have hc0 : 0 ≤ mkRat ((a : Nat) : Int) b := mkr_nn (by omega) (Int.natCast_nonneg _)
      have h9 : 9 < LN := by decide +kernel
      have hcs : Sz (mkRat ((a : Nat) : Int) b) := mk_sz (by rw [Int.natAbs_natCast]; omega) (by omega)
      have A8 : At K (some sa) mu0 H H gs [.dat (scrD ns), .dat (webD W), .dat (.int (15 + ((i : Nat) : Int))), .ref sa, .dat (frL R), .dat (frD P), .dat (frD x), .dat (frD (mkRat ((a : Nat) : Int) b)), c8, c9, c10, c11] [] σ8 G8 H8 := A8
      -- many
      refine q_set A8 (c := .dat (frL (R.map (· * mkRat ((a : Nat) : Int) b)))) (EvN.dat ((en_lcD (p := fun _ => true) (F := timD (mkRat ((a : Nat) : Int) b)) (it_list (es := R.map frD) (ev_var (i := 4) rfl)) trivial (fun i e he => tw_name) (fun i e he => et_yes) (fun i e he _ => ?_) (by rw [List.length_map]; omega)).imp fun dl h => h.trans ?_)) fun σ9 G9 H9 A9 => ?_
      · obtain ⟨r, hr, rfl⟩ := smap_get he
        rw [timD_fr]
        exact ev_times (a := r) (b := mkRat ((a : Nat) : Int) b) (el_cons (ev_var rfl) (el_cons (ev_var rfl) el_nil)) ((hRq r (List.mem_of_getElem? hr)).1.sz (by omega)) hcs
      · rw [filter_all, List.map_map, List.map_map]
        exact List.map_congr_left fun r _ => timD_fr _ r
      have hlp2 : LeftPre W (R.map (· * mkRat ((a : Nat) : Int) b)) P := ⟨hW, ⟨by rw [List.length_map]; exact hRl, fun y hy => by
        obtain ⟨r, hr, rfl⟩ := List.mem_map.mp hy
        exact Rat.mul_nonneg (Rat.le_of_lt (hpos r hr)) hc0, fun y hy => by
        obtain ⟨r, hr, rfl⟩ := List.mem_map.mp hy
        exact b84_mul (hRq r hr).2.2 ha9 hb1 hb4⟩, hP⟩
      have A9 : At K (some sa) mu0 H H gs [.dat (scrD ns), .dat (webD W), .dat (.int (15 + ((i : Nat) : Int))), .ref sa, .dat (frL R), .dat (frD P), .dat (frD x), .dat (frD (mkRat ((a : Nat) : Int) b)), .dat (frL (R.map (· * mkRat ((a : Nat) : Int) b))), c9, c10, c11] [] σ9 G9 H9 := A9
      refine q_no A9 (EvT.to (et_test (ev_neF (a := x * mkRat ((a : Nat) : Int) b) (b := x * mkRat ((a : Nat) : Int) b) (ev_left (W := W) (R := R.map (· * mkRat ((a : Nat) : Int) b)) (P := P) (el_cons (ev_var (i := 1) rfl) (el_cons (ev_var (i := 8) rfl) (el_cons (ev_var (i := 5) rfl) el_nil))) hlp2 (hx.scale hc0)) (ev_times (a := x) (b := mkRat ((a : Nat) : Int) b) (el_cons (ev_var (i := 6) rfl) (el_cons (ev_var (i := 7) rfl) el_nil)) (hxb.sz (by omega)) hcs))) (by rw [decide_eq_true rfl] <;> rfl)) fun G10 H10 A10 => ?_
      -- most
      refine q_setR A10 (evr_most0 (W := W) (R := R) (T := []) (el_cons (ev_var (i := 1) rfl) (el_cons (ev_var (i := 4) rfl) (el_cons (ev_lst (dl := []) el_nil) el_nil))) (ev_var (i := 1) rfl) hW hR ⟨.nil, fun k hk => absurd hk (by simp)⟩ (Nat.zero_le _)) fun d σ11 G11 H11 hd A11 => ?_
      obtain ⟨fl, S, rfl, hmo⟩ := hd
      have hlp0 : LeftPre W R 0 := ⟨hW, hR, Bd.zero.sz (by omega), Rat.le_refl, by rw [once_zero hW.wb]; omega⟩
      have hmb := amt_bd (hmo.fl hW)
      have hle := left_most hP.nn hmo hx
      have A11 : At K (some sa) mu0 H H gs [.dat (scrD ns), .dat (webD W), .dat (.int (15 + ((i : Nat) : Int))), .ref sa, .dat (frL R), .dat (frD P), .dat (frD x), .dat (frD (mkRat ((a : Nat) : Int) b)), .dat (frL (R.map (· * mkRat ((a : Nat) : Int) b))), .dat (frD (amtR W fl)), c10, c11] [] σ11 G11 H11 := A11
      refine q_no A11 (EvT.to (et_or (et_test (ev_neF (a := amtR W fl) (b := amtR W fl) (ev_left (W := W) (R := R) (P := 0) (el_cons (ev_var (i := 1) rfl) (el_cons (ev_var (i := 4) rfl) (el_cons ev_fr0 el_nil))) hlp0 (left_zero hW hmo)) (ev_var (i := 9) rfl))) fun _ => et_B (ev_is_less (a := amtR W fl) (b := x) (el_cons (ev_var (i := 9) rfl) (el_cons (ev_var (i := 6) rfl) el_nil)) (hmb.sz (by omega)) (hxb.sz (by omega)))) (by rw [decide_eq_true rfl, decide_eq_false (Rat.not_lt.mpr hle)] <;> rfl)) fun G12 H12 A12 => ?_
      refine s_no A12 (et_not (et_B (evr_watched (W := W) (R := R) (P := P) (x := x) (ev_var (i := 3) rfl) (el_cons (ev_var (i := 1) rfl) (el_cons (ev_var (i := 4) rfl) (el_cons (ev_var (i := 5) rfl) (el_cons (ev_var (i := 6) rfl) el_nil)))) hcp))) fun G13 H13 A13 => ?_
      exact hL _ _ _ _ _ ⟨_, _, _, _, _, _, _, _, _, _, rfl, rfl⟩ (undraw A13)
    · obtain ⟨c2, c3, c4, c5, c6, c7, c8, c9, c10, c11, rfl, rfl⟩ := j
      exact s_ret A2 (c := .dat (.bool true)) ev_bl fun v G' H' st so cp => by
        have := cp.is
        cases this
        exact q H'
end
end Fc
namespace Fc
open PySem PySem.Spec PyProof.Rows L2 Sy
/-! ### the head: what the top has written -/
def FnAt (K : Fg) (n : Str) (st : Stmt) : Prop := ∃ (f : Addr) (fd : FuncData), PySem.W.nsIn K mainGlobals n = some (some (.ref f)) ∧ Fun K n n st f fd
theorem fnAt {K : Fg} {n : Str} {st : Stmt} {f : Addr} {oc : Value} {od an : Option Addr} {osl : Array (Option Value)} {kV doc pm cdv ct : Value} (a : PySem.W.nsIn K mainGlobals n = some (some (.ref f))) (l : K.lookup f = some ⟨oc, od, .func (PySem.W.fnOf n n (defArgs st) (defBody st) (defScope st) .none kV doc pm an cdv ct), osl⟩) (c : PySem.W.codeIn K cdv n = true) (k : PySem.W.keepIn K (.ref f) = true) : FnAt K n st := ⟨f, _, a, fun_mk l c k⟩
def MtAt (K : Fg) (C : Addr) (m qual : Str) (st : Stmt) : Prop := ∃ (f : Addr) (fd : FuncData), Meth K C m f ∧ Fun K m qual st f fd
theorem mtAt {K : Fg} {C : Addr} {m qual : Str} {st : Stmt} {f : Addr} {oc : Value} {od an : Option Addr} {osl : Array (Option Value)} {kV doc pm cdv ct : Value} (a : PySem.W.findIn K (.ref C) m = some (some (.ref f))) (i : PySem.W.isFn K (.ref f) = true) (l : K.lookup f = some ⟨oc, od, .func (PySem.W.fnOf m qual (defArgs st) (defBody st) (defScope st) .none kV doc pm an cdv ct), osl⟩) (c : PySem.W.codeIn K cdv qual = true) (k : PySem.W.keepIn K (.ref f) = true) : MtAt K C m qual st := ⟨f, _, ⟨a, i, k⟩, fun_mk l c k⟩
structure ClAt (K : Fg) (C : Addr) : Prop where
  cl : Cls K C
  mks : PySem.W.makesIn K C = true
  kc : PySem.W.keepIn K (.ref C) = true
theorem clAt {K : Fg} {C : Addr} (pg : PySem.W.plainGet K C Str.empty = true) (hd : PySem.W.hasDictIn K C = true) (po : PySem.W.plainOver K C = true) (sa : PySem.W.findIn K (.ref C) "__setattr__" = some (some (.builtin "object.__setattr__"))) (mk : PySem.W.makesIn K C = true) (kc : PySem.W.keepIn K (.ref C) = true) : ClAt K C := ⟨⟨pg, hd, po, sa⟩, mk, kc⟩
theorem all_mk {l : PySem.W.OpenLaw} {w : World} {K : Fg} {h : Heap} {mg : Str → Option Value} {fa C1 C2 C3 aN fL : Addr} {odN odL anL : Option Addr} {slN slL : Array (Option Value)} {nN : Nat} {ocL kVL dcL pmL cdL ctL : Value} {t1 t2 t3 t4 t5 t6 t7 t8 t9 : Tok} (X : K.In h) (G : h.Ns mainGlobals mg) (hfa : mg "law" = some (.ref fa))
    (aC1 : PySem.W.nsIn K mainGlobals "Pipes" = some (some (.ref C1)))
    (kC1 : ClAt K C1)
    (nC1_net : PySem.W.findIn K (.ref C1) "net" = some none)
    (nC1_bottom : PySem.W.findIn K (.ref C1) "bottom" = some none)
    (nC1_rooms : PySem.W.findIn K (.ref C1) "rooms" = some none)
    (nC1_amounts : PySem.W.findIn K (.ref C1) "amounts" = some none)
    (aC2 : PySem.W.nsIn K mainGlobals "StopSearch" = some (some (.ref C2)))
    (kC2 : ClAt K C2)
    (nC2_stopped_web : PySem.W.findIn K (.ref C2) "stopped_web" = some none)
    (nC2_given : PySem.W.findIn K (.ref C2) "given" = some none)
    (nC2_spending : PySem.W.findIn K (.ref C2) "spending" = some none)
    (nC2_found : PySem.W.findIn K (.ref C2) "found" = some none)
    (aC3 : PySem.W.nsIn K mainGlobals "Search" = some (some (.ref C3)))
    (kC3 : ClAt K C3)
    (nC3_searched_web : PySem.W.findIn K (.ref C3) "searched_web" = some none)
    (nC3_held : PySem.W.findIn K (.ref C3) "held" = some none)
    (nC3_tops : PySem.W.findIn K (.ref C3) "tops" = some none)
    (f_divisor : FnAt K "divisor" s_divisor)
    (f_lowest : FnAt K "lowest" s_lowest)
    (f_plus : FnAt K "plus" s_plus)
    (f_minus : FnAt K "minus" s_minus)
    (f_is_less : FnAt K "is_less" s_is_less)
    (f_is_whole : FnAt K "is_whole" s_is_whole)
    (f_is_ratio : FnAt K "is_ratio" s_is_ratio)
    (f_is_name : FnAt K "is_name" s_is_name)
    (f_is_length : FnAt K "is_length" s_is_length)
    (f_is_worth : FnAt K "is_worth" s_is_worth)
    (f_is_tie : FnAt K "is_tie" s_is_tie)
    (f_look_at_places : FnAt K "look_at_places" s_look_at_places)
    (f_look_at_ties : FnAt K "look_at_ties" s_look_at_ties)
    (f_look_at_web : FnAt K "look_at_web" s_look_at_web)
    (f_is_tie_number : FnAt K "is_tie_number" s_is_tie_number)
    (f_is_purse : FnAt K "is_purse" s_is_purse)
    (f_look_at_purse : FnAt K "look_at_purse" s_look_at_purse)
    (f_is_taking : FnAt K "is_taking" s_is_taking)
    (f_look_at_taking : FnAt K "look_at_taking" s_look_at_taking)
    (f_sum_of : FnAt K "sum_of" s_sum_of)
    (f_worth_in : FnAt K "worth_in" s_worth_in)
    (f_fits : FnAt K "fits" s_fits)
    (f_at_once : FnAt K "at_once" s_at_once)
    (f_askable : FnAt K "askable" s_askable)
    (f_is_rooms : FnAt K "is_rooms" s_is_rooms)
    (f_look_at_rooms : FnAt K "look_at_rooms" s_look_at_rooms)
    (f_going : FnAt K "going" s_going)
    (f_amount_in : FnAt K "amount_in" s_amount_in)
    (f_amount_of : FnAt K "amount_of" s_amount_of)
    (f_common_bottom : FnAt K "common_bottom" s_common_bottom)
    (f_common_of : FnAt K "common_of" s_common_of)
    (f_whole_of : FnAt K "whole_of" s_whole_of)
    (f_lengths_in : FnAt K "lengths_in" s_lengths_in)
    (f_behind : FnAt K "behind" s_behind)
    (f_is_longer : FnAt K "is_longer" s_is_longer)
    (f_look_at_size : FnAt K "look_at_size" s_look_at_size)
    (f_most_in : FnAt K "most_in" s_most_in)
    (f_most_flow : FnAt K "most_flow" s_most_flow)
    (f_best_stop : FnAt K "best_stop" s_best_stop)
    (f_nearest : FnAt K "nearest" s_nearest)
    (f_reached : FnAt K "reached" s_reached)
    (f_way_back : FnAt K "way_back" s_way_back)
    (f_least_by : FnAt K "least_by" s_least_by)
    (f_least_in : FnAt K "least_in" s_least_in)
    (f_side_in : FnAt K "side_in" s_side_in)
    (f_least_way : FnAt K "least_way" s_least_way)
    (f_searched : FnAt K "searched" s_searched)
    (f_best_in : FnAt K "best_in" s_best_in)
    (f_best_taking : FnAt K "best_taking" s_best_taking)
    (f__law_low : FnAt K "_law_low" s__law_low)
    (f__law_plus : FnAt K "_law_plus" s__law_plus)
    (f__law_under : FnAt K "_law_under" s__law_under)
    (f__law_times : FnAt K "_law_times" s__law_times)
    (f__law_take : FnAt K "_law_take" s__law_take)
    (f__law_begun : FnAt K "_law_begun" s__law_begun)
    (f__law_amount : FnAt K "_law_amount" s__law_amount)
    (f__law_names : FnAt K "_law_names" s__law_names)
    (f__law_tie : FnAt K "_law_tie" s__law_tie)
    (f__law_web : FnAt K "_law_web" s__law_web)
    (f__law_cheapest : FnAt K "_law_cheapest" s__law_cheapest)
    (f__law_purse : FnAt K "_law_purse" s__law_purse)
    (f__law_left : FnAt K "_law_left" s__law_left)
    (f__law_cuts : FnAt K "_law_cuts" s__law_cuts)
    (f__law_watched : FnAt K "_law_watched" s__law_watched)
    (m_Pipes_spare : MtAt K C1 "spare" "Pipes.spare" s_Pipes_spare)
    (m_Pipes_over : MtAt K C1 "over" "Pipes.over" s_Pipes_over)
    (m_Pipes_reached : MtAt K C1 "reached" "Pipes.reached" s_Pipes_reached)
    (m_Pipes_back : MtAt K C1 "back" "Pipes.back" s_Pipes_back)
    (m_Pipes_send : MtAt K C1 "send" "Pipes.send" s_Pipes_send)
    (m_Pipes_flow : MtAt K C1 "flow" "Pipes.flow" s_Pipes_flow)
    (m_Pipes_fill : MtAt K C1 "fill" "Pipes.fill" s_Pipes_fill)
    (m_Pipes___init__ : MtAt K C1 "__init__" "Pipes.__init__" s_Pipes___init__)
    (m_StopSearch_go_down : MtAt K C2 "go_down" "StopSearch.go_down" s_StopSearch_go_down)
    (m_StopSearch___init__ : MtAt K C2 "__init__" "StopSearch.__init__" s_StopSearch___init__)
    (m_Search_go_through : MtAt K C3 "go_through" "Search.go_through" s_Search_go_through)
    (m_Search___init__ : MtAt K C3 "__init__" "Search.__init__" s_Search___init__)
    (z_len : PySem.W.nsIn K mainGlobals "len" = some none)
    (z_abs : PySem.W.nsIn K mainGlobals "abs" = some none)
    (z_isinstance : PySem.W.nsIn K mainGlobals "isinstance" = some none)
    (z_min : PySem.W.nsIn K mainGlobals "min" = some none)
    (z_max : PySem.W.nsIn K mainGlobals "max" = some none)
    (z_sorted : PySem.W.nsIn K mainGlobals "sorted" = some none)
    (z_range : PySem.W.nsIn K mainGlobals "range" = some none)
    (z_int : PySem.W.nsIn K mainGlobals "int" = some none)
    (z_str : PySem.W.nsIn K mainGlobals "str" = some none)
    (z_list : PySem.W.nsIn K mainGlobals "list" = some none)
    (z_tuple : PySem.W.nsIn K mainGlobals "tuple" = some none)
    (z_bool : PySem.W.nsIn K mainGlobals "bool" = some none)
    (gN : PySem.W.nsIn K mainGlobals "NOUGHT" = some (some (.ref aN)))
    (lN : K.lookup aN = some ⟨.type "tuple", odN, .seq #[.int 0 t1, .int 1 t2] nN, slN⟩)
    (gL : PySem.W.nsIn K mainGlobals "LETTERS" = some (some (.str "abcdefghijklmnopqrstuvwxyz" t3)))
    (g4 : PySem.W.nsIn K mainGlobals "MOST_SIGNS" = some (some (.int 8 t4)))
    (g5 : PySem.W.nsIn K mainGlobals "LEAST_PLACES" = some (some (.int 2 t5)))
    (g6 : PySem.W.nsIn K mainGlobals "MOST_PLACES" = some (some (.int 7 t6)))
    (g7 : PySem.W.nsIn K mainGlobals "MOST_TIES" = some (some (.int 14 t7)))
    (g8 : PySem.W.nsIn K mainGlobals "MOST_AT_ONCE_stops" = some (some (.int 2 t8)))
    (g9 : PySem.W.nsIn K mainGlobals "MOST_AT_ONCE_ready" = some (some (.int 3 t9)))
    (aLaw : PySem.W.nsIn K mainGlobals "law" = some (some (.ref fL)))
    (lLaw : K.lookup fL = some ⟨ocL, odL, .func (PySem.W.fnOf "law" "law" (defArgs s_law) (defBody s_law) (defScope s_law) .none kVL dcL pmL anL cdL ctL), slL⟩)
    (cLaw : PySem.W.codeIn K cdL "law" = true)
    (kLaw : PySem.W.keepIn K (.ref fL) = true) :
    ∃ fd : FuncData, (∀ (s : Shared) (v : Value), BindsTo s fd ⟨[v], []⟩ [("_law_script", v)]) ∧ ∀ base : Heap, K.In base → base.Ns mainGlobals mg → FnOk l.prog w K mg base CX0 16 fa fd ["_law_script"] (spLaw K) := by
  have e := hfa.symm.trans (PySem.W.mg_of X G aLaw)
  cases e
  have FL := fun_mk (st := s_law) lLaw cLaw kLaw
  refine ⟨PySem.W.fnOf "law" "law" (defArgs s_law) (defBody s_law) (defScope s_law) .none kVL dcL pmL anL cdL ctL, fun s v => .of_eq rfl, fun base _ _ => ?_⟩
  have B : Bl mg := ⟨PySem.W.mg_none_of X G z_len, PySem.W.mg_none_of X G z_abs, PySem.W.mg_none_of X G z_isinstance, PySem.W.mg_none_of X G z_min, PySem.W.mg_none_of X G z_max, PySem.W.mg_none_of X G z_sorted, PySem.W.mg_none_of X G z_range, PySem.W.mg_none_of X G z_int, PySem.W.mg_none_of X G z_str, PySem.W.mg_none_of X G z_list, PySem.W.mg_none_of X G z_tuple, PySem.W.mg_none_of X G z_bool⟩
  have ZP : PipeCls K C1 := ⟨kC1.cl, nC1_net, nC1_bottom, nC1_rooms, nC1_amounts⟩
  have ZS : StopCls K C2 := ⟨kC2.cl, nC2_stopped_web, nC2_given, nC2_spending, nC2_found⟩
  have ZT : SrcCls K C3 := ⟨kC3.cl, nC3_searched_web, nC3_held, nC3_tops⟩
  have ZC : Cst K mg := ⟨⟨aN, PySem.W.mg_of X G gN, .inr ⟨_, _, _, lN, rfl, rfl, Nat.le_of_ble_eq_true rfl, .cons ⟨_, rfl⟩ (.cons ⟨_, rfl⟩ .nil)⟩⟩, ⟨_, PySem.W.mg_of X G gL⟩, ⟨_, PySem.W.mg_of X G g4⟩, ⟨_, PySem.W.mg_of X G g5⟩, ⟨_, PySem.W.mg_of X G g6⟩, ⟨_, PySem.W.mg_of X G g7⟩, ⟨_, PySem.W.mg_of X G g8⟩, ⟨_, PySem.W.mg_of X G g9⟩⟩
  have c_divisor : Cal l.prog w K mg base "divisor" 1 ["one", "other"] (spDivisor K) := by
    obtain ⟨f0, fd0, a0, F0⟩ := f_divisor
    have b0 := F0.binds (ps := ["one", "other"]) fun _ _ _ _ _ _ us hl => match us, hl with | [_, _], _ => rfl
    exact ⟨f0, fd0, PySem.W.mg_of X G a0, F0.kp, b0, ok_divisor F0 B⟩
  have c_lowest : Cal l.prog w K mg base "lowest" 2 ["top", "bottom"] (spLowest K) := by
    obtain ⟨f0, fd0, a0, F0⟩ := f_lowest
    have b0 := F0.binds (ps := ["top", "bottom"]) fun _ _ _ _ _ _ us hl => match us, hl with | [_, _], _ => rfl
    exact ⟨f0, fd0, PySem.W.mg_of X G a0, F0.kp, b0, ok_lowest F0 c_divisor⟩
  have c_plus : Cal l.prog w K mg base "plus" 3 ["one", "other"] (spPlus K) := by
    obtain ⟨f0, fd0, a0, F0⟩ := f_plus
    have b0 := F0.binds (ps := ["one", "other"]) fun _ _ _ _ _ _ us hl => match us, hl with | [_, _], _ => rfl
    exact ⟨f0, fd0, PySem.W.mg_of X G a0, F0.kp, b0, ok_plus F0 c_lowest⟩
  have c_minus : Cal l.prog w K mg base "minus" 3 ["one", "other"] (spMinus K) := by
    obtain ⟨f0, fd0, a0, F0⟩ := f_minus
    have b0 := F0.binds (ps := ["one", "other"]) fun _ _ _ _ _ _ us hl => match us, hl with | [_, _], _ => rfl
    exact ⟨f0, fd0, PySem.W.mg_of X G a0, F0.kp, b0, ok_minus F0 c_lowest⟩
  have c_is_less : Cal l.prog w K mg base "is_less" 1 ["one", "other"] (spLess K) := by
    obtain ⟨f0, fd0, a0, F0⟩ := f_is_less
    have b0 := F0.binds (ps := ["one", "other"]) fun _ _ _ _ _ _ us hl => match us, hl with | [_, _], _ => rfl
    exact ⟨f0, fd0, PySem.W.mg_of X G a0, F0.kp, b0, ok_is_less F0⟩
  have c_is_whole : Cal l.prog w K mg base "is_whole" 1 ["thing"] (spWhole K) := by
    obtain ⟨f0, fd0, a0, F0⟩ := f_is_whole
    have b0 := F0.binds (ps := ["thing"]) fun _ _ _ _ _ _ us hl => match us, hl with | [_], _ => rfl
    exact ⟨f0, fd0, PySem.W.mg_of X G a0, F0.kp, b0, ok_is_whole F0 B⟩
  have c_is_ratio : Cal l.prog w K mg base "is_ratio" 2 ["thing"] (spRatio K) := by
    obtain ⟨f0, fd0, a0, F0⟩ := f_is_ratio
    have b0 := F0.binds (ps := ["thing"]) fun _ _ _ _ _ _ us hl => match us, hl with | [_], _ => rfl
    exact ⟨f0, fd0, PySem.W.mg_of X G a0, F0.kp, b0, ok_is_ratio F0 B c_divisor c_is_whole⟩
  have c_is_name : Cal l.prog w K mg base "is_name" 1 ["thing"] (spName K) := by
    obtain ⟨f0, fd0, a0, F0⟩ := f_is_name
    have b0 := F0.binds (ps := ["thing"]) fun _ _ _ _ _ _ us hl => match us, hl with | [_], _ => rfl
    exact ⟨f0, fd0, PySem.W.mg_of X G a0, F0.kp, b0, ok_is_name F0 B ZC⟩
  have c_is_length : Cal l.prog w K mg base "is_length" 3 ["thing"] (spLength K) := by
    obtain ⟨f0, fd0, a0, F0⟩ := f_is_length
    have b0 := F0.binds (ps := ["thing"]) fun _ _ _ _ _ _ us hl => match us, hl with | [_], _ => rfl
    exact ⟨f0, fd0, PySem.W.mg_of X G a0, F0.kp, b0, ok_is_length F0 c_is_ratio⟩
  have c_is_worth : Cal l.prog w K mg base "is_worth" 3 ["thing"] (spWorthy K) := by
    obtain ⟨f0, fd0, a0, F0⟩ := f_is_worth
    have b0 := F0.binds (ps := ["thing"]) fun _ _ _ _ _ _ us hl => match us, hl with | [_], _ => rfl
    exact ⟨f0, fd0, PySem.W.mg_of X G a0, F0.kp, b0, ok_is_worth F0 c_is_ratio⟩
  have c_is_tie : Cal l.prog w K mg base "is_tie" 4 ["thing"] (spTie K) := by
    obtain ⟨f0, fd0, a0, F0⟩ := f_is_tie
    have b0 := F0.binds (ps := ["thing"]) fun _ _ _ _ _ _ us hl => match us, hl with | [_], _ => rfl
    exact ⟨f0, fd0, PySem.W.mg_of X G a0, F0.kp, b0, ok_is_tie F0 B c_is_name c_is_length c_is_worth⟩
  have c_look_at_places : Cal l.prog w K mg base "look_at_places" 2 ["thing"] (spLPlaces K) := by
    obtain ⟨f0, fd0, a0, F0⟩ := f_look_at_places
    have b0 := F0.binds (ps := ["thing"]) fun _ _ _ _ _ _ us hl => match us, hl with | [_], _ => rfl
    exact ⟨f0, fd0, PySem.W.mg_of X G a0, F0.kp, b0, ok_look_at_places F0 B ZC c_is_name⟩
  have c_look_at_ties : Cal l.prog w K mg base "look_at_ties" 5 ["places", "thing"] (spLTies K) := by
    obtain ⟨f0, fd0, a0, F0⟩ := f_look_at_ties
    have b0 := F0.binds (ps := ["places", "thing"]) fun _ _ _ _ _ _ us hl => match us, hl with | [_, _], _ => rfl
    exact ⟨f0, fd0, PySem.W.mg_of X G a0, F0.kp, b0, ok_look_at_ties F0 B ZC c_is_tie⟩
  have c_look_at_web : Cal l.prog w K mg base "look_at_web" 6 ["thing"] (spLWeb K) := by
    obtain ⟨f0, fd0, a0, F0⟩ := f_look_at_web
    have b0 := F0.binds (ps := ["thing"]) fun _ _ _ _ _ _ us hl => match us, hl with | [_], _ => rfl
    exact ⟨f0, fd0, PySem.W.mg_of X G a0, F0.kp, b0, ok_look_at_web F0 B c_is_name c_look_at_places c_look_at_ties⟩
  have c_is_tie_number : Cal l.prog w K mg base "is_tie_number" 2 ["web", "thing"] (spTieNo K) := by
    obtain ⟨f0, fd0, a0, F0⟩ := f_is_tie_number
    have b0 := F0.binds (ps := ["web", "thing"]) fun _ _ _ _ _ _ us hl => match us, hl with | [_, _], _ => rfl
    exact ⟨f0, fd0, PySem.W.mg_of X G a0, F0.kp, b0, ok_is_tie_number F0 B c_is_whole⟩
  have c_is_purse : Cal l.prog w K mg base "is_purse" 4 ["thing"] (spPurse K) := by
    obtain ⟨f0, fd0, a0, F0⟩ := f_is_purse
    have b0 := F0.binds (ps := ["thing"]) fun _ _ _ _ _ _ us hl => match us, hl with | [_], _ => rfl
    exact ⟨f0, fd0, PySem.W.mg_of X G a0, F0.kp, b0, ok_is_purse F0 c_is_length⟩
  have c_look_at_purse : Cal l.prog w K mg base "look_at_purse" 5 ["thing"] (spLPurse K) := by
    obtain ⟨f0, fd0, a0, F0⟩ := f_look_at_purse
    have b0 := F0.binds (ps := ["thing"]) fun _ _ _ _ _ _ us hl => match us, hl with | [_], _ => rfl
    exact ⟨f0, fd0, PySem.W.mg_of X G a0, F0.kp, b0, ok_look_at_purse F0 c_is_purse⟩
  have c_is_taking : Cal l.prog w K mg base "is_taking" 3 ["web", "thing"] (spTaking K) := by
    obtain ⟨f0, fd0, a0, F0⟩ := f_is_taking
    have b0 := F0.binds (ps := ["web", "thing"]) fun _ _ _ _ _ _ us hl => match us, hl with | [_, _], _ => rfl
    exact ⟨f0, fd0, PySem.W.mg_of X G a0, F0.kp, b0, ok_is_taking F0 B c_is_tie_number⟩
  have c_look_at_taking : Cal l.prog w K mg base "look_at_taking" 7 ["web", "thing"] (spLTaking K) := by
    obtain ⟨f0, fd0, a0, F0⟩ := f_look_at_taking
    have b0 := F0.binds (ps := ["web", "thing"]) fun _ _ _ _ _ _ us hl => match us, hl with | [_, _], _ => rfl
    exact ⟨f0, fd0, PySem.W.mg_of X G a0, F0.kp, b0, ok_look_at_taking F0 c_look_at_web c_is_taking⟩
  have c_sum_of : Cal l.prog w K mg base "sum_of" 4 ["some"] (spSum K) := by
    obtain ⟨f0, fd0, a0, F0⟩ := f_sum_of
    have b0 := F0.binds (ps := ["some"]) fun _ _ _ _ _ _ us hl => match us, hl with | [_], _ => rfl
    exact ⟨f0, fd0, PySem.W.mg_of X G a0, F0.kp, b0, ok_sum_of F0 ZC c_plus⟩
  have c_worth_in : Cal l.prog w K mg base "worth_in" 5 ["web", "taking"] (spWorth K) := by
    obtain ⟨f0, fd0, a0, F0⟩ := f_worth_in
    have b0 := F0.binds (ps := ["web", "taking"]) fun _ _ _ _ _ _ us hl => match us, hl with | [_, _], _ => rfl
    exact ⟨f0, fd0, PySem.W.mg_of X G a0, F0.kp, b0, ok_worth_in F0 c_sum_of⟩
  have c_fits : Cal l.prog w K mg base "fits" 6 ["web", "taking", "purse"] (spFits K) := by
    obtain ⟨f0, fd0, a0, F0⟩ := f_fits
    have b0 := F0.binds (ps := ["web", "taking", "purse"]) fun _ _ _ _ _ _ us hl => match us, hl with | [_, _, _], _ => rfl
    exact ⟨f0, fd0, PySem.W.mg_of X G a0, F0.kp, b0, ok_fits F0 c_is_less c_worth_in⟩
  have c_at_once : Cal l.prog w K mg base "at_once" 4 ["web", "purse"] (spOnce K) := by
    obtain ⟨f0, fd0, a0, F0⟩ := f_at_once
    have b0 := F0.binds (ps := ["web", "purse"]) fun _ _ _ _ _ _ us hl => match us, hl with | [_, _], _ => rfl
    exact ⟨f0, fd0, PySem.W.mg_of X G a0, F0.kp, b0, ok_at_once F0 ZC c_is_less c_plus⟩
  have c_askable : Cal l.prog w K mg base "askable" 7 ["web", "purse", "ties", "taken", "kept"] (spAsk K) := by
    obtain ⟨f0, fd0, a0, F0⟩ := f_askable
    have b0 := F0.binds (ps := ["web", "purse", "ties", "taken", "kept"]) fun _ _ _ _ _ _ us hl => match us, hl with | [_, _, _, _, _], _ => rfl
    exact ⟨f0, fd0, PySem.W.mg_of X G a0, F0.kp, b0, ok_askable F0 c_fits⟩
  have c_is_rooms : Cal l.prog w K mg base "is_rooms" 4 ["web", "thing"] (spIsRooms K) := by
    obtain ⟨f0, fd0, a0, F0⟩ := f_is_rooms
    have b0 := F0.binds (ps := ["web", "thing"]) fun _ _ _ _ _ _ us hl => match us, hl with | [_, _], _ => rfl
    exact ⟨f0, fd0, PySem.W.mg_of X G a0, F0.kp, b0, ok_is_rooms F0 B c_is_length⟩
  have c_look_at_rooms : Cal l.prog w K mg base "look_at_rooms" 5 ["web", "thing"] (spLRooms K) := by
    obtain ⟨f0, fd0, a0, F0⟩ := f_look_at_rooms
    have b0 := F0.binds (ps := ["web", "thing"]) fun _ _ _ _ _ _ us hl => match us, hl with | [_, _], _ => rfl
    exact ⟨f0, fd0, PySem.W.mg_of X G a0, F0.kp, b0, ok_look_at_rooms F0 c_is_rooms⟩
  have c_going : Cal l.prog w K mg base "going" 4 ["web", "flow", "place"] (spGoing K) := by
    obtain ⟨f0, fd0, a0, F0⟩ := f_going
    have b0 := F0.binds (ps := ["web", "flow", "place"]) fun _ _ _ _ _ _ us hl => match us, hl with | [_, _, _], _ => rfl
    exact ⟨f0, fd0, PySem.W.mg_of X G a0, F0.kp, b0, ok_going F0 B ZC c_plus c_minus⟩
  have c_amount_in : Cal l.prog w K mg base "amount_in" 5 ["web", "flow"] (spAmtIn K) := by
    obtain ⟨f0, fd0, a0, F0⟩ := f_amount_in
    have b0 := F0.binds (ps := ["web", "flow"]) fun _ _ _ _ _ _ us hl => match us, hl with | [_, _], _ => rfl
    exact ⟨f0, fd0, PySem.W.mg_of X G a0, F0.kp, b0, ok_amount_in F0 c_going⟩
  have c_amount_of : Cal l.prog w K mg base "amount_of" 7 ["web", "flow"] (spAmtOf K) := by
    obtain ⟨f0, fd0, a0, F0⟩ := f_amount_of
    have b0 := F0.binds (ps := ["web", "flow"]) fun _ _ _ _ _ _ us hl => match us, hl with | [_, _], _ => rfl
    exact ⟨f0, fd0, PySem.W.mg_of X G a0, F0.kp, b0, ok_amount_of F0 c_look_at_web c_amount_in⟩
  have c_common_bottom : Cal l.prog w K mg base "common_bottom" 2 ["some"] (spComm K) := by
    obtain ⟨f0, fd0, a0, F0⟩ := f_common_bottom
    have b0 := F0.binds (ps := ["some"]) fun _ _ _ _ _ _ us hl => match us, hl with | [_], _ => rfl
    exact ⟨f0, fd0, PySem.W.mg_of X G a0, F0.kp, b0, ok_common_bottom F0 c_divisor⟩
  have c_common_of : Cal l.prog w K mg base "common_of" 2 ["some"] (spComm K) := by
    obtain ⟨f0, fd0, a0, F0⟩ := f_common_of
    have b0 := F0.binds (ps := ["some"]) fun _ _ _ _ _ _ us hl => match us, hl with | [_], _ => rfl
    exact ⟨f0, fd0, PySem.W.mg_of X G a0, F0.kp, b0, ok_common_of F0 c_divisor⟩
  have c_whole_of : Cal l.prog w K mg base "whole_of" 1 ["one", "part"] (spWholeOf K) := by
    obtain ⟨f0, fd0, a0, F0⟩ := f_whole_of
    have b0 := F0.binds (ps := ["one", "part"]) fun _ _ _ _ _ _ us hl => match us, hl with | [_, _], _ => rfl
    exact ⟨f0, fd0, PySem.W.mg_of X G a0, F0.kp, b0, ok_whole_of F0⟩
  have c_lengths_in : Cal l.prog w K mg base "lengths_in" 1 ["web"] (spLens K) := by
    obtain ⟨f0, fd0, a0, F0⟩ := f_lengths_in
    have b0 := F0.binds (ps := ["web"]) fun _ _ _ _ _ _ us hl => match us, hl with | [_], _ => rfl
    exact ⟨f0, fd0, PySem.W.mg_of X G a0, F0.kp, b0, ok_lengths_in F0⟩
  have c_behind : Cal l.prog w K mg base "behind" 1 ["tie", "place"] (spBehind K) := by
    obtain ⟨f0, fd0, a0, F0⟩ := f_behind
    have b0 := F0.binds (ps := ["tie", "place"]) fun _ _ _ _ _ _ us hl => match us, hl with | [_, _], _ => rfl
    exact ⟨f0, fd0, PySem.W.mg_of X G a0, F0.kp, b0, ok_behind F0⟩
  have c_is_longer : Cal l.prog w K mg base "is_longer" 2 ["length", "other"] (spLonger K) := by
    obtain ⟨f0, fd0, a0, F0⟩ := f_is_longer
    have b0 := F0.binds (ps := ["length", "other"]) fun _ _ _ _ _ _ us hl => match us, hl with | [_, _], _ => rfl
    exact ⟨f0, fd0, PySem.W.mg_of X G a0, F0.kp, b0, ok_is_longer F0 c_is_less⟩
  have c_look_at_size : Cal l.prog w K mg base "look_at_size" 5 ["web", "purse"] (spLSize K) := by
    obtain ⟨f0, fd0, a0, F0⟩ := f_look_at_size
    have b0 := F0.binds (ps := ["web", "purse"]) fun _ _ _ _ _ _ us hl => match us, hl with | [_, _], _ => rfl
    exact ⟨f0, fd0, PySem.W.mg_of X G a0, F0.kp, b0, ok_look_at_size F0 ZC c_at_once⟩
  have c_Pipes_spare : CalM l.prog w K mg base C1 "spare" 1 ["self", "k", "place"] (spSpare K C1) := by
    obtain ⟨f0, fd0, m0, F0⟩ := m_Pipes_spare
    have b0 := F0.binds (ps := ["self", "k", "place"]) fun _ _ _ _ _ _ us hl => match us, hl with | [_, _, _], _ => rfl
    exact ⟨ZP.cl, f0, fd0, m0, b0, ok_Pipes_spare F0 ZP⟩
  have c_Pipes_over : CalM l.prog w K mg base C1 "over" 1 ["self", "k", "place"] (spOver K C1) := by
    obtain ⟨f0, fd0, m0, F0⟩ := m_Pipes_over
    have b0 := F0.binds (ps := ["self", "k", "place"]) fun _ _ _ _ _ _ us hl => match us, hl with | [_, _, _], _ => rfl
    exact ⟨ZP.cl, f0, fd0, m0, b0, ok_Pipes_over F0 ZP⟩
  have c_Pipes_reached : CalM l.prog w K mg base C1 "reached" 2 ["self"] (spReached K C1) := by
    obtain ⟨f0, fd0, m0, F0⟩ := m_Pipes_reached
    have b0 := F0.binds (ps := ["self"]) fun _ _ _ _ _ _ us hl => match us, hl with | [_], _ => rfl
    exact ⟨ZP.cl, f0, fd0, m0, b0, ok_Pipes_reached F0 B ZP c_Pipes_spare c_Pipes_over⟩
  have c_Pipes_back : CalM l.prog w K mg base C1 "back" 1 ["self", "found"] (spBack K C1) := by
    obtain ⟨f0, fd0, m0, F0⟩ := m_Pipes_back
    have b0 := F0.binds (ps := ["self", "found"]) fun _ _ _ _ _ _ us hl => match us, hl with | [_, _], _ => rfl
    exact ⟨ZP.cl, f0, fd0, m0, b0, ok_Pipes_back F0 ZP⟩
  have c_Pipes_send : CalM l.prog w K mg base C1 "send" 2 ["self", "steps"] (spSend K C1) := by
    obtain ⟨f0, fd0, m0, F0⟩ := m_Pipes_send
    have b0 := F0.binds (ps := ["self", "steps"]) fun _ _ _ _ _ _ us hl => match us, hl with | [_, _], _ => rfl
    exact ⟨ZP.cl, f0, fd0, m0, b0, ok_Pipes_send F0 B ZP c_Pipes_spare⟩
  have c_Pipes_flow : CalM l.prog w K mg base C1 "flow" 3 ["self"] (spFlow K C1) := by
    obtain ⟨f0, fd0, m0, F0⟩ := m_Pipes_flow
    have b0 := F0.binds (ps := ["self"]) fun _ _ _ _ _ _ us hl => match us, hl with | [_], _ => rfl
    exact ⟨ZP.cl, f0, fd0, m0, b0, ok_Pipes_flow F0 ZP c_lowest⟩
  have c_Pipes_fill : CalM l.prog w K mg base C1 "fill" 3 ["self"] (spFill K C1) := by
    obtain ⟨f0, fd0, m0, F0⟩ := m_Pipes_fill
    have b0 := F0.binds (ps := ["self"]) fun _ _ _ _ _ _ us hl => match us, hl with | [_], _ => rfl
    exact ⟨ZP.cl, f0, fd0, m0, b0, ok_Pipes_fill F0 ZP c_Pipes_reached c_Pipes_back c_Pipes_send⟩
  have c_Pipes : CalC l.prog w K mg base "Pipes" C1 3 ["self", "web", "rooms", "taken"] (spInit K C1) := by
    obtain ⟨f0, fd0, m0, F0⟩ := m_Pipes___init__
    have b0 := F0.binds (ps := ["self", "web", "rooms", "taken"]) fun _ _ _ _ _ _ us hl => match us, hl with | [_, _, _, _], _ => rfl
    exact ⟨PySem.W.mg_of X G aC1, f0, fd0, ⟨kC1.mks, m0.at_, m0.fn, kC1.kc⟩, b0, ok_Pipes___init__ F0 B ZP c_common_bottom⟩
  have c_most_in : Cal l.prog w K mg base "most_in" 5 ["web", "rooms", "taken"] (spMostIn K) := by
    obtain ⟨f0, fd0, a0, F0⟩ := f_most_in
    have b0 := F0.binds (ps := ["web", "rooms", "taken"]) fun _ _ _ _ _ _ us hl => match us, hl with | [_, _, _], _ => rfl
    exact ⟨f0, fd0, PySem.W.mg_of X G a0, F0.kp, b0, ok_most_in F0 c_Pipes c_Pipes_fill c_Pipes_flow⟩
  have c_most_flow : Cal l.prog w K mg base "most_flow" 8 ["web", "rooms", "taking"] (spMostFlow K) := by
    obtain ⟨f0, fd0, a0, F0⟩ := f_most_flow
    have b0 := F0.binds (ps := ["web", "rooms", "taking"]) fun _ _ _ _ _ _ us hl => match us, hl with | [_, _, _], _ => rfl
    exact ⟨f0, fd0, PySem.W.mg_of X G a0, F0.kp, b0, ok_most_flow F0 c_look_at_web c_look_at_rooms c_look_at_taking c_most_in⟩
  have c_StopSearch_go_down : CalM l.prog w K mg base C2 "go_down" 10 ["self", "taken", "kept"] (spGo 3 K C2) := by
    obtain ⟨f0, fd0, m0, F0⟩ := m_StopSearch_go_down
    have b0 := F0.binds (ps := ["self", "taken", "kept"]) fun _ _ _ _ _ _ us hl => match us, hl with | [_, _, _], _ => rfl
    exact ⟨ZS.cl, f0, fd0, m0, b0, ok_StopSearch_go_down F0 B ZC ZS m0 b0 c_most_in c_askable 3⟩
  have c_StopSearch : CalC l.prog w K mg base "StopSearch" C2 1 ["self", "web", "rooms", "purse"] (spSInit K C2) := by
    obtain ⟨f0, fd0, m0, F0⟩ := m_StopSearch___init__
    have b0 := F0.binds (ps := ["self", "web", "rooms", "purse"]) fun _ _ _ _ _ _ us hl => match us, hl with | [_, _, _, _], _ => rfl
    exact ⟨PySem.W.mg_of X G aC2, f0, fd0, ⟨kC2.mks, m0.at_, m0.fn, kC2.kc⟩, b0, ok_StopSearch___init__ F0 ZS⟩
  have c_best_stop : Cal l.prog w K mg base "best_stop" 11 ["web", "rooms", "purse"] (spBestStop K) := by
    obtain ⟨f0, fd0, a0, F0⟩ := f_best_stop
    have b0 := F0.binds (ps := ["web", "rooms", "purse"]) fun _ _ _ _ _ _ us hl => match us, hl with | [_, _, _], _ => rfl
    exact ⟨f0, fd0, PySem.W.mg_of X G a0, F0.kp, b0, ok_best_stop F0 ZC ZS c_look_at_web c_look_at_rooms c_look_at_purse c_at_once c_is_less c_amount_in c_StopSearch c_StopSearch_go_down⟩
  have c_nearest : Cal l.prog w K mg base "nearest" 1 ["waiting"] (spNear K) := by
    obtain ⟨f0, fd0, a0, F0⟩ := f_nearest
    have b0 := F0.binds (ps := ["waiting"]) fun _ _ _ _ _ _ us hl => match us, hl with | [_], _ => rfl
    exact ⟨f0, fd0, PySem.W.mg_of X G a0, F0.kp, b0, ok_nearest F0⟩
  have c_reached : Cal l.prog w K mg base "reached" 2 ["web", "taken", "wholes"] (spRch K) := by
    obtain ⟨f0, fd0, a0, F0⟩ := f_reached
    have b0 := F0.binds (ps := ["web", "taken", "wholes"]) fun _ _ _ _ _ _ us hl => match us, hl with | [_, _, _], _ => rfl
    exact ⟨f0, fd0, PySem.W.mg_of X G a0, F0.kp, b0, ok_reached F0 B c_nearest c_behind⟩
  have c_way_back : Cal l.prog w K mg base "way_back" 1 ["web", "found"] (spWB K) := by
    obtain ⟨f0, fd0, a0, F0⟩ := f_way_back
    have b0 := F0.binds (ps := ["web", "found"]) fun _ _ _ _ _ _ us hl => match us, hl with | [_, _], _ => rfl
    exact ⟨f0, fd0, PySem.W.mg_of X G a0, F0.kp, b0, ok_way_back F0⟩
  have c_least_by : Cal l.prog w K mg base "least_by" 3 ["web", "taken", "lengths"] (spLeastBy K) := by
    obtain ⟨f0, fd0, a0, F0⟩ := f_least_by
    have b0 := F0.binds (ps := ["web", "taken", "lengths"]) fun _ _ _ _ _ _ us hl => match us, hl with | [_, _, _], _ => rfl
    exact ⟨f0, fd0, PySem.W.mg_of X G a0, F0.kp, b0, ok_least_by F0 B c_common_of c_whole_of c_reached c_lowest c_way_back⟩
  have c_least_in : Cal l.prog w K mg base "least_in" 4 ["web", "taken"] (spLeastIn K) := by
    obtain ⟨f0, fd0, a0, F0⟩ := f_least_in
    have b0 := F0.binds (ps := ["web", "taken"]) fun _ _ _ _ _ _ us hl => match us, hl with | [_, _], _ => rfl
    exact ⟨f0, fd0, PySem.W.mg_of X G a0, F0.kp, b0, ok_least_in F0 c_least_by c_lengths_in⟩
  have c_side_in : Cal l.prog w K mg base "side_in" 3 ["web", "taken"] (spSideIn K) := by
    obtain ⟨f0, fd0, a0, F0⟩ := f_side_in
    have b0 := F0.binds (ps := ["web", "taken"]) fun _ _ _ _ _ _ us hl => match us, hl with | [_, _], _ => rfl
    exact ⟨f0, fd0, PySem.W.mg_of X G a0, F0.kp, b0, ok_side_in F0 c_reached⟩
  have c_least_way : Cal l.prog w K mg base "least_way" 8 ["web", "taking"] (spLeastWay K) := by
    obtain ⟨f0, fd0, a0, F0⟩ := f_least_way
    have b0 := F0.binds (ps := ["web", "taking"]) fun _ _ _ _ _ _ us hl => match us, hl with | [_, _], _ => rfl
    exact ⟨f0, fd0, PySem.W.mg_of X G a0, F0.kp, b0, ok_least_way F0 c_look_at_taking c_least_in⟩
  have c_Search_go_through : CalM l.prog w K mg base C3 "go_through" 11 ["self", "taken", "kept"] (spTh 4 K C3) := by
    obtain ⟨f0, fd0, m0, F0⟩ := m_Search_go_through
    have b0 := F0.binds (ps := ["self", "taken", "kept"]) fun _ _ _ _ _ _ us hl => match us, hl with | [_, _, _], _ => rfl
    exact ⟨ZT.cl, f0, fd0, m0, b0, ok_Search_go_through F0 B ZT m0 b0 c_least_in c_askable 4⟩
  have c_Search : CalC l.prog w K mg base "Search" C3 1 ["self", "web", "purse"] (spTInit K C3) := by
    obtain ⟨f0, fd0, m0, F0⟩ := m_Search___init__
    have b0 := F0.binds (ps := ["self", "web", "purse"]) fun _ _ _ _ _ _ us hl => match us, hl with | [_, _, _], _ => rfl
    exact ⟨PySem.W.mg_of X G aC3, f0, fd0, ⟨kC3.mks, m0.at_, m0.fn, kC3.kc⟩, b0, ok_Search___init__ F0 ZT⟩
  have c_searched : Cal l.prog w K mg base "searched" 12 ["web", "purse"] (spSrchd K C3) := by
    obtain ⟨f0, fd0, a0, F0⟩ := f_searched
    have b0 := F0.binds (ps := ["web", "purse"]) fun _ _ _ _ _ _ us hl => match us, hl with | [_, _], _ => rfl
    exact ⟨f0, fd0, PySem.W.mg_of X G a0, F0.kp, b0, ok_searched F0 ZT c_Search c_Search_go_through⟩
  have c_best_in : Cal l.prog w K mg base "best_in" 13 ["web", "purse"] (spBestIn K) := by
    obtain ⟨f0, fd0, a0, F0⟩ := f_best_in
    have b0 := F0.binds (ps := ["web", "purse"]) fun _ _ _ _ _ _ us hl => match us, hl with | [_, _], _ => rfl
    exact ⟨f0, fd0, PySem.W.mg_of X G a0, F0.kp, b0, ok_best_in F0 ZT c_searched c_is_longer c_side_in⟩
  have c_best_taking : Cal l.prog w K mg base "best_taking" 14 ["web", "purse"] (spBestIn K) := by
    obtain ⟨f0, fd0, a0, F0⟩ := f_best_taking
    have b0 := F0.binds (ps := ["web", "purse"]) fun _ _ _ _ _ _ us hl => match us, hl with | [_, _], _ => rfl
    exact ⟨f0, fd0, PySem.W.mg_of X G a0, F0.kp, b0, ok_best_taking F0 c_look_at_web c_look_at_purse c_look_at_size c_best_in⟩
  have c__law_low : Cal l.prog w K mg base "_law_low" 1 ["_law_top", "_law_bottom"] (spLowest K) := by
    obtain ⟨f0, fd0, a0, F0⟩ := f__law_low
    have b0 := F0.binds (ps := ["_law_top", "_law_bottom"]) fun _ _ _ _ _ _ us hl => match us, hl with | [_, _], _ => rfl
    exact ⟨f0, fd0, PySem.W.mg_of X G a0, F0.kp, b0, ok__law_low F0 B⟩
  have c__law_plus : Cal l.prog w K mg base "_law_plus" 3 ["_law_one", "_law_other"] (spPlus K) := by
    obtain ⟨f0, fd0, a0, F0⟩ := f__law_plus
    have b0 := F0.binds (ps := ["_law_one", "_law_other"]) fun _ _ _ _ _ _ us hl => match us, hl with | [_, _], _ => rfl
    exact ⟨f0, fd0, PySem.W.mg_of X G a0, F0.kp, b0, ok__law_plus F0 c__law_low⟩
  have c__law_under : Cal l.prog w K mg base "_law_under" 1 ["_law_one", "_law_other"] (spLess K) := by
    obtain ⟨f0, fd0, a0, F0⟩ := f__law_under
    have b0 := F0.binds (ps := ["_law_one", "_law_other"]) fun _ _ _ _ _ _ us hl => match us, hl with | [_, _], _ => rfl
    exact ⟨f0, fd0, PySem.W.mg_of X G a0, F0.kp, b0, ok__law_under F0⟩
  have c__law_times : Cal l.prog w K mg base "_law_times" 2 ["_law_one", "_law_other"] (spTimes K) := by
    obtain ⟨f0, fd0, a0, F0⟩ := f__law_times
    have b0 := F0.binds (ps := ["_law_one", "_law_other"]) fun _ _ _ _ _ _ us hl => match us, hl with | [_, _], _ => rfl
    exact ⟨f0, fd0, PySem.W.mg_of X G a0, F0.kp, b0, ok__law_times F0 c__law_low⟩
  have c__law_take : Cal l.prog w K mg base "_law_take" 1 ["_law_state", "_law_many"] (spTake K) := by
    obtain ⟨f0, fd0, a0, F0⟩ := f__law_take
    have b0 := F0.binds (ps := ["_law_state", "_law_many"]) fun _ _ _ _ _ _ us hl => match us, hl with | [_, _], _ => rfl
    exact ⟨f0, fd0, PySem.W.mg_of X G a0, F0.kp, b0, ok__law_take F0 B⟩
  have c__law_begun : Cal l.prog w K mg base "_law_begun" 1 ["_law_script", "_law_k"] (spBegun K) := by
    obtain ⟨f0, fd0, a0, F0⟩ := f__law_begun
    have b0 := F0.binds (ps := ["_law_script", "_law_k"]) fun _ _ _ _ _ _ us hl => match us, hl with | [_, _], _ => rfl
    exact ⟨f0, fd0, PySem.W.mg_of X G a0, F0.kp, b0, ok__law_begun F0 B⟩
  have c__law_amount : Cal l.prog w K mg base "_law_amount" 2 ["_law_state", "_law_least"] (spAmount K) := by
    obtain ⟨f0, fd0, a0, F0⟩ := f__law_amount
    have b0 := F0.binds (ps := ["_law_state", "_law_least"]) fun _ _ _ _ _ _ us hl => match us, hl with | [_, _], _ => rfl
    exact ⟨f0, fd0, PySem.W.mg_of X G a0, F0.kp, b0, ok__law_amount F0 B c__law_take c__law_low⟩
  have c__law_names : Cal l.prog w K mg base "_law_names" 2 ["_law_state", "_law_many"] (spNames K) := by
    obtain ⟨f0, fd0, a0, F0⟩ := f__law_names
    have b0 := F0.binds (ps := ["_law_state", "_law_many"]) fun _ _ _ _ _ _ us hl => match us, hl with | [_, _], _ => rfl
    exact ⟨f0, fd0, PySem.W.mg_of X G a0, F0.kp, b0, ok__law_names F0 B c__law_take⟩
  have c__law_tie : Cal l.prog w K mg base "_law_tie" 3 ["_law_state", "_law_order", "_law_k"] (spLTie K) := by
    obtain ⟨f0, fd0, a0, F0⟩ := f__law_tie
    have b0 := F0.binds (ps := ["_law_state", "_law_order", "_law_k"]) fun _ _ _ _ _ _ us hl => match us, hl with | [_, _, _], _ => rfl
    exact ⟨f0, fd0, PySem.W.mg_of X G a0, F0.kp, b0, ok__law_tie F0 B c__law_take c__law_amount⟩
  have c__law_web : Cal l.prog w K mg base "_law_web" 4 ["_law_script", "_law_most_places", "_law_most_ties"] (spLWebL K) := by
    obtain ⟨f0, fd0, a0, F0⟩ := f__law_web
    have b0 := F0.binds (ps := ["_law_script", "_law_most_places", "_law_most_ties"]) fun _ _ _ _ _ _ us hl => match us, hl with | [_, _, _], _ => rfl
    exact ⟨f0, fd0, PySem.W.mg_of X G a0, F0.kp, b0, ok__law_web F0 B c__law_begun c__law_names c__law_take c__law_tie⟩
  have c__law_cheapest : Cal l.prog w K mg base "_law_cheapest" 2 ["_law_web_here"] (spCheap K) := by
    obtain ⟨f0, fd0, a0, F0⟩ := f__law_cheapest
    have b0 := F0.binds (ps := ["_law_web_here"]) fun _ _ _ _ _ _ us hl => match us, hl with | [_], _ => rfl
    exact ⟨f0, fd0, PySem.W.mg_of X G a0, F0.kp, b0, ok__law_cheapest F0 c__law_under⟩
  have c__law_purse : Cal l.prog w K mg base "_law_purse" 4 ["_law_state", "_law_web_here", "_law_most"] (spLawPurse K) := by
    obtain ⟨f0, fd0, a0, F0⟩ := f__law_purse
    have b0 := F0.binds (ps := ["_law_state", "_law_web_here", "_law_most"]) fun _ _ _ _ _ _ us hl => match us, hl with | [_, _, _], _ => rfl
    exact ⟨f0, fd0, PySem.W.mg_of X G a0, F0.kp, b0, ok__law_purse F0 B c__law_cheapest c__law_take c__law_plus c__law_low⟩
  have c__law_left : Cal l.prog w K mg base "_law_left" 12 ["_law_web_here", "_law_rooms", "_law_purse_here"] (spLeft K) := by
    obtain ⟨f0, fd0, a0, F0⟩ := f__law_left
    have b0 := F0.binds (ps := ["_law_web_here", "_law_rooms", "_law_purse_here"]) fun _ _ _ _ _ _ us hl => match us, hl with | [_, _, _], _ => rfl
    exact ⟨f0, fd0, PySem.W.mg_of X G a0, F0.kp, b0, ok__law_left F0 c_best_stop c_amount_of⟩
  have c__law_cuts : Cal l.prog w K mg base "_law_cuts" 15 ["_law_web_here", "_law_rooms", "_law_purse_here", "_law_left_here"] (spCuts K) := by
    obtain ⟨f0, fd0, a0, F0⟩ := f__law_cuts
    have b0 := F0.binds (ps := ["_law_web_here", "_law_rooms", "_law_purse_here", "_law_left_here"]) fun _ _ _ _ _ _ us hl => match us, hl with | [_, _, _, _], _ => rfl
    exact ⟨f0, fd0, PySem.W.mg_of X G a0, F0.kp, b0, ok__law_cuts F0 c_best_taking c_best_stop c_least_way c_most_flow c_amount_of⟩
  have c__law_watched : Cal l.prog w K mg base "_law_watched" 13 ["_law_state", "_law_web_here", "_law_rooms", "_law_purse_here", "_law_left_here"] (spWatched K) := by
    obtain ⟨f0, fd0, a0, F0⟩ := f__law_watched
    have b0 := F0.binds (ps := ["_law_state", "_law_web_here", "_law_rooms", "_law_purse_here", "_law_left_here"]) fun _ _ _ _ _ _ us hl => match us, hl with | [_, _, _, _, _], _ => rfl
    exact ⟨f0, fd0, PySem.W.mg_of X G a0, F0.kp, b0, ok__law_watched F0 B c__law_take c__law_left c__law_under⟩
  exact ok_law FL B c__law_web c__law_begun c__law_amount c__law_purse c__law_left c__law_cuts c__law_low c__law_take c__law_times c_most_flow c_amount_of c__law_under c__law_watched
end Fc
open PySem PySem.W PyProof.Rows
set_option maxHeartbeats 0 in
theorem PySem.Challenge.cw_farthestcut_k85_whole_stops_and_cuts_holds : PySem.Challenge.rw_farthestcut_k85_whole_stops_and_cuts.Holds := by
  w_on; o_law; k_head; (case hw => w_witness2)
  k_fill
  refine L2.walk_of (l := PySem.Challenge.rw_farthestcut_k85_whole_stops_and_cuts) (n := 63) (k := 16) (x := "_law_script") (CX := fun _ => L2.CX0) (sp := fun w => Fc.spLaw _) rfl (by decide) rfl ⟨rfl, by decide, by decide⟩ (fun w h Y => PySem.W.kIn_of Y) ?F (fun _ _ a ns hl _ hS => ⟨a, ns, rfl, hS, hl, fun _ => rfl⟩) (fun _ _ _ _ _ h => h)
  case F =>
    intro w mg fa h KX G hmg
    refine' Fc.all_mk KX G hmg ?aC1 ?kC1 ?nC1_net ?nC1_bottom ?nC1_rooms ?nC1_amounts ?aC2 ?kC2 ?nC2_stopped_web ?nC2_given ?nC2_spending ?nC2_found ?aC3 ?kC3 ?nC3_searched_web ?nC3_held ?nC3_tops ?f_divisor ?f_lowest ?f_plus ?f_minus ?f_is_less ?f_is_whole ?f_is_ratio ?f_is_name ?f_is_length ?f_is_worth ?f_is_tie ?f_look_at_places ?f_look_at_ties ?f_look_at_web ?f_is_tie_number ?f_is_purse ?f_look_at_purse ?f_is_taking ?f_look_at_taking ?f_sum_of ?f_worth_in ?f_fits ?f_at_once ?f_askable ?f_is_rooms ?f_look_at_rooms ?f_going ?f_amount_in ?f_amount_of ?f_common_bottom ?f_common_of ?f_whole_of ?f_lengths_in ?f_behind ?f_is_longer ?f_look_at_size ?f_most_in ?f_most_flow ?f_best_stop ?f_nearest ?f_reached ?f_way_back ?f_least_by ?f_least_in ?f_side_in ?f_least_way ?f_searched ?f_best_in ?f_best_taking ?f__law_low ?f__law_plus ?f__law_under ?f__law_times ?f__law_take ?f__law_begun ?f__law_amount ?f__law_names ?f__law_tie ?f__law_web ?f__law_cheapest ?f__law_purse ?f__law_left ?f__law_cuts ?f__law_watched ?m_Pipes_spare ?m_Pipes_over ?m_Pipes_reached ?m_Pipes_back ?m_Pipes_send ?m_Pipes_flow ?m_Pipes_fill ?m_Pipes___init__ ?m_StopSearch_go_down ?m_StopSearch___init__ ?m_Search_go_through ?m_Search___init__ ?z_len ?z_abs ?z_isinstance ?z_min ?z_max ?z_sorted ?z_range ?z_int ?z_str ?z_list ?z_tuple ?z_bool ?gN ?lN ?gL ?g4 ?g5 ?g6 ?g7 ?g8 ?g9 ?aLaw ?lLaw ?cLaw ?kLaw
    (case aC1 => k_is)
    (case kC1 => (refine' Fc.clAt ?pg ?hd ?po ?sa ?mk ?kc; (case pg => k_is); (case hd => k_is); (case po => k_is); (case sa => k_is); (case mk => k_is); (case kc => k_is)))
    (case nC1_net => k_is)
    (case nC1_bottom => k_is)
    (case nC1_rooms => k_is)
    (case nC1_amounts => k_is)
    (case aC2 => k_is)
    (case kC2 => (refine' Fc.clAt ?pg ?hd ?po ?sa ?mk ?kc; (case pg => k_is); (case hd => k_is); (case po => k_is); (case sa => k_is); (case mk => k_is); (case kc => k_is)))
    (case nC2_stopped_web => k_is)
    (case nC2_given => k_is)
    (case nC2_spending => k_is)
    (case nC2_found => k_is)
    (case aC3 => k_is)
    (case kC3 => (refine' Fc.clAt ?pg ?hd ?po ?sa ?mk ?kc; (case pg => k_is); (case hd => k_is); (case po => k_is); (case sa => k_is); (case mk => k_is); (case kc => k_is)))
    (case nC3_searched_web => k_is)
    (case nC3_held => k_is)
    (case nC3_tops => k_is)
    (case f_divisor => (refine' Fc.fnAt ?a ?l ?c ?k; (case a => k_is); (case l => k_is); (case c => k_is); (case k => k_is)))
    (case f_lowest => (refine' Fc.fnAt ?a ?l ?c ?k; (case a => k_is); (case l => k_is); (case c => k_is); (case k => k_is)))
    (case f_plus => (refine' Fc.fnAt ?a ?l ?c ?k; (case a => k_is); (case l => k_is); (case c => k_is); (case k => k_is)))
    (case f_minus => (refine' Fc.fnAt ?a ?l ?c ?k; (case a => k_is); (case l => k_is); (case c => k_is); (case k => k_is)))
    (case f_is_less => (refine' Fc.fnAt ?a ?l ?c ?k; (case a => k_is); (case l => k_is); (case c => k_is); (case k => k_is)))
    (case f_is_whole => (refine' Fc.fnAt ?a ?l ?c ?k; (case a => k_is); (case l => k_is); (case c => k_is); (case k => k_is)))
    (case f_is_ratio => (refine' Fc.fnAt ?a ?l ?c ?k; (case a => k_is); (case l => k_is); (case c => k_is); (case k => k_is)))
    (case f_is_name => (refine' Fc.fnAt ?a ?l ?c ?k; (case a => k_is); (case l => k_is); (case c => k_is); (case k => k_is)))
    (case f_is_length => (refine' Fc.fnAt ?a ?l ?c ?k; (case a => k_is); (case l => k_is); (case c => k_is); (case k => k_is)))
    (case f_is_worth => (refine' Fc.fnAt ?a ?l ?c ?k; (case a => k_is); (case l => k_is); (case c => k_is); (case k => k_is)))
    (case f_is_tie => (refine' Fc.fnAt ?a ?l ?c ?k; (case a => k_is); (case l => k_is); (case c => k_is); (case k => k_is)))
    (case f_look_at_places => (refine' Fc.fnAt ?a ?l ?c ?k; (case a => k_is); (case l => k_is); (case c => k_is); (case k => k_is)))
    (case f_look_at_ties => (refine' Fc.fnAt ?a ?l ?c ?k; (case a => k_is); (case l => k_is); (case c => k_is); (case k => k_is)))
    (case f_look_at_web => (refine' Fc.fnAt ?a ?l ?c ?k; (case a => k_is); (case l => k_is); (case c => k_is); (case k => k_is)))
    (case f_is_tie_number => (refine' Fc.fnAt ?a ?l ?c ?k; (case a => k_is); (case l => k_is); (case c => k_is); (case k => k_is)))
    (case f_is_purse => (refine' Fc.fnAt ?a ?l ?c ?k; (case a => k_is); (case l => k_is); (case c => k_is); (case k => k_is)))
    (case f_look_at_purse => (refine' Fc.fnAt ?a ?l ?c ?k; (case a => k_is); (case l => k_is); (case c => k_is); (case k => k_is)))
    (case f_is_taking => (refine' Fc.fnAt ?a ?l ?c ?k; (case a => k_is); (case l => k_is); (case c => k_is); (case k => k_is)))
    (case f_look_at_taking => (refine' Fc.fnAt ?a ?l ?c ?k; (case a => k_is); (case l => k_is); (case c => k_is); (case k => k_is)))
    (case f_sum_of => (refine' Fc.fnAt ?a ?l ?c ?k; (case a => k_is); (case l => k_is); (case c => k_is); (case k => k_is)))
    (case f_worth_in => (refine' Fc.fnAt ?a ?l ?c ?k; (case a => k_is); (case l => k_is); (case c => k_is); (case k => k_is)))
    (case f_fits => (refine' Fc.fnAt ?a ?l ?c ?k; (case a => k_is); (case l => k_is); (case c => k_is); (case k => k_is)))
    (case f_at_once => (refine' Fc.fnAt ?a ?l ?c ?k; (case a => k_is); (case l => k_is); (case c => k_is); (case k => k_is)))
    (case f_askable => (refine' Fc.fnAt ?a ?l ?c ?k; (case a => k_is); (case l => k_is); (case c => k_is); (case k => k_is)))
    (case f_is_rooms => (refine' Fc.fnAt ?a ?l ?c ?k; (case a => k_is); (case l => k_is); (case c => k_is); (case k => k_is)))
    (case f_look_at_rooms => (refine' Fc.fnAt ?a ?l ?c ?k; (case a => k_is); (case l => k_is); (case c => k_is); (case k => k_is)))
    (case f_going => (refine' Fc.fnAt ?a ?l ?c ?k; (case a => k_is); (case l => k_is); (case c => k_is); (case k => k_is)))
    (case f_amount_in => (refine' Fc.fnAt ?a ?l ?c ?k; (case a => k_is); (case l => k_is); (case c => k_is); (case k => k_is)))
    (case f_amount_of => (refine' Fc.fnAt ?a ?l ?c ?k; (case a => k_is); (case l => k_is); (case c => k_is); (case k => k_is)))
    (case f_common_bottom => (refine' Fc.fnAt ?a ?l ?c ?k; (case a => k_is); (case l => k_is); (case c => k_is); (case k => k_is)))
    (case f_common_of => (refine' Fc.fnAt ?a ?l ?c ?k; (case a => k_is); (case l => k_is); (case c => k_is); (case k => k_is)))
    (case f_whole_of => (refine' Fc.fnAt ?a ?l ?c ?k; (case a => k_is); (case l => k_is); (case c => k_is); (case k => k_is)))
    (case f_lengths_in => (refine' Fc.fnAt ?a ?l ?c ?k; (case a => k_is); (case l => k_is); (case c => k_is); (case k => k_is)))
    (case f_behind => (refine' Fc.fnAt ?a ?l ?c ?k; (case a => k_is); (case l => k_is); (case c => k_is); (case k => k_is)))
    (case f_is_longer => (refine' Fc.fnAt ?a ?l ?c ?k; (case a => k_is); (case l => k_is); (case c => k_is); (case k => k_is)))
    (case f_look_at_size => (refine' Fc.fnAt ?a ?l ?c ?k; (case a => k_is); (case l => k_is); (case c => k_is); (case k => k_is)))
    (case f_most_in => (refine' Fc.fnAt ?a ?l ?c ?k; (case a => k_is); (case l => k_is); (case c => k_is); (case k => k_is)))
    (case f_most_flow => (refine' Fc.fnAt ?a ?l ?c ?k; (case a => k_is); (case l => k_is); (case c => k_is); (case k => k_is)))
    (case f_best_stop => (refine' Fc.fnAt ?a ?l ?c ?k; (case a => k_is); (case l => k_is); (case c => k_is); (case k => k_is)))
    (case f_nearest => (refine' Fc.fnAt ?a ?l ?c ?k; (case a => k_is); (case l => k_is); (case c => k_is); (case k => k_is)))
    (case f_reached => (refine' Fc.fnAt ?a ?l ?c ?k; (case a => k_is); (case l => k_is); (case c => k_is); (case k => k_is)))
    (case f_way_back => (refine' Fc.fnAt ?a ?l ?c ?k; (case a => k_is); (case l => k_is); (case c => k_is); (case k => k_is)))
    (case f_least_by => (refine' Fc.fnAt ?a ?l ?c ?k; (case a => k_is); (case l => k_is); (case c => k_is); (case k => k_is)))
    (case f_least_in => (refine' Fc.fnAt ?a ?l ?c ?k; (case a => k_is); (case l => k_is); (case c => k_is); (case k => k_is)))
    (case f_side_in => (refine' Fc.fnAt ?a ?l ?c ?k; (case a => k_is); (case l => k_is); (case c => k_is); (case k => k_is)))
    (case f_least_way => (refine' Fc.fnAt ?a ?l ?c ?k; (case a => k_is); (case l => k_is); (case c => k_is); (case k => k_is)))
    (case f_searched => (refine' Fc.fnAt ?a ?l ?c ?k; (case a => k_is); (case l => k_is); (case c => k_is); (case k => k_is)))
    (case f_best_in => (refine' Fc.fnAt ?a ?l ?c ?k; (case a => k_is); (case l => k_is); (case c => k_is); (case k => k_is)))
    (case f_best_taking => (refine' Fc.fnAt ?a ?l ?c ?k; (case a => k_is); (case l => k_is); (case c => k_is); (case k => k_is)))
    (case f__law_low => (refine' Fc.fnAt ?a ?l ?c ?k; (case a => k_is); (case l => k_is); (case c => k_is); (case k => k_is)))
    (case f__law_plus => (refine' Fc.fnAt ?a ?l ?c ?k; (case a => k_is); (case l => k_is); (case c => k_is); (case k => k_is)))
    (case f__law_under => (refine' Fc.fnAt ?a ?l ?c ?k; (case a => k_is); (case l => k_is); (case c => k_is); (case k => k_is)))
    (case f__law_times => (refine' Fc.fnAt ?a ?l ?c ?k; (case a => k_is); (case l => k_is); (case c => k_is); (case k => k_is)))
    (case f__law_take => (refine' Fc.fnAt ?a ?l ?c ?k; (case a => k_is); (case l => k_is); (case c => k_is); (case k => k_is)))
    (case f__law_begun => (refine' Fc.fnAt ?a ?l ?c ?k; (case a => k_is); (case l => k_is); (case c => k_is); (case k => k_is)))
    (case f__law_amount => (refine' Fc.fnAt ?a ?l ?c ?k; (case a => k_is); (case l => k_is); (case c => k_is); (case k => k_is)))
    (case f__law_names => (refine' Fc.fnAt ?a ?l ?c ?k; (case a => k_is); (case l => k_is); (case c => k_is); (case k => k_is)))
    (case f__law_tie => (refine' Fc.fnAt ?a ?l ?c ?k; (case a => k_is); (case l => k_is); (case c => k_is); (case k => k_is)))
    (case f__law_web => (refine' Fc.fnAt ?a ?l ?c ?k; (case a => k_is); (case l => k_is); (case c => k_is); (case k => k_is)))
    (case f__law_cheapest => (refine' Fc.fnAt ?a ?l ?c ?k; (case a => k_is); (case l => k_is); (case c => k_is); (case k => k_is)))
    (case f__law_purse => (refine' Fc.fnAt ?a ?l ?c ?k; (case a => k_is); (case l => k_is); (case c => k_is); (case k => k_is)))
    (case f__law_left => (refine' Fc.fnAt ?a ?l ?c ?k; (case a => k_is); (case l => k_is); (case c => k_is); (case k => k_is)))
    (case f__law_cuts => (refine' Fc.fnAt ?a ?l ?c ?k; (case a => k_is); (case l => k_is); (case c => k_is); (case k => k_is)))
    (case f__law_watched => (refine' Fc.fnAt ?a ?l ?c ?k; (case a => k_is); (case l => k_is); (case c => k_is); (case k => k_is)))
    (case m_Pipes_spare => (refine' Fc.mtAt ?a ?i ?l ?c ?k; (case a => k_is); (case i => k_is); (case l => k_is); (case c => k_is); (case k => k_is)))
    (case m_Pipes_over => (refine' Fc.mtAt ?a ?i ?l ?c ?k; (case a => k_is); (case i => k_is); (case l => k_is); (case c => k_is); (case k => k_is)))
    (case m_Pipes_reached => (refine' Fc.mtAt ?a ?i ?l ?c ?k; (case a => k_is); (case i => k_is); (case l => k_is); (case c => k_is); (case k => k_is)))
    (case m_Pipes_back => (refine' Fc.mtAt ?a ?i ?l ?c ?k; (case a => k_is); (case i => k_is); (case l => k_is); (case c => k_is); (case k => k_is)))
    (case m_Pipes_send => (refine' Fc.mtAt ?a ?i ?l ?c ?k; (case a => k_is); (case i => k_is); (case l => k_is); (case c => k_is); (case k => k_is)))
    (case m_Pipes_flow => (refine' Fc.mtAt ?a ?i ?l ?c ?k; (case a => k_is); (case i => k_is); (case l => k_is); (case c => k_is); (case k => k_is)))
    (case m_Pipes_fill => (refine' Fc.mtAt ?a ?i ?l ?c ?k; (case a => k_is); (case i => k_is); (case l => k_is); (case c => k_is); (case k => k_is)))
    (case m_Pipes___init__ => (refine' Fc.mtAt ?a ?i ?l ?c ?k; (case a => k_is); (case i => k_is); (case l => k_is); (case c => k_is); (case k => k_is)))
    (case m_StopSearch_go_down => (refine' Fc.mtAt ?a ?i ?l ?c ?k; (case a => k_is); (case i => k_is); (case l => k_is); (case c => k_is); (case k => k_is)))
    (case m_StopSearch___init__ => (refine' Fc.mtAt ?a ?i ?l ?c ?k; (case a => k_is); (case i => k_is); (case l => k_is); (case c => k_is); (case k => k_is)))
    (case m_Search_go_through => (refine' Fc.mtAt ?a ?i ?l ?c ?k; (case a => k_is); (case i => k_is); (case l => k_is); (case c => k_is); (case k => k_is)))
    (case m_Search___init__ => (refine' Fc.mtAt ?a ?i ?l ?c ?k; (case a => k_is); (case i => k_is); (case l => k_is); (case c => k_is); (case k => k_is)))
    (case z_len => k_is)
    (case z_abs => k_is)
    (case z_isinstance => k_is)
    (case z_min => k_is)
    (case z_max => k_is)
    (case z_sorted => k_is)
    (case z_range => k_is)
    (case z_int => k_is)
    (case z_str => k_is)
    (case z_list => k_is)
    (case z_tuple => k_is)
    (case z_bool => k_is)
    (case gN => k_is)
    (case lN => k_is)
    (case gL => k_is)
    (case g4 => k_is)
    (case g5 => k_is)
    (case g6 => k_is)
    (case g7 => k_is)
    (case g8 => k_is)
    (case g9 => k_is)
    (case aLaw => k_is)
    (case lLaw => k_is)
    (case cLaw => k_is)
    (case kLaw => k_is)
