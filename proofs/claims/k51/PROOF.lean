import PyProof.Rows.All
import Wide.All
import OpenK.AllK
import Wide.FinOn
import HandS.ForMost
import HandS.ForExc
import HandS.Walk
import HandS.Zip
import HandS.Wide
import HandS.Style
import HandS.TryOnly
import HandS.Property
import HandS.ClsMeth
import HandS.MakeKwOnly
import HandS.Defaults
import HandS.IsInst
import PyProof.ReprRoads
import PyProof.ReprLen
import HandS.TupLe
import HandS.Text
import HandS.SlotsOwn
import HandS.More
import PyProof.InstNe
import PyProof.CallFns
import HandS.Words
import PyProof.Rows.RegStrFacts
import HandS.Iter
import PySem.Challenge.RW_askranges_k51_traps
set_option Elab.async false
set_option linter.all false
set_option maxRecDepth 100000
set_option maxHeartbeats 4000000
namespace FL
open PySem PySem.Spec PyProof.Rows L2

/-! ## values as trees -/
inductive D where
  | non | bl (b : Bool) | int (i : Int) | str (x : Str)
  | tup (l : List D) | lst (l : List D) | dct (l : List (Key × D))
  | ins (c : Nat) (l : List (Str × D)) | cls (c : Nat) | pen

/-- class addresses, the pen's address, the address of the object that an __init__ fills -/
structure Kx where
  cm : Nat → Addr
  p : Addr
  me : Addr

mutual
inductive Rep (k : Kx) (G : Hp) : D → V → Prop
  | non : Rep k G .non .non
  | bl (b : Bool) : Rep k G (.bl b) (.bl b)
  | int (i : Int) : Rep k G (.int i) (.int i)
  | str (x : Str) : Rep k G (.str x) (.str x)
  | tup {a : Addr} {vs : List V} {l : List D} : G a = some (.tup vs) → RepL k G l vs → Rep k G (.tup l) (.ref a)
  | lst {a : Addr} {vs : List V} {l : List D} : G a = some (.lst vs) → RepL k G l vs → Rep k G (.lst l) (.ref a)
  | dct {a : Addr} {kvs : List (Key × V)} {l : List (Key × D)} : G a = some (.dK kvs) → RepK k G l kvs → Rep k G (.dct l) (.ref a)
  | ins {a : Addr} {c : Nat} {dx : Addr} {fs : List (Str × V)} {l : List (Str × D)} : G a = some (.ins (k.cm c) dx fs) → RepF k G l fs → Rep k G (.ins c l) (.ref a)
  | cls (c : Nat) : Rep k G (.cls c) (.ref (k.cm c))
  | pen : Rep k G .pen (.ref k.p)
inductive RepL (k : Kx) (G : Hp) : List D → List V → Prop
  | nil : RepL k G [] []
  | cons {d : D} {v : V} {l : List D} {vs : List V} : Rep k G d v → RepL k G l vs → RepL k G (d :: l) (v :: vs)
inductive RepK (k : Kx) (G : Hp) : List (Key × D) → List (Key × V) → Prop
  | nil : RepK k G [] []
  | cons {x : Key} {d : D} {v : V} {l : List (Key × D)} {vs : List (Key × V)} : Rep k G d v → RepK k G l vs → RepK k G ((x, d) :: l) ((x, v) :: vs)
inductive RepF (k : Kx) (G : Hp) : List (Str × D) → List (Str × V) → Prop
  | nil : RepF k G [] []
  | cons {x : Str} {d : D} {v : V} {l : List (Str × D)} {vs : List (Str × V)} : Rep k G d v → RepF k G l vs → RepF k G ((x, d) :: l) ((x, v) :: vs)
end

section
variable {k k' : Kx} {G : Hp}
mutual
/-- the table and the pen alone matter -/
theorem Rep.re (h1 : k'.cm = k.cm) (h2 : k'.p = k.p) : ∀ {d : D} {v : V}, Rep k G d v → Rep k' G d v
  | _, _, .non => .non
  | _, _, .bl b => .bl b
  | _, _, .int i => .int i
  | _, _, .str x => .str x
  | _, _, .tup h r => .tup h (RepL.re h1 h2 r)
  | _, _, .lst h r => .lst h (RepL.re h1 h2 r)
  | _, _, .dct h r => .dct h (RepK.re h1 h2 r)
  | _, _, .ins h r => .ins (by rw [h1]; exact h) (RepF.re h1 h2 r)
  | _, _, .cls c => by rw [← h1]; exact .cls c
  | _, _, .pen => by rw [← h2]; exact .pen
theorem RepL.re (h1 : k'.cm = k.cm) (h2 : k'.p = k.p) : ∀ {l : List D} {vs : List V}, RepL k G l vs → RepL k' G l vs
  | _, _, .nil => .nil
  | _, _, .cons r t => .cons (Rep.re h1 h2 r) (RepL.re h1 h2 t)
theorem RepK.re (h1 : k'.cm = k.cm) (h2 : k'.p = k.p) : ∀ {l : List (Key × D)} {vs : List (Key × V)}, RepK k G l vs → RepK k' G l vs
  | _, _, .nil => .nil
  | _, _, .cons r t => .cons (Rep.re h1 h2 r) (RepK.re h1 h2 t)
theorem RepF.re (h1 : k'.cm = k.cm) (h2 : k'.p = k.p) : ∀ {l : List (Str × D)} {vs : List (Str × V)}, RepF k G l vs → RepF k' G l vs
  | _, _, .nil => .nil
  | _, _, .cons r t => .cons (Rep.re h1 h2 r) (RepF.re h1 h2 t)
end
end
/-- the one heap within the other -/
def Sub (G H : Hp) : Prop := ∀ a o, G a = some o → H a = some o
theorem Sub.rfl' {G : Hp} : Sub G G := fun _ _ h => h
theorem Sub.trans {G H I : Hp} (a : Sub G H) (b : Sub H I) : Sub G I := fun c o h => b c o (a c o h)
theorem Sub.up {G : Hp} {a : Addr} {o : HO} (n : G a = none) : Sub G (upd G a o) := fun b u h => by
  rw [upd_ne (ne_of_none h n)]; exact h
theorem Sub.up2 {G H : Hp} {a : Addr} {o : HO} (s : Sub G H) : Sub (upd G a o) (upd H a o) := fun b u h => by
  by_cases e : b = a
  · subst e; rw [upd_same] at h ⊢; exact h
  · rw [upd_ne e] at h ⊢; exact s b u h
theorem Sub.nn {G H : Hp} (s : Sub G H) {a : Addr} (n : H a = none) : G a = none := by
  cases q : G a with
  | none => rfl
  | some o => rw [s a o q] at n; cases n

section
variable {k : Kx} {G G' : Hp}
mutual
theorem Rep.mono (s : Sub G G') : ∀ {d : D} {v : V}, Rep k G d v → Rep k G' d v
  | _, _, .non => .non
  | _, _, .bl b => .bl b
  | _, _, .int i => .int i
  | _, _, .str x => .str x
  | _, _, .tup h r => .tup (s _ _ h) (RepL.mono s r)
  | _, _, .lst h r => .lst (s _ _ h) (RepL.mono s r)
  | _, _, .dct h r => .dct (s _ _ h) (RepK.mono s r)
  | _, _, .ins h r => .ins (s _ _ h) (RepF.mono s r)
  | _, _, .cls c => .cls c
  | _, _, .pen => .pen
theorem RepL.mono (s : Sub G G') : ∀ {l : List D} {vs : List V}, RepL k G l vs → RepL k G' l vs
  | _, _, .nil => .nil
  | _, _, .cons r t => .cons (Rep.mono s r) (RepL.mono s t)
theorem RepK.mono (s : Sub G G') : ∀ {l : List (Key × D)} {vs : List (Key × V)}, RepK k G l vs → RepK k G' l vs
  | _, _, .nil => .nil
  | _, _, .cons r t => .cons (Rep.mono s r) (RepK.mono s t)
theorem RepF.mono (s : Sub G G') : ∀ {l : List (Str × D)} {vs : List (Str × V)}, RepF k G l vs → RepF k G' l vs
  | _, _, .nil => .nil
  | _, _, .cons r t => .cons (Rep.mono s r) (RepF.mono s t)
end
theorem RepL.length : ∀ {l : List D} {vs : List V}, RepL k G l vs → l.length = vs.length
  | _, _, .nil => rfl
  | _, _, .cons _ t => congrArg Nat.succ t.length
theorem RepL.get : ∀ {l : List D} {vs : List V} {i : Nat} {v : V}, RepL k G l vs → vs[i]? = some v → ∃ d, l[i]? = some d ∧ Rep k G d v
  | _, _, _, _, .nil, e => by simp at e
  | _, _, 0, _, .cons r _, e => by simp at e; subst e; exact ⟨_, rfl, r⟩
  | _, _, i + 1, v, .cons _ t, e => by
    obtain ⟨d, h1, h2⟩ := RepL.get (i := i) (v := v) t (by simpa using e)
    exact ⟨d, by simpa using h1, h2⟩
theorem RepL.at : ∀ {l : List D} {vs : List V} {i : Nat} {d : D}, RepL k G l vs → l[i]? = some d → ∃ v, vs[i]? = some v ∧ Rep k G d v
  | _, _, _, _, .nil, e => by simp at e
  | _, _, 0, _, .cons r _, e => by simp at e; subst e; exact ⟨_, rfl, r⟩
  | _, _, i + 1, d, .cons _ t, e => by
    obtain ⟨v, h1, h2⟩ := RepL.at (i := i) (d := d) t (by simpa using e)
    exact ⟨v, by simpa using h1, h2⟩
theorem RepL.append : ∀ {l m : List D} {vs ws : List V}, RepL k G l vs → RepL k G m ws → RepL k G (l ++ m) (vs ++ ws)
  | _, _, _, _, .nil, s => s
  | _, _, _, _, .cons r t, s => .cons r (t.append s)
theorem RepL.ints : ∀ {ns : List Int} {vs : List V}, RepL k G (ns.map D.int) vs → vs = ns.map V.int
  | [], _, h => by cases h; rfl
  | n :: ns, _, h => by
    cases h with
    | cons r t => cases r; rw [RepL.ints t]; rfl
theorem RepL.of_ints : ∀ (ns : List Int), RepL k G (ns.map D.int) (ns.map V.int)
  | [] => .nil
  | n :: ns => .cons (.int n) (RepL.of_ints ns)
end

/-! ## slots -/
inductive Sl where
  | no | va (d : D) | ow (d : D)
abbrev Env := List Sl

/-- an object that is no one else's, with frozen parts -/
inductive RepO (k : Kx) (G H : Hp) : D → Addr → Prop
  | lst {a : Addr} {vs : List V} {l : List D} : H a = some (.lst vs) → RepL k G l vs → RepO k G H (.lst l) a
  | dct {a : Addr} {kvs : List (Key × V)} {l : List (Key × D)} : H a = some (.dK kvs) → RepK k G l kvs → RepO k G H (.dct l) a
  | ins {c : Nat} {dx : Addr} {fs : List (Str × V)} {l : List (Str × D)} : H k.me = some (.ins (k.cm c) dx fs) → RepF k G l fs → RepO k G H (.ins c l) k.me

/-- the pen -/
def PenOk (k : Kx) (β : Nat) (G H : Hp) : Prop := G k.p = none ∧ ∃ (q : Addr) (ns : List Int) (i r : Int), H k.p = some (.lst [.ref q, .int i, .int r]) ∧ G q = some (.lst (ns.map V.int)) ∧
  (0 ≤ i ∧ i ≤ (β : Int)) ∧ 0 ≤ r

/-- from a def's entry (G0, H0) to here: frozen things stay, what stood stays but for the pen -/
structure SB (k : Kx) (G0 H0 : Hp) (β : Nat) (G H : Hp) : Prop where
  sub : Sub G H
  g0 : Sub G0 G
  fr : ∀ a o, G a = some o → G0 a = some o ∨ H0 a = none
  kp : ∀ b o, H0 b = some o → b ≠ k.p → H b = some o
  pen : PenOk k β G H
  pn : H0 k.p ≠ none
structure SR (k : Kx) (G0 H0 : Hp) (β : Nat) (G H : Hp) (σ : L2.St) (ρ : Env) : Prop where
  b : SB k G0 H0 β G H
  len : ρ.length = σ.length
  sl : ∀ (i : Nat) d, ρ[i]? = some (.va d) → ∃ v, σ[i]? = some (some v) ∧ Rep k G d v
  ow : ∀ (i : Nat) d, ρ[i]? = some (.ow d) → ∃ a, σ[i]? = some (some (.ref a)) ∧ H0 a = none ∧ G a = none ∧ a ≠ k.p ∧ RepO k G H d a
  ap : ∀ (i j : Nat) d e a, i ≠ j → ρ[i]? = some (.ow d) → ρ[j]? = some (.ow e) → σ[i]? = some (some (.ref a)) → σ[j]? ≠ some (some (.ref a))

section
variable {k : Kx} {G0 H0 G H G' H' : Hp} {σ : L2.St} {ρ : Env} {β β' : Nat}
theorem PenOk.le (p : PenOk k β G H) (h : β ≤ β') : PenOk k β' G H := by
  obtain ⟨h0, q, ns, i, r, h1, h2, ⟨a, b⟩, h3⟩ := p
  exact ⟨h0, q, ns, i, r, h1, h2, ⟨a, by omega⟩, h3⟩
theorem SB.le (b : SB k G0 H0 β G H) (h : β ≤ β') : SB k G0 H0 β' G H := ⟨b.sub, b.g0, b.fr, b.kp, b.pen.le h, b.pn⟩
theorem SR.le (s : SR k G0 H0 β G H σ ρ) (h : β ≤ β') : SR k G0 H0 β' G H σ ρ := ⟨s.b.le h, s.len, s.sl, s.ow, s.ap⟩
theorem SB.nn {a : Addr} (b : SB k G0 H0 β G H) (n : H a = none) : H0 a = none := by
  cases q : H0 a with
  | none => rfl
  | some o =>
    by_cases e : a = k.p
    · subst e
      obtain ⟨_, _, _, _, _, h, _⟩ := b.pen
      rw [h] at n; cases n
    · rw [b.kp a o q e] at n; cases n
theorem SB.ne {a : Addr} (b : SB k G0 H0 β G H) (n : H a = none) : a ≠ k.p := fun e => by
  subst e
  obtain ⟨_, _, _, _, _, h, _⟩ := b.pen
  rw [h] at n; cases n
theorem PenOk.pu {a : Addr} {o : HO} (p : PenOk k β G H) (n : H a = none) (s : Sub G H) : PenOk k β (upd G a o) (upd H a o) := by
  obtain ⟨h0, q, ns, i, r, h1, h2, h3⟩ := p
  have ne : k.p ≠ a := fun e => by rw [← e, h1] at n; cases n
  refine ⟨by rw [upd_ne ne]; exact h0, q, ns, i, r, by rw [upd_ne ne]; exact h1, ?_, h3⟩
  rw [upd_ne]
  · exact h2
  · intro e; rw [e] at h2; rw [s a _ h2] at n; cases n
theorem PenOk.puH {a : Addr} {o : HO} (p : PenOk k β G H) (n : a ≠ k.p) : PenOk k β G (upd H a o) := by
  obtain ⟨h0, q, ns, i, r, h1, h2, h3⟩ := p
  exact ⟨h0, q, ns, i, r, by rw [upd_ne (Ne.symm n)]; exact h1, h2, h3⟩
/-- a new object, frozen at once -/
theorem SB.new {a : Addr} {o : HO} (b : SB k G0 H0 β G H) (n : H a = none) : SB k G0 H0 β (upd G a o) (upd H a o) where
  sub := b.sub.up2
  g0 := b.g0.trans (Sub.up (b.sub.nn n))
  fr := fun c u e => by
    by_cases q : c = a
    · subst q; exact .inr (b.nn n)
    · rw [upd_ne q] at e; exact b.fr c u e
  kp := fun c u e ne => by
    have : c ≠ a := fun q => by subst q; rw [b.nn n] at e; cases e
    rw [upd_ne this]; exact b.kp c u e ne
  pen := b.pen.pu n b.sub
  pn := b.pn
/-- a new object, not frozen -/
theorem SB.newO {a : Addr} {o : HO} (b : SB k G0 H0 β G H) (n : H a = none) : SB k G0 H0 β G (upd H a o) where
  sub := b.sub.trans (Sub.up n)
  g0 := b.g0
  fr := b.fr
  kp := fun c u e ne => by
    have : c ≠ a := fun q => by subst q; rw [b.nn n] at e; cases e
    rw [upd_ne this]; exact b.kp c u e ne
  pen := b.pen.puH (b.ne n)
  pn := b.pn
theorem RepO.keep {d : D} {a : Addr} (r : RepO k G H d a) (s : Sub G G') (h : H' a = H a) : RepO k G' H' d a := by
  cases r with
  | lst e t => exact .lst (h.trans e) (t.mono s)
  | dct e t => exact .dct (h.trans e) (t.mono s)
  | ins e t => exact .ins (h.trans e) (t.mono s)
theorem RepO.sm {d : D} {a : Addr} (r : RepO k G H d a) : ∃ o, H a = some o := by
  cases r with
  | lst e t => exact ⟨_, e⟩
  | dct e t => exact ⟨_, e⟩
  | ins e t => exact ⟨_, e⟩
theorem SR.new {a : Addr} {o : HO} (s : SR k G0 H0 β G H σ ρ) (n : H a = none) : SR k G0 H0 β (upd G a o) (upd H a o) σ ρ where
  b := s.b.new n
  len := s.len
  sl := fun i d e => let ⟨v, h1, h2⟩ := s.sl i d e; ⟨v, h1, h2.mono (Sub.up (s.b.sub.nn n))⟩
  ow := fun i d e => by
    obtain ⟨c, h1, h2, h3, h4, h5⟩ := s.ow i d e
    have ne : c ≠ a := fun q => by subst q; obtain ⟨u, hu⟩ := h5.sm; rw [n] at hu; cases hu
    exact ⟨c, h1, h2, by rw [upd_ne ne]; exact h3, h4, h5.keep (Sub.up (s.b.sub.nn n)) (upd_ne ne)⟩
  ap := s.ap
theorem SR.newO {a : Addr} {o : HO} (s : SR k G0 H0 β G H σ ρ) (n : H a = none) : SR k G0 H0 β G (upd H a o) σ ρ where
  b := s.b.newO n
  len := s.len
  sl := s.sl
  ow := fun i d e => by
    obtain ⟨c, h1, h2, h3, h4, h5⟩ := s.ow i d e
    have ne : c ≠ a := fun q => by subst q; obtain ⟨u, hu⟩ := h5.sm; rw [n] at hu; cases hu
    exact ⟨c, h1, h2, h3, h4, h5.keep Sub.rfl' (upd_ne ne)⟩
  ap := s.ap
theorem get_set {α : Type} {l : List α} {i j : Nat} {x y : α} (h : (l.set i x)[j]? = some y) : (j = i ∧ y = x) ∨ (j ≠ i ∧ l[j]? = some y) := by
  by_cases e : j = i
  · subst e
    rw [List.getElem?_set] at h
    simp at h
    exact .inl ⟨rfl, h.2.symm⟩
  · rw [List.getElem?_set_ne (Ne.symm e)] at h
    exact .inr ⟨e, h⟩
theorem set_get {α α' : Type} {l : List α} {m : List α'} {i : Nat} {x : α} {y z : α'} (hl : l.length = m.length) (h : (m.set i y)[i]? = some z) : (l.set i x)[i]? = some x := by
  have hi : i < m.length := by
    have q := (List.getElem?_eq_some_iff.mp h).1
    rw [List.length_set] at q; exact q
  rw [List.getElem?_set_self (by omega)]
theorem SR.set {i : Nat} {d : D} {v : V} (s : SR k G0 H0 β G H σ ρ) (r : Rep k G d v) : SR k G0 H0 β G H (σ.set i (some v)) (ρ.set i (.va d)) where
  b := s.b
  len := by rw [List.length_set, List.length_set]; exact s.len
  sl := fun j e h => by
    rcases get_set h with ⟨rfl, q⟩ | ⟨ne, q⟩
    · cases q
      exact ⟨v, set_get s.len.symm h, r⟩
    · obtain ⟨u, h1, h2⟩ := s.sl j e q
      exact ⟨u, by rw [List.getElem?_set_ne (Ne.symm ne)]; exact h1, h2⟩
  ow := fun j e h => by
    rcases get_set h with ⟨_, q⟩ | ⟨ne, q⟩
    · cases q
    · obtain ⟨a, h1, h2⟩ := s.ow j e q
      exact ⟨a, by rw [List.getElem?_set_ne (Ne.symm ne)]; exact h1, h2⟩
  ap := fun j l e f a ne h1 h2 h3 h4 => by
    rcases get_set h1 with ⟨_, q⟩ | ⟨n1, q1⟩
    · cases q
    · rcases get_set h2 with ⟨_, q⟩ | ⟨n2, q2⟩
      · cases q
      · rw [List.getElem?_set_ne (Ne.symm n1)] at h3
        rw [List.getElem?_set_ne (Ne.symm n2)] at h4
        exact s.ap j l e f a ne q1 q2 h3 h4
/-- a slot is forgotten -/
theorem SR.drop {i : Nat} {x : Option V} (s : SR k G0 H0 β G H σ ρ) : SR k G0 H0 β G H (σ.set i x) (ρ.set i .no) where
  b := s.b
  len := by rw [List.length_set, List.length_set]; exact s.len
  sl := fun j e h => by
    rcases get_set h with ⟨_, q⟩ | ⟨ne, q⟩
    · cases q
    · obtain ⟨u, h1, h2⟩ := s.sl j e q
      exact ⟨u, by rw [List.getElem?_set_ne (Ne.symm ne)]; exact h1, h2⟩
  ow := fun j e h => by
    rcases get_set h with ⟨_, q⟩ | ⟨ne, q⟩
    · cases q
    · obtain ⟨a, h1, h2⟩ := s.ow j e q
      exact ⟨a, by rw [List.getElem?_set_ne (Ne.symm ne)]; exact h1, h2⟩
  ap := fun j l e f a ne h1 h2 h3 h4 => by
    rcases get_set h1 with ⟨_, q⟩ | ⟨n1, q1⟩
    · cases q
    · rcases get_set h2 with ⟨_, q⟩ | ⟨n2, q2⟩
      · cases q
      · rw [List.getElem?_set_ne (Ne.symm n1)] at h3
        rw [List.getElem?_set_ne (Ne.symm n2)] at h4
        exact s.ap j l e f a ne q1 q2 h3 h4
/-- an own object comes to a slot -/
theorem SR.setO {i : Nat} {d : D} {a : Addr} (s : SR k G0 H0 β G H σ ρ) (h0 : H0 a = none) (hG : G a = none) (hp : a ≠ k.p) (r : RepO k G H d a)
    (new : ∀ (j : Nat) e, ρ[j]? = some (.ow e) → σ[j]? ≠ some (some (.ref a))) : SR k G0 H0 β G H (σ.set i (some (.ref a))) (ρ.set i (.ow d)) where
  b := s.b
  len := by rw [List.length_set, List.length_set]; exact s.len
  sl := fun j e h => by
    rcases get_set h with ⟨_, q⟩ | ⟨ne, q⟩
    · cases q
    · obtain ⟨u, h1, h2⟩ := s.sl j e q
      exact ⟨u, by rw [List.getElem?_set_ne (Ne.symm ne)]; exact h1, h2⟩
  ow := fun j e h => by
    rcases get_set h with ⟨rfl, q⟩ | ⟨ne, q⟩
    · cases q
      exact ⟨a, set_get s.len.symm h, h0, hG, hp, r⟩
    · obtain ⟨c, h1, h2⟩ := s.ow j e q
      exact ⟨c, by rw [List.getElem?_set_ne (Ne.symm ne)]; exact h1, h2⟩
  ap := fun j l e f c ne h1 h2 h3 h4 => by
    rcases get_set h1 with ⟨rfl, q⟩ | ⟨n1, q1⟩
    · rcases get_set h3 with ⟨_, q3⟩ | ⟨n3, _⟩
      · cases q3
        rcases get_set h2 with ⟨rfl, _⟩ | ⟨n2, q2⟩
        · exact ne rfl
        · rw [List.getElem?_set_ne (Ne.symm n2)] at h4
          exact new l f q2 h4
      · exact n3 rfl
    · rw [List.getElem?_set_ne (Ne.symm n1)] at h3
      rcases get_set h2 with ⟨rfl, q⟩ | ⟨n2, q2⟩
      · rcases get_set h4 with ⟨_, q4⟩ | ⟨n4, _⟩
        · cases q4
          exact new j e q1 h3
        · exact n4 rfl
      · rw [List.getElem?_set_ne (Ne.symm n2)] at h4
        exact s.ap j l e f c ne q1 q2 h3 h4
end
end FL
set_option Elab.async false
set_option linter.all false
set_option maxRecDepth 100000
set_option maxHeartbeats 4000000
namespace FL
open PySem PySem.Spec PyProof.Rows L2

/-- an own object may be taken as frozen -/
theorem RepO.frz {k : Kx} {G H : Hp} {d : D} {a : Addr} (g : G a = none) (r : RepO k G H d a) : ∃ o, H a = some o ∧ Rep k (upd G a o) d (.ref a) := by
  cases r with
  | lst e t => exact ⟨_, e, .lst upd_same (t.mono (Sub.up g))⟩
  | dct e t => exact ⟨_, e, .dct upd_same (t.mono (Sub.up g))⟩
  | ins e t => exact ⟨_, e, .ins upd_same (t.mono (Sub.up g))⟩
theorem SB.frz {k : Kx} {G0 H0 G H : Hp} {a : Addr} {o : HO} (b : SB k G0 H0 β G H) (h0 : H0 a = none) (g : G a = none) (p : a ≠ k.p) (ho : H a = some o) : SB k G0 H0 β (upd G a o) H where
  sub := fun c u e => by
    by_cases q : c = a
    · subst q; rw [upd_same] at e; rw [ho]; exact e
    · rw [upd_ne q] at e; exact b.sub c u e
  g0 := b.g0.trans (Sub.up g)
  fr := fun c u e => by
    by_cases q : c = a
    · subst q; exact .inr h0
    · rw [upd_ne q] at e; exact b.fr c u e
  kp := b.kp
  pen := by
    obtain ⟨z, q, ns, i, r, h1, h2, h3⟩ := b.pen
    refine ⟨by rw [upd_ne (Ne.symm p)]; exact z, q, ns, i, r, h1, ?_, h3⟩
    rw [upd_ne]
    · exact h2
    · intro z; rw [z, g] at h2; cases h2
  pn := b.pn
theorem SR.frzAt {k : Kx} {G0 H0 G H : Hp} {σ : L2.St} {ρ : Env} {d : D} {a : Addr} {o : HO} {i : Nat} (s : SR k G0 H0 β G H σ ρ) (e : ρ[i]? = some (.ow d)) (h1 : σ[i]? = some (some (.ref a))) (ho : H a = some o) (r : Rep k (upd G a o) d (.ref a)) :
    SR k G0 H0 β (upd G a o) H σ (ρ.set i (.va d)) := by
  obtain ⟨c, g1, g2, g3, g4, g5⟩ := s.ow i d e
  rw [h1] at g1
  cases g1
  refine ⟨s.b.frz g2 g3 g4 ho, by rw [List.length_set]; exact s.len, fun j f h => ?_, fun j f h => ?_, fun j l f g b ne q1 q2 q3 q4 => ?_⟩
  · rcases get_set h with ⟨rfl, q⟩ | ⟨_, q⟩
    · cases q; exact ⟨_, h1, r⟩
    · obtain ⟨v, z1, z2⟩ := s.sl j f q
      exact ⟨v, z1, z2.mono (Sub.up g3)⟩
  · rcases get_set h with ⟨_, q⟩ | ⟨ne, q⟩
    · cases q
    · obtain ⟨b, z1, z2, z3, z4, z5⟩ := s.ow j f q
      have nb : b ≠ a := fun z => by subst z; exact s.ap j i f d b ne q e z1 h1
      exact ⟨b, z1, z2, by rw [upd_ne nb]; exact z3, z4, z5.keep (Sub.up g3) rfl⟩
  · rcases get_set q1 with ⟨_, z⟩ | ⟨_, z1⟩
    · cases z
    · rcases get_set q2 with ⟨_, z⟩ | ⟨_, z2⟩
      · cases z
      · exact s.ap j l f g b ne z1 z2 q3 q4
/-- a bool is there -/
def asB (d : D) (P : Bool → Prop) : Prop := match d with
  | .bl b => P b
  | _ => False
theorem asB.ex {d : D} {P : Bool → Prop} (h : asB d P) : ∃ b, d = .bl b ∧ P b := by
  cases d with
  | bl b => exact ⟨b, rfl, h⟩
  | _ => exact h.elim
/-! ## readings over trees -/
abbrev WQ := D → Env → Prop
/-- an exception of the class numbered c, its own attributes -/
abbrev WN := Nat → List (Str × D) → Env → Prop
abbrev W1 := Env → WQ → WN → Prop
abbrev WT := Env → (Bool → Env → Prop) → WN → Prop
abbrev WL := Env → (List D → Env → Prop) → WN → Prop

/-- more than any run of a def draws -/
def cap : Nat := 2 ^ 4096
/-- a context: the tables, the def's entry, the layer's context -/
structure Cz where
  k : Kx
  G0 : Hp
  H0 : Hp
  X : Cx
  B : Nat
  hB : B ≤ cap
abbrev Cz.SR (Z : Cz) (β : Nat) (G H : Hp) (σ : L2.St) (ρ : Env) : Prop := FL.SR Z.k Z.G0 Z.H0 β G H σ ρ

def ExcAt (k : Kx) (G : Hp) (fs : List (Str × D)) (d : Option Addr) : Prop := (fs = [] ∧ d = none) ∨ ∃ dx vs, d = some dx ∧ G dx = some (.xd vs) ∧ RepF k G fs vs
/-- what the tree side wants of exceptions gives what the layer wants -/
def Lnk (Z : Cz) (E : WN) (W : WX) : Prop := ∀ c fs ρ σ G H d, E c fs ρ → Z.SR Z.B G H σ ρ → ExcAt Z.k G fs d → W (.ref (Z.k.cm c)) d σ H
theorem Lnk.imp {Z : Cz} {E E' : WN} {W : WX} (l : Lnk Z E W) (h : ∀ c fs ρ, E' c fs ρ → E c fs ρ) : Lnk Z E' W := fun c fs ρ σ G H d e => l c fs ρ σ G H d (h _ _ _ e)
theorem Lnk.no {Z : Cz} {W : WX} : Lnk Z (fun _ _ _ => False) W := fun _ _ _ _ _ _ _ e => e.elim

/-- from a reading over trees to the layer's -/
def tF (Z : Cz) (W : WX) (w : W1) (c : Nat) : TE := fun σ H Q => ∃ (G : Hp) (ρ : Env) (Qd : WQ) (E : WN) (β : Nat), β + c ≤ Z.B ∧ Z.SR β G H σ ρ ∧ Lnk Z E W ∧ w ρ Qd E ∧
  ∀ d ρ' v G' H', Qd d ρ' → Z.SR (β + c) G' H' σ ρ' → Sub G G' → Rep Z.k G' d v → Q v H'
def tFt (Z : Cz) (W : WX) (w : WT) (c : Nat) : TT := fun σ H Q => ∃ (G : Hp) (ρ : Env) (Qd : Bool → Env → Prop) (E : WN) (β : Nat), β + c ≤ Z.B ∧ Z.SR β G H σ ρ ∧ Lnk Z E W ∧ w ρ Qd E ∧
  ∀ b ρ' G' H', Qd b ρ' → Z.SR (β + c) G' H' σ ρ' → Sub G G' → Q b H'
def tFl (Z : Cz) (W : WX) (w : WL) (c : Nat) : TA := fun σ H Q => ∃ (G : Hp) (ρ : Env) (Qd : List D → Env → Prop) (E : WN) (β : Nat), β + c ≤ Z.B ∧ Z.SR β G H σ ρ ∧ Lnk Z E W ∧ w ρ Qd E ∧
  ∀ ds ρ' vs G' H', Qd ds ρ' → Z.SR (β + c) G' H' σ ρ' → Sub G G' → RepL Z.k G' ds vs → Q vs H'
/-- an object that is new and no one else's -/
structure Own (Z : Cz) (G H : Hp) (σ : L2.St) (ρ : Env) (d : D) (a : Addr) : Prop where
  h0 : Z.H0 a = none
  g : G a = none
  p : a ≠ Z.k.p
  r : RepO Z.k G H d a
  sl : ∀ (j : Nat) e, ρ[j]? = some (.ow e) → σ[j]? ≠ some (some (.ref a))
def tFo (Z : Cz) (W : WX) (w : W1) (c : Nat) : TE := fun σ H Q => ∃ (G : Hp) (ρ : Env) (Qd : WQ) (E : WN) (β : Nat), β + c ≤ Z.B ∧ Z.SR β G H σ ρ ∧ Lnk Z E W ∧ w ρ Qd E ∧
  ∀ d ρ' a G' H', Qd d ρ' → Z.SR (β + c) G' H' σ ρ' → Sub G G' → Own Z G' H' σ ρ' d a → Q (.ref a) H'

/-- an expression -/
def PF (Z : Cz) (e : Expr) (w : W1) (c : Nat) : Prop := ∀ W, Takes Z.X W → PE Z.X e (tF Z W w c)
/-- an expression whose value is a new object -/
def PO (Z : Cz) (e : Expr) (w : W1) (c : Nat) : Prop := ∀ W, Takes Z.X W → PE Z.X e (tFo Z W w c)
def PFt (Z : Cz) (e : Expr) (w : WT) (c : Nat) : Prop := ∀ W, Takes Z.X W → PT Z.X e (tFt Z W w c)
def PFw (Z : Cz) (e : Expr) (w : WT) (c : Nat) : Prop := ∀ W, Takes Z.X W → PW Z.X e (tFt Z W w c)
def PFl (Z : Cz) (es : List Expr) (w : WL) (c : Nat) : Prop := ∀ W, Takes Z.X W → PA Z.X es (tFl Z W w c)

theorem _root_.L2.PE.weak {X : Cx} {e : Expr} {t u : TE} (h : PE X e t) (i : ∀ σ H Q, u σ H Q → t σ H Q) : PE X e u := ⟨fun pins s σ H Q I q => h.run pins s σ H Q I (i σ H Q q)⟩
theorem _root_.L2.PT.weak {X : Cx} {e : Expr} {t u : TT} (h : PT X e t) (i : ∀ σ H Q, u σ H Q → t σ H Q) : PT X e u := ⟨fun pins s σ H Q I q => h.run pins s σ H Q I (i σ H Q q)⟩
theorem _root_.L2.PW.weak {X : Cx} {e : Expr} {t u : TT} (h : PW X e t) (i : ∀ σ H Q, u σ H Q → t σ H Q) : PW X e u := ⟨fun wh pins s σ H Q I q => h.run wh pins s σ H Q I (i σ H Q q)⟩
theorem _root_.L2.PA.weak {X : Cx} {es : List Expr} {t u : TA} (h : PA X es t) (i : ∀ σ H Q, u σ H Q → t σ H Q) : PA X es u := ⟨fun pos pins s σ H Q I q => h.run pos pins s σ H Q I (i σ H Q q)⟩

section
variable {Z : Cz} {a b c e : Expr} {es : List Expr} {wa wb wc : W1} {ta tb : WT} {pos : Pos} {ca cb cc : Nat}

/-! ## names, constants -/
/-- a slot read as a value: an own object is frozen -/
def wVar (i : Nat) : W1 := fun ρ Q _ => match ρ[i]? with
  | some (.va d) => Q d ρ
  | some (.ow d) => Q d (ρ.set i (.va d))
  | _ => False
theorem pf_var {i : Nat} {x : Str} {p : Pos} (h : PE Z.X (.Name x p) (tVar i)) : PF Z (.Name x p) (wVar i) 0 := fun W _ => h.weak fun σ H Q ⟨G, ρ, Qd, E, β, hb, s, _, q, l⟩ => by
  unfold wVar at q
  split at q
  · rename_i d e
    obtain ⟨v, h1, h2⟩ := s.sl i d e
    exact ⟨v, h1, l d ρ v G H q s Sub.rfl' h2⟩
  · rename_i d e
    obtain ⟨a, h1, h2, h3, h4, h5⟩ := s.ow i d e
    obtain ⟨o, ho, r⟩ := RepO.frz h3 h5
    refine ⟨.ref a, h1, l d _ _ _ H q (SR.frzAt s e h1 ho r) (Sub.up h3) r⟩
  · exact q.elim
def wC (d : D) : W1 := fun ρ Q _ => Q d ρ
theorem pf_const {d : D} {v : V} (h : PE Z.X e (tC v)) (r : ∀ G, Rep Z.k G d v) : PF Z e (wC d) 0 := fun W _ => h.weak fun σ H Q ⟨G, ρ, Qd, E, β, hb, s, _, q, l⟩ =>
  l d ρ v G H q s Sub.rfl' (r G)
theorem pf_int {i j p} : PF Z (.Constant (.int i) j p) (wC (.int i)) 0 := pf_const pe_int fun _ => .int i
theorem pf_bl {i j p} : PF Z (.Constant (.bool i) j p) (wC (.bl i)) 0 := pf_const pe_bl fun _ => .bl i
theorem pf_non {j p} : PF Z (.Constant .none j p) (wC .non) 0 := pf_const pe_non fun _ => .non
theorem pf_str {x j p} : PF Z (.Constant (.str x) j p) (wC (.str x)) 0 := pf_const pe_str fun _ => .str x

/-! ## operators by values -/
/-- what a two-place rule of the layer does, over trees -/
abbrev WO := D → D → (D → Prop) → Prop
def OpD (Z : Cz) (r : R2) (o : WO) : Prop := ∀ σ ρ G H x y v u Qd Q β, Z.SR β G H σ ρ → Rep Z.k G x v → Rep Z.k G y u → o x y Qd →
  (∀ d v' G' H', Qd d → Z.SR β G' H' σ ρ → Sub G G' → Rep Z.k G' d v' → Q v' H') → r v u H Q
def w2 (o : WO) (wa wb : W1) : W1 := fun ρ Q E => wa ρ (fun x ρ1 => wb ρ1 (fun y ρ2 => o x y fun d => Q d ρ2) E) E
theorem tF_tOp {W : WX} {r : R2} {o : WO} (h : OpD Z r o) (σ : L2.St) (H : Hp) (Q : VK) (q : tF Z W (w2 o wa wb) (ca + cb) σ H Q) : tOp r (tF Z W wa ca) (tF Z W wb cb) σ H Q := by
  obtain ⟨G, ρ, Qd, E, β, hb, s, lk, q, l⟩ := q
  refine ⟨G, ρ, _, E, β, by omega, s, lk, q, fun x ρ1 v G1 H1 q1 s1 g1 r1 => ?_⟩
  refine ⟨G1, ρ1, _, E, _, by omega, s1, lk, q1, fun y ρ2 u G2 H2 q2 s2 g2 r2 => ?_⟩
  exact h σ ρ2 G2 H2 x y v u _ Q _ s2 (r1.mono g2) r2 q2 fun d v' G3 H3 q3 s3 g3 r3 => l d ρ2 v' G3 H3 q3 (s3.le (by omega)) ((g1.trans g2).trans g3) r3
theorem pf_op {op : Operator} {r : R2} {o : WO} (ho : OpR Z.X (binaryOp op) r) (h : OpD Z r o) (ha : PF Z a wa ca) (hb : PF Z b wb cb) : PF Z (.BinOp a op b pos) (w2 o wa wb) (ca + cb) := fun W t => (pe_op ho (ha W t) (hb W t)).weak (tF_tOp h)
theorem pf_cmp {op : CmpOp} {r : R2} {o : WO} (ho : OpR Z.X (compareOp op) r) (h : OpD Z r o) (ha : PF Z a wa ca) (hb : PF Z b wb cb) (hm : behindInMarks op b = false) : PF Z (.Compare a [op] [b] pos) (w2 o wa wb) (ca + cb) :=
  fun W t => (pe_cmpR ho (ha W t) (hb W t) hm).weak (tF_tOp h)
/-- the answer is a bool that needs nothing new -/
def wTst (w : W1) : WT := fun ρ Q E => w ρ (fun d ρ' => asB d fun c => Q c ρ') E
theorem tFt_of {W : WX} (σ : L2.St) (H : Hp) (Q : Bool → Hp → Prop) (q : tFt Z W (wTst wa) ca σ H Q) : tF Z W wa ca σ H (fun x H1 => ∃ c, x = .bl c ∧ Q c H1) := by
  obtain ⟨G, ρ, Qd, E, β, hb, s, lk, q, l⟩ := q
  refine ⟨G, ρ, _, E, β, by omega, s, lk, q, fun d ρ' v G' H' q' s' g' r' => ?_⟩
  obtain ⟨c, rfl, q'⟩ := q'.ex
  cases r'
  exact ⟨c, rfl, l c ρ' G' H' q' s' g'⟩
theorem pt_cmpD {op : CmpOp} {r : R2} {o : WO} (ho : OpR Z.X (compareOp op) r) (h : OpD Z r o) (ha : PF Z a wa ca) (hb : PF Z b wb cb) (hm : behindInMarks op b = false) : PFt Z (.Compare a [op] [b] pos) (wTst (w2 o wa wb)) (ca + cb) :=
  fun W t => (pt_cmpR ho (ha W t) (hb W t) hm).weak fun σ H Q q => tF_tOp h σ H _ (tFt_of σ H Q q)
theorem pt_bool (ha : PF Z a wa ca) (he : ∀ whole, isTrue a Z.X.env whole = (do let v ← whole; standAt a.pos; holding [v] (truthy v)) := by intro _; rfl) : PFt Z a (wTst wa) ca :=
  fun W t => (pt_val (ha W t) he).weak fun σ H Q q => tFt_of σ H Q q

/-! ## and, or, not, if -/
def wAnd (t u : WT) : WT := fun ρ Q E => t ρ (fun c ρ1 => if c = true then u ρ1 Q E else Q false ρ1) E
def wOr (t u : WT) : WT := fun ρ Q E => t ρ (fun c ρ1 => if c = true then Q true ρ1 else u ρ1 Q E) E
def wNot (t : WT) : WT := fun ρ Q E => t ρ (fun c ρ1 => Q (!c) ρ1) E
theorem fw_and1 (h : PFt Z a ta ca) : PFw Z (.BoolOp .And [a] pos) ta ca := fun W t => pw_and1 (h W t)
theorem fw_or1 (h : PFt Z a ta ca) : PFw Z (.BoolOp .Or [a] pos) ta ca := fun W t => pw_or1 (h W t)
theorem fw_and (h : PFt Z a ta ca) (g : PFw Z (.BoolOp .And (b :: es) pos) tb cb) : PFw Z (.BoolOp .And (a :: b :: es) pos) (wAnd ta tb) (ca + cb) := fun W t => (pw_and (h W t) (g W t)).weak fun σ H Q q => by
  obtain ⟨G, ρ, Qd, E, β, hb, s, lk, q, l⟩ := q
  refine ⟨G, ρ, _, E, β, by omega, s, lk, q, fun c ρ1 G1 H1 q1 s1 g1 => ?_⟩
  cases c with
  | true => exact ⟨G1, ρ1, Qd, E, _, by omega, s1, lk, q1, fun b ρ2 G2 H2 q2 s2 g2 => l b ρ2 G2 H2 q2 (s2.le (by omega)) (g1.trans g2)⟩
  | false => exact l false ρ1 G1 H1 q1 (s1.le (by omega)) g1
theorem fw_or (h : PFt Z a ta ca) (g : PFw Z (.BoolOp .Or (b :: es) pos) tb cb) : PFw Z (.BoolOp .Or (a :: b :: es) pos) (wOr ta tb) (ca + cb) := fun W t => (pw_or (h W t) (g W t)).weak fun σ H Q q => by
  obtain ⟨G, ρ, Qd, E, β, hb, s, lk, q, l⟩ := q
  refine ⟨G, ρ, _, E, β, by omega, s, lk, q, fun c ρ1 G1 H1 q1 s1 g1 => ?_⟩
  cases c with
  | false => exact ⟨G1, ρ1, Qd, E, _, by omega, s1, lk, q1, fun b ρ2 G2 H2 q2 s2 g2 => l b ρ2 G2 H2 q2 (s2.le (by omega)) (g1.trans g2)⟩
  | true => exact l true ρ1 G1 H1 q1 (s1.le (by omega)) g1
theorem fw_pt (h : PFw Z a ta ca) : PFt Z a ta ca := fun W t => (h W t).pt
theorem ft_not (h : PFt Z a ta ca) : PFt Z (.UnaryOp .Not a pos) (wNot ta) ca := fun W t => (pt_not (h W t)).weak fun σ H Q q => by
  obtain ⟨G, ρ, Qd, E, β, hb, s, lk, q, l⟩ := q
  exact ⟨G, ρ, _, E, β, by omega, s, lk, q, fun c ρ1 G1 H1 q1 s1 g1 => l (!c) ρ1 G1 H1 q1 s1 g1⟩
/-- .. as values of bools -/
def wAndV (u v : W1) : W1 := fun ρ Q E => u ρ (fun d ρ1 => asB d fun c => if c = true then v ρ1 Q E else Q (.bl false) ρ1) E
def wOrV (u v : W1) : W1 := fun ρ Q E => u ρ (fun d ρ1 => asB d fun c => if c = true then Q (.bl true) ρ1 else v ρ1 Q E) E
def wNotV (u : W1) : W1 := fun ρ Q E => u ρ (fun d ρ1 => asB d fun c => Q (.bl (!c)) ρ1) E
theorem pf_one {op} (h : PF Z a wa ca) : PF Z (.BoolOp op [a] pos) wa ca := fun W t => pe_one (h W t)
theorem pf_and (h : PF Z a wa ca) (g : PF Z (.BoolOp .And (b :: es) pos) wb cb) : PF Z (.BoolOp .And (a :: b :: es) pos) (wAndV wa wb) (ca + cb) := fun W t => (pe_and (h W t) (g W t)).weak fun σ H Q q => by
  obtain ⟨G, ρ, Qd, E, β, hb, s, lk, q, l⟩ := q
  refine ⟨G, ρ, _, E, β, by omega, s, lk, q, fun d ρ1 v G1 H1 q1 s1 g1 r1 => ?_⟩
  obtain ⟨c, rfl, q1⟩ := q1.ex
  cases r1
  refine ⟨c, rfl, ?_⟩
  cases c with
  | true => exact ⟨G1, ρ1, Qd, E, _, by omega, s1, lk, q1, fun b ρ2 v2 G2 H2 q2 s2 g2 r2 => l b ρ2 v2 G2 H2 q2 (s2.le (by omega)) (g1.trans g2) r2⟩
  | false => exact l (.bl false) ρ1 (.bl false) G1 H1 q1 (s1.le (by omega)) g1 (.bl false)
theorem pf_or (h : PF Z a wa ca) (g : PF Z (.BoolOp .Or (b :: es) pos) wb cb) : PF Z (.BoolOp .Or (a :: b :: es) pos) (wOrV wa wb) (ca + cb) := fun W t => (pe_or (h W t) (g W t)).weak fun σ H Q q => by
  obtain ⟨G, ρ, Qd, E, β, hb, s, lk, q, l⟩ := q
  refine ⟨G, ρ, _, E, β, by omega, s, lk, q, fun d ρ1 v G1 H1 q1 s1 g1 r1 => ?_⟩
  obtain ⟨c, rfl, q1⟩ := q1.ex
  cases r1
  refine ⟨c, rfl, ?_⟩
  cases c with
  | false => exact ⟨G1, ρ1, Qd, E, _, by omega, s1, lk, q1, fun b ρ2 v2 G2 H2 q2 s2 g2 r2 => l b ρ2 v2 G2 H2 q2 (s2.le (by omega)) (g1.trans g2) r2⟩
  | true => exact l (.bl true) ρ1 (.bl true) G1 H1 q1 (s1.le (by omega)) g1 (.bl true)
theorem pf_not (h : PF Z a wa ca) : PF Z (.UnaryOp .Not a pos) (wNotV wa) ca := fun W t => (pe_not (h W t)).weak fun σ H Q q => by
  obtain ⟨G, ρ, Qd, E, β, hb, s, lk, q, l⟩ := q
  refine ⟨G, ρ, _, E, β, by omega, s, lk, q, fun d ρ1 v G1 H1 q1 s1 g1 r1 => ?_⟩
  obtain ⟨c, rfl, q1⟩ := q1.ex
  cases r1
  exact ⟨c, rfl, l _ ρ1 _ G1 H1 q1 s1 g1 (.bl _)⟩
def wIf (t : WT) (u v : W1) : W1 := fun ρ Q E => t ρ (fun c ρ1 => if c = true then u ρ1 Q E else v ρ1 Q E) E
theorem pf_if (hc : PFt Z c ta cc) (ha : PF Z a wa ca) (hb : PF Z b wb cb) : PF Z (.IfExp c a b pos) (wIf ta wa wb) (cc + ca + cb) := fun W t => (pe_ifExp (hc W t) (ha W t) (hb W t)).weak fun σ H Q q => by
  obtain ⟨G, ρ, Qd, E, β, hb, s, lk, q, l⟩ := q
  refine ⟨G, ρ, _, E, β, by omega, s, lk, q, fun c ρ1 G1 H1 q1 s1 g1 => ?_⟩
  cases c with
  | true => exact ⟨G1, ρ1, Qd, E, _, by omega, s1, lk, q1, fun b ρ2 v2 G2 H2 q2 s2 g2 r2 => l b ρ2 v2 G2 H2 q2 (s2.le (by omega)) (g1.trans g2) r2⟩
  | false => exact ⟨G1, ρ1, Qd, E, _, by omega, s1, lk, q1, fun b ρ2 v2 G2 H2 q2 s2 g2 r2 => l b ρ2 v2 G2 H2 q2 (s2.le (by omega)) (g1.trans g2) r2⟩

/-! ## argument lists, displays -/
def wNil : WL := fun ρ Q _ => Q [] ρ
def wCons (w : W1) (l : WL) : WL := fun ρ Q E => w ρ (fun d ρ1 => l ρ1 (fun ds ρ2 => Q (d :: ds) ρ2) E) E
theorem fa_nil : PFl Z [] wNil 0 := fun W t => (pa_nil).weak fun σ H Q ⟨G, ρ, Qd, E, β, hb, s, lk, q, l⟩ => l [] ρ [] G H q s Sub.rfl' .nil
theorem fa_cons {wl : WL} (h : PF Z e wa ca) (g : PFl Z es wl cb) (hs : starEach (e :: es) Z.X.env = (false, eval e Z.X.env) :: starEach es Z.X.env := by rfl) : PFl Z (e :: es) (wCons wa wl) (ca + cb) := fun W t =>
  (pa_cons (h W t) (g W t) hs).weak fun σ H Q q => by
  obtain ⟨G, ρ, Qd, E, β, hb, s, lk, q, l⟩ := q
  refine ⟨G, ρ, _, E, β, by omega, s, lk, q, fun d ρ1 v G1 H1 q1 s1 g1 r1 => ?_⟩
  exact ⟨G1, ρ1, _, E, _, by omega, s1, lk, q1, fun ds ρ2 vs G2 H2 q2 s2 g2 r2 => l (d :: ds) ρ2 (v :: vs) G2 H2 q2 (s2.le (by omega)) (g1.trans g2) (.cons (r1.mono g2) r2)⟩
def wTup (l : WL) : W1 := fun ρ Q E => l ρ (fun ds ρ1 => ds.length ≤ 1000 ∧ Q (.tup ds) ρ1) E
def wLst (l : WL) : W1 := fun ρ Q E => l ρ (fun ds ρ1 => ds.length ≤ 1000 ∧ Q (.lst ds) ρ1) E
theorem le_line {n : Nat} (h : n ≤ 1000) : n ≤ sizeLine := Nat.le_of_lt (small1000 h)
theorem pf_tup {wl : WL} {x1} (h : PFl Z es wl cb) : PF Z (.Tuple es x1 pos) (wTup wl) cb := fun W t => (pe_tup (h W t)).weak fun σ H Q q => by
  obtain ⟨G, ρ, Qd, E, β, hb, s, lk, q, l⟩ := q
  refine ⟨G, ρ, _, E, β, by omega, s, lk, q, fun ds ρ1 vs G1 H1 q1 s1 g1 r1 => ?_⟩
  obtain ⟨hl, q1⟩ := q1
  refine ⟨by rw [← r1.length]; exact le_line hl, fun p hp => ?_⟩
  exact l _ ρ1 _ _ _ q1 (s1.new hp) (g1.trans (Sub.up (s1.b.sub.nn hp))) (.tup upd_same (r1.mono (Sub.up (s1.b.sub.nn hp))))
theorem Own.new {G H : Hp} {σ : L2.St} {ρ : Env} {p : Addr} {vs : List V} {ds : List D} (s : Z.SR β G H σ ρ) (hp : H p = none) (r : RepL Z.k G ds vs) : Own Z G (upd H p (.lst vs)) σ ρ (.lst ds) p :=
  ⟨s.b.nn hp, s.b.sub.nn hp, s.b.ne hp, .lst upd_same r, fun j e h q => by
    obtain ⟨c, h1, _, _, _, h5⟩ := s.ow j e h
    rw [h1] at q
    cases q
    obtain ⟨o, ho⟩ := h5.sm
    rw [hp] at ho; cases ho⟩
theorem po_lst {wl : WL} (h : PFl Z es wl cb) : PO Z (.List es pos) (wLst wl) cb := fun W t => (pe_lst (h W t)).weak fun σ H Q q => by
  obtain ⟨G, ρ, Qd, E, β, hb, s, lk, q, l⟩ := q
  refine ⟨G, ρ, _, E, β, by omega, s, lk, q, fun ds ρ1 vs G1 H1 q1 s1 g1 r1 => ?_⟩
  obtain ⟨hl, q1⟩ := q1
  refine ⟨by rw [← r1.length]; exact le_line hl, fun p hp => ?_⟩
  exact l _ ρ1 _ _ _ q1 (s1.newO hp) g1 (.new s1 hp r1)
/-- an own object is frozen -/
theorem SR.freeze {G H : Hp} {σ : L2.St} {ρ : Env} {d : D} {a : Addr} {o : HO} (s : Z.SR β G H σ ρ) (w : Own Z G H σ ρ d a) (ho : H a = some o) : Z.SR β (upd G a o) H σ ρ where
  b := s.b.frz w.h0 w.g w.p ho
  len := s.len
  sl := fun i e h => let ⟨v, h1, h2⟩ := s.sl i e h; ⟨v, h1, h2.mono (Sub.up w.g)⟩
  ow := fun i e h => by
    obtain ⟨c, h1, h2, h3, h4, h5⟩ := s.ow i e h
    have ne : c ≠ a := fun q => w.sl i e h (q ▸ h1)
    exact ⟨c, h1, h2, by rw [upd_ne ne]; exact h3, h4, h5.keep (Sub.up w.g) rfl⟩
  ap := s.ap
theorem Own.rep {G H : Hp} {σ : L2.St} {ρ : Env} {d : D} {a : Addr} (w : Own Z G H σ ρ d a) : ∃ o, H a = some o ∧ Rep Z.k (upd G a o) d (.ref a) := RepO.frz w.g w.r
theorem PO.frz (h : PO Z e wa ca) : PF Z e wa ca := fun W t => (h W t).weak fun σ H Q q => by
  obtain ⟨G, ρ, Qd, E, β, hb, s, lk, q, l⟩ := q
  refine ⟨G, ρ, _, E, β, by omega, s, lk, q, fun d ρ1 a G1 H1 q1 s1 g1 w => ?_⟩
  obtain ⟨o, ho, r⟩ := w.rep
  exact l d ρ1 _ _ H1 q1 (SR.freeze s1 w ho) (g1.trans (Sub.up w.g)) r
theorem pf_lst {wl : WL} (h : PFl Z es wl cb) : PF Z (.List es pos) (wLst wl) cb := (po_lst h).frz
end
end FL
set_option Elab.async false
set_option linter.all false
set_option maxRecDepth 100000
set_option maxHeartbeats 4000000
namespace FL
open PySem PySem.Spec PyProof.Rows L2

/-! ## trees as data -/
mutual
def toP : D → PyData
  | .non => .none
  | .bl b => .bool b
  | .int i => .int i
  | .str x => .str x
  | .tup l => .tuple (toPs l)
  | .lst l => .list (toPs l)
  | .dct _ => .dict []
  | .ins _ _ => .dict []
  | .cls _ => .dict []
  | .pen => .dict []
def toPs : List D → List PyData
  | [] => []
  | d :: l => toP d :: toPs l
end
section
variable {k : Kx} {G : Hp} {K : PySem.W.Frag} {H : Hp}
theorem seqL {a : Addr} {vs : List V} (s : Sub G H) (h : G a = some (.lst vs)) : SqL K H a vs := SqL.of (s _ _ h)
theorem seqT {a : Addr} {vs : List V} (s : Sub G H) (h : G a = some (.tup vs)) : SqT K H a vs := SqT.of (s _ _ h)
mutual
theorem Rep.dp (s : Sub G H) : ∀ {d : D} {v : V}, Rep k G d v → (toP d).canLay0 = true → Dp K H v (toP d)
  | .non, _, h, _ => by cases h; exact .non
  | .bl _, _, h, _ => by cases h; exact .bl _
  | .int _, _, h, _ => by cases h; exact .int _
  | .str _, _, h, _ => by cases h; exact .str _
  | .tup l, _, h, c => by
    cases h with
    | tup e r => exact .tup (seqT s e) (RepL.dp s r (by simpa [toP, PyData.canLay0] using c))
  | .lst l, _, h, c => by
    cases h with
    | lst e r => exact .lst (seqL s e) (RepL.dp s r (by simpa [toP, PyData.canLay0] using c))
  | .dct _, _, _, c => by simp [toP, PyData.canLay0] at c
  | .ins _ _, _, _, c => by simp [toP, PyData.canLay0] at c
  | .cls _, _, _, c => by simp [toP, PyData.canLay0] at c
  | .pen, _, _, c => by simp [toP, PyData.canLay0] at c
theorem RepL.dp (s : Sub G H) : ∀ {l : List D} {vs : List V}, RepL k G l vs → PyData.canLayAll0 (toPs l) = true → DpAll K H vs (toPs l)
  | [], _, h, _ => by cases h; exact .nil
  | d :: l, _, h, c => by
    cases h with
    | cons r t =>
      have c' : (toP d).canLay0 = true ∧ PyData.canLayAll0 (toPs l) = true := by simpa [toPs, PyData.canLayAll0] using c
      exact .cons (Rep.dp s r c'.1) (RepL.dp s t c'.2)
end
end

/-! ## operators -/
section
variable {Z : Cz}
theorem OpD.scal {r : R2} {o : WO} (h : ∀ G H x y v u Qd Q, Sub G H → Rep Z.k G x v → Rep Z.k G y u → o x y Qd → (∀ d v', Qd d → Rep Z.k G d v' → Q v' H) → r v u H Q) : OpD Z r o :=
  fun σ ρ G H x y v u Qd Q β s rx ry q l => h G H x y v u Qd Q s.b.sub rx ry q fun d v' q' r' => l d v' G H q' s Sub.rfl' r'
/-- ints in -/
def oI (f : Int → Int → (D → Prop) → Prop) : WO := fun x y Q => match x, y with
  | .int i, .int j => f i j Q
  | _, _ => False
theorem opd_int {C : Int → Int → Prop} {g : Int → Int → Int} : OpD Z (rI C fun i j => .int (g i j)) (oI fun i j Q => C i j ∧ Q (.int (g i j))) := .scal fun G H x y v u Qd Q _ rx ry q l => by
  cases rx <;> cases ry <;> first
    | exact ⟨_, _, rfl, rfl, q.1, l _ _ q.2 (.int _)⟩
    | exact False.elim q
theorem opd_int0 {g : Int → Int → Int} : OpD Z (rI0 fun i j => .int (g i j)) (oI fun i j Q => Q (.int (g i j))) := .scal fun G H x y v u Qd Q _ rx ry q l => by
  cases rx <;> cases ry <;> first
    | exact ⟨_, _, rfl, rfl, l _ _ q (.int _)⟩
    | exact False.elim q
theorem opd_intb {g : Int → Int → Bool} : OpD Z (rI0 fun i j => .bl (g i j)) (oI fun i j Q => Q (.bl (g i j))) := .scal fun G H x y v u Qd Q _ rx ry q l => by
  cases rx <;> cases ry <;> first
    | exact ⟨_, _, rfl, rfl, l _ _ q (.bl _)⟩
    | exact False.elim q
abbrev oSub : WO := oI fun i j Q => Q (.int (i - j))
abbrev oMul : WO := oI fun i j Q => CMul i j ∧ Q (.int (i * j))
abbrev oMod : WO := oI fun i j Q => 0 < j ∧ Q (.int (i % j))
abbrev oDiv : WO := oI fun i j Q => CDiv i j ∧ Q (.int (i / j))
abbrev oPow : WO := oI fun i j Q => CPow i j ∧ Q (.int (i ^ j.toNat))
abbrev oLt : WO := oI fun i j Q => Q (.bl (decide (i < j)))
abbrev oLe : WO := oI fun i j Q => Q (.bl (decide (i ≤ j)))
abbrev oGt : WO := oI fun i j Q => Q (.bl (decide (j < i)))
abbrev oGe : WO := oI fun i j Q => Q (.bl (decide (j ≤ i)))
/-- ints, texts or lists glued -/
def oAdd : WO := fun x y Q => match x, y with
  | .int i, .int j => Q (.int (i + j))
  | .str a, .str b => a.length + b.length ≤ 1000000 ∧ Q (.str (a ++ b))
  | .lst a, .lst b => a.length + b.length ≤ 1000000 ∧ Q (.lst (a ++ b))
  | _, _ => False
theorem million {n : Nat} (h : n ≤ 1000000) : n ≤ sizeLine := by rw [sizeLine_eq]; omega
def rAddA : R2 := fun x y H Q => (rI0 (fun i j => .int (i + j)) x y H Q ∨ (∃ i j, x = .str i ∧ y = .str j ∧ i.length + j.length ≤ sizeLine ∧ Q (.str (i ++ j)) H)) ∨ rCat x y H Q
theorem op_addA {X : Cx} : OpR X (binaryOp .Add) rAddA := (op_add.or op_add_str).or op_cat
theorem opd_add : OpD Z rAddA oAdd := fun σ ρ G H x y v u Qd Q β s rx ry q l => by
  cases rx with
  | int i =>
    cases ry with
    | int j => exact .inl (.inl ⟨i, j, rfl, rfl, l _ _ G H q s Sub.rfl' (.int _)⟩)
    | _ => exact False.elim q
  | str i =>
    cases ry with
    | str j => exact .inl (.inr ⟨i, j, rfl, rfl, million q.1, l _ _ G H q.2 s Sub.rfl' (.str _)⟩)
    | _ => exact False.elim q
  | lst e r =>
    cases ry with
    | lst e2 r2 =>
      refine .inr ⟨_, _, _, _, rfl, rfl, s.b.sub _ _ e, s.b.sub _ _ e2, ?_, fun p hp => ?_⟩
      · rw [← r.length, ← r2.length]; exact million q.1
      · have n := s.b.sub.nn hp
        exact l _ _ _ _ q.2 (s.new hp) (Sub.up n) (.lst upd_same ((r.append r2).mono (Sub.up n)))
    | _ => exact False.elim q
  | _ => exact False.elim q
/-- == and != of data -/
def oEq : WO := fun x y Q => match x, y with
  | .int a, .int b => Q (.bl (decide (a = b)))
  | .bl a, .bl b => Q (.bl (decide (a = b)))
  | .str a, .str b => Q (.bl (decide (a = b)))
  | x, y => SeqAt.shaped (toP x) = true ∧ SeqAt.shaped (toP y) = true ∧ Q (.bl (PyData.eqv (toP x) (toP y)))
def oNe : WO := fun x y Q => oEq x y fun d => asB d fun b => Q (.bl (!b))
theorem shaped_lay {d : PyData} (h : SeqAt.shaped d = true) : d.canLay0 = true := by
  unfold SeqAt.shaped at h
  rw [Bool.and_eq_true] at h
  exact h.1
def rEqA (K : PySem.W.Frag) : R2 := fun x y H Q => rEq x y H Q ∨ rEqD K x y H Q
def rNeA (K : PySem.W.Frag) : R2 := fun x y H Q => rNe x y H Q ∨ rNeD K x y H Q
theorem op_eqA {X : Cx} (hu : X.A.units + 64 < cLine) : OpR X (compareOp .Eq) (rEqA X.K) := op_eq.or (op_eqD hu)
theorem op_neA {X : Cx} (hu : X.A.units + 64 < cLine) : OpR X (compareOp .NotEq) (rNeA X.K) := op_ne.or (op_neD hu)
theorem oEq_split {x y : D} {Q : D → Prop} (q : oEq x y Q) : (∃ a b, x = .int a ∧ y = .int b ∧ Q (.bl (decide (a = b)))) ∨ (∃ a b, x = .bl a ∧ y = .bl b ∧ Q (.bl (decide (a = b)))) ∨ (∃ a b, x = .str a ∧ y = .str b ∧ Q (.bl (decide (a = b)))) ∨
    (SeqAt.shaped (toP x) = true ∧ SeqAt.shaped (toP y) = true ∧ Q (.bl (PyData.eqv (toP x) (toP y)))) := by
  unfold oEq at q
  split at q
  · exact .inl ⟨_, _, rfl, rfl, q⟩
  · exact .inr (.inl ⟨_, _, rfl, rfl, q⟩)
  · exact .inr (.inr (.inl ⟨_, _, rfl, rfl, q⟩))
  · exact .inr (.inr (.inr q))
theorem opd_eq : OpD Z (rEqA Z.X.K) oEq := .scal fun G H x y v u Qd Q s rx ry q l => by
  rcases oEq_split q with ⟨a, b, rfl, rfl, q⟩ | ⟨a, b, rfl, rfl, q⟩ | ⟨a, b, rfl, rfl, q⟩ | q
  · cases rx; cases ry
    exact .inl ⟨rfl, by rw [show decide (V.int a = V.int b) = decide (a = b) from by simp]; exact l _ _ q (.bl _)⟩
  · cases rx; cases ry
    exact .inl ⟨rfl, by rw [show decide (V.bl a = V.bl b) = decide (a = b) from by simp]; exact l _ _ q (.bl _)⟩
  · cases rx; cases ry
    exact .inl ⟨rfl, by rw [show decide (V.str a = V.str b) = decide (a = b) from by simp]; exact l _ _ q (.bl _)⟩
  · exact .inr ⟨_, _, rx.dp s (shaped_lay q.1), ry.dp s (shaped_lay q.2.1), q.1, q.2.1, l _ _ q.2.2 (.bl _)⟩
theorem opd_ne : OpD Z (rNeA Z.X.K) oNe := .scal fun G H x y v u Qd Q s rx ry q l => by
  rcases oEq_split q with ⟨a, b, rfl, rfl, q⟩ | ⟨a, b, rfl, rfl, q⟩ | ⟨a, b, rfl, rfl, q⟩ | ⟨h1, h2, q⟩
  · cases rx; cases ry
    exact .inl ⟨rfl, by rw [show decide (V.int a = V.int b) = decide (a = b) from by simp]; exact l _ _ q (.bl _)⟩
  · cases rx; cases ry
    exact .inl ⟨rfl, by rw [show decide (V.bl a = V.bl b) = decide (a = b) from by simp]; exact l _ _ q (.bl _)⟩
  · cases rx; cases ry
    exact .inl ⟨rfl, by rw [show decide (V.str a = V.str b) = decide (a = b) from by simp]; exact l _ _ q (.bl _)⟩
  · exact .inr ⟨_, _, rx.dp s (shaped_lay h1), ry.dp s (shaped_lay h2), h1, h2, l _ _ q (.bl _)⟩
/-- is None -/
def isNon : D → Bool
  | .non => true
  | _ => false
def oIsN : WO := fun x y Q => y = .non ∧ Q (.bl (isNon x))
def oNotN : WO := fun x y Q => y = .non ∧ Q (.bl (!isNon x))
theorem opd_isN : OpD Z (fun x y H Q => y = .non ∧ Q (.bl (decide (x = .non))) H) oIsN := .scal fun G H x y v u Qd Q s rx ry q l => by
  obtain ⟨rfl, q⟩ := q
  cases ry
  refine ⟨rfl, l _ _ q ?_⟩
  cases rx <;> exact .bl _
theorem opd_notN : OpD Z (fun x y H Q => y = .non ∧ Q (.bl (!decide (x = .non))) H) oNotN := .scal fun G H x y v u Qd Q s rx ry q l => by
  obtain ⟨rfl, q⟩ := q
  cases ry
  refine ⟨rfl, l _ _ q ?_⟩
  cases rx <;> exact .bl _

/-! ## subscripts -/
def oIx : WO := fun x y Q => match x, y with
  | .lst l, .int i => ∃ d, atI l i = some d ∧ Q d
  | .tup l, .int i => ∃ d, atI l i = some d ∧ Q d
  | .str z, .int i => z.length ≤ 1000000 ∧ ∃ c, atI z.cps.toList i = some c ∧ Q (.str ⟨#[c]⟩)
  | _, _ => False
theorem RepL.atI {k : Kx} {G : Hp} {l : List D} {vs : List V} {i : Int} {d : D} (r : RepL k G l vs) (h : L2.atI l i = some d) : ∃ v, L2.atI vs i = some v ∧ Rep k G d v := by
  unfold L2.atI at h ⊢
  rw [← r.length]
  cases e : ixN l.length i with
  | none => rw [e] at h; cases h
  | some j =>
    rw [e] at h
    exact r.at h
theorem opd_ix : OpD Z (rIx Z.X.K) oIx := .scal fun G H x y v u Qd Q s rx ry q l => by
  cases rx with
  | lst e r =>
    cases ry with
    | int i =>
      obtain ⟨d, h, q⟩ := q
      obtain ⟨w, h2, r2⟩ := r.atI h
      exact .inl ⟨_, _, i, w, rfl, rfl, seqL s e, h2, l d w q r2⟩
    | _ => exact False.elim q
  | tup e r =>
    cases ry with
    | int i =>
      obtain ⟨d, h, q⟩ := q
      obtain ⟨w, h2, r2⟩ := r.atI h
      exact .inr (.inl ⟨_, _, i, w, rfl, rfl, seqT s e, h2, l d w q r2⟩)
    | _ => exact False.elim q
  | str z =>
    cases ry with
    | int i =>
      obtain ⟨hl, c, h, q⟩ := q
      exact .inr (.inr ⟨z, i, c, rfl, rfl, million hl, h, l _ _ q (.str _)⟩)
    | _ => exact False.elim q
  | _ => exact False.elim q
theorem pf_ix {a b : Expr} {wa wb : W1} {pos : Pos} {ca cb : Nat} (ha : PF Z a wa ca) (hb : PF Z b wb cb) (hs : PlainIx b := by intro _ _; rfl) : PF Z (.Subscript a b pos) (w2 oIx wa wb) (ca + cb) :=
  fun W t => (pe_ix ix_seq (ha W t) (hb W t) hs).weak (tF_tOp opd_ix)

/-! ## calls of values -/
abbrev WC := List D → (D → Prop) → Prop
def CalD (Z : Cz) (r : List V → Hp → VK → Prop) (o : WC) : Prop := ∀ σ ρ G H xs vs Qd Q β, Z.SR β G H σ ρ → RepL Z.k G xs vs → o xs Qd →
  (∀ d v' G' H', Qd d → Z.SR β G' H' σ ρ → Sub G G' → Rep Z.k G' d v' → Q v' H') → r vs H Q
theorem CalD.scal {r : List V → Hp → VK → Prop} {o : WC} (h : ∀ G H xs vs Qd Q, Sub G H → RepL Z.k G xs vs → o xs Qd → (∀ d v', Qd d → Rep Z.k G d v' → Q v' H) → r vs H Q) : CalD Z r o :=
  fun σ ρ G H xs vs Qd Q β s rx q l => h G H xs vs Qd Q s.b.sub rx q fun d v' q' r' => l d v' G H q' s Sub.rfl' r'
def wCal (o : WC) (wl : WL) : W1 := fun ρ Q E => wl ρ (fun ds ρ1 => o ds fun d => Q d ρ1) E
theorem tF_cal {W : WX} {ca : Nat} {r : List V → Hp → VK → Prop} {o : WC} {wl : WL} (h : CalD Z r o) (σ : L2.St) (H : Hp) (Q : VK) (q : tF Z W (wCal o wl) ca σ H Q) : tCB r (tFl Z W wl ca) σ H Q := by
  obtain ⟨G, ρ, Qd, E, β, hb, s, lk, q, l⟩ := q
  refine ⟨G, ρ, _, E, β, hb, s, lk, q, fun ds ρ1 vs G1 H1 q1 s1 g1 r1 => ?_⟩
  exact h σ ρ1 G1 H1 ds vs _ Q _ s1 r1 q1 fun d v' G2 H2 q2 s2 g2 r2 => l d ρ1 v' G2 H2 q2 s2 (g1.trans g2) r2
theorem pf_calB {x : Str} {id : String} {r : List V → Hp → VK → Prop} {o : WC} {e : Expr} {es : List Expr} {wl : WL} {p pos : Pos} (hc : CallR Z.X (.builtin id) r) (h : CalD Z r o) (hg : Gl Z.X x) (hm : Z.X.mg x = none) (hv : bootBuiltins x = some (.builtin id))
    {ca : Nat} (ha : PFl Z (e :: es) wl ca) (hn : x ≠ "__name__" := by decide) (hdb : (x == ("__debug__" : Str)) = false := by decide)
    (he : starEach (e :: es) Z.X.env = (false, eval e Z.X.env) :: starEach es Z.X.env := by rfl) (hpl : (backTo pos (starEach es Z.X.env)).any (·.1) = false := by rfl) : PF Z (.Call (.Name x p) (e :: es) [] pos) (wCal o wl) ca :=
  fun W t => (pe_callB hc hg hm hv (ha W t) hn hdb he hpl).weak (tF_cal h)
theorem pf_calT {x : Str} {T : String} {r : List V → Hp → VK → Prop} {o : WC} {e : Expr} {es : List Expr} {wl : WL} {p pos : Pos} (hc : CallR Z.X (.type T) r) (h : CalD Z r o) (hg : Gl Z.X x) (hm : Z.X.mg x = none) (hv : bootBuiltins x = some (.type T))
    {ca : Nat} (ha : PFl Z (e :: es) wl ca) (hn : x ≠ "__name__" := by decide) (hdb : (x == ("__debug__" : Str)) = false := by decide)
    (he : starEach (e :: es) Z.X.env = (false, eval e Z.X.env) :: starEach es Z.X.env := by rfl) (hpl : (backTo pos (starEach es Z.X.env)).any (·.1) = false := by rfl) : PF Z (.Call (.Name x p) (e :: es) [] pos) (wCal o wl) ca :=
  fun W t => (pe_callTy hc hg hm hv (ha W t) hn hdb he hpl).weak (tF_cal h)
/-- len -/
def oLen : WC := fun xs Q => match xs with
  | [.lst l] => Q (.int l.length)
  | [.tup l] => Q (.int l.length)
  | [.str x] => x.length ≤ 1000000 ∧ Q (.int x.length)
  | _ => False
def rLen (K : PySem.W.Frag) : List V → Hp → VK → Prop := fun xs H Q => (∃ p ys, xs = [.ref p] ∧ (SqL K H p ys ∨ SqT K H p ys) ∧ Q (.int ys.length) H) ∨ ∃ z, xs = [.str z] ∧ z.length ≤ sizeLine ∧ Q (.int z.length) H
theorem call_lenA {X : Cx} : CallR X (.builtin "len") (rLen X.K) := call_len_seq.or call_len_str
theorem RepL.inv1 {k : Kx} {G : Hp} {d : D} {vs : List V} (h : RepL k G [d] vs) : ∃ v, vs = [v] ∧ Rep k G d v := by
  cases h with
  | cons r t => cases t; exact ⟨_, rfl, r⟩
theorem RepL.inv2 {k : Kx} {G : Hp} {d e : D} {vs : List V} (h : RepL k G [d, e] vs) : ∃ v u, vs = [v, u] ∧ Rep k G d v ∧ Rep k G e u := by
  cases h with
  | cons r t =>
    obtain ⟨u, rfl, r2⟩ := t.inv1
    exact ⟨_, _, rfl, r, r2⟩
theorem cal_len : CalD Z (rLen Z.X.K) oLen := .scal fun G H xs vs Qd Q s r q l => by
  match xs, q with
  | [.lst ds], q =>
    obtain ⟨v, rfl, r1⟩ := r.inv1
    cases r1 with
    | lst e t => exact .inl ⟨_, _, rfl, .inl (seqL s e), by rw [← t.length]; exact l _ _ q (.int _)⟩
  | [.tup ds], q =>
    obtain ⟨v, rfl, r1⟩ := r.inv1
    cases r1 with
    | tup e t => exact .inl ⟨_, _, rfl, .inr (seqT s e), by rw [← t.length]; exact l _ _ q (.int _)⟩
  | [.str x], q =>
    obtain ⟨v, rfl, r1⟩ := r.inv1
    cases r1 with
    | str => exact .inr ⟨x, rfl, million q.1, l _ _ q.2 (.int _)⟩
/-- max, min of two ints -/
def oMax : WC := fun xs Q => match xs with
  | [.int i, .int j] => Q (.int (if j > i then j else i))
  | _ => False
def oMin : WC := fun xs Q => match xs with
  | [.int i, .int j] => Q (.int (if j < i then j else i))
  | _ => False
theorem cal_max : CalD Z (fun xs H Q => ∃ i j, xs = [.int i, .int j] ∧ Q (.int (if j > i then j else i)) H) oMax := .scal fun G H xs vs Qd Q s r q l => by
  match xs, q with
  | [.int i, .int j], q =>
    obtain ⟨v, u, rfl, r1, r2⟩ := r.inv2
    cases r1; cases r2
    exact ⟨i, j, rfl, l _ _ q (.int _)⟩
theorem cal_min : CalD Z (fun xs H Q => ∃ i j, xs = [.int i, .int j] ∧ Q (.int (if j < i then j else i)) H) oMin := .scal fun G H xs vs Qd Q s r q l => by
  match xs, q with
  | [.int i, .int j], q =>
    obtain ⟨v, u, rfl, r1, r2⟩ := r.inv2
    cases r1; cases r2
    exact ⟨i, j, rfl, l _ _ q (.int _)⟩
end
end FL
set_option Elab.async false
set_option linter.all false
set_option maxRecDepth 100000
set_option maxHeartbeats 4000000
namespace FL
open PySem PySem.Spec PyProof.Rows L2

/-! ## statements -/
structure DE where
  nx : Env → Prop
  rt : Bool → D → Prop
  bk : Env → Prop := fun _ => False
  ct : Env → Prop := fun _ => False
abbrev WS := DE → WN → Env → Prop
/-- an own object that leaves a def -/
structure OwnR (Z : Cz) (G H : Hp) (d : D) (a : Addr) : Prop where
  h0 : Z.H0 a = none
  g : G a = none
  p : a ≠ Z.k.p
  r : RepO Z.k G H d a
structure EndsD (Z : Cz) (γ : Nat) (G : Hp) (DD : DE) (D : Ends) : Prop where
  nx : ∀ ρ σ G' H, DD.nx ρ → Z.SR γ G' H σ ρ → Sub G G' → D.nx σ H
  bk : ∀ ρ σ G' H, DD.bk ρ → Z.SR γ G' H σ ρ → Sub G G' → D.bk σ H
  ct : ∀ ρ σ G' H, DD.ct ρ → Z.SR γ G' H σ ρ → Sub G G' → D.ct σ H
  rv : ∀ d v G' H, DD.rt false d → SB Z.k Z.G0 Z.H0 Z.B G' H → Rep Z.k G' d v → D.rt v H
  ro : ∀ d a G' H, DD.rt true d → SB Z.k Z.G0 Z.H0 Z.B G' H → OwnR Z G' H d a → D.rt (.ref a) H
theorem EndsD.on {Z : Cz} {γ : Nat} {G G1 : Hp} {DD : DE} {D : Ends} (l : EndsD Z γ G DD D) (g : Sub G G1) : EndsD Z γ G1 DD D :=
  ⟨fun ρ σ G' H q s g' => l.nx ρ σ G' H q s (g.trans g'), fun ρ σ G' H q s g' => l.bk ρ σ G' H q s (g.trans g'), fun ρ σ G' H q s g' => l.ct ρ σ G' H q s (g.trans g'), l.rv, l.ro⟩
theorem EndsD.le {Z : Cz} {γ δ : Nat} {G : Hp} {DD : DE} {D : Ends} (l : EndsD Z γ G DD D) (g : δ ≤ γ) : EndsD Z δ G DD D :=
  ⟨fun ρ σ G' H q s g' => l.nx ρ σ G' H q (s.le g) g', fun ρ σ G' H q s g' => l.bk ρ σ G' H q (s.le g) g', fun ρ σ G' H q s g' => l.ct ρ σ G' H q (s.le g) g', l.rv, l.ro⟩
def tFs (Z : Cz) (W : WX) (w : WS) (c : Nat) : TS := fun D σ H => ∃ (G : Hp) (ρ : Env) (DD : DE) (E : WN) (β : Nat), β + c ≤ Z.B ∧ Z.SR β G H σ ρ ∧ Lnk Z E W ∧ w DD E ρ ∧ EndsD Z (β + c) G DD D
def PSF (Z : Cz) (st : Stmt) (w : WS) (c : Nat) : Prop := ∀ W, Takes Z.X W → PS Z.X st (tFs Z W w c)
def PBF (Z : Cz) (sts : List Stmt) (w : WS) (c : Nat) : Prop := ∀ W, Takes Z.X W → PSs Z.X sts (tFs Z W w c)
theorem _root_.L2.PS.weak {X : Cx} {st : Stmt} {t u : TS} (h : PS X st t) (i : ∀ D σ H, u D σ H → t D σ H) : PS X st u := ⟨fun pins s σ H D I q => h.run pins s σ H D I (i D σ H q)⟩
theorem _root_.L2.PSs.weak {X : Cx} {st : List Stmt} {t u : TS} (h : PSs X st t) (i : ∀ D σ H, u D σ H → t D σ H) : PSs X st u := ⟨fun pins s σ H D I q => h.run pins s σ H D I (i D σ H q)⟩

section
variable {Z : Cz} {st : Stmt} {sts : List Stmt} {e : Expr} {w : W1} {u v : WS} {pos : Pos} {ca cb cc : Nat}
def wNext : WS := fun DD _ ρ => DD.nx ρ
def wSeq (u v : WS) : WS := fun DD E ρ => u { DD with nx := fun ρ1 => v DD E ρ1 } E ρ
theorem fs_nil : PBF Z [] wNext 0 := fun W t => pss_nil.weak fun D σ H ⟨G, ρ, DD, E, β, hb, s, _, q, l⟩ => l.nx ρ σ G H q s Sub.rfl'
theorem fs_cons (h : PSF Z st u ca) (g : PBF Z sts v cb) : PBF Z (st :: sts) (wSeq u v) (ca + cb) := fun W t => (pss_cons (h W t) (g W t)).weak fun D σ H ⟨G, ρ, DD, E, β, hb, s, lk, q, l⟩ =>
  ⟨G, ρ, _, E, β, by omega, s, lk, q, ⟨fun ρ' σ' G' H' q' s' g' => ⟨G', ρ', DD, E, _, by omega, s', lk, q', (l.on g').le (by omega)⟩, fun ρ σ G' H q s => l.bk ρ σ G' H q (s.le (by omega)), fun ρ σ G' H q s => l.ct ρ σ G' H q (s.le (by omega)), l.rv, l.ro⟩⟩
theorem fs_dead : PSF Z st (fun _ _ _ => False) 0 := fun W t => ⟨fun pins s σ H D I ⟨_, _, _, _, _, _, _, _, q, _⟩ => q.elim⟩
theorem fs_one (h : PSF Z st u ca) : PBF Z [st] u ca := fun W t => pss_one (h W t)
theorem fs_pass : PSF Z (.Pass pos) wNext 0 := fun W t => ps_pass.weak fun D σ H ⟨G, ρ, DD, E, β, hb, s, _, q, l⟩ => l.nx ρ σ G H q s Sub.rfl'
theorem fs_break : PSF Z (.Break pos) (fun DD _ ρ => DD.bk ρ) 0 := fun W t => ps_break.weak fun D σ H ⟨G, ρ, DD, E, β, hb, s, _, q, l⟩ => l.bk ρ σ G H q s Sub.rfl'
theorem fs_cont : PSF Z (.Continue pos) (fun DD _ ρ => DD.ct ρ) 0 := fun W t => ps_continue.weak fun D σ H ⟨G, ρ, DD, E, β, hb, s, _, q, l⟩ => l.ct ρ σ G H q s Sub.rfl'
def wSet (i : Nat) (w : W1) : WS := fun DD E ρ => w ρ (fun d ρ1 => DD.nx (ρ1.set i (.va d))) E
def wSetO (i : Nat) (w : W1) : WS := fun DD E ρ => w ρ (fun d ρ1 => DD.nx (ρ1.set i (.ow d))) E
/-- x = e -/
theorem fs_set {i : Nat} {x : Str} {p' : Pos} (he : PF Z e w ca) (hN : Z.X.N.Nodup) (hi : Z.X.N[i]? = some x) (hx : Loc Z.X.env.scope x) (hs : swapsWith e (some (.Name x p')) pos.line Z.X.env = pure false := by rfl)
    (hf : Z.X.fn x = true ∨ Z.X.env.scope.names.lookup x = some .local := by first | exact .inl rfl | exact .inr rfl) : PSF Z (.Assign [.Name x p'] e pos) (wSet i w) ca :=
  fun W t => (ps_set hN hi hx (he W t) hs hf).weak fun D σ H ⟨G, ρ, DD, E, β, hb, s, lk, q, l⟩ => ⟨G, ρ, _, E, β, by omega, s, lk, q, fun d ρ1 v G1 H1 q1 s1 g1 r1 => l.nx _ _ G1 H1 q1 (s1.set r1) g1⟩
theorem fs_setO {i : Nat} {x : Str} {p' : Pos} (he : PO Z e w ca) (hN : Z.X.N.Nodup) (hi : Z.X.N[i]? = some x) (hx : Loc Z.X.env.scope x) (hs : swapsWith e (some (.Name x p')) pos.line Z.X.env = pure false := by rfl)
    (hf : Z.X.fn x = true ∨ Z.X.env.scope.names.lookup x = some .local := by first | exact .inl rfl | exact .inr rfl) : PSF Z (.Assign [.Name x p'] e pos) (wSetO i w) ca :=
  fun W t => (ps_set hN hi hx (he W t) hs hf).weak fun D σ H ⟨G, ρ, DD, E, β, hb, s, lk, q, l⟩ => ⟨G, ρ, _, E, β, by omega, s, lk, q, fun d ρ1 a G1 H1 q1 s1 g1 o => l.nx _ _ G1 H1 q1 (s1.setO o.h0 o.g o.p o.r o.sl) g1⟩
def wDrop (w : W1) : WS := fun DD E ρ => w ρ (fun _ ρ1 => DD.nx ρ1) E
theorem fs_expr (he : PF Z e w ca) (hs : swapsWith e none pos.line Z.X.env = pure false := by rfl) : PSF Z (.Expr e pos) (wDrop w) ca := fun W t => (ps_expr (he W t) hs).weak fun D σ H ⟨G, ρ, DD, E, β, hb, s, lk, q, l⟩ =>
  ⟨G, ρ, _, E, β, by omega, s, lk, q, fun d ρ1 v G1 H1 q1 s1 g1 r1 => l.nx _ _ G1 H1 q1 s1 g1⟩
def wRet (w : W1) : WS := fun DD E ρ => w ρ (fun d _ => DD.rt false d) E
def wRetO (w : W1) : WS := fun DD E ρ => w ρ (fun d _ => DD.rt true d) E
theorem fs_ret (he : PF Z e w ca) : PSF Z (.Return (some e) pos) (wRet w) ca := fun W t => (ps_ret (he W t)).weak fun D σ H ⟨G, ρ, DD, E, β, hb, s, lk, q, l⟩ =>
  ⟨G, ρ, _, E, β, by omega, s, lk, q, fun d ρ1 v G1 H1 q1 s1 g1 r1 => l.rv d v G1 H1 q1 (s1.b.le hb) r1⟩
theorem fs_retO (he : PO Z e w ca) : PSF Z (.Return (some e) pos) (wRetO w) ca := fun W t => (ps_ret (he W t)).weak fun D σ H ⟨G, ρ, DD, E, β, hb, s, lk, q, l⟩ =>
  ⟨G, ρ, _, E, β, by omega, s, lk, q, fun d ρ1 a G1 H1 q1 s1 g1 o => l.ro d a G1 H1 q1 (s1.b.le hb) ⟨o.h0, o.g, o.p, o.r⟩⟩
theorem fs_retN : PSF Z (.Return none pos) (fun DD _ _ => DD.rt false .non) 0 := fun W t => ps_retN.weak fun D σ H ⟨G, ρ, DD, E, β, hb, s, lk, q, l⟩ => l.rv .non .non G H q (s.b.le hb) .non
/-- return x, x an own object -/
def wRetV (i : Nat) : WS := fun DD _ ρ => match ρ[i]? with
  | some (.ow d) => DD.rt true d
  | some (.va d) => DD.rt false d
  | _ => False
theorem fs_retV {i : Nat} {x : Str} {p : Pos} (h : PE Z.X (.Name x p) (tVar i)) : PSF Z (.Return (some (.Name x p)) pos) (wRetV i) 0 := fun W t => (ps_ret h).weak fun D σ H ⟨G, ρ, DD, E, β, hb, s, lk, q, l⟩ => by
  unfold wRetV at q
  split at q
  · rename_i d e
    obtain ⟨a, h1, h2, h3, h4, h5⟩ := s.ow i d e
    exact ⟨.ref a, h1, l.ro d a G H q (s.b.le hb) ⟨h2, h3, h4, h5⟩⟩
  · rename_i d e
    obtain ⟨v, h1, h2⟩ := s.sl i d e
    exact ⟨v, h1, l.rv d v G H q (s.b.le hb) h2⟩
  · exact q.elim
def wIte (c : WT) (u v : WS) : WS := fun DD E ρ => c ρ (fun b ρ1 => if b = true then u DD E ρ1 else v DD E ρ1) E
theorem fs_if {c : Expr} {a b : List Stmt} {wc : WT} (hc : PFt Z c wc cc) (ha : PBF Z a u ca) (hb : PBF Z b v cb) : PSF Z (.If c a b pos) (wIte wc u v) (cc + ca + cb) := fun W t => (ps_if (hc W t) (ha W t) (hb W t)).weak fun D σ H ⟨G, ρ, DD, E, β, hb, s, lk, q, l⟩ => by
  refine ⟨G, ρ, _, E, β, by omega, s, lk, q, fun b ρ1 G1 H1 q1 s1 g1 => ?_⟩
  cases b with
  | true => exact ⟨G1, ρ1, DD, E, _, by omega, s1, lk, q1, (l.on g1).le (by omega)⟩
  | false => exact ⟨G1, ρ1, DD, E, _, by omega, s1, lk, q1, (l.on g1).le (by omega)⟩
/-- a, b = e1, e2 -/
def wPar (i j : Nat) (wl : WL) : WS := fun DD E ρ => wl ρ (fun ds ρ1 => match ds with
  | [d, e] => DD.nx ((ρ1.set i (.va d)).set j (.va e))
  | _ => False) E

/-! ## targets -/
inductive Tg where
  | one (i : Nat) | many (l : List Nat) | manyL (l : List Nat)
def setsE : Env → List Nat → List D → Env
  | ρ, i :: is, d :: l => setsE (ρ.set i (.va d)) is l
  | ρ, _, _ => ρ
def setsV : L2.St → List Nat → List V → L2.St
  | σ, i :: is, v :: l => setsV (σ.set i (some v)) is l
  | σ, _, _ => σ
def Tg.ix : Tg → List Nat
  | .one i => [i]
  | .many l => l
  | .manyL l => l
def bindT (t : Tg) (d : D) (ρ : Env) (Q : Env → Prop) : Prop := match t with
  | .one i => Q (ρ.set i (.va d))
  | .many is => match d with
    | .tup l => l.length = is.length ∧ Q (setsE ρ is l)
    | _ => False
  | .manyL is => match d with
    | .lst l => l.length = is.length ∧ Q (setsE ρ is l)
    | _ => False
def gsF : List Nat → TGs
  | [] => gNil
  | i :: l => gCons (gName i) (gsF l)
def gF (K : PySem.W.Frag) : Tg → TG
  | .one i => gName i
  | .many l => gTup K l.length (gsF l)
  | .manyL l => gLst K l.length (gsF l)
theorem gsF_run : ∀ {is : List Nat} {vs : List V} {σ : L2.St} {H : Hp} {Q : L2.St → Hp → Prop}, vs.length = is.length → Q (setsV σ is vs) H → gsF is vs σ H Q
  | [], [], _, _, _, _, q => ⟨rfl, q⟩
  | [], _ :: _, _, _, _, h, _ => by simp at h
  | i :: is, [], _, _, _, h, _ => by simp at h
  | i :: is, v :: vs, _, _, _, h, q => ⟨v, vs, rfl, gsF_run (is := is) (by simpa using h) q⟩
theorem SR.sets {k : Kx} {G0 H0 G H : Hp} : ∀ {is : List Nat} {l : List D} {vs : List V} {σ : L2.St} {ρ : Env}, SR k G0 H0 β G H σ ρ → RepL k G l vs → SR k G0 H0 β G H (setsV σ is vs) (setsE ρ is l)
  | [], _, _, _, _, s, r => by cases r <;> exact s
  | i :: is, _, _, _, _, s, .nil => s
  | i :: is, _, _, _, _, s, .cons r t => SR.sets (is := is) (s.set r) t
theorem setsV_out : ∀ {is : List Nat} {vs : List V} {σ : L2.St} {j : Nat}, j ∉ is → (setsV σ is vs)[j]? = σ[j]?
  | [], _, _, _, _ => by unfold setsV; rfl
  | i :: is, [], _, _, _ => by unfold setsV; rfl
  | i :: is, v :: vs, σ, j, h => by
    have h1 : j ≠ i := fun e => h (by simp [e])
    have h2 : j ∉ is := fun e => h (List.mem_cons_of_mem _ e)
    show (setsV (σ.set i (some v)) is vs)[j]? = _
    rw [setsV_out h2, List.getElem?_set_ne (Ne.symm h1)]
theorem setsV_len : ∀ {is : List Nat} {vs : List V} {σ : L2.St}, (setsV σ is vs).length = σ.length
  | [], _, _ => by unfold setsV; rfl
  | i :: is, [], _ => by unfold setsV; rfl
  | i :: is, v :: vs, σ => by
    show (setsV (σ.set i (some v)) is vs).length = _
    rw [setsV_len, List.length_set]
theorem setsE_ow : ∀ {is : List Nat} {l : List D} {vs : List V} {σ : L2.St} {ρ : Env} {j : Nat} {e : D}, l.length = vs.length → (setsE ρ is l)[j]? = some (.ow e) → ρ[j]? = some (.ow e) ∧ (setsV σ is vs)[j]? = σ[j]?
  | [], _, _, _, _, _, _, _, h => by unfold setsE at h; unfold setsV; exact ⟨h, rfl⟩
  | i :: is, [], [], _, _, _, _, _, h => by unfold setsE at h; unfold setsV; exact ⟨h, rfl⟩
  | i :: is, [], _ :: _, _, _, _, _, hl, _ => by simp at hl
  | i :: is, _ :: _, [], _, _, _, _, hl, _ => by simp at hl
  | i :: is, d :: l, v :: vs, σ, ρ, j, e, hl, h => by
    obtain ⟨h1, h2⟩ := setsE_ow (is := is) (l := l) (vs := vs) (σ := σ.set i (some v)) (ρ := ρ.set i (.va d)) (by simpa using hl) h
    rcases get_set h1 with ⟨_, q⟩ | ⟨ne, q⟩
    · cases q
    · exact ⟨q, h2.trans (List.getElem?_set_ne (Ne.symm ne))⟩
theorem gF_run {t : Tg} {d : D} {v : V} {σ : L2.St} {ρ : Env} {G H : Hp} {Q : Env → Prop} {N : L2.St → Hp → Prop} {β : Nat} (s : Z.SR β G H σ ρ) (r : Rep Z.k G d v) (h : bindT t d ρ Q)
    (n : ∀ ρ' σ', Q ρ' → Z.SR β G H σ' ρ' → (∀ j, j ∉ t.ix → σ'[j]? = σ[j]?) → σ'.length = σ.length → (∀ (j : Nat) e, ρ'[j]? = some (.ow e) → ρ[j]? = some (.ow e) ∧ σ'[j]? = σ[j]?) → N σ' H) : gF Z.X.K t v σ H N := by
  cases t with
  | one i =>
    refine n _ _ h (s.set r) (fun j hj => List.getElem?_set_ne (fun e => hj (by simp [Tg.ix, e]))) (List.length_set ..) fun j e q => ?_
    rcases get_set q with ⟨_, z⟩ | ⟨ne, z⟩
    · cases z
    · exact ⟨z, List.getElem?_set_ne (Ne.symm ne)⟩
  | many is =>
    cases d with
    | tup l =>
      obtain ⟨hl, q⟩ := h
      cases r with
      | tup e r => exact ⟨_, _, rfl, seqT s.b.sub e, by rw [← r.length]; exact hl, gsF_run (by rw [← r.length]; exact hl) (n _ _ q (s.sets r) (fun j hj => setsV_out hj) setsV_len fun j e q => setsE_ow r.length q)⟩
    | _ => exact False.elim h
  | manyL is =>
    cases d with
    | lst l =>
      obtain ⟨hl, q⟩ := h
      cases r with
      | lst e r => exact ⟨_, _, rfl, seqL s.b.sub e, by rw [← r.length]; exact hl, gsF_run (by rw [← r.length]; exact hl) (n _ _ q (s.sets r) (fun j hj => setsV_out hj) setsV_len fun j e q => setsE_ow r.length q)⟩
    | _ => exact False.elim h

/-! ## what is walked -/
structure WalkD (Z : Cz) (J : It) (G : Hp) (ds : List D) : Prop where
  len : ds.length ≤ sizeLine
  go : ∀ i H, Sub G H → i < ds.length → J.go i H
  st : ∀ H, Sub G H → J.stop ds.length H
  yl : ∀ i H x H', i < ds.length → Sub G H → J.yld i H x H' → ∃ d, ds[i]? = some d ∧ ((H' = H ∧ Rep Z.k G d x) ∨ ∃ T vs l, x = .ref T ∧ H T = none ∧ H' = upd H T (.tup vs) ∧ d = .tup l ∧ RepL Z.k G l vs)
def tFi (Z : Cz) (W : WX) (w : WL) (c : Nat) : TI := fun σ H R => ∃ (G : Hp) (ρ : Env) (QI : List D → Env → Prop) (E : WN) (β : Nat), β + c ≤ Z.B ∧ Z.SR β G H σ ρ ∧ Lnk Z E W ∧ w ρ QI E ∧
  ∀ ds ρ' G' H' J, QI ds ρ' → Z.SR (β + c) G' H' σ ρ' → Sub G G' → WalkD Z J G' ds → R J H'
def PIF (Z : Cz) (tg iter : Expr) (w : WL) (c : Nat) : Prop := ∀ W, Takes Z.X W → PI Z.X tg iter (tFi Z W w c)
theorem _root_.L2.PI.weak {X : Cx} {tg iter : Expr} {t u : TI} (h : PI X tg iter t) (i : ∀ σ H R, u σ H R → t σ H R) : PI X tg iter u := ⟨fun pins s σ H R I q => h.run pins s σ H R I (i σ H R q)⟩
theorem Sub.seqL {G H : Hp} {K : PySem.W.Frag} {a : Addr} {vs : List V} (h : G a = some (.lst vs)) (s : Sub G H) : SqL K H a vs := SqL.of (s _ _ h)
theorem seqL_inj {K : PySem.W.Frag} {H : Hp} {a : Addr} {vs ws : List V} (h : H a = some (.lst vs)) (g : H a = some (.lst ws)) : vs = ws := by
  rw [h] at g; cases g; rfl
theorem walk_list {a : Addr} {vs : List V} {G : Hp} {ds : List D} (h : G a = some (.lst vs)) (r : RepL Z.k G ds vs) (hl : ds.length ≤ sizeLine) : WalkD Z (Itl Z.X.K a) G ds where
  len := hl
  go := fun i H s hi => by
    have hi' : i < vs.length := by rw [← r.length]; exact hi
    exact ⟨vs, vs[i], Sub.seqL h s, List.getElem?_eq_getElem hi'⟩
  st := fun H s => ⟨vs, Sub.seqL h s, by rw [r.length]; exact Nat.le_refl _⟩
  yl := fun i H x H' hi s y => by
    obtain ⟨e, y⟩ := y
    obtain ⟨d, h1, h2⟩ := r.get (y vs (Sub.seqL h s))
    exact ⟨d, h1, .inl ⟨e, h2⟩⟩
theorem walk_tup {a : Addr} {vs : List V} {G : Hp} {ds : List D} (h : G a = some (.tup vs)) (r : RepL Z.k G ds vs) (hl : ds.length ≤ sizeLine) : WalkD Z (Itt Z.X.K a) G ds where
  len := hl
  go := fun i H s hi => by
    have hi' : i < vs.length := by rw [← r.length]; exact hi
    exact ⟨vs, vs[i], seqT s h, List.getElem?_eq_getElem hi'⟩
  st := fun H s => ⟨vs, seqT s h, by rw [r.length]; exact Nat.le_refl _⟩
  yl := fun i H x H' hi s y => by
    obtain ⟨e, y⟩ := y
    obtain ⟨d, h1, h2⟩ := r.get (y vs (seqT s h))
    exact ⟨d, h1, .inl ⟨e, h2⟩⟩
def wItL (w : W1) : WL := fun ρ Q E => w ρ (fun d ρ1 => match d with
  | .lst l => l.length ≤ 1000000 ∧ Q l ρ1
  | _ => False) E
def wItT (w : W1) : WL := fun ρ Q E => w ρ (fun d ρ1 => match d with
  | .tup l => l.length ≤ 1000000 ∧ Q l ρ1
  | _ => False) E
theorem fi_list {tg : Expr} (h : PF Z e w ca) : PIF Z tg e (wItL w) ca := fun W t => (pi_list (h W t)).weak fun σ H R ⟨G, ρ, QI, E, β, hb, s, lk, q, l⟩ =>
  ⟨G, ρ, _, E, β, by omega, s, lk, q, fun d ρ1 v G1 H1 q1 s1 g1 r1 => by
    cases r1 with
    | lst e r => exact ⟨_, rfl, ⟨_, seqL s1.b.sub e⟩, l _ ρ1 G1 H1 _ q1.2 s1 g1 (walk_list e r (million q1.1))⟩
    | _ => exact False.elim q1⟩
theorem fi_tup {tg : Expr} (h : PF Z e w ca) : PIF Z tg e (wItT w) ca := fun W t => (pi_tup (h W t)).weak fun σ H R ⟨G, ρ, QI, E, β, hb, s, lk, q, l⟩ =>
  ⟨G, ρ, _, E, β, by omega, s, lk, q, fun d ρ1 v G1 H1 q1 s1 g1 r1 => by
    cases r1 with
    | tup e r => exact ⟨_, rfl, ⟨_, seqT s1.b.sub e⟩, l _ ρ1 G1 H1 _ q1.2 s1 g1 (walk_tup e r (million q1.1))⟩
    | _ => exact False.elim q1⟩
/-- lo, lo + 1, .. below hi -/
def rngD (lo : Int) (n : Nat) : List D := (List.range n).map fun i : Nat => .int (lo + (i : Int))
theorem rngD_get {lo : Int} {n i : Nat} (h : i < n) : (rngD lo n)[i]? = some (.int (lo + i)) := by
  unfold rngD
  rw [List.getElem?_map, List.getElem?_range h]
  rfl
theorem rngD_len {lo : Int} {n : Nat} : (rngD lo n).length = n := by unfold rngD; simp
theorem walk_rng {lo : Int} {n : Nat} {G : Hp} (hl : n ≤ 1000000) : WalkD Z (Itr lo n) G (rngD lo n) where
  len := by rw [rngD_len]; exact million hl
  go := fun i H s hi => by rw [rngD_len] at hi; exact hi
  st := fun H s => by rw [rngD_len]; exact Nat.le_refl _
  yl := fun i H x H' hi s y => by
    rw [rngD_len] at hi
    obtain ⟨e, rfl⟩ := y
    exact ⟨_, rngD_get hi, .inl ⟨e, .int _⟩⟩
def wRng1 (wl : WL) : WL := fun ρ Q E => wl ρ (fun ds ρ1 => match ds with
  | [.int j] => j ≤ 1000000 ∧ -1000000 ≤ j ∧ Q (rngD 0 j.toNat) ρ1
  | _ => False) E
def wRng2 (wl : WL) : WL := fun ρ Q E => wl ρ (fun ds ρ1 => match ds with
  | [.int i, .int j] => (-(2 ^ 62) ≤ i ∧ i < 2 ^ 62 ∧ -(2 ^ 62) ≤ j ∧ j < 2 ^ 62) ∧ (j - i).toNat ≤ 1000000 ∧ Q (rngD i (j - i).toNat) ρ1
  | _ => False) E
theorem fi_range1 {tg a : Expr} {p : Pos} {wl : WL} (hg : Gl Z.X "range") (hm : Z.X.mg "range" = none) (h : PFl Z [a] wl ca) (hs : starEach [a] Z.X.env = [(false, eval a Z.X.env)] := by rfl) : PIF Z tg (.Call (.Name "range" p) [a] [] pos) (wRng1 wl) ca :=
  fun W t => (pi_range1 hg hm (h W t) hs).weak fun σ H R ⟨G, ρ, QI, E, β, hb, s, lk, q, l⟩ => ⟨G, ρ, _, E, β, by omega, s, lk, q, fun ds ρ1 vs G1 H1 q1 s1 g1 r1 => by
    match ds, q1, r1 with
    | [.int j], q1, r1 =>
      obtain ⟨v, rfl, r⟩ := r1.inv1
      cases r
      exact ⟨j, rfl, by omega, by omega, l _ ρ1 G1 H1 _ q1.2.2 s1 g1 (walk_rng (by omega))⟩⟩
theorem fi_range2 {tg a b : Expr} {p : Pos} {wl : WL} (hg : Gl Z.X "range") (hm : Z.X.mg "range" = none) (h : PFl Z [a, b] wl ca) (hs : starEach [a, b] Z.X.env = [(false, eval a Z.X.env), (false, eval b Z.X.env)] := by rfl)
    (hs2 : starEach [b] Z.X.env = [(false, eval b Z.X.env)] := by rfl) : PIF Z tg (.Call (.Name "range" p) [a, b] [] pos) (wRng2 wl) ca :=
  fun W t => (pi_range2 hg hm (h W t) hs hs2).weak fun σ H R ⟨G, ρ, QI, E, β, hb, s, lk, q, l⟩ => ⟨G, ρ, _, E, β, by omega, s, lk, q, fun ds ρ1 vs G1 H1 q1 s1 g1 r1 => by
    match ds, q1, r1 with
    | [.int i, .int j], q1, r1 =>
      obtain ⟨v, u, rfl, ra, rb⟩ := r1.inv2
      cases ra; cases rb
      exact ⟨i, j, rfl, q1.1, l _ ρ1 G1 H1 _ q1.2.2 s1 g1 (walk_rng q1.2.1)⟩⟩
/-- the signs of a text -/
def sgD (x : Str) : List D := x.cps.toList.map fun c => .str ⟨#[c]⟩
theorem walk_str {x : Str} {G : Hp} (hl : x.length ≤ 1000000) : WalkD Z (Its x) G (sgD x) where
  len := by unfold sgD; rw [List.length_map]; exact million hl
  go := fun i H s hi => by
    unfold sgD at hi; rw [List.length_map] at hi
    show i < x.cps.size
    simpa using hi
  st := fun H s => by
    show x.cps.size ≤ (sgD x).length
    unfold sgD; simp
  yl := fun i H v H' hi s y => by
    obtain ⟨e, c, h1, rfl⟩ := y
    refine ⟨.str ⟨#[c]⟩, ?_, .inl ⟨e, .str _⟩⟩
    unfold sgD
    rw [List.getElem?_map, show x.cps.toList[i]? = some c by simpa using h1]
    rfl
def wItS (w : W1) : WL := fun ρ Q E => w ρ (fun d ρ1 => match d with
  | .str x => x.length ≤ 1000000 ∧ Q (sgD x) ρ1
  | _ => False) E
theorem fi_str {tg : Expr} (h : PF Z e w ca) : PIF Z tg e (wItS w) ca := fun W t => (pi_str (h W t)).weak fun σ H R ⟨G, ρ, QI, E, β, hb, s, lk, q, l⟩ =>
  ⟨G, ρ, _, E, β, by omega, s, lk, q, fun d ρ1 v G1 H1 q1 s1 g1 r1 => by
    cases r1 with
    | str x => exact ⟨x, rfl, l _ ρ1 G1 H1 _ q1.2 s1 g1 (walk_str q1.1)⟩
    | _ => exact False.elim q1⟩

/-! ## for -/
def wFor (wi : WL) (t : Tg) (u : WS) : WS := fun DD E ρ => wi ρ (fun ds ρ1 => ∃ I : Nat → Env → Prop, I 0 ρ1 ∧
  (∀ i d ρ, ds[i]? = some d → I i ρ → bindT t d ρ fun ρ2 => u { DD with nx := I (i + 1), ct := I (i + 1), bk := DD.nx } E ρ2) ∧ ∀ ρ, I ds.length ρ → DD.nx ρ) E
theorem mul_step {n i c : Nat} (h : i < n) (hn : n ≤ sizeLine) : i * c + c = (i + 1) * c ∧ (i + 1) * c ≤ 16777216 * c := by
  have e : sizeLine = 16777216 := sizeLine_eq
  exact ⟨(Nat.succ_mul i c).symm, Nat.mul_le_mul_right c (by omega)⟩
theorem mul_full {n c : Nat} (hn : n ≤ sizeLine) : n * c ≤ 16777216 * c := by
  have e : sizeLine = 16777216 := sizeLine_eq
  exact Nat.mul_le_mul_right c (by omega)
theorem fs_for {tg iter : Expr} {body : List Stmt} {wi : WL} {t : Tg} (hp : PassesOwn (model Z.X.prog Z.X.w) Z.X.A Z.X.env Z.X.xe) (hc : Z.X.calm = true) (hi : PIF Z tg iter wi ca) (hg : PG Z.X tg (gF Z.X.K t)) (hb : PBF Z body u cb)
    (hs : ∀ x, foldedSetIterable iter Z.X.env x = pure x := by intro _; rfl) : PSF Z (.For tg iter body [] pos) (wFor wi t u) (ca + 16777216 * cb) := fun W tk => (ps_for hp hc (hi W tk) hg (hb W tk) hs).weak fun D σ H ⟨G, ρ, DD, E, β, hβ, s, lk, q, l⟩ => by
  refine ⟨G, ρ, _, E, β, by omega, s, lk, q, fun ds ρ1 G1 H1 J q1 s1 g1 wk => ?_⟩
  obtain ⟨I, i0, turn, fin⟩ := q1
  refine ⟨fun i m σ H => m = ds.length - i ∧ i ≤ ds.length ∧ ∃ G ρ, Z.SR (β + ca + i * cb) G H σ ρ ∧ Sub G1 G ∧ I i ρ, ⟨ds.length, by simp, Nat.zero_le _, G1, ρ1, s1.le (by omega), Sub.rfl', i0⟩, ?_⟩
  rintro i m σ H ⟨rfl, hi, G2, ρ2, s2, g2, iv⟩
  have sH : Sub G1 H := g2.trans s2.b.sub
  by_cases hlt : i < ds.length
  · obtain ⟨m1, m2⟩ := mul_step (c := cb) hlt wk.len
    refine .inr ⟨wk.go i H sH hlt, fun σ' H' => ∃ G ρ, Z.SR (β + ca + (i + 1) * cb) G H' σ' ρ ∧ Sub G1 G ∧ I (i + 1) ρ, fun σ' H' p' => ⟨ds.length - (i + 1), by omega, rfl, hlt, p'⟩, fun x H' y => ?_⟩
    obtain ⟨d, hd, hx⟩ := wk.yl i H x H' hlt sH y
    have hB := turn i d ρ2 hd iv
    have go : ∀ {G3 H3 : Hp}, Z.SR (β + ca + i * cb) G3 H3 σ ρ2 → Sub G1 G3 → Rep Z.k G3 d x → gF Z.X.K t x σ H3 fun σ4 H4 => tFs Z W u cb { D with nx := fun σ' H' => ∃ G ρ, Z.SR (β + ca + (i + 1) * cb) G H' σ' ρ ∧ Sub G1 G ∧ I (i + 1) ρ, ct := fun σ' H' => ∃ G ρ, Z.SR (β + ca + (i + 1) * cb) G H' σ' ρ ∧ Sub G1 G ∧ I (i + 1) ρ, bk := D.nx } σ4 H4 := fun {G3 H3} s3 g3 r3 => by
      refine gF_run s3 r3 hB fun ρ4 σ4 q4 s4 _ _ _ => ⟨G3, ρ4, _, E, _, by omega, s4, lk, q4, ⟨fun ρ' σ' G' H' q' s' g' => ⟨G', ρ', s'.le (by omega), g3.trans g', q'⟩, fun ρ' σ' G' H' q' s' g' => ?_, fun ρ' σ' G' H' q' s' g' => ⟨G', ρ', s'.le (by omega), g3.trans g', q'⟩, l.rv, l.ro⟩⟩
      exact l.nx ρ' σ' G' H' q' (s'.le (by omega)) ((g1.trans g3).trans g')
    rcases hx with ⟨rfl, r⟩ | ⟨T, vs, dl, rfl, hT, rfl, rfl, r⟩
    · exact go s2 g2 (r.mono g2)
    · have n := s2.b.sub.nn hT
      exact go (s2.new hT) (g2.trans (Sub.up n)) (.tup upd_same (r.mono (g2.trans (Sub.up n))))
  · have e : i = ds.length := by omega
    subst e
    have m2 := mul_full (c := cb) wk.len
    exact .inl ⟨wk.st H sH, l.nx ρ2 σ G2 H (fin ρ2 iv) (s2.le (by omega)) (g1.trans g2)⟩
end
end FL
set_option Elab.async false
set_option linter.all false
set_option maxRecDepth 100000
set_option maxHeartbeats 4000000
namespace FL
open PySem PySem.Spec PyProof.Rows L2

/-! ## list comprehensions -/
def wipeE (ρ : Env) : List Nat → Env
  | [] => ρ
  | v :: vs => (wipeE ρ vs).set v .no
section
variable {k : Kx} {G0 H0 G H : Hp} {σ : L2.St} {ρ : Env}
theorem SR.wipe : ∀ {vs : List Nat}, SR k G0 H0 β G H σ ρ → SR k G0 H0 β G H (L2.wipe σ vs) (wipeE ρ vs)
  | [], s => s
  | v :: vs, s => SR.drop (SR.wipe (vs := vs) s)
/-- the slots of which the trees know nothing may be others -/
theorem SR.other {σ' : L2.St} (s : SR k G0 H0 β G H σ ρ) (hl : σ'.length = σ.length) (h : ∀ (i : Nat) v, σ[i]? = some (some v) → σ'[i]? = some (some v)) : SR k G0 H0 β G H σ' ρ where
  b := s.b
  len := s.len.trans hl.symm
  sl := fun i d e => let ⟨v, h1, h2⟩ := s.sl i d e; ⟨v, h i v h1, h2⟩
  ow := fun i d e => let ⟨a, h1, h2⟩ := s.ow i d e; ⟨a, h i _ h1, h2⟩
  ap := fun i j d e a ne h1 h2 h3 h4 => by
    obtain ⟨c, g1, _⟩ := s.ow i d h1
    obtain ⟨c', g2, _⟩ := s.ow j e h2
    have e1 := h i _ g1
    have e2 := h j _ g2
    rw [h3] at e1; cases e1
    rw [h4] at e2; cases e2
    exact s.ap i j d e a ne h1 h2 g1 g2
theorem SR.unwipe {vs : List Nat} (s : SR k G0 H0 β G H (L2.wipe σ vs) ρ) : SR k G0 H0 β G H σ ρ := s.other (L2.wipe_length σ vs).symm fun i v e => (L2.wipe_some e).1
/-- a new thing that is none's slot stands as if it had stood at the entry -/
theorem SR.hold {a : Addr} {o : HO} (s : SR k G0 H0 β G H σ ρ) (h0 : H0 a = none) (ho : H a = some o) (g : G a = none) (no : ∀ (j : Nat) e, ρ[j]? = some (.ow e) → σ[j]? ≠ some (some (.ref a))) : SR k G0 (upd H0 a o) β G H σ ρ where
  b := {
    sub := s.b.sub
    g0 := s.b.g0
    fr := fun c u e => by
      rcases s.b.fr c u e with h | h
      · exact .inl h
      · refine .inr ?_
        rw [upd_ne]
        · exact h
        · intro z; rw [z, g] at e; cases e
    kp := fun b u e n => by
      by_cases q : b = a
      · subst q; rw [upd_same] at e; rw [ho]; exact e
      · rw [upd_ne q] at e; exact s.b.kp b u e n
    pen := s.b.pen
    pn := by
      by_cases q : k.p = a
      · rw [← q, upd_same]; intro z; cases z
      · rw [upd_ne q]; exact s.b.pn }
  len := s.len
  sl := s.sl
  ow := fun i d e => by
    obtain ⟨c, h1, h2, h3⟩ := s.ow i d e
    refine ⟨c, h1, ?_, h3⟩
    rw [upd_ne]
    · exact h2
    · intro z; exact no i d e (z ▸ h1)
  ap := s.ap
theorem SR.unhold {a : Addr} {o : HO} (s : SR k G0 (upd H0 a o) β G H σ ρ) (h0 : H0 a = none) (ga : G0 a = none) (hp : a ≠ k.p) (pn : H0 k.p ≠ none) : SR k G0 H0 β G H σ ρ ∧ H a = some o ∧ G a = none ∧ ∀ (j : Nat) e, ρ[j]? = some (.ow e) → σ[j]? ≠ some (some (.ref a)) := by
  have ho : H a = some o := s.b.kp a o upd_same hp
  refine ⟨⟨⟨s.b.sub, s.b.g0, fun c u e => ?_, fun b u e n => ?_, s.b.pen, pn⟩, s.len, s.sl, fun i d e => ?_, s.ap⟩, ho, ?_, fun j e h q => ?_⟩
  · rcases s.b.fr c u e with h | h
    · exact .inl h
    · refine .inr ?_
      by_cases q : c = a
      · subst q; exact h0
      · rw [upd_ne q] at h; exact h
  · have : b ≠ a := fun z => by rw [z, h0] at e; cases e
    exact s.b.kp b u (by rw [upd_ne this]; exact e) n
  · obtain ⟨c, h1, h2, h3⟩ := s.ow i d e
    refine ⟨c, h1, ?_, h3⟩
    by_cases q : c = a
    · subst q; exact h0
    · rw [upd_ne q] at h2; exact h2
  · cases q : G a with
    | none => rfl
    | some u =>
      rcases s.b.fr a u q with h | h
      · rw [ga] at h; cases h
      · rw [upd_same] at h; cases h
  · obtain ⟨c, h1, h2, _⟩ := s.ow j e h
    rw [q] at h1
    cases h1
    rw [upd_same] at h2; cases h2
end
theorem wipeE_ow {ρ : Env} {j : Nat} {e : D} : ∀ {vs : List Nat}, (wipeE ρ vs)[j]? = some (.ow e) → ρ[j]? = some (.ow e)
  | [], h => h
  | v :: vs, h => by
    rcases get_set h with ⟨_, q⟩ | ⟨_, q⟩
    · cases q
    · exact wipeE_ow q
/-- a thing that is none's slot and not frozen is written -/
theorem SR.poke {k : Kx} {G0 H0 G H : Hp} {σ : L2.St} {ρ : Env} {a : Addr} {o : HO} (s : SR k G0 H0 β G H σ ρ) (h0 : H0 a = none) (g : G a = none) (hp : a ≠ k.p) (no : ∀ (j : Nat) e, ρ[j]? = some (.ow e) → σ[j]? ≠ some (some (.ref a))) : SR k G0 H0 β G (upd H a o) σ ρ where
  b := {
    sub := fun c u e => by
      rw [upd_ne]
      · exact s.b.sub c u e
      · intro z; rw [z, g] at e; cases e
    g0 := s.b.g0
    fr := s.b.fr
    kp := fun b u e n => by
      rw [upd_ne]
      · exact s.b.kp b u e n
      · intro z; rw [z, h0] at e; cases e
    pen := s.b.pen.puH hp
    pn := s.b.pn }
  len := s.len
  sl := s.sl
  ow := fun i d e => by
    obtain ⟨c, h1, h2, h3, h4, h5⟩ := s.ow i d e
    exact ⟨c, h1, h2, h3, h4, h5.keep Sub.rfl' (upd_ne fun z => no i d e (z ▸ h1))⟩
  ap := s.ap
abbrev noE : WN := fun _ _ _ => False
def wLc (wi : WL) (t : Tg) (tt : WT) (we : W1) (vs : List Nat) : W1 := fun ρ Q E => wi ρ (fun ds ρ1 => ∃ I : Nat → List D → Env → Prop, I 0 [] (wipeE ρ1 vs) ∧
  (∀ i d acc ρ, ds[i]? = some d → I i acc ρ → bindT t d ρ fun ρ2 => tt ρ2 (fun b ρ3 => if b = true then we ρ3 (fun x ρ4 => I (i + 1) (acc ++ [x]) (wipeE ρ4 vs)) noE else I (i + 1) acc (wipeE ρ3 vs)) noE) ∧
  ∀ acc ρ, I ds.length acc ρ → Q (.lst acc) ρ) E
def wYes : WT := fun ρ Q _ => Q true ρ
/-- tests of a comprehension -/
def PFts (Z : Cz) (ifs : List Expr) (w : WT) (c : Nat) : Prop := ∀ W, Takes Z.X W → PTs Z.X ifs (tFt Z W w c)
theorem fts_nil {Z : Cz} : PFts Z [] wYes 0 := fun W t => ⟨fun pins s σ H Q I h => pts_nil.run pins s σ H Q I (by
  obtain ⟨G, ρ, Qd, E, β, hb, sr, lk, q, l⟩ := h
  exact l true ρ G H q sr Sub.rfl')⟩
theorem fts_one {Z : Cz} {c : Expr} {w : WT} {ca : Nat} (h : PFt Z c w ca) : PFts Z [c] w ca := fun W t => pts_one (h W t)
/-- the block's context -/
abbrev Cz.blk (Z : Cz) (H0 : Hp) (s : Shared) (H : Hp) (scope : Scope) (cl : List (Str × Addr)) (C : Addr) (fp : List Addr) : Cz := ⟨Z.k, Z.G0, H0, Z.X.blk s H scope (compEnvC scope cl C Z.X.env) fp, Z.B, Z.hB⟩
section
variable {Z : Cz} {elt tg iter : Expr} {ifs : List Expr} {scope : Scope} {own : List (Str × Nat)} {pos spos : Pos} {wi : WL} {t : Tg} {tt : WT} {we : W1} {ci ct ce : Nat}
theorem wipe_get {σ : L2.St} {j : Nat} : ∀ {vs : List Nat}, j ∉ vs → (L2.wipe σ vs)[j]? = σ[j]?
  | [], _ => rfl
  | v :: vs, h => by
    have h1 : j ≠ v := fun e => h (by simp [e])
    have h2 : j ∉ vs := fun e => h (List.mem_cons_of_mem _ e)
    show ((L2.wipe σ vs).set v none)[j]? = _
    rw [List.getElem?_set_ne (Ne.symm h1), wipe_get h2]
theorem wipe_at {σ : L2.St} {j : Nat} (hj : j < σ.length) : ∀ {vs : List Nat}, j ∈ vs → (L2.wipe σ vs)[j]? = some none
  | [], h => nomatch h
  | v :: vs, h => by
    show ((L2.wipe σ vs).set v none)[j]? = _
    by_cases e : j = v
    · subst e
      rw [List.getElem?_set_self (by rw [L2.wipe_length]; exact hj)]
    · rw [List.getElem?_set_ne (Ne.symm e)]
      rcases List.mem_cons.mp h with z | z
      · exact absurd z e
      · exact wipe_at hj z
theorem wipe_same {σ σ' : L2.St} {vs : List Nat} (hl : σ'.length = σ.length) (h : ∀ j, j ∉ vs → σ'[j]? = σ[j]?) : L2.wipe σ' vs = L2.wipe σ vs := by
  apply List.ext_getElem?
  intro j
  by_cases e : j ∈ vs
  · by_cases hj : j < σ.length
    · rw [wipe_at hj e, wipe_at (by omega) e]
    · rw [List.getElem?_eq_none (by rw [L2.wipe_length]; omega), List.getElem?_eq_none (by rw [L2.wipe_length]; omega)]
  · rw [wipe_get e, wipe_get e, h j e]
theorem wipe_twice {σ : L2.St} {vs : List Nat} : L2.wipe (L2.wipe σ vs) vs = L2.wipe σ vs := wipe_same (L2.wipe_length σ vs) fun j h => wipe_get h
/-- the reading of a comprehension -/
theorem lc_read {W : WX} (tk : Takes Z.X W) {vs : List Nat} (ht : ∀ i ∈ t.ix, i ∈ vs) (σ : L2.St) (H : Hp) (Q : VK) (q : tFo Z W (wLc wi t tt we vs) (ci + 16777216 * (ct + ce)) σ H Q)
    {TT' : TT} {TE' : TE} (hT : ∀ H0' σ H Qb, tFt ⟨Z.k, Z.G0, H0', Z.X, Z.B, Z.hB⟩ (fun _ _ _ _ => False) tt ct σ H Qb → TT' σ H Qb)
    (hE : ∀ H0' σ H Qv, tF ⟨Z.k, Z.G0, H0', Z.X, Z.B, Z.hB⟩ (fun _ _ _ _ => False) we ce σ H Qv → TE' σ H Qv) : tLc (tFi Z W wi ci) (gF Z.X.K t) TT' TE' vs σ H Q := by
  obtain ⟨G, ρ, Qd, E, β, hb, s, lk, q, l⟩ := q
  refine ⟨G, ρ, _, E, β, by omega, s, lk, q, fun ds ρ1 G1 H1 J q1 s1 g1 wk D hD => ?_⟩
  obtain ⟨I, i0, turn, fin⟩ := q1
  have wk' : Walk J ds.length (fun H => Sub G1 H) J.yld := ⟨fun i H hi h => wk.go i H h hi, fun H h => wk.st H h, fun i H x H' hi h y => y⟩
  have hp := s1.b.ne hD
  have h00 := s1.b.nn hD
  have hg0 : Z.G0 D = none := by
    cases z : Z.G0 D with
    | none => rfl
    | some o =>
      have e := s1.b.sub D o (s1.b.g0 D o z)
      rw [hD] at e; cases e
  refine lc_it wk' (fun i H => ∃ G ρ acc vsa, Z.SR (β + ci + i * (ct + ce)) G H (L2.wipe σ vs) ρ ∧ Sub G1 G ∧ H D = some (.lst vsa) ∧ RepL Z.k G acc vsa ∧ G D = none ∧ (∀ (j : Nat) e, ρ[j]? = some (.ow e) → (L2.wipe σ vs)[j]? ≠ some (some (.ref D))) ∧ acc.length ≤ i ∧ I i acc ρ)
    ⟨G1, wipeE ρ1 vs, [], [], ((s1.newO hD).wipe).le (by omega), Sub.rfl', upd_same, .nil, s1.b.sub.nn hD, fun j e h z => ?_, Nat.le_refl _, i0⟩ ?_ ?_ ?_
  · obtain ⟨a, z1, _, _, _, z5⟩ := (s1.wipe (vs := vs)).ow j e h
    rw [z] at z1
    cases z1
    obtain ⟨o, ho⟩ := z5.sm
    rw [hD] at ho; cases ho
  · rintro i H hi ⟨G2, ρ2, acc, vsa, s2, g2, _⟩
    exact g2.trans s2.b.sub
  · rintro i x H2 H2' hi ⟨G2, ρ2, acc, vsa, s2, g2, hDa, ra, gD, nD, la, iv⟩ y
    obtain ⟨d, hd, hx⟩ := wk.yl i H2 x H2' hi (g2.trans s2.b.sub) y
    have hB := turn i d acc ρ2 hd iv
    obtain ⟨m1, m2⟩ := mul_step (c := ct + ce) hi wk.len
    have go : ∀ {G3 H3 : Hp}, Z.SR (β + ci + i * (ct + ce)) G3 H3 (L2.wipe σ vs) ρ2 → Sub G2 G3 → G3 D = none → H3 D = some (.lst vsa) → Rep Z.k G3 d x → gF Z.X.K t x (L2.wipe σ vs) H3 fun σ4 H4 => L2.wipe σ4 vs = L2.wipe σ vs ∧ TT' σ4 H4 fun b H5 =>
        if b = true then TE' σ4 H5 fun y H6 => ∃ acc, H6 D = some (.lst acc) ∧ acc.length < sizeLine ∧
          (∃ G ρ acc' vsa, Z.SR (β + ci + (i + 1) * (ct + ce)) G (upd H6 D (.lst (acc ++ [y]))) (L2.wipe σ vs) ρ ∧ Sub G1 G ∧ (upd H6 D (.lst (acc ++ [y]))) D = some (.lst vsa) ∧ RepL Z.k G acc' vsa ∧ G D = none ∧ (∀ (j : Nat) e, ρ[j]? = some (.ow e) → (L2.wipe σ vs)[j]? ≠ some (some (.ref D))) ∧ acc'.length ≤ i + 1 ∧ I (i + 1) acc' ρ)
        else (∃ G ρ acc vsa, Z.SR (β + ci + (i + 1) * (ct + ce)) G H5 (L2.wipe σ vs) ρ ∧ Sub G1 G ∧ H5 D = some (.lst vsa) ∧ RepL Z.k G acc vsa ∧ G D = none ∧ (∀ (j : Nat) e, ρ[j]? = some (.ow e) → (L2.wipe σ vs)[j]? ≠ some (some (.ref D))) ∧ acc.length ≤ i + 1 ∧ I (i + 1) acc ρ) := fun {G3 H3} s3 g3 gD3 hD3 r3 => by
      refine gF_run s3 r3 hB fun ρ4 σ4 q4 s4 out ln ow4 => ?_
      have ew : L2.wipe σ4 vs = L2.wipe σ vs := (wipe_same ln fun j hj => out j fun z => hj (ht j z)).trans wipe_twice
      refine ⟨ew, ?_⟩
      have no4 : ∀ (j : Nat) e, ρ4[j]? = some (.ow e) → σ4[j]? ≠ some (some (.ref D)) := fun j e h z => by
        obtain ⟨z1, z2⟩ := ow4 j e h
        exact nD j e z1 (z2 ▸ z)
      have noW : ∀ {ρ' : Env}, (∀ (j : Nat) e, ρ'[j]? = some (.ow e) → σ4[j]? ≠ some (some (.ref D))) → ∀ (j : Nat) e, (wipeE ρ' vs)[j]? = some (.ow e) → (L2.wipe σ vs)[j]? ≠ some (some (.ref D)) := fun {ρ'} h j e q z => by
        rw [← ew] at z
        exact h j e (wipeE_ow q) (L2.wipe_some z).1
      refine hT (upd Z.H0 D (.lst vsa)) σ4 H3 _ ⟨G3, ρ4, _, noE, _, by show _ ≤ Z.B; omega, s4.hold h00 hD3 gD3 no4, Lnk.no, q4, fun b ρ5 G5 H5 q5 s5 g5 => ?_⟩
      obtain ⟨t5, hD5, gD5, no5⟩ := s5.unhold h00 hg0 hp s1.b.pn
      cases b with
      | false =>
        refine ⟨G5, wipeE ρ5 vs, acc, vsa, ?_, (g2.trans g3).trans g5, hD5, ra.mono (g3.trans g5), gD5, ?_, Nat.le_succ_of_le la, q5⟩
        · rw [← ew]; exact (t5.wipe).le (by omega)
        · exact noW no5
      | true =>
        refine hE (upd Z.H0 D (.lst vsa)) σ4 H5 _ ⟨G5, ρ5, _, noE, _, by show _ ≤ Z.B; omega, s5, Lnk.no, q5, fun z ρ6 v G6 H6 q6 s6 g6 r6 => ?_⟩
        obtain ⟨t6, hD6, gD6, no6⟩ := s6.unhold h00 hg0 hp s1.b.pn
        refine ⟨vsa, hD6, ?_, G6, wipeE ρ6 vs, acc ++ [z], vsa ++ [v], ?_, ((g2.trans g3).trans g5).trans g6, upd_same, (ra.mono ((g3.trans g5).trans g6)).append (.cons r6 .nil), gD6, ?_, ?_, q6⟩
        · rw [← ra.length]
          have := wk.len
          omega
        · rw [← ew]
          exact ((t6.poke h00 gD6 hp no6).wipe).le (by omega)
        · exact noW no6
        · rw [List.length_append]; simp; omega
    rcases hx with ⟨rfl, r⟩ | ⟨T, vs', dl, rfl, hT', rfl, rfl, r⟩
    · exact go s2 Sub.rfl' gD hDa (r.mono g2)
    · have n := s2.b.sub.nn hT'
      have dT : D ≠ T := fun z => by rw [z] at hDa; rw [hT'] at hDa; cases hDa
      exact go (s2.new hT') (Sub.up n) (by rw [upd_ne dT]; exact gD) (by rw [upd_ne dT]; exact hDa) (.tup upd_same (r.mono (g2.trans (Sub.up n))))
  · rintro H2 ⟨G2, ρ2, acc, vsa, s2, g2, hDa, ra, gD, nD, la, iv⟩
    have m3 := mul_full (c := ct + ce) wk.len
    refine l _ ρ2 D G2 H2 (fin acc ρ2 iv) (s2.unwipe.le (by omega)) (g1.trans g2) ⟨h00, gD, hp, .lst hDa ra, fun j e h z => ?_⟩
    obtain ⟨a, z1, _⟩ := s2.ow j e h
    have z2 := (L2.wipe_some z1).1
    rw [z] at z2
    cases z2
    exact nD j e h z1
/-- [elt for target in iter if ..] -/
theorem po_lc (hc : Z.X.calm = true) (hN : Z.X.N.Nodup) (hi : PIF Z tg iter wi ci) (ok : BlkOk Z.X.N Z.X.env.scope scope own) (hix : ∀ i ∈ t.ix, i ∈ own.map (·.2))
    (hg : ∀ (s : Shared) (H : Hp) (C : Addr) (cl : List (Str × Addr)) (fp : List Addr), PG (Z.X.blk s H scope (compEnvC scope cl C Z.X.env) fp) tg (gF Z.X.K t))
    (ht : ∀ (H0 : Hp) (s : Shared) (H : Hp) (C : Addr) (cl : List (Str × Addr)) (fp : List Addr), PFts (Z.blk H0 s H scope cl C fp) ifs tt ct)
    (he : ∀ (H0 : Hp) (s : Shared) (H : Hp) (C : Addr) (cl : List (Str × Addr)) (fp : List Addr), PF (Z.blk H0 s H scope cl C fp) elt we ce) (hs : ∀ x, foldedSetIterable iter Z.X.env x = pure x := by intro _; rfl) :
    PO Z (.ListComp elt [⟨tg, iter, ifs, 0⟩] scope pos) (wLc wi t tt we (own.map (·.2))) (ci + 16777216 * (ct + ce)) := fun W tk => by
  let TT' : TT := fun σ H Q => ∃ H0, tFt ⟨Z.k, Z.G0, H0, Z.X, Z.B, Z.hB⟩ (fun _ _ _ _ => False) tt ct σ H Q
  let TE' : TE := fun σ H Q => ∃ H0, tF ⟨Z.k, Z.G0, H0, Z.X, Z.B, Z.hB⟩ (fun _ _ _ _ => False) we ce σ H Q
  refine (pe_lc (tt := TT') (te := TE') hc hN (hi W tk) ok hg (fun s H C cl fp => ⟨fun pins s' σ H' Q I ⟨H0, q⟩ => (ht H0 s H C cl fp _ takes0).run pins s' σ H' Q I q⟩)
    (fun s H C cl fp => ⟨fun pins s' σ H' Q I ⟨H0, q⟩ => (he H0 s H C cl fp _ takes0).run pins s' σ H' Q I q⟩) hs).weak fun σ H Q q => ?_
  exact lc_read tk hix σ H Q q (fun H0 σ H Qb z => ⟨H0, z⟩) fun H0 σ H Qv z => ⟨H0, z⟩
/-- y = [..] on one line -/
theorem fs_lcG {i : Nat} {y : Str} {py : Pos} (hc : Z.X.calm = true) (hN : Z.X.N.Nodup) (hy : Z.X.N[i]? = some y) (hyl : Z.X.env.scope.names.lookup y = some .local)
    (hsw : swapsWith (.ListComp elt [⟨tg, iter, ifs, 0⟩] scope pos) (some (.Name y py)) spos.line Z.X.env = pure true) (hi : PIF Z tg iter wi ci) (ok : BlkOk Z.X.N Z.X.env.scope scope own) (hix : ∀ i ∈ t.ix, i ∈ own.map (·.2))
    (hg : ∀ (s : Shared) (H : Hp) (C : Addr) (cl : List (Str × Addr)) (fp : List Addr), PG (Z.X.blk s H scope (compEnvC scope cl C Z.X.env) fp) tg (gF Z.X.K t))
    (ht : ∀ (H0 : Hp) (s : Shared) (H : Hp) (C : Addr) (cl : List (Str × Addr)) (fp : List Addr), PFts (Z.blk H0 s H scope cl C fp) ifs tt ct)
    (he : ∀ (H0 : Hp) (s : Shared) (H : Hp) (C : Addr) (cl : List (Str × Addr)) (fp : List Addr), PF (Z.blk H0 s H scope cl C fp) elt we ce) (hs : ∀ x, foldedSetIterable iter Z.X.env x = pure x := by intro _; rfl) :
    ∀ W, Takes Z.X W → PS Z.X (.Assign [.Name y py] (.ListComp elt [⟨tg, iter, ifs, 0⟩] scope pos) spos) (tAsg (tFo Z W (wLc wi t tt we (own.map (·.2))) (ci + 16777216 * (ct + ce))) (gName i)) := fun W tk => by
  let TT' : TT := fun σ H Q => ∃ H0, tFt ⟨Z.k, Z.G0, H0, Z.X, Z.B, Z.hB⟩ (fun _ _ _ _ => False) tt ct σ H Q
  let TE' : TE := fun σ H Q => ∃ H0, tF ⟨Z.k, Z.G0, H0, Z.X, Z.B, Z.hB⟩ (fun _ _ _ _ => False) we ce σ H Q
  refine (ps_setLc (tt := TT') (te := TE') hc hN hy hyl hsw (hi W tk) ok hg (fun s H C cl fp => ⟨fun pins s' σ H' Q I ⟨H0, q⟩ => (ht H0 s H C cl fp _ takes0).run pins s' σ H' Q I q⟩)
    (fun s H C cl fp => ⟨fun pins s' σ H' Q I ⟨H0, q⟩ => (he H0 s H C cl fp _ takes0).run pins s' σ H' Q I q⟩) hs).weak fun D σ H q => ?_
  exact lc_read tk hix σ H _ q (fun H0 σ H Qb z => ⟨H0, z⟩) fun H0 σ H Qv z => ⟨H0, z⟩
theorem fs_of_asgO {e : Expr} {w : W1} {i : Nat} {st : Stmt} {c : Nat} (h : ∀ W, Takes Z.X W → PS Z.X st (tAsg (tFo Z W w c) (gName i))) : PSF Z st (wSetO i w) c := fun W t => (h W t).weak fun D σ H ⟨G, ρ, DD, E, β, hb, s, lk, q, l⟩ =>
  ⟨G, ρ, _, E, β, by omega, s, lk, q, fun d ρ1 a G1 H1 q1 s1 g1 o => l.nx _ _ G1 H1 q1 (s1.setO o.h0 o.g o.p o.r o.sl) g1⟩
theorem fs_of_asg {e : Expr} {w : W1} {i : Nat} {st : Stmt} {c : Nat} (h : ∀ W, Takes Z.X W → PS Z.X st (tAsg (tFo Z W w c) (gName i))) : PSF Z st (wSet i w) c := fun W t => (h W t).weak fun D σ H ⟨G, ρ, DD, E, β, hb, s, lk, q, l⟩ =>
  ⟨G, ρ, _, E, β, by omega, s, lk, q, fun d ρ1 a G1 H1 q1 s1 g1 o => by
    obtain ⟨u, hu, r⟩ := o.rep
    exact l.nx _ _ _ H1 q1 ((SR.freeze s1 o hu).set r) (g1.trans (Sub.up o.g))⟩
end
end FL
set_option Elab.async false
set_option linter.all false
set_option maxRecDepth 100000
set_option maxHeartbeats 4000000
namespace FL
open PySem PySem.Spec PyProof.Rows L2

/-! ## what a def promises, over trees -/
abbrev SpD := List D → (Bool → D → Prop) → (Nat → List (Str × D) → Prop) → Prop
def RetV (k : Kx) (G H : Hp) (Q : Bool → D → Prop) (v : V) (G' H' : Hp) : Prop :=
  (∃ d, Q false d ∧ Rep k G' d v) ∨ ∃ d a, v = .ref a ∧ Q true d ∧ H a = none ∧ G' a = none ∧ a ≠ k.p ∧ RepO k G' H' d a
def RetQ (k : Kx) (β : Nat) (G H : Hp) (Q : Bool → D → Prop) : VK := fun v H' => ∃ G', SB k G H β G' H' ∧ RetV k G H Q v G' H'
def RetE (k : Kx) (β : Nat) (G H : Hp) (E : Nat → List (Str × D) → Prop) : XK := fun cls d H' => ∃ c fs G', cls = Value.ref (k.cm c) ∧ SB k G H β G' H' ∧ ExcAt k G' fs d ∧ E c fs
structure FnF (cm : Nat → Addr) (P : Program) (w : World) (K : PySem.W.Frag) (mg : Str → Option Value) (base : Heap) (n : Nat) (f : Addr) (fd : FuncData) (ps : List Str) (sp : SpD) (c : Nat) : Prop where
  len : ∀ ds Q E, sp ds Q E → ds.length = ps.length
  run : ∀ (A : Around) (outer : List PySem.Env) (s : Shared) (p me : Addr) (G H : Hp) (args : Args) (us : List Value) (vs : List V) (ds : List D) (Q : Bool → D → Prop) (E : Nat → List (Str × D) → Prop) (β : Nat), β + c ≤ cap → Room n A → A.guards = some [] → Env0 P w K mg base A outer s H →
    BindsTo s fd args (ps.zip us) → Vals vs us → Sub G H → PenOk ⟨cm, p, me⟩ β G H → RepL ⟨cm, p, me⟩ G ds vs → sp ds Q E → codeAny (model P w) A (.call (.ref f) args) (CR (L2.CX P w) outer P w H s (RetQ ⟨cm, p, me⟩ (β + c) G H Q) (RetE ⟨cm, p, me⟩ (β + c) G H E)) s

section
variable {cm : Nat → Addr} {P : Program} {w : World} {K : PySem.W.Frag} {mg : Str → Option Value} {base : Heap}
theorem FnF.mono {n m c : Nat} {f : Addr} {fd : FuncData} {ps : List Str} {sp : SpD} (F : FnF cm P w K mg base n f fd ps sp c) (h : n ≤ m) : FnF cm P w K mg base m f fd ps sp c :=
  ⟨F.len, fun A outer s p me G H args us vs ds Q E β hc hr => F.run A outer s p me G H args us vs ds Q E β hc (hr.mono h)⟩
/-- a promise that says less -/
theorem FnF.imp {n c : Nat} {f : Addr} {fd : FuncData} {ps : List Str} {sp sp' : SpD} (F : FnF cm P w K mg base n f fd ps sp c) (h : ∀ ds Q E, sp' ds Q E → sp ds Q E) : FnF cm P w K mg base n f fd ps sp' c :=
  ⟨fun ds Q E q => F.len ds Q E (h _ _ _ q), fun A outer s p me G H args us vs ds Q E β hc hr hg e0 hb rv s0 po rd q => F.run A outer s p me G H args us vs ds Q E β hc hr hg e0 hb rv s0 po rd (h _ _ _ q)⟩
end
/-- the slots at the entry -/
def startE (n : Nat) (ds : List D) : Env := ds.map .va ++ List.replicate (n - ds.length) .no
theorem start_get {vs : List V} {N : List Str} {i : Nat} {v : V} (h : vs[i]? = some v) : (L2.start N vs)[i]? = some (some v) := by
  unfold L2.start
  rw [List.getElem?_append_left]
  · rw [List.getElem?_map, h]; rfl
  · rw [List.length_map]; exact (List.getElem?_eq_some_iff.mp h).1
theorem startE_va {n : Nat} {ds : List D} {i : Nat} {x : Sl} (h : (startE n ds)[i]? = some x) : (∃ d, ds[i]? = some d ∧ x = .va d) ∨ x = .no := by
  unfold startE at h
  by_cases hi : i < ds.length
  · rw [List.getElem?_append_left (by simpa using hi), List.getElem?_map] at h
    cases e : ds[i]? with
    | none => rw [e] at h; cases h
    | some d => rw [e] at h; exact .inl ⟨d, rfl, (Option.some.inj h).symm⟩
  · rw [List.getElem?_append_right (by simpa using hi), List.getElem?_replicate] at h
    split at h
    · exact .inr (Option.some.inj h).symm
    · cases h
theorem PenOk.there {k : Kx} {G H : Hp} (p : PenOk k β G H) : H k.p ≠ none := by
  obtain ⟨_, _, _, _, _, h, _⟩ := p
  rw [h]; intro z; cases z
theorem SB.start {k : Kx} {G H : Hp} (s : Sub G H) (p : PenOk k β G H) : SB k G H β G H := ⟨s, Sub.rfl', fun _ _ e => .inl e, fun _ _ e _ => e, p, p.there⟩
theorem SR.start {k : Kx} {G H : Hp} {N : List Str} {ds : List D} {vs : List V} (s : Sub G H) (p : PenOk k β G H) (r : RepL k G ds vs) (hl : ds.length ≤ N.length) : SR k G H β G H (L2.start N vs) (startE N.length ds) where
  b := .start s p
  len := by
    unfold startE L2.start
    rw [List.length_append, List.length_append, List.length_map, List.length_map, List.length_replicate, List.length_replicate, r.length]
  sl := fun i d e => by
    rcases startE_va e with ⟨c, h1, h2⟩ | h
    · cases h2
      obtain ⟨v, g1, g2⟩ := r.at h1
      exact ⟨v, start_get g1, g2⟩
    · cases h
  ow := fun i d e => by
    rcases startE_va e with ⟨c, h1, h2⟩ | h
    · cases h2
    · cases h
  ap := fun i j d e a ne h1 => by
    rcases startE_va h1 with ⟨c, _, h2⟩ | h
    · cases h2
    · cases h

/-- the context of a def's body -/
def bodyX (P : Program) (w : World) (K : PySem.W.Frag) (mg : Str → Option Value) (base : Heap) (N : List Str) (qual : Str) (scope : Scope) (f : Addr) (cd : Value) (A : Around) (outer : List PySem.Env) (s : Shared) (H : Hp) (E : XK) : Cx :=
  cxOf (L2.CX P w) P w K mg base N qual scope f cd A outer s H E
theorem body_takes {P : Program} {w : World} {K : PySem.W.Frag} {mg : Str → Option Value} {base : Heap} {N : List Str} {qual : Str} {scope : Scope} {f : Addr} {cd : Value} {A : Around} {outer : List PySem.Env} {s : Shared} {H : Hp} {E : XK} :
    Takes (bodyX P w K mg base N qual scope f cd A outer s H E) (fun cls d _ H => E cls d H) := takes_of (E := E) rfl rfl rfl rfl
theorem body_owns {P : Program} {w : World} {K : PySem.W.Frag} {mg : Str → Option Value} {base : Heap} {N : List Str} {qual : Str} {scope : Scope} {f : Addr} {cd : Value} {A : Around} {outer : List PySem.Env} {s : Shared} {H : Hp} {E : XK} :
    PassesOwn (model P w) (bodyX P w K mg base N qual scope f cd A outer s H E).A (bodyX P w K mg base N qual scope f cd A outer s H E).env (bodyX P w K mg base N qual scope f cd A outer s H E).xe :=
  passes_of (X := bodyX P w K mg base N qual scope f cd A outer s H E) rfl
/-- what a body's proof is handed -/
structure BodyIn (cm : Nat → Addr) (P : Program) (w : World) (K : PySem.W.Frag) (mg : Str → Option Value) (base : Heap) (n : Nat) (N : List Str) (qual : Str) (scope : Scope) (f : Addr) (Z : Cz) : Prop where
  cm : Z.k.cm = cm
  x : ∃ cd A outer s H E, Z.X = bodyX P w K mg base N qual scope f cd A outer s H E
  room : Room n Z.X.A
  gd : Z.X.A.guards = some []
section
variable {cm : Nat → Addr} {P : Program} {w : World} {K : PySem.W.Frag} {mg : Str → Option Value} {base : Heap} {x qual : Str} {st : Stmt} {f : Addr} {fd : FuncData} {N ps : List Str} {n c : Nat} {sp : SpD}
/-- THE RULE: a def keeps its promise by its body -/
theorem FnF.of {args : Arguments} {body : List Stmt} {scope : Scope} {dV kV doc pm cdv ct oc : Value} {an od : Option Addr} {osl : Array (Option Value)} (lk : K.lookup f = some ⟨oc, od, .func (PySem.W.fnOf x qual args body scope dV kV doc pm an cdv ct), osl⟩)
    (hcd : PySem.W.codeIn K cdv qual = true) (S : FnScope N ps scope) (len : ∀ ds Q E, sp ds Q E → ds.length = ps.length)
    (hbody : ∀ (cd : Value) (A : Around) (outer : List PySem.Env) (s : Shared) (p me : Addr) (G H : Hp) (E : XK) (B : Nat) (hB : B ≤ cap), (bodyX P w K mg base N qual scope f cd A outer s H E).A.guards = some [] → Room n (bodyX P w K mg base N qual scope f cd A outer s H E).A →
      ∃ u : WS, PBF ⟨⟨cm, p, me⟩, G, H, bodyX P w K mg base N qual scope f cd A outer s H E, B, hB⟩ body u c ∧ ∀ ds Q E', sp ds Q E' → u { nx := fun _ => Q false .non, rt := Q } (fun c fs _ => E' c fs) (startE N.length ds)) :
    FnF cm P w K mg base (n + 1) f (PySem.W.fnOf x qual args body scope dV kV doc pm an cdv ct) ps sp c := by
  refine ⟨len, fun A outer s p me G H ar us vs ds Q E β hc hr hg e0 hb rv s0 po rd q => ?_⟩
  have hl : vs.length = ps.length := by rw [← rd.length]; exact len _ _ _ q
  have hpl : ps.length ≤ N.length := by have := congrArg List.length S.pre; rw [List.length_take] at this; omega
  have KX : K.In s.heap := e0.mod.kin.keeps fun b o e => (e0.bs b o e).1
  have lim : s.heap.NoLimit := e0.mod.nolimit.keeps fun b o e => (e0.bs b o e).1
  refine codeAny_call_function hr.depth (KX _ _ lk) rfl S.co S.gen rfl (PySem.W.codeRec_of KX hcd) (hb _ _ _ _ (wpAny_newFunctionEnv_cells S.kind (fun y hy => ?_) fun env he s1 x => ?_))
  · rcases S.par y.1 (List.of_mem_zip hy).1 with z | z
    · exact .inl z
    · exact .inr ⟨z, PySem.W.cellsFrom_some _ _ _ (.inl z)⟩
  · subst he
    refine ⟨lim.keeps x.toInCall.keep, codeAny_func ?_⟩
    obtain ⟨u, hu, hq⟩ := hbody cdv A outer s p me G H (RetE ⟨cm, p, me⟩ (β + c) G H E) (β + c) hc hg (hr.deeper _)
    have I := inv_start (CX := L2.CX P w) (E := RetE ⟨cm, p, me⟩ (β + c) G H E) S hr.hd e0 hl rv x
    have hq' := hq ds Q E q
    have hT : tFs ⟨⟨cm, p, me⟩, G, H, bodyX P w K mg base N qual scope f cdv A outer s H (RetE ⟨cm, p, me⟩ (β + c) G H E), β + c, hc⟩ (fun cls d _ H' => RetE ⟨cm, p, me⟩ (β + c) G H E cls d H') u c { nx := fun _ H' => RetQ ⟨cm, p, me⟩ (β + c) G H Q .non H', rt := RetQ ⟨cm, p, me⟩ (β + c) G H Q } (L2.start N vs) H :=
      ⟨G, _, _, _, β, Nat.le_refl _, SR.start s0 po rd (by rw [rd.length, hl]; exact hpl), fun c fs ρ σ G' H' d e sr ea => ⟨c, fs, G', rfl, sr.b, ea, e⟩, hq',
        ⟨fun ρ σ G' H' z sr _ => ⟨G', sr.b, .inl ⟨_, z, .non⟩⟩, fun _ _ _ _ z => z.elim, fun _ _ _ _ z => z.elim, fun d v G' H' z sb r => ⟨G', sb, .inl ⟨d, z, r⟩⟩, fun d a G' H' z sb o => ⟨G', sb, .inr ⟨d, a, rfl, z, o.h0, o.g, o.p, o.r⟩⟩⟩⟩
    refine wpAny_mono ((hu _ body_takes).run [] s1 (L2.start N vs) H _ I hT) (fun fl s' hs => ?_) fun e s' hs => hs
    have fin : ∀ {σ' : L2.St} {H' : Hp} {v : V} {u : Value}, Inv (bodyX P w K mg base N qual scope f cdv A outer s H (RetE ⟨cm, p, me⟩ (β + c) G H E)) [] σ' H' s' → RelV v u → RetQ ⟨cm, p, me⟩ (β + c) G H Q v H' → CE outer P w H s (RetQ ⟨cm, p, me⟩ (β + c) G H Q) u s' :=
      fun {σ' H' v u} J rv q => ⟨v, H', J.os, J.bare, J.base, J.hok, rv, q⟩
    cases fl with
    | ret u =>
      obtain ⟨v, σ', H', J, rv, q⟩ := hs
      exact fin J rv q
    | next =>
      obtain ⟨σ', H', J, q⟩ := hs
      exact fin (v := V.non) (u := Value.none) J rfl q
    | brk =>
      obtain ⟨_, _, _, q⟩ := hs
      exact False.elim q
    | cont =>
      obtain ⟨_, _, _, q⟩ := hs
      exact False.elim q
end

/-! ## the caller's side -/
theorem SR.called {k : Kx} {G0 H0 G H G' H' : Hp} {σ : L2.St} {ρ : Env} {β γ : Nat} (s : SR k G0 H0 β G H σ ρ) (b : SB k G H γ G' H') : SR k G0 H0 γ G' H' σ ρ where
  b := ⟨b.sub, s.b.g0.trans b.g0, fun a o e => by
    rcases b.fr a o e with h | h
    · exact s.b.fr a o h
    · exact .inr (s.b.nn h), fun c o e n => b.kp c o (s.b.kp c o e n) n, b.pen, s.b.pn⟩
  len := s.len
  sl := fun i d e => let ⟨v, h1, h2⟩ := s.sl i d e; ⟨v, h1, h2.mono b.g0⟩
  ow := fun i d e => by
    obtain ⟨a, h1, h2, h3, h4, h5⟩ := s.ow i d e
    obtain ⟨o, ho⟩ := h5.sm
    refine ⟨a, h1, h2, ?_, h4, h5.keep b.g0 ((b.kp a o ho h4).trans ho.symm)⟩
    cases q : G' a with
    | none => rfl
    | some u =>
      rcases b.fr a u q with h | h
      · rw [h3] at h; cases h
      · rw [ho] at h; cases h
  ap := s.ap
section
variable {Z : Cz} {n : Nat} {f : Addr} {fd : FuncData} {ps : List Str} {sp : SpD} {W : WX} {c : Nat}
/-- what a caller has behind a call -/
def CallP (Z : Cz) (γ : Nat) (pins : List (Addr × Obj)) (σ : L2.St) (G H : Hp) (ρ : Env) (Q : Bool → D → Prop) (u : Value) (s' : Shared) : Prop :=
  ∃ v H' G', Inv Z.X pins σ H' s' ∧ Z.SR γ G' H' σ ρ ∧ Sub G G' ∧ RelV v u ∧ ((∃ d, Q false d ∧ Rep Z.k G' d v) ∨ ∃ d a, v = .ref a ∧ Q true d ∧ Own Z G' H' σ ρ d a)
theorem Own.of_ret {G H G' H' : Hp} {σ : L2.St} {ρ : Env} {d : D} {a : Addr} (s : Z.SR β G H σ ρ) (h : H a = none) (g : G' a = none) (p : a ≠ Z.k.p) (r : RepO Z.k G' H' d a) : Own Z G' H' σ ρ d a :=
  ⟨s.b.nn h, g, p, r, fun j e q z => by
    obtain ⟨c, h1, _, _, _, h5⟩ := s.ow j e q
    rw [z] at h1
    cases h1
    obtain ⟨o, ho⟩ := h5.sm
    rw [h] at ho; cases ho⟩
theorem callP_of {pins : List (Addr × Obj)} {σ : L2.St} {G H : Hp} {ρ : Env} {s s' : Shared} {Q : Bool → D → Prop} {u : Value} (I : Inv Z.X pins σ H s) (sr : Z.SR β G H σ ρ) {γ : Nat} (h : CE Z.X.stack Z.X.prog Z.X.w H s (RetQ Z.k γ G H Q) u s') : CallP Z γ pins σ G H ρ Q u s' := by
  obtain ⟨v, H', J, rv, G', sb, q⟩ := I.after h
  refine ⟨v, H', G', J, sr.called sb, sb.g0, rv, ?_⟩
  rcases q with ⟨d, q, r⟩ | ⟨d, a, e, q, h1, h2, h3, h4⟩
  · exact .inl ⟨d, q, r⟩
  · exact .inr ⟨d, a, e, q, .of_ret sr h1 h2 h3 h4⟩
theorem exc_of {pins : List (Addr × Obj)} {σ : L2.St} {G H : Hp} {ρ : Env} {s s' : Shared} {E : WN} {e : Value} (tk : Takes Z.X W) (lk : Lnk Z E W) (I : Inv Z.X pins σ H s) (sr : Z.SR β G H σ ρ)
    {γ : Nat} (hγ : γ ≤ Z.B) (h : L2.CX Z.X.prog Z.X.w Z.X.stack H s (RetE Z.k γ G H fun c fs => E c fs ρ) e s') : Z.X.xe e s' := tk e s' (XE.of_call I (fun cls d H' ⟨c, fs, G', e1, sb, ea, q⟩ => by
  subst e1
  exact lk c fs ρ σ G' H' d q ((sr.called sb).le hγ) ea) h)
/-- the callee runs -/
theorem code_F {pins : List (Addr × Obj)} {σ : L2.St} {G H : Hp} {ρ : Env} {s : Shared} {us : List Value} {vs : List V} {ds : List D} {kw : List (Str × Value)} {bs : List Value} {Q : Bool → D → Prop} {E : WN} (F : FnF Z.k.cm Z.X.prog Z.X.w Z.X.K Z.X.mg Z.X.base n f fd ps sp c) (hr : Room n Z.X.A)
    (hg : Z.X.A.guards = some []) (hβ : β + c ≤ Z.B) (tk : Takes Z.X W) (lk : Lnk Z E W) (I : Inv Z.X pins σ H s) (sr : Z.SR β G H σ ρ) (hb : BindsTo s fd ⟨us, kw⟩ (ps.zip bs)) (r : Vals vs bs) (rd : RepL Z.k G ds vs) (h : sp ds Q fun c fs => E c fs ρ) :
    codeAny (model Z.X.prog Z.X.w) Z.X.A (.call (.ref f) ⟨us, kw⟩) (fun r s' => match r with | .ok (.ret v) => CallP Z (β + c) pins σ G H ρ Q v s' | .ok _ => False | .error e => Z.X.xe e s') s := by
  refine codeAny_mono (F.run Z.X.A Z.X.stack s Z.k.p Z.k.me G H ⟨us, kw⟩ bs vs ds Q _ β (Nat.le_trans hβ Z.hB) hr hg I.env0 hb r sr.b.sub sr.b.pen rd h) fun r s' hq => ?_
  cases r with
  | error e => exact exc_of tk lk I sr hβ hq
  | ok fl =>
    cases fl with
    | ret u => exact callP_of I sr hq
    | next => exact False.elim hq
    | brk => exact False.elim hq
    | cont => exact False.elim hq
theorem run_F {pins : List (Addr × Obj)} {σ : L2.St} {G H : Hp} {ρ : Env} {s : Shared} {us : List Value} {vs : List V} {ds : List D} {kw : List (Str × Value)} {bs : List Value} {Q : Bool → D → Prop} {E : WN} (F : FnF Z.k.cm Z.X.prog Z.X.w Z.X.K Z.X.mg Z.X.base n f fd ps sp c) (hr : Room n Z.X.A)
    (hg : Z.X.A.guards = some []) (hβ : β + c ≤ Z.B) (tk : Takes Z.X W) (lk : Lnk Z E W) (I : Inv Z.X pins σ H s) (sr : Z.SR β G H σ ρ) (hb : BindsTo s fd ⟨us, kw⟩ (ps.zip bs)) (r : Vals vs bs) (rd : RepL Z.k G ds vs) (h : sp ds Q fun c fs => E c fs ρ) :
    wpAny (model Z.X.prog Z.X.w) Z.X.A (call (.ref f) us kw) (CallP Z (β + c) pins σ G H ρ Q) Z.X.xe s := wpAny_call (code_F F hr hg hβ tk lk I sr hb r rd h)
/-- from there to an expression's end -/
theorem callP_F {pins : List (Addr × Obj)} {σ : L2.St} {G H : Hp} {ρ : Env} {s' : Shared} {Qd : D → Prop} {u : Value} {Q : VK} {γ : Nat} (h : CallP Z γ pins σ G H ρ (fun _ d => Qd d) u s')
    (l : ∀ d v G' H', Qd d → Z.SR γ G' H' σ ρ → Sub G G' → Rep Z.k G' d v → Q v H') : EP Z.X pins σ Q u s' := by
  obtain ⟨v, H', G', J, sr, g, rv, q⟩ := h
  rcases q with ⟨d, q, r⟩ | ⟨d, a, rfl, q, o⟩
  · exact ⟨v, H', J, rv, l d v G' H' q sr g r⟩
  · obtain ⟨w, hw, r⟩ := o.rep
    exact ⟨.ref a, H', J, rv, l d (.ref a) _ H' q (SR.freeze sr o hw) (g.trans (Sub.up o.g)) r⟩
theorem callP_O {pins : List (Addr × Obj)} {σ : L2.St} {G H : Hp} {ρ : Env} {s' : Shared} {Qd : D → Prop} {u : Value} {Q : VK} {γ : Nat} (h : CallP Z γ pins σ G H ρ (fun b d => b = true ∧ Qd d) u s')
    (l : ∀ d a G' H', Qd d → Z.SR γ G' H' σ ρ → Sub G G' → Own Z G' H' σ ρ d a → Q (.ref a) H') : EP Z.X pins σ Q u s' := by
  obtain ⟨v, H', G', J, sr, g, rv, q⟩ := h
  rcases q with ⟨d, ⟨z, _⟩, r⟩ | ⟨d, a, rfl, ⟨_, q⟩, o⟩
  · cases z
  · exact ⟨.ref a, H', J, rv, l d a G' H' q sr g o⟩
end
end FL
set_option Elab.async false
set_option linter.all false
set_option maxRecDepth 100000
set_option maxHeartbeats 4000000
namespace FL
open PySem PySem.Spec PyProof.Rows L2

section
variable {Z : Cz} {W : WX} {σ : L2.St} {H : Hp} {pins : List (Addr × Obj)} {s : Shared}
/-- arguments have come -/
theorem args_run {es : List Expr} {wl : WL} {G : Hp} {ρ : Env} {Qd : List D → Env → Prop} {E : WN} {pos : Pos} {ca : Nat} (ha : PFl Z es wl ca) (tk : Takes Z.X W) (I : Inv Z.X pins σ H s) (hβ : β + ca ≤ Z.B) (sr : Z.SR β G H σ ρ) (lk : Lnk Z E W) (q : wl ρ Qd E) :
    wpAny (model Z.X.prog Z.X.w) Z.X.A (spliced (backTo pos (starEach es Z.X.env))) (fun us s1 => ∃ vs ds H1 G1 ρ1, Inv Z.X pins σ H1 s1 ∧ Vals vs us ∧ Z.SR (β + ca) G1 H1 σ ρ1 ∧ Sub G G1 ∧ RepL Z.k G1 ds vs ∧ Qd ds ρ1) Z.X.xe s :=
  thn ((ha W tk).run pos pins s σ H (fun vs H1 => ∃ ds G1 ρ1, Z.SR (β + ca) G1 H1 σ ρ1 ∧ Sub G G1 ∧ RepL Z.k G1 ds vs ∧ Qd ds ρ1) I ⟨G, ρ, Qd, E, β, hβ, sr, lk, q, fun ds ρ1 vs G1 H1 q1 s1 g1 r1 => ⟨ds, G1, ρ1, s1, g1, r1, q1⟩⟩)
    fun us s1 ⟨vs, H1, I1, r, ds, G1, ρ1, s1, g1, r1, q1⟩ => ⟨vs, ds, H1, G1, ρ1, I1, r, s1, g1, r1, q1⟩
theorem val_run {e : Expr} {w : W1} {G : Hp} {ρ : Env} {Qd : WQ} {E : WN} {ca : Nat} (he : PF Z e w ca) (tk : Takes Z.X W) (I : Inv Z.X pins σ H s) (hβ : β + ca ≤ Z.B) (sr : Z.SR β G H σ ρ) (lk : Lnk Z E W) (q : w ρ Qd E) :
    wpAny (model Z.X.prog Z.X.w) Z.X.A (eval e Z.X.env) (fun u s1 => ∃ v d H1 G1 ρ1, Inv Z.X pins σ H1 s1 ∧ RelV v u ∧ Z.SR (β + ca) G1 H1 σ ρ1 ∧ Sub G G1 ∧ Rep Z.k G1 d v ∧ Qd d ρ1) Z.X.xe s :=
  thn ((he W tk).run pins s σ H (fun v H1 => ∃ d G1 ρ1, Z.SR (β + ca) G1 H1 σ ρ1 ∧ Sub G G1 ∧ Rep Z.k G1 d v ∧ Qd d ρ1) I ⟨G, ρ, Qd, E, β, hβ, sr, lk, q, fun d ρ1 v G1 H1 q1 s1 g1 r1 => ⟨d, G1, ρ1, s1, g1, r1, q1⟩⟩)
    fun u s1 ⟨v, H1, I1, r, d, G1, ρ1, s1, g1, r1, q1⟩ => ⟨v, d, H1, G1, ρ1, I1, r, s1, g1, r1, q1⟩
end
/-- the defaults that fill up -/
structure Dfl (X : Cx) (k : Kx) (fd : FuncData) (ps : List Str) (dds : List D) : Prop where
  ex : ∃ dvs ds, Vals dvs ds ∧ Binds X.K fd ps ds ∧ ∀ G, RepL k G dds dvs
theorem Dfl.no {X : Cx} {k : Kx} {fd : FuncData} {ps : List Str} (h : Binds X.K fd ps []) : Dfl X k fd ps [] := ⟨⟨[], [], .nil, h, fun _ => .nil⟩⟩
/-- a call as a value, as a new object -/
def wCall (sp : SpD) (dds : List D) (wl : WL) : W1 := fun ρ Q E => wl ρ (fun ds ρ1 => sp (ds ++ dds) (fun _ d => Q d ρ1) (fun c fs => E c fs ρ1)) E
def wCallO (sp : SpD) (dds : List D) (wl : WL) : W1 := fun ρ Q E => wl ρ (fun ds ρ1 => sp (ds ++ dds) (fun b d => b = true ∧ Q d ρ1) (fun c fs => E c fs ρ1)) E
section
variable {Z : Cz} {n : Nat} {f C : Addr} {fd : FuncData} {ps : List Str} {sp : SpD} {dds : List D} {x m : Str} {p pos apos : Pos} {e o : Expr} {es : List Expr} {wl : WL} {w : W1} {c ca co : Nat}
/-- a call of a def that is known, its arguments written by places -/
theorem run_call {W : WX} {σ : L2.St} {H : Hp} {pins : List (Addr × Obj)} {s : Shared} {G : Hp} {ρ : Env} {us : List Value} {vs : List V} {ds : List D} {Q : Bool → D → Prop} {E : WN} (F : FnF Z.k.cm Z.X.prog Z.X.w Z.X.K Z.X.mg Z.X.base n f fd ps sp c) (hr : Room n Z.X.A)
    (hg : Z.X.A.guards = some []) (hβ : β + c ≤ Z.B) (hb : Dfl Z.X Z.k fd ps dds) (tk : Takes Z.X W) (lk : Lnk Z E W) (I : Inv Z.X pins σ H s) (sr : Z.SR β G H σ ρ) (r : Vals vs us) (rd : RepL Z.k G ds vs) (h : sp (ds ++ dds) Q fun c fs => E c fs ρ) :
    wpAny (model Z.X.prog Z.X.w) Z.X.A (call (.ref f) us) (CallP Z (β + c) pins σ G H ρ Q) Z.X.xe s := by
  obtain ⟨dvs, dsv, rv, b, rdd⟩ := hb.ex
  have r2 : Vals (vs ++ dvs) (us ++ dsv) := r.append rv
  have rd2 : RepL Z.k G (ds ++ dds) (vs ++ dvs) := rd.append (rdd G)
  have hl : (us ++ dsv).length = ps.length := by rw [← r2.length, ← rd2.length]; exact F.len _ _ _ h
  exact run_F F hr hg hβ tk lk I sr (b s us I.kIn hl) r2 rd2 h
theorem code_call {W : WX} {σ : L2.St} {H : Hp} {pins : List (Addr × Obj)} {s : Shared} {G : Hp} {ρ : Env} {us : List Value} {vs : List V} {ds : List D} {Q : Bool → D → Prop} {E : WN} (F : FnF Z.k.cm Z.X.prog Z.X.w Z.X.K Z.X.mg Z.X.base n f fd ps sp c) (hr : Room n Z.X.A)
    (hg : Z.X.A.guards = some []) (hβ : β + c ≤ Z.B) (hb : Dfl Z.X Z.k fd ps dds) (tk : Takes Z.X W) (lk : Lnk Z E W) (I : Inv Z.X pins σ H s) (sr : Z.SR β G H σ ρ) (r : Vals vs us) (rd : RepL Z.k G ds vs) (h : sp (ds ++ dds) Q fun c fs => E c fs ρ) :
    codeAny (model Z.X.prog Z.X.w) Z.X.A (.call (.ref f) ⟨us, []⟩) (fun r s' => match r with | .ok (.ret v) => CallP Z (β + c) pins σ G H ρ Q v s' | .ok _ => False | .error e => Z.X.xe e s') s := by
  obtain ⟨dvs, dsv, rv, b, rdd⟩ := hb.ex
  have r2 : Vals (vs ++ dvs) (us ++ dsv) := r.append rv
  have rd2 : RepL Z.k G (ds ++ dds) (vs ++ dvs) := rd.append (rdd G)
  have hl : (us ++ dsv).length = ps.length := by rw [← r2.length, ← rd2.length]; exact F.len _ _ _ h
  exact code_F F hr hg hβ tk lk I sr (b s us I.kIn hl) r2 rd2 h
theorem call_gen {t : WX → TE} (F : FnF Z.k.cm Z.X.prog Z.X.w Z.X.K Z.X.mg Z.X.base n f fd ps sp c) (hr : Room n Z.X.A) (hg : Z.X.A.guards = some []) (hG : Gl Z.X x) (hm : Z.X.mg x = some (.ref f)) (hk : PySem.W.keepIn Z.X.K (.ref f) = true)
    (hb : Dfl Z.X Z.k fd ps dds) (ha : PFl Z (e :: es) wl ca)
    (ht : ∀ W σ H Q, t W σ H Q → ∃ (G : Hp) (ρ : Env) (Qd : Env → Bool → D → Prop) (E : WN) (β : Nat), β + (ca + c) ≤ Z.B ∧ Z.SR β G H σ ρ ∧ Lnk Z E W ∧ wl ρ (fun ds ρ1 => sp (ds ++ dds) (Qd ρ1) (fun c fs => E c fs ρ1)) E ∧ ∀ G1 H1 ρ1 pins u s', Z.SR (β + ca) G1 H1 σ ρ1 → Sub G G1 → CallP Z (β + ca + c) pins σ G1 H1 ρ1 (Qd ρ1) u s' → EP Z.X pins σ Q u s')
    (hdb : (x == ("__debug__" : Str)) = false := by decide) (he : starEach (e :: es) Z.X.env = (false, eval e Z.X.env) :: starEach es Z.X.env := by rfl) (hpl : (backTo pos (starEach es Z.X.env)).any (·.1) = false := by rfl) :
    ∀ W, Takes Z.X W → PE Z.X (.Call (.Name x p) (e :: es) [] pos) (t W) := fun W tk => by
  refine ⟨fun pins s σ H Q I h => ?_⟩
  obtain ⟨G, ρ, Qd, E, β, hβ, sr, lk, q, l⟩ := ht W σ H Q h
  refine wpAny_Call_Name_kw (ld_glob I hG hm ?_ hdb)
  refine PySem.W.callWith_K (h₀ := Z.X.base) I.ok.mod.kin hk (thn (args_run (pos := pos) ha tk I (by omega) sr lk q) fun us s1 ⟨vs, ds, H1, G1, ρ1, I1, r, s1', g1, rd, q1⟩ => ⟨I1.kIn, ?_⟩) he hpl
  exact thn (run_call F hr hg (by omega) hb tk lk I1 s1' r rd q1) fun u s' h => l G1 H1 ρ1 pins u s' s1' g1 h
/-- f(e, ..) -/
theorem pf_call (F : FnF Z.k.cm Z.X.prog Z.X.w Z.X.K Z.X.mg Z.X.base n f fd ps sp c) (hr : Room n Z.X.A) (hg : Z.X.A.guards = some []) (hG : Gl Z.X x) (hm : Z.X.mg x = some (.ref f)) (hk : PySem.W.keepIn Z.X.K (.ref f) = true) (hb : Dfl Z.X Z.k fd ps dds) (ha : PFl Z (e :: es) wl ca)
    (hdb : (x == ("__debug__" : Str)) = false := by decide) (he : starEach (e :: es) Z.X.env = (false, eval e Z.X.env) :: starEach es Z.X.env := by rfl) (hpl : (backTo pos (starEach es Z.X.env)).any (·.1) = false := by rfl) : PF Z (.Call (.Name x p) (e :: es) [] pos) (wCall sp dds wl) (ca + c) :=
  call_gen (t := fun W => tF Z W (wCall sp dds wl) (ca + c)) F hr hg hG hm hk hb ha (fun W σ H Q ⟨G, ρ, Qd, E, β, hβ, sr, lk, q, l⟩ => ⟨G, ρ, fun ρ1 _ d => Qd d ρ1, E, β, hβ, sr, lk, q, fun G1 H1 ρ1 pins u s' s1 g1 h =>
    callP_F h fun d v G' H' q' sr' g' r' => l d ρ1 v G' H' q' (sr'.le (by omega)) (g1.trans g') r'⟩) hdb he hpl
theorem po_call (F : FnF Z.k.cm Z.X.prog Z.X.w Z.X.K Z.X.mg Z.X.base n f fd ps sp c) (hr : Room n Z.X.A) (hg : Z.X.A.guards = some []) (hG : Gl Z.X x) (hm : Z.X.mg x = some (.ref f)) (hk : PySem.W.keepIn Z.X.K (.ref f) = true) (hb : Dfl Z.X Z.k fd ps dds) (ha : PFl Z (e :: es) wl ca)
    (hdb : (x == ("__debug__" : Str)) = false := by decide) (he : starEach (e :: es) Z.X.env = (false, eval e Z.X.env) :: starEach es Z.X.env := by rfl) (hpl : (backTo pos (starEach es Z.X.env)).any (·.1) = false := by rfl) : PO Z (.Call (.Name x p) (e :: es) [] pos) (wCallO sp dds wl) (ca + c) :=
  call_gen (t := fun W => tFo Z W (wCallO sp dds wl) (ca + c)) F hr hg hG hm hk hb ha (fun W σ H Q ⟨G, ρ, Qd, E, β, hβ, sr, lk, q, l⟩ => ⟨G, ρ, fun ρ1 b d => b = true ∧ Qd d ρ1, E, β, hβ, sr, lk, q, fun G1 H1 ρ1 pins u s' s1 g1 h =>
    callP_O h fun d a G' H' q' sr' g' o' => l d ρ1 a G' H' q' (sr'.le (by omega)) (g1.trans g') o'⟩) hdb he hpl

/-! ## instances -/
theorem RepF.look {k : Kx} {G : Hp} {g : Str} : ∀ {l : List (Str × D)} {fs : List (Str × V)}, RepF k G l fs → (l.lookup g = none → fs.lookup g = none) ∧ ∀ d, l.lookup g = some d → ∃ v, fs.lookup g = some v ∧ Rep k G d v
  | [], _, h => by cases h; exact ⟨fun _ => rfl, fun d h => by cases h⟩
  | (x, d) :: l, _, h => by
    cases h with
    | cons r t =>
      rename_i v vs
      obtain ⟨h1, h2⟩ := RepF.look (g := g) t
      simp only [List.lookup]
      cases e : g == x with
      | true =>
        refine And.intro (fun h => ?_) (fun d' h => ?_)
        · cases h
        · cases h
          exact ⟨v, rfl, r⟩
      | false => exact ⟨h1, h2⟩
/-- o.f, a field -/
def wFld (c : Nat) (f : Str) (w : W1) : W1 := fun ρ Q E => w ρ (fun x ρ1 => match x with
  | .ins c' l => c' = c ∧ ∃ d, l.lookup f = some d ∧ Q d ρ1
  | _ => False) E
theorem pf_fld {c : Nat} {g : Str} (he : PF Z o w co) (cl : Cls Z.X.K (Z.k.cm c)) (na : NoAttr Z.X.K (Z.k.cm c) g) (hb : attributeBase o g Z.X.env (eval o Z.X.env) = eval o Z.X.env := by rfl) : PF Z (.Attribute o g pos) (wFld c g w) co :=
  fun W tk => (pe_fld (he W tk) hb).weak fun σ H Q ⟨G, ρ, Qd, E, β, hb, sr, lk, q, l⟩ => ⟨G, ρ, _, E, β, hb, sr, lk, q, fun d ρ1 v G1 H1 q1 s1 g1 r1 => by
    cases r1 with
    | ins e r =>
      obtain ⟨rfl, d, hd, q1⟩ := q1
      obtain ⟨v, hv, rv⟩ := r.look.2 d hd
      exact ⟨_, _, _, _, v, rfl, s1.b.sub _ _ e, cl, na, hv, l d ρ1 v G1 H1 q1 s1 g1 rv⟩
    | _ => exact False.elim q1⟩
/-- o.m(e, ..), o.m() -/
def wMeth (c : Nat) (m : Str) (sp : SpD) (dds : List D) (w : W1) (wl : WL) : W1 := fun ρ Q E => w ρ (fun x ρ1 => match x with
  | .ins c' l => c' = c ∧ l.lookup m = none ∧ wl ρ1 (fun ds ρ2 => sp (.ins c' l :: (ds ++ dds)) (fun _ d => Q d ρ2) (fun c fs => E c fs ρ2)) E
  | _ => False) E
def wMethO (c : Nat) (m : Str) (sp : SpD) (dds : List D) (w : W1) (wl : WL) : W1 := fun ρ Q E => w ρ (fun x ρ1 => match x with
  | .ins c' l => c' = c ∧ l.lookup m = none ∧ wl ρ1 (fun ds ρ2 => sp (.ins c' l :: (ds ++ dds)) (fun b d => b = true ∧ Q d ρ2) (fun c fs => E c fs ρ2)) E
  | _ => False) E
theorem pf_meth {ci : Nat} {pl : Sem Bool} (he : PF Z o w co) (cl : Cls Z.X.K (Z.k.cm ci)) (hm : Meth Z.X.K (Z.k.cm ci) m f) (F : FnF Z.k.cm Z.X.prog Z.X.w Z.X.K Z.X.mg Z.X.base n f fd ps sp c) (hr : Room n Z.X.A) (hg : Z.X.A.guards = some []) (hd : Dfl Z.X Z.k fd ps dds) (ha : PFl Z (e :: es) wl ca)
    (hst : starEach (e :: es) Z.X.env = (false, eval e Z.X.env) :: starEach es Z.X.env := by rfl) (hpl : (backTo pos (starEach es Z.X.env)).any (·.1) = false := by rfl)
    (ht : eval (.Call (.Attribute o m apos) (e :: es) [] pos) Z.X.env = (do
      let ov ← eval o Z.X.env
      standAt apos.atName
      let (f, first) ← holding [ov] (getMethod ov m pl)
      callWith pos f first (backTo pos (starEach (e :: es) Z.X.env)) (backToKw pos (keywordEach [] Z.X.env))) := by rfl) : PF Z (.Call (.Attribute o m apos) (e :: es) [] pos) (wMeth ci m sp dds w wl) (co + ca + c) := fun W tk => by
  refine ⟨fun pins s σ H Q I ⟨G, ρ, Qd, E, β, hβ, sr, lk, q, l⟩ => ?_⟩
  refine PySem.W.methodCall_KW (pl := pl) (thn (val_run he tk I (by omega) sr lk q) fun u s1 ⟨v, d, H1, G1, ρ1, I1, rv, s1', g1, r1, q1⟩ => ?_) ht
  cases r1 with
  | ins e r =>
    obtain ⟨rfl, hl, q1⟩ := q1
    obtain rfl : u = Value.ref _ := rv
    refine getmeth_ok I1 (s1'.b.sub _ _ e) cl hm (r.look.1 hl) ?_
    refine PySem.W.callWith_K (first := [.ref _]) (h₀ := Z.X.base) I.ok.mod.kin hm.kp (thn (args_run (pos := pos) ha tk I1 (by omega) s1' lk q1) fun us s2 ⟨vs, ds, H2, G2, ρ2, I2, r2, s2', g2, rd, q2⟩ => ⟨I2.kIn, ?_⟩) hst hpl
    refine thn (run_call (us := .ref _ :: us) (vs := .ref _ :: vs) (ds := .ins _ _ :: ds) (Q := fun _ d => Qd d ρ2) F hr hg (by omega) hd tk lk I2 s2' (.cons rfl r2) (.cons (.ins (g2 _ _ e) (r.mono g2)) rd) q2) fun u s' h => ?_
    exact callP_F h fun d v G' H' q' sr' g' r' => l d ρ2 v G' H' q' (sr'.le (by omega)) ((g1.trans g2).trans g') r'
  | _ => exact False.elim q1
theorem pf_meth0 {ci : Nat} {pl : Sem Bool} (he : PF Z o w co) (cl : Cls Z.X.K (Z.k.cm ci)) (hm : Meth Z.X.K (Z.k.cm ci) m f) (F : FnF Z.k.cm Z.X.prog Z.X.w Z.X.K Z.X.mg Z.X.base n f fd ps sp c) (hr : Room n Z.X.A) (hg : Z.X.A.guards = some []) (hd : Dfl Z.X Z.k fd ps dds)
    (ht : eval (.Call (.Attribute o m apos) [] [] pos) Z.X.env = (do
      let ov ← eval o Z.X.env
      standAt apos.atName
      let (f, first) ← holding [ov] (getMethod ov m pl)
      callWith pos f first (backTo pos (starEach [] Z.X.env)) (backToKw pos (keywordEach [] Z.X.env))) := by rfl) : PF Z (.Call (.Attribute o m apos) [] [] pos) (wMeth ci m sp dds w wNil) (co + c) := fun W tk => by
  refine ⟨fun pins s σ H Q I ⟨G, ρ, Qd, E, β, hβ, sr, lk, q, l⟩ => ?_⟩
  refine PySem.W.methodCall_KW (pl := pl) (thn (val_run he tk I (by omega) sr lk q) fun u s1 ⟨v, d, H1, G1, ρ1, I1, rv, s1', g1, r1, q1⟩ => ?_) ht
  cases r1 with
  | ins e r =>
    obtain ⟨rfl, hl, q1⟩ := q1
    obtain rfl : u = Value.ref _ := rv
    refine getmeth_ok I1 (s1'.b.sub _ _ e) cl hm (r.look.1 hl) ?_
    refine PySem.W.callWith_K0 (first := [.ref _]) I1.kIn hm.kp ?_
    refine thn (run_call (us := [.ref _]) (vs := [.ref _]) (ds := [.ins _ _]) (Q := fun _ d => Qd d ρ1) F hr hg (by omega) hd tk lk I1 s1' (.cons rfl .nil) (.cons (.ins e r) .nil) q1) fun u s' h => ?_
    exact callP_F h fun d v G' H' q' sr' g' r' => l d ρ1 v G' H' q' (sr'.le (by omega)) (g1.trans g') r'
  | _ => exact False.elim q1

/-! ## properties -/
def wProp (c : Nat) (sp : SpD) (w : W1) : W1 := fun ρ Q E => w ρ (fun x ρ1 => match x with
  | .ins c' l => c' = c ∧ sp [.ins c' l] (fun _ d => Q d ρ1) (fun _ _ => False)
  | _ => False) E
theorem Lnk.zero {E : WN} : Lnk Z (fun _ _ _ => False) (fun _ _ _ _ => False) := Lnk.no
theorem pf_prop {ci : Nat} {pr : Addr} (he : PF Z o w co) (cl : Cls Z.X.K (Z.k.cm ci)) (hp : PropOf Z.X.K (Z.k.cm ci) m pr f) (F : FnF Z.k.cm Z.X.prog Z.X.w Z.X.K Z.X.mg Z.X.base n f fd ps sp c) (hr : Room (n + 1) Z.X.A) (hg : Z.X.A.guards = some []) (hb : Binds Z.X.K fd ps [])
    (hab : attributeBase o m Z.X.env (eval o Z.X.env) = eval o Z.X.env := by rfl) : PF Z (.Attribute o m pos) (wProp ci sp w) (co + c) := fun W tk => by
  refine ⟨fun pins s σ H Q I ⟨G, ρ, Qd, E, β, hβ, sr, lk, q, l⟩ => ?_⟩
  refine attr_of hab (thn (val_run he tk I (by omega) sr lk q) fun u s1 ⟨v, d, H1, G1, ρ1, I1, rv, s1', g1, r1, q1⟩ => ?_)
  cases r1 with
  | @ins a c' dx fs l' e r =>
    obtain ⟨rfl, q1⟩ := q1
    obtain rfl : u = Value.ref a := rv
    have ea := s1'.b.sub _ _ e
    obtain ⟨mA, O, _, _, _, _⟩ := ins_get I1.hok ea
    obtain ⟨od, J, _⟩ := O.look
    obtain ⟨rest, hrec⟩ := hp.rec_
    have I2 := I1.tok (s1.toks + 1)
    have hl : ([Value.ref a] ++ ([] : List Value)).length = ps.length := by
      rw [← F.len _ _ _ q1]; rfl
    have hc : (PySem.W.clsIn Z.X.K (Z.k.cm c')).isSome = true := by
      obtain ⟨cd, hc, _⟩ := PySem.W.any_some cl.hd
      rw [hc]; rfl
    refine PySem.W.get_bind I1.kIn J (PySem.W.plainGet_of (cl.get m)).1 (PySem.W.findObj_data hc hp.at_ hp.get hp.tak) (PySem.W.plainGet_of (cl.get m)).2 (wpAny_call (PySem.W.prop_get (s := { s1 with toks := s1.toks + 1 }) I1.kIn hrec ?_))
    refine codeAny_mono (F.run Z.X.A.in1 Z.X.stack { s1 with toks := s1.toks + 1 } Z.k.p Z.k.me G1 H1 ⟨[.ref a], []⟩ [.ref a] [.ref a] [.ins c' l'] (fun _ d => Qd d ρ1) (fun _ _ => False) _ (Nat.le_trans (show β + co + c ≤ Z.B by omega) Z.hB) hr.in1 hg I2.env0.in1 (by
      have := hb _ [.ref a] I2.kIn hl
      rwa [List.append_nil] at this) (.cons rfl .nil) s1'.b.sub s1'.b.pen (.cons (.ins e r) .nil) q1) fun r s' hq => ?_
    cases r with
    | error er =>
      obtain ⟨_, _, _, _, _, _, _, _, _, _, _, _, z⟩ := hq
      obtain ⟨_, _, _, _, _, _, z⟩ := z
      exact z.elim
    | ok fl =>
      cases fl with
      | ret u =>
        obtain ⟨v, H', J3, rv, q3⟩ := callP_F (callP_of I2 s1' hq) (Q := Q) fun d v G' H' q' sr' g' r' => l d ρ1 v G' H' q' (sr'.le (by omega)) (g1.trans g') r'
        refine PySem.W.handed_on (handed_of rv) ⟨v, H', J3, rv, q3⟩
      | next => exact False.elim hq
      | brk => exact False.elim hq
      | cont => exact False.elim hq
  | _ => exact False.elim q1
end
end FL
set_option Elab.async false
set_option linter.all false
set_option maxRecDepth 100000
set_option maxHeartbeats 4000000
namespace FL
open PySem PySem.Spec PyProof.Rows L2

/-! ## own objects written -/
section
variable {k : Kx} {G0 H0 G H : Hp} {σ : L2.St} {ρ : Env}
theorem SR.write {i : Nat} {d d' : D} {a : Addr} {o : HO} (s : SR k G0 H0 β G H σ ρ) (e : ρ[i]? = some (.ow d)) (h1 : σ[i]? = some (some (.ref a))) (r : RepO k G (upd H a o) d' a) : SR k G0 H0 β G (upd H a o) σ (ρ.set i (.ow d')) := by
  obtain ⟨c, g1, g2, g3, g4, g5⟩ := s.ow i d e
  rw [h1] at g1
  cases g1
  refine ⟨⟨?_, s.b.g0, s.b.fr, ?_, s.b.pen.puH g4, s.b.pn⟩, by rw [List.length_set]; exact s.len, fun j f h => ?_, fun j f h => ?_, fun j l f g b ne q1 q2 q3 q4 => ?_⟩
  · intro b u q
    rw [upd_ne]
    · exact s.b.sub b u q
    · intro z; rw [z, g3] at q; cases q
  · intro b u q n
    rw [upd_ne]
    · exact s.b.kp b u q n
    · intro z; rw [z, g2] at q; cases q
  · rcases get_set h with ⟨rfl, q⟩ | ⟨_, q⟩
    · cases q
    · exact s.sl j f q
  · rcases get_set h with ⟨rfl, q⟩ | ⟨ne, q⟩
    · cases q
      exact ⟨a, h1, g2, g3, g4, r⟩
    · obtain ⟨b, z1, z2, z3, z4, z5⟩ := s.ow j f q
      have nb : b ≠ a := fun z => by subst z; exact s.ap j i f d b ne q e z1 h1
      exact ⟨b, z1, z2, z3, z4, z5.keep Sub.rfl' (upd_ne nb)⟩
  · have old : ∀ {m : Nat} {x : D}, (ρ.set i (.ow d'))[m]? = some (.ow x) → ∃ y, ρ[m]? = some (.ow y) := fun {m x} h => by
      rcases get_set h with ⟨rfl, _⟩ | ⟨_, q⟩
      · exact ⟨d, e⟩
      · exact ⟨x, q⟩
    obtain ⟨y1, w1⟩ := old q1
    obtain ⟨y2, w2⟩ := old q2
    exact s.ap j l y1 y2 b ne w1 w2 q3 q4
end
def putFD (f : Str) (d : D) : List (Str × D) → List (Str × D)
  | [] => [(f, d)]
  | (g, e) :: r => if g = f then (g, d) :: r else (g, e) :: putFD f d r
theorem RepF.put {k : Kx} {G : Hp} {f : Str} {d : D} {v : V} (r : Rep k G d v) : ∀ {l : List (Str × D)} {fs : List (Str × V)}, RepF k G l fs → RepF k G (putFD f d l) (putF f v fs)
  | [], _, h => by cases h; exact .cons r .nil
  | (g, e) :: l, _, h => by
    cases h with
    | cons r1 t =>
      unfold putFD putF
      by_cases q : g = f
      · rw [if_pos q, if_pos q]; exact .cons r t
      · rw [if_neg q, if_neg q]; exact .cons r1 (RepF.put r t)
theorem RepF.len {k : Kx} {G : Hp} : ∀ {l : List (Str × D)} {fs : List (Str × V)}, RepF k G l fs → l.length = fs.length
  | [], _, h => by cases h; rfl
  | _ :: _, _, h => by
    cases h with
    | cons r1 t => exact congrArg Nat.succ t.len
section
variable {Z : Cz} {e o : Expr} {w : W1} {pos p' px : Pos} {x g : Str}
/-- self.f = e, self the object that an __init__ fills -/
def wSelf (i c : Nat) (f : Str) (w : W1) : WS := fun DD E ρ => w ρ (fun d ρ1 => match ρ1[i]? with
  | some (.ow (.ins c' l)) => c' = c ∧ l.length < 900 ∧ DD.nx (ρ1.set i (.ow (.ins c' (putFD f d l))))
  | _ => False) E
theorem fs_self {i c ca : Nat} (he : PF Z e w ca) (hv : PE Z.X o (tVar i)) (cl : Cls Z.X.K (Z.k.cm c)) (na : NoAttr Z.X.K (Z.k.cm c) g) (hs : swapsWith e (some (.Attribute o g p')) pos.line Z.X.env = pure false := by rfl) : PSF Z (.Assign [.Attribute o g p'] e pos) (wSelf i c g w) ca :=
  fun W tk => (ps_fld hv (he W tk) hs).weak fun D σ H ⟨G, ρ, DD, E, β, hb, sr, lk, q, l⟩ => ⟨G, ρ, _, E, β, hb, sr, lk, q, fun d ρ1 v G1 H1 q1 s1 g1 r1 => by
    split at q1
    · rename_i c' l' e1
      obtain ⟨rfl, hl, q1⟩ := q1
      obtain ⟨a, h1, h2, h3, h4, h5⟩ := s1.ow i _ e1
      cases h5 with
      | ins hm r =>
        refine ⟨.ref Z.k.me, h1, Z.k.me, _, _, _, rfl, hm, cl, na, by rw [← r.len]; omega, ?_⟩
        exact l.nx _ _ _ _ q1 (s1.write e1 h1 (.ins upd_same (r.put r1))) g1
    · exact q1.elim⟩
end

/-! ## making an object -/
def MadeQ (k : Kx) (β : Nat) (G H : Hp) (c : Nat) (Q : Bool → D → Prop) : VK := fun v H' => v = .non ∧ ∃ G' l fs dx, SB k G H β G' H' ∧ Q false (.ins c l) ∧ G' k.me = none ∧ H' k.me = some (.ins (k.cm c) dx fs) ∧ RepF k G' l fs
structure IniF (cm : Nat → Addr) (P : Program) (w : World) (K : PySem.W.Frag) (mg : Str → Option Value) (base : Heap) (n c : Nat) (f : Addr) (fd : FuncData) (ps : List Str) (sp : SpD) (cs : Nat) : Prop where
  len : ∀ ds Q E, sp ds Q E → ds.length + 1 = ps.length
  run : ∀ (A : Around) (outer : List PySem.Env) (s : Shared) (p x dx : Addr) (G H : Hp) (args : Args) (us : List Value) (vs : List V) (ds : List D) (Q : Bool → D → Prop) (E : Nat → List (Str × D) → Prop) (β : Nat), β + cs ≤ cap → Room n A → A.guards = some [] → H x = none → H dx = none → dx ≠ x →
    Env0 P w K mg base A outer s (upd (upd H dx (.own x)) x (.ins (cm c) dx [])) → BindsTo s fd args (ps.zip us) → Vals (.ref x :: vs) us → Sub G H → PenOk ⟨cm, p, x⟩ β G H → RepL ⟨cm, p, x⟩ G ds vs → sp ds Q E →
    codeAny (model P w) A (.call (.ref f) args) (CR (L2.CX P w) outer P w (upd (upd H dx (.own x)) x (.ins (cm c) dx [])) s (MadeQ ⟨cm, p, x⟩ (β + cs) G H c Q) (RetE ⟨cm, p, x⟩ (β + cs) G H E)) s
section
variable {cm : Nat → Addr} {P : Program} {w : World} {K : PySem.W.Frag} {mg : Str → Option Value} {base : Heap} {x qual : Str} {f : Addr} {fd : FuncData} {N ps : List Str} {n c cs : Nat} {sp : SpD}
theorem IniF.mono {m : Nat} (F : IniF cm P w K mg base n c f fd ps sp cs) (h : n ≤ m) : IniF cm P w K mg base m c f fd ps sp cs :=
  ⟨F.len, fun A outer s p x dx G H args us vs ds Q E β hc hr => F.run A outer s p x dx G H args us vs ds Q E β hc (hr.mono h)⟩
theorem SR.init {k : Kx} {G H : Hp} {N : List Str} {ds : List D} {vs : List V} {dx : Addr} (s : Sub G H) (p : PenOk k β G H) (r : RepL k G ds vs) (hl : ds.length + 1 ≤ N.length) (hx : H k.me = none) (hd : H dx = none) (ne : dx ≠ k.me) :
    SR k G H β G (upd (upd H dx (.own k.me)) k.me (.ins (k.cm c) dx [])) (L2.start N (.ref k.me :: vs)) ((startE N.length (.non :: ds)).set 0 (.ow (.ins c []))) := by
  have b0 : SB k G H β G H := .start s p
  have b1 : SB k G H β G (upd H dx (.own k.me)) := b0.newO hd
  have b2 : SB k G H β G (upd (upd H dx (.own k.me)) k.me (.ins (k.cm c) dx [])) := b1.newO (by rw [upd_ne (Ne.symm ne)]; exact hx)
  refine ⟨b2, ?_, fun i d e => ?_, fun i d e => ?_, fun i j d e a nij h1 h2 => ?_⟩
  · unfold startE L2.start
    rw [List.length_set, List.length_append, List.length_append, List.length_map, List.length_map, List.length_replicate, List.length_replicate, List.length_cons, List.length_cons, r.length]
  · rcases get_set e with ⟨rfl, q⟩ | ⟨nz, q⟩
    · cases q
    · rcases startE_va q with ⟨y, h1, h2⟩ | h
      · cases h2
        cases i with
        | zero => exact absurd rfl nz
        | succ i =>
          obtain ⟨v, g1, g2⟩ := r.at (i := i) (by simpa using h1)
          exact ⟨v, start_get (by simpa using g1), g2⟩
      · cases h
  · rcases get_set e with ⟨rfl, q⟩ | ⟨nz, q⟩
    · cases q
      exact ⟨k.me, start_get rfl, hx, s.nn hx, b0.ne hx, .ins upd_same .nil⟩
    · rcases startE_va q with ⟨y, _, h2⟩ | h
      · cases h2
      · cases h
  · have zero : ∀ {m : Nat} {z : D}, ((startE N.length (.non :: ds)).set 0 (.ow (.ins c [])))[m]? = some (.ow z) → m = 0 := fun {m z} h => by
      rcases get_set h with ⟨e, _⟩ | ⟨_, q⟩
      · exact e
      · rcases startE_va q with ⟨y, _, h2⟩ | h
        · cases h2
        · cases h
    exact absurd ((zero h1).trans (zero h2).symm) nij
/-- THE RULE: an __init__ keeps its promise by its body -/
theorem IniF.of {args : Arguments} {body : List Stmt} {scope : Scope} {dV kV doc pm cdv ct oc : Value} {an od : Option Addr} {osl : Array (Option Value)} (lk : K.lookup f = some ⟨oc, od, .func (PySem.W.fnOf x qual args body scope dV kV doc pm an cdv ct), osl⟩)
    (hcd : PySem.W.codeIn K cdv qual = true) (S : FnScope N ps scope) (len : ∀ ds Q E, sp ds Q E → ds.length + 1 = ps.length)
    (hbody : ∀ (cd : Value) (A : Around) (outer : List PySem.Env) (s : Shared) (p me : Addr) (G H H2 : Hp) (E : XK) (B : Nat) (hB : B ≤ cap), (bodyX P w K mg base N qual scope f cd A outer s H2 E).A.guards = some [] → Room n (bodyX P w K mg base N qual scope f cd A outer s H2 E).A →
      ∃ u : WS, PBF ⟨⟨cm, p, me⟩, G, H, bodyX P w K mg base N qual scope f cd A outer s H2 E, B, hB⟩ body u cs ∧ ∀ ds Q E', sp ds Q E' → u { nx := fun ρ => ∃ l, ρ[0]? = some (.ow (.ins c l)) ∧ Q false (.ins c l), rt := fun _ _ => False } (fun c fs _ => E' c fs) ((startE N.length (.non :: ds)).set 0 (.ow (.ins c [])))) :
    IniF cm P w K mg base (n + 1) c f (PySem.W.fnOf x qual args body scope dV kV doc pm an cdv ct) ps sp cs := by
  refine ⟨len, fun A outer s p me dx G H ar us vs ds Q E β hc hr hg hx hd ne e0 hb rv s0 po rd q => ?_⟩
  have hl : (V.ref me :: vs).length = ps.length := by rw [List.length_cons, ← rd.length]; exact len _ _ _ q
  have hpl : ps.length ≤ N.length := by have := congrArg List.length S.pre; rw [List.length_take] at this; omega
  have KX : K.In s.heap := e0.mod.kin.keeps fun b o e => (e0.bs b o e).1
  have lim : s.heap.NoLimit := e0.mod.nolimit.keeps fun b o e => (e0.bs b o e).1
  refine codeAny_call_function hr.depth (KX _ _ lk) rfl S.co S.gen rfl (PySem.W.codeRec_of KX hcd) (hb _ _ _ _ (wpAny_newFunctionEnv_cells S.kind (fun y hy => ?_) fun env he s1 x => ?_))
  · rcases S.par y.1 (List.of_mem_zip hy).1 with z | z
    · exact .inl z
    · exact .inr ⟨z, PySem.W.cellsFrom_some _ _ _ (.inl z)⟩
  · subst he
    refine ⟨lim.keeps x.toInCall.keep, codeAny_func ?_⟩
    obtain ⟨u, hu, hq⟩ := hbody cdv A outer s p me G H (upd (upd H dx (.own me)) me (.ins (cm c) dx [])) (RetE ⟨cm, p, me⟩ (β + cs) G H E) (β + cs) hc hg (hr.deeper _)
    have I := inv_start (CX := L2.CX P w) (E := RetE ⟨cm, p, me⟩ (β + cs) G H E) S hr.hd e0 hl rv x
    have hT : tFs ⟨⟨cm, p, me⟩, G, H, bodyX P w K mg base N qual scope f cdv A outer s (upd (upd H dx (.own me)) me (.ins (cm c) dx [])) (RetE ⟨cm, p, me⟩ (β + cs) G H E), β + cs, hc⟩ (fun cls d _ H' => RetE ⟨cm, p, me⟩ (β + cs) G H E cls d H') u cs
        { nx := fun _ H' => MadeQ ⟨cm, p, me⟩ (β + cs) G H c Q .non H', rt := MadeQ ⟨cm, p, me⟩ (β + cs) G H c Q } (L2.start N (.ref me :: vs)) (upd (upd H dx (.own me)) me (.ins (cm c) dx [])) :=
      ⟨G, _, _, _, β, Nat.le_refl _, SR.init (k := ⟨cm, p, me⟩) s0 po rd (by rw [rd.length, ← List.length_cons (a := V.ref me), hl]; exact hpl) hx hd ne, fun c' fs ρ σ G' H' d e sr ea => ⟨c', fs, G', rfl, sr.b, ea, e⟩, hq ds Q E q,
        ⟨fun ρ σ G' H' ⟨l, h1, z⟩ sr _ => by
          obtain ⟨a, _, _, g, _, r⟩ := sr.ow 0 _ h1
          cases r with
          | ins hm r => exact ⟨rfl, G', l, _, _, sr.b, z, g, hm, r⟩, fun _ _ _ _ z => z.elim, fun _ _ _ _ z => z.elim, fun d v G' H' z sb r => z.elim, fun d a G' H' z sb o => z.elim⟩⟩
    refine wpAny_mono ((hu _ body_takes).run [] s1 (L2.start N (.ref me :: vs)) _ _ I hT) (fun fl s' hs => ?_) fun e s' hs => hs
    have fin : ∀ {σ' : L2.St} {H' : Hp} {v : V} {u : Value}, Inv (bodyX P w K mg base N qual scope f cdv A outer s (upd (upd H dx (.own me)) me (.ins (cm c) dx [])) (RetE ⟨cm, p, me⟩ (β + cs) G H E)) [] σ' H' s' → RelV v u → MadeQ ⟨cm, p, me⟩ (β + cs) G H c Q v H' →
        CE outer P w (upd (upd H dx (.own me)) me (.ins (cm c) dx [])) s (MadeQ ⟨cm, p, me⟩ (β + cs) G H c Q) u s' := fun {σ' H' v u} J rv q => ⟨v, H', J.os, J.bare, J.base, J.hok, rv, q⟩
    cases fl with
    | ret u =>
      obtain ⟨v, σ', H', J, rv, q⟩ := hs
      exact fin J rv q
    | next =>
      obtain ⟨σ', H', J, q⟩ := hs
      exact fin (v := V.non) (u := Value.none) J rfl q
    | brk =>
      obtain ⟨_, _, _, q⟩ := hs
      exact False.elim q
    | cont =>
      obtain ⟨_, _, _, q⟩ := hs
      exact False.elim q
end
end FL
set_option Elab.async false
set_option linter.all false
set_option maxRecDepth 100000
set_option maxHeartbeats 4000000
namespace FL
open PySem PySem.Spec PyProof.Rows L2

section
variable {k k' : Kx} {G0 H0 G H : Hp}
theorem PenOk.re (h : k'.p = k.p) (p : PenOk k β G H) : PenOk k' β G H := by
  unfold PenOk at p ⊢
  rw [h]; exact p
theorem SB.re (h : k'.p = k.p) (b : SB k G0 H0 β G H) : SB k' G0 H0 β G H := ⟨b.sub, b.g0, b.fr, fun c o e n => b.kp c o e (by rw [← h]; exact n), b.pen.re h, by rw [h]; exact b.pn⟩
theorem ExcAt.re {fs : List (Str × D)} {d : Option Addr} (h1 : k'.cm = k.cm) (h2 : k'.p = k.p) (x : ExcAt k G fs d) : ExcAt k' G fs d := by
  rcases x with x | ⟨dx, vs, h, e, r⟩
  · exact .inl x
  · exact .inr ⟨dx, vs, h, e, r.re h1 h2⟩
end
section
variable {Z : Cz} {n c cs ca cb : Nat} {f : Addr} {fd : FuncData} {ps : List Str} {sp : SpD} {W : WX}
theorem exc_ofM {pins : List (Addr × Obj)} {σ : L2.St} {G H Hx : Hp} {ρ : Env} {s s' : Shared} {E : WN} {e : Value} {x : Addr} (tk : Takes Z.X W) (lk : Lnk Z E W) (I : Inv Z.X pins σ Hx s) {γ : Nat} (hγ : γ ≤ Z.B) (sr : Z.SR β G H σ ρ)
    (h : L2.CX Z.X.prog Z.X.w Z.X.stack Hx s (RetE ⟨Z.k.cm, Z.k.p, x⟩ γ G H fun c fs => E c fs ρ) e s') : Z.X.xe e s' := tk e s' (XE.of_call I (fun cls d H' ⟨c, fs, G', e1, sb, ea, q⟩ => by
  subst e1
  exact lk c fs ρ σ G' H' d q ((sr.called (SB.re (k := ⟨Z.k.cm, Z.k.p, x⟩) (k' := Z.k) rfl sb)).le hγ) (ExcAt.re (k := ⟨Z.k.cm, Z.k.p, x⟩) (k' := Z.k) rfl rfl ea)) h)
/-- an object is made -/
theorem run_mk {pins : List (Addr × Obj)} {σ : L2.St} {G H : Hp} {ρ : Env} {s : Shared} {us : List Value} {kw : List (Str × Value)} {vs : List V} {bs : List Value} {ds : List D} {Q : D → Prop} {E : WN} (M : Mk Z.X.K (Z.k.cm c) f) (F : IniF Z.k.cm Z.X.prog Z.X.w Z.X.K Z.X.mg Z.X.base n c f fd ps sp cs)
    (hr : Room (n + 1) Z.X.A) (hg : Z.X.A.guards = some []) (hβ : β + cs ≤ Z.B) (tk : Takes Z.X W) (lk : Lnk Z E W) (I : Inv Z.X pins σ H s) (sr : Z.SR β G H σ ρ) (r : Vals vs bs) (rd : RepL Z.k G ds vs)
    (hb : ∀ (s' : Shared) (x : Addr), Z.X.K.In s'.heap → BindsTo s' fd ⟨.ref x :: us, kw⟩ (ps.zip (.ref x :: bs))) (h : sp ds (fun _ d => Q d) fun c fs => E c fs ρ) :
    wpAny (model Z.X.prog Z.X.w) Z.X.A (call (.ref (Z.k.cm c)) us kw) (CallP Z (β + cs) pins σ G H ρ fun _ d => Q d) Z.X.xe s := by
  have hx := I.hok.fresh (Nat.le_succ s.heap.objs.size)
  have hd := I.hok.fresh (Nat.le_refl s.heap.objs.size)
  have I2 := Inv.made (C := Z.k.cm c) I
  refine wpAny_call (make_map (f := f) I.kIn M.makes M.init (beq_iff_eq.mp M.fn) (codeAny_mono (F.run _ Z.X.stack _ Z.k.p (s.heap.objs.size + 1) s.heap.objs.size G H ⟨Value.ref (s.heap.objs.size + 1) :: us, kw⟩ (Value.ref (s.heap.objs.size + 1) :: bs) vs ds (fun _ d => Q d) _ β (Nat.le_trans hβ Z.hB)
    (hr.make (Z.k.cm c) us kw) (by first | exact hg | (simpa [Around.under, Code.guards, Code.isGuard, pushGuards, guardIds] using hg)) hx hd (Nat.ne_of_lt (Nat.lt_succ_self _)) (I2.env0.make (Z.k.cm c) us kw) (hb _ _ I2.kIn) (.cons rfl r) sr.b.sub (PenOk.re (k := Z.k) (k' := ⟨Z.k.cm, Z.k.p, s.heap.objs.size + 1⟩) rfl sr.b.pen) (RepL.re (k := Z.k) (k' := ⟨Z.k.cm, Z.k.p, s.heap.objs.size + 1⟩) rfl rfl rd) h) fun r s' hq => ?_))
  cases r with
  | error e => exact exc_ofM tk lk I2 hβ sr hq
  | ok fl =>
    cases fl with
    | ret u =>
      obtain ⟨v, H', J, rv, ev, G', l, fs, dx, sb, q, gx, hm, rf⟩ := I2.after hq
      subst ev
      refine ⟨rv, ?_⟩
      have sb' := (sb.frz hx gx (sr.b.ne hx) hm)
      exact ⟨.ref (s.heap.objs.size + 1), H', _, J, sr.called (SB.re (k := ⟨Z.k.cm, Z.k.p, s.heap.objs.size + 1⟩) (k' := Z.k) rfl sb'), sb'.g0, rfl, .inl ⟨_, q, .ins upd_same (RepF.re (k := ⟨Z.k.cm, Z.k.p, s.heap.objs.size + 1⟩) (k' := Z.k) rfl rfl (rf.mono (Sub.up gx)))⟩⟩
    | next => exact False.elim hq
    | brk => exact False.elim hq
    | cont => exact False.elim hq
/-- how the arguments of a making bind: by places with defaults -/
structure MkB (K : PySem.W.Frag) (fd : FuncData) (ps : List Str) (dds : List D) : Prop where
  ex : ∃ dvs ds, Vals dvs ds ∧ Binds K fd ps ds ∧ ∀ k G, RepL k G dds dvs
variable {dds : List D} {x : Str} {p pos : Pos} {e : Expr} {es : List Expr} {wl : WL}
theorem run_mkP {pins : List (Addr × Obj)} {σ : L2.St} {G H : Hp} {ρ : Env} {s : Shared} {us : List Value} {vs : List V} {ds : List D} {Q : D → Prop} {E : WN} (M : Mk Z.X.K (Z.k.cm c) f) (F : IniF Z.k.cm Z.X.prog Z.X.w Z.X.K Z.X.mg Z.X.base n c f fd ps sp cs)
    (hr : Room (n + 1) Z.X.A) (hg : Z.X.A.guards = some []) (hβ : β + cs ≤ Z.B) (hb : MkB Z.X.K fd ps dds) (tk : Takes Z.X W) (lk : Lnk Z E W) (I : Inv Z.X pins σ H s) (sr : Z.SR β G H σ ρ) (r : Vals vs us) (rd : RepL Z.k G ds vs) (h : sp (ds ++ dds) (fun _ d => Q d) fun c fs => E c fs ρ) :
    wpAny (model Z.X.prog Z.X.w) Z.X.A (call (.ref (Z.k.cm c)) us) (CallP Z (β + cs) pins σ G H ρ fun _ d => Q d) Z.X.xe s := by
  obtain ⟨dvs, dsv, rv, b, rdd⟩ := hb.ex
  have rd2 : RepL Z.k G (ds ++ dds) (vs ++ dvs) := rd.append (rdd Z.k G)
  have r2 := r.append rv
  refine run_mk M F hr hg hβ tk lk I sr r2 rd2 (fun s' x kin => ?_) h
  have := b s' (.ref x :: us) kin (by
    show (us ++ dsv).length + 1 = _
    rw [← r2.length, ← rd2.length]
    exact F.len _ _ _ h)
  exact this
theorem pf_make (M : Mk Z.X.K (Z.k.cm c) f) (F : IniF Z.k.cm Z.X.prog Z.X.w Z.X.K Z.X.mg Z.X.base n c f fd ps sp cs) (hr : Room (n + 1) Z.X.A) (hg : Z.X.A.guards = some []) (hG : Gl Z.X x) (hm : Z.X.mg x = some (.ref (Z.k.cm c))) (hb : MkB Z.X.K fd ps dds) (ha : PFl Z (e :: es) wl ca)
    (hdb : (x == ("__debug__" : Str)) = false := by decide) (he : starEach (e :: es) Z.X.env = (false, eval e Z.X.env) :: starEach es Z.X.env := by rfl) (hpl : (backTo pos (starEach es Z.X.env)).any (·.1) = false := by rfl) : PF Z (.Call (.Name x p) (e :: es) [] pos) (wCall sp dds wl) (ca + cs) := fun W tk => by
  refine ⟨fun pins s σ H Q I ⟨G, ρ, Qd, E, β, hβ, sr, lk, q, l⟩ => ?_⟩
  refine wpAny_Call_Name_kw (ld_glob I hG hm ?_ hdb)
  refine PySem.W.callWith_K (h₀ := Z.X.base) I.ok.mod.kin M.kp (thn (args_run (pos := pos) ha tk I (by omega) sr lk q) fun us s1 ⟨vs, ds, H1, G1, ρ1, I1, r, s1', g1, rd, q1⟩ => ⟨I1.kIn, ?_⟩) he hpl
  exact thn (run_mkP (Q := fun d => Qd d ρ1) M F hr hg (by omega) hb tk lk I1 s1' r rd q1) fun u s' h => callP_F h fun d v G' H' q' sr' g' r' => l d ρ1 v G' H' q' (sr'.le (by omega)) (g1.trans g') r'
/-- C(e, ..), the class in a slot -/
def wMakeV (i c : Nat) (sp : SpD) (dds : List D) (wl : WL) : W1 := fun ρ Q E => ρ[i]? = some (.va (.cls c)) ∧ wl ρ (fun ds ρ1 => sp (ds ++ dds) (fun _ d => Q d ρ1) (fun c fs => E c fs ρ1)) E
theorem pf_makeV {i : Nat} (hv : PE Z.X (.Name x p) (tVar i)) (M : Mk Z.X.K (Z.k.cm c) f) (F : IniF Z.k.cm Z.X.prog Z.X.w Z.X.K Z.X.mg Z.X.base n c f fd ps sp cs) (hr : Room (n + 1) Z.X.A) (hg : Z.X.A.guards = some []) (hb : MkB Z.X.K fd ps dds) (ha : PFl Z (e :: es) wl ca)
    (he : starEach (e :: es) Z.X.env = (false, eval e Z.X.env) :: starEach es Z.X.env := by rfl) (hpl : (backTo pos (starEach es Z.X.env)).any (·.1) = false := by rfl) : PF Z (.Call (.Name x p) (e :: es) [] pos) (wMakeV i c sp dds wl) (ca + cs) := fun W tk => by
  refine ⟨fun pins s σ H Q I ⟨G, ρ, Qd, E, β, hβ, sr, lk, ⟨hi, q⟩, l⟩ => ?_⟩
  obtain ⟨v, hv1, hv2⟩ := sr.sl i _ hi
  cases hv2
  refine wpAny_Call_Name_kw (thn (hv.run pins s σ H (fun v H1 => v = .ref (Z.k.cm c) ∧ H1 = H) I ⟨_, hv1, rfl, rfl⟩) fun u s1 ⟨v, H1, I1, r1, q1⟩ => ?_)
  obtain ⟨rfl, rfl⟩ := q1
  cases r1
  refine PySem.W.callWith_K (h₀ := Z.X.base) I.ok.mod.kin M.kp (thn (args_run (pos := pos) ha tk I1 (by omega) sr lk q) fun us s1 ⟨vs, ds, H1, G1, ρ1, I1, r, s1', g1, rd, q1⟩ => ⟨I1.kIn, ?_⟩) he hpl
  exact thn (run_mkP (Q := fun d => Qd d ρ1) M F hr hg (by omega) hb tk lk I1 s1' r rd q1) fun u s' h => callP_F h fun d v G' H' q' sr' g' r' => l d ρ1 v G' H' q' (sr'.le (by omega)) (g1.trans g') r'

/-! ## keywords -/
def PFk (Z : Cz) (kws : List Keyword) (w : WL) (c : Nat) : Prop := ∀ W, Takes Z.X W → PK Z.X kws (tFl Z W w c)
theorem _root_.L2.PK.weak {X : Cx} {kws : List Keyword} {t u : TA} (h : PK X kws t) (i : ∀ σ H Q, u σ H Q → t σ H Q) : PK X kws u := ⟨fun pos pins s σ H Q I q => h.run pos pins s σ H Q I (i σ H Q q)⟩
theorem fk_nil : PFk Z [] wNil 0 := fun W t => pk_nil.weak fun σ H Q ⟨G, ρ, Qd, E, β, hb, s, lk, q, l⟩ => l [] ρ [] G H q s Sub.rfl' .nil
theorem fk_cons {w : W1} {nm : Option Str} {kpos : Pos} {kws : List Keyword} (h : PF Z e w ca) (g : PFk Z kws wl cb) : PFk Z (⟨nm, e, kpos⟩ :: kws) (wCons w wl) (ca + cb) := fun W t => (pk_cons (h W t) (g W t)).weak fun σ H Q q => by
  obtain ⟨G, ρ, Qd, E, β, hb, s, lk, q, l⟩ := q
  refine ⟨G, ρ, _, E, β, by omega, s, lk, q, fun d ρ1 v G1 H1 q1 s1 g1 r1 => ?_⟩
  exact ⟨G1, ρ1, _, E, _, by omega, s1, lk, q1, fun ds ρ2 vs G2 H2 q2 s2 g2 r2 => l (d :: ds) ρ2 (v :: vs) G2 H2 q2 (s2.le (by omega)) (g1.trans g2) (.cons (r1.mono g2) r2)⟩
theorem kws_run {W : WX} {σ : L2.St} {H : Hp} {pins : List (Addr × Obj)} {s : Shared} {kws : List Keyword} {G : Hp} {ρ : Env} {Qd : List D → Env → Prop} {E : WN} (ha : PFk Z kws wl ca) (tk : Takes Z.X W) (I : Inv Z.X pins σ H s) (hβ : β + ca ≤ Z.B) (sr : Z.SR β G H σ ρ) (lk : Lnk Z E W) (q : wl ρ Qd E) :
    wpAny (model Z.X.prog Z.X.w) Z.X.A (evalAll ((backToKw pos (keywordEach kws Z.X.env)).map (·.2))) (fun us s1 => ∃ vs ds H1 G1 ρ1, Inv Z.X pins σ H1 s1 ∧ Vals vs us ∧ Z.SR (β + ca) G1 H1 σ ρ1 ∧ Sub G G1 ∧ RepL Z.k G1 ds vs ∧ Qd ds ρ1) Z.X.xe s :=
  thn ((ha W tk).run pos pins s σ H (fun vs H1 => ∃ ds G1 ρ1, Z.SR (β + ca) G1 H1 σ ρ1 ∧ Sub G G1 ∧ RepL Z.k G1 ds vs ∧ Qd ds ρ1) I ⟨G, ρ, Qd, E, β, hβ, sr, lk, q, fun ds ρ1 vs G1 H1 q1 s1 g1 r1 => ⟨ds, G1, ρ1, s1, g1, r1, q1⟩⟩)
    fun us s1 ⟨vs, H1, I1, r, ds, G1, ρ1, s1, g1, r1, q1⟩ => ⟨vs, ds, H1, G1, ρ1, I1, r, s1, g1, r1, q1⟩
/-- how a making with keywords binds: n values by places, the keywords ks; gD: in the parameters' order -/
structure MkK (K : PySem.W.Frag) (fd : FuncData) (ps : List Str) (n : Nat) (ks : List Str) (gD : List D → List D → List D) : Prop where
  to : ∀ (us ws : List Value) (vs zs : List V), us.length = n → ws.length = ks.length → Vals vs us → Vals zs ws →
    ∃ bs bv, (∀ (s : Shared) (x : Addr), K.In s.heap → BindsTo s fd ⟨.ref x :: us, ks.zip ws⟩ (ps.zip (.ref x :: bs))) ∧ Vals bv bs ∧ ∀ k G ds es, RepL k G ds vs → RepL k G es zs → RepL k G (gD ds es) bv
def wMakeK (n m : Nat) (sp : SpD) (gD : List D → List D → List D) (wl wk : WL) : W1 := fun ρ Q E => wl ρ (fun ds ρ1 => wk ρ1 (fun es ρ2 => ds.length = n ∧ es.length = m ∧ sp (gD ds es) (fun _ d => Q d ρ2) (fun c fs => E c fs ρ2)) E) E
end
end FL
set_option Elab.async false
set_option linter.all false
set_option maxRecDepth 100000
set_option maxHeartbeats 4000000
namespace FL
open PySem PySem.Spec PyProof.Rows L2

section
variable {Z : Cz} {a b c e o : Expr} {es : List Expr} {wa wb wc w : W1} {wl wk : WL} {pos p apos : Pos} {ca cb cc co cs : Nat} {x m : Str}
/-! ## names of the module -/
theorem pf_glob {d : D} {v : V} {u : Value} (hg : Gl Z.X x) (hm : Z.X.mg x = some u) (r : RelV v u) (rep : ∀ G, Rep Z.k G d v) (hd : (x == ("__debug__" : Str)) = false := by decide) : PF Z (.Name x pos) (wC d) 0 := pf_const (pe_glob hg hm r hd) rep
theorem pf_gcls {i : Nat} (hg : Gl Z.X x) (hm : Z.X.mg x = some (.ref (Z.k.cm i))) (hd : (x == ("__debug__" : Str)) = false := by decide) : PF Z (.Name x pos) (wC (.cls i)) 0 := pf_glob hg hm (v := .ref (Z.k.cm i)) rfl (fun _ => .cls i) hd
/-- C.f, a constant of a class -/
def wCv (i : Nat) (d : D) (w : W1) : W1 := fun ρ Q E => w ρ (fun x ρ1 => x = .cls i ∧ Q d ρ1) E
theorem pf_cval {i : Nat} {mc : Value} {f : Str} {d : D} {v : V} {u : Value} (he : PF Z e w ca) (r : ClX.CRead Z.X.K (Z.k.cm i) mc) (k : ClX.CVal Z.X.K (Z.k.cm i) mc f v u) (rep : ∀ G, Rep Z.k G d v)
    (hb : attributeBase e f Z.X.env (eval e Z.X.env) = eval e Z.X.env := by rfl) : PF Z (.Attribute e f pos) (wCv i d w) ca := fun W t => (ClX.pe_cval (he W t) hb).weak fun σ H Q ⟨G, ρ, Qd, E, β, hb, s, lk, q, l⟩ =>
  ⟨G, ρ, _, E, β, hb, s, lk, q, fun y ρ1 v' G1 H1 q1 s1 g1 r1 => by
    obtain ⟨rfl, q1⟩ := q1
    cases r1
    exact ⟨_, _, _, _, rfl, r, k, l d ρ1 v G1 H1 q1 s1 g1 (rep _)⟩⟩

/-! ## methods read off a class -/
/-- C.m is a staticmethod: its record at p, its def at g -/
structure SMet (K : PySem.W.Frag) (C : Addr) (mc : Value) (m : Str) (p g : Addr) : Prop where
  at_ : PySem.W.findCls K (.ref C) mc m = some (.get (.builtin "staticmethod.__get__") (.ref p) .none (.ref C))
  rc : ∃ rest, PySem.W.recIn K p "staticmethod" = some (.ref g :: rest)
  kp : PySem.W.keepIn K (.ref g) = true
def wCls (i : Nat) (sp : SpD) (dds : List D) (w : W1) (wl : WL) : W1 := fun ρ Q E => w ρ (fun x ρ1 => x = .cls i ∧ wl ρ1 (fun ds ρ2 => sp (ds ++ dds) (fun _ d => Q d ρ2) (fun c fs => E c fs ρ2)) E) E
theorem getmeth_sm {A : Around} {E : Value → Shared → Prop} {Q : Value × List Value → Shared → Prop} {pins : List (Addr × Obj)} {σ : L2.St} {H : Hp} {s : Shared} {X : Cx} {C p g : Addr} {mc : Value} {pl : Sem Bool} (I : Inv X pins σ H s) (r : ClX.CRead X.K C mc) (c : SMet X.K C mc m p g)
    (h : ∀ s', Inv X pins σ H s' → Q (.ref g, []) s') : wpAny (model X.prog X.w) A (getMethod (.ref C) m pl) Q E s := by
  obtain ⟨m', F⟩ := I.fr
  obtain ⟨rest, hrec⟩ := c.rc
  refine PySem.W.method_cls I.kIn r.ga ?_
  refine PySem.W.cls_bind I.kIn r.rd c.at_ (wpAny_call (PySem.W.sm_get (s := { s with toks := s.toks + 1 }) I.kIn hrec (PySem.W.handed_on rfl ?_)))
  exact h _ (I.tok _)
theorem pf_smeth {i n : Nat} {f pr : Addr} {fd : FuncData} {ps : List Str} {sp : SpD} {dds : List D} {mc : Value} {pl : Sem Bool} (he : PF Z o w co) (r : ClX.CRead Z.X.K (Z.k.cm i) mc) (hm : SMet Z.X.K (Z.k.cm i) mc m pr f) (F : FnF Z.k.cm Z.X.prog Z.X.w Z.X.K Z.X.mg Z.X.base n f fd ps sp cs) (hr : Room n Z.X.A) (hg : Z.X.A.guards = some []) (hd : Dfl Z.X Z.k fd ps dds) (ha : PFl Z (e :: es) wl ca)
    (hst : starEach (e :: es) Z.X.env = (false, eval e Z.X.env) :: starEach es Z.X.env := by rfl) (hpl : (backTo pos (starEach es Z.X.env)).any (·.1) = false := by rfl)
    (ht : eval (.Call (.Attribute o m apos) (e :: es) [] pos) Z.X.env = (do
      let ov ← eval o Z.X.env
      standAt apos.atName
      let (f, first) ← holding [ov] (getMethod ov m pl)
      callWith pos f first (backTo pos (starEach (e :: es) Z.X.env)) (backToKw pos (keywordEach [] Z.X.env))) := by rfl) : PF Z (.Call (.Attribute o m apos) (e :: es) [] pos) (wCls i sp dds w wl) (co + ca + cs) := fun W tk => by
  refine ⟨fun pins s σ H Q I ⟨G, ρ, Qd, E, β, hβ, sr, lk, q, l⟩ => ?_⟩
  refine PySem.W.methodCall_KW (pl := pl) (thn (val_run he tk I (by omega) sr lk q) fun u s1 ⟨v, d, H1, G1, ρ1, I1, rv, s1', g1, r1, q1⟩ => ?_) ht
  obtain ⟨rfl, q1⟩ := q1
  cases r1
  obtain rfl : u = Value.ref _ := rv
  refine getmeth_sm I1 r hm fun s2 I2 => ?_
  refine PySem.W.callWith_K (first := []) (h₀ := Z.X.base) I.ok.mod.kin hm.kp (thn (args_run (pos := pos) ha tk I2 (by omega) s1' lk q1) fun us s3 ⟨vs, ds, H2, G2, ρ2, I3, r2, s2', g2, rd, q2⟩ => ⟨I3.kIn, ?_⟩) hst hpl
  refine thn (run_call (us := us) (vs := vs) (ds := ds) (Q := fun _ d => Qd d ρ2) F hr hg (by omega) hd tk lk I3 s2' r2 rd q2) fun u s' h => ?_
  exact callP_F h fun d v G' H' q' sr' g' r' => l d ρ2 v G' H' q' (sr'.le (by omega)) ((g1.trans g2).trans g') r'
/-- C.m(e, ..), m a classmethod -/
def wClm (i : Nat) (sp : SpD) (dds : List D) (w : W1) (wl : WL) : W1 := fun ρ Q E => w ρ (fun x ρ1 => x = .cls i ∧ wl ρ1 (fun ds ρ2 => sp (.cls i :: (ds ++ dds)) (fun _ d => Q d ρ2) (fun c fs => E c fs ρ2)) E) E
theorem unpin_callP {γ : Nat} {q : Addr × Obj} {pins : List (Addr × Obj)} {σ : L2.St} {G H : Hp} {ρ : Env} {Q : Bool → D → Prop} {u : Value} {s' : Shared} (h : CallP Z γ (q :: pins) σ G H ρ Q u s') : CallP Z γ pins σ G H ρ Q u s' := by
  obtain ⟨v, H', G', J, r⟩ := h
  exact ⟨v, H', G', ClX.unpin J, r⟩
theorem pf_clmeth {i n : Nat} {f pr : Addr} {fd : FuncData} {ps : List Str} {sp : SpD} {dds : List D} {mc : Value} {pl : Sem Bool} (he : PF Z o w co) (r : ClX.CRead Z.X.K (Z.k.cm i) mc) (hm : ClX.CMet Z.X.K (Z.k.cm i) mc m pr f) (F : FnF Z.k.cm Z.X.prog Z.X.w Z.X.K Z.X.mg Z.X.base n f fd ps sp cs) (hr : Room n Z.X.A) (hg : Z.X.A.guards = some []) (hd : Dfl Z.X Z.k fd ps dds) (ha : PFl Z (e :: es) wl ca)
    (hst : starEach (e :: es) Z.X.env = (false, eval e Z.X.env) :: starEach es Z.X.env := by rfl) (hpl : (backTo pos (starEach es Z.X.env)).any (·.1) = false := by rfl)
    (ht : eval (.Call (.Attribute o m apos) (e :: es) [] pos) Z.X.env = (do
      let ov ← eval o Z.X.env
      standAt apos.atName
      let (f, first) ← holding [ov] (getMethod ov m pl)
      callWith pos f first (backTo pos (starEach (e :: es) Z.X.env)) (backToKw pos (keywordEach [] Z.X.env))) := by rfl) : PF Z (.Call (.Attribute o m apos) (e :: es) [] pos) (wClm i sp dds w wl) (co + ca + cs) := fun W tk => by
  refine ⟨fun pins s σ H Q I ⟨G, ρ, Qd, E, β, hβ, sr, lk, q, l⟩ => ?_⟩
  refine PySem.W.methodCall_KW (pl := pl) (thn (val_run he tk I (by omega) sr lk q) fun u s1 ⟨v, d, H1, G1, ρ1, I1, rv, s1', g1, r1, q1⟩ => ?_) ht
  obtain ⟨rfl, q1⟩ := q1
  cases r1
  obtain rfl : u = Value.ref _ := rv
  refine ClX.getmethcm_ok I1 r hm fun s2 I2 => ?_
  refine ClX.callwith_cm I2 (ClX.base_none I1 (Nat.le_refl _)) hm.fi (thn (args_run (pos := pos) ha tk I2 (by omega) s1' lk q1) fun us s3 ⟨vs, ds, H2, G2, ρ2, I3, r2, s2', g2, rd, q2⟩ => ⟨⟨ClX.pin_at I3, I3.kIn⟩, ?_⟩) hst hpl
  refine wpAny_call (PySem.W.method_call (ClX.pin_at I3) ?_)
  refine codeAny_mono (code_call (us := .ref _ :: us) (vs := .ref _ :: vs) (ds := .cls i :: ds) (Q := fun _ d => Qd d ρ2) F hr hg (by omega) hd tk lk I3 s2' (.cons rfl r2) (.cons (.cls i) rd) q2) fun r s' h => ?_
  cases r with
  | error e => exact h
  | ok fl =>
    cases fl with
    | ret u => exact callP_F (unpin_callP h) fun d v G' H' q' sr' g' r' => l d ρ2 v G' H' q' (sr'.le (by omega)) ((g1.trans g2).trans g') r'
    | next => exact False.elim h
    | brk => exact False.elim h
    | cont => exact False.elim h
end
end FL
set_option Elab.async false
set_option linter.all false
set_option maxRecDepth 100000
set_option maxHeartbeats 4000000
namespace FL
open PySem PySem.Spec PyProof.Rows L2

section
variable {Z : Cz} {a b c e o : Expr} {es : List Expr} {wa wb wc w : W1} {wl wk : WL} {pos p apos : Pos} {ca cb cc co cs : Nat} {x m : Str}
/-! ## keywords at a making -/
theorem MkK.of {K : PySem.W.Frag} {fd : FuncData} {ps ks : List Str} {n : Nat} {g : List Value → List Value → List Value} {gV : List V → List V → List V} {gD : List D → List D → List D} (h : KBn K fd ps (n + 1) ks g gV) (hg : ∀ x us ws, g (x :: us) ws = x :: g us ws)
    (hr : ∀ {vs us zs ws}, Vals vs us → Vals zs ws → Vals (gV vs zs) (g us ws)) (hd : ∀ k G ds es vs zs, RepL k G ds vs → RepL k G es zs → RepL k G (gD ds es) (gV vs zs)) : MkK K fd ps n ks gD :=
  ⟨fun us ws vs zs l1 l2 r rz => ⟨g us ws, gV vs zs, fun s x kin => by
    have := h.to s (.ref x :: us) ws kin (by rw [List.length_cons, l1]) l2
    rwa [hg] at this, hr r rz, fun k G ds es rd re => hd k G ds es vs zs rd re⟩⟩
theorem pf_makeK {i n n0 : Nat} {f : Addr} {fd : FuncData} {ps ks : List Str} {sp : SpD} {gD : List D → List D → List D} {kws : List Keyword} (M : Mk Z.X.K (Z.k.cm i) f) (F : IniF Z.k.cm Z.X.prog Z.X.w Z.X.K Z.X.mg Z.X.base n i f fd ps sp cs) (hr : Room (n + 1) Z.X.A) (hg : Z.X.A.guards = some [])
    (hG : Gl Z.X x) (hm : Z.X.mg x = some (.ref (Z.k.cm i))) (hb : MkK Z.X.K fd ps n0 ks gD) (ha : PFl Z (e :: es) wl ca) (hk : PFk Z kws wk cb)
    (hall : (backToKw pos (keywordEach kws Z.X.env)).all (·.1.isSome) = true := by rfl) (hks : (backToKw pos (keywordEach kws Z.X.env)).filterMap (·.1) = ks := by rfl) (hdb : (x == ("__debug__" : Str)) = false := by decide)
    (he : starEach (e :: es) Z.X.env = (false, eval e Z.X.env) :: starEach es Z.X.env := by rfl) (hpl : ((backTo pos (starEach (e :: es) Z.X.env)).any (·.1) || (backToKw pos (keywordEach kws Z.X.env)).any (·.1.isNone)) = false := by rfl) :
    PF Z (.Call (.Name x p) (e :: es) kws pos) (wMakeK n0 ks.length sp gD wl wk) (ca + cb + cs) := fun W tk => by
  refine ⟨fun pins s σ H Q I ⟨G, ρ, Qd, E, β, hβ, sr, lk, q, l⟩ => ?_⟩
  refine wpAny_Call_Name_kw (ld_glob I hG hm ?_ hdb)
  refine PySem.W.callWith_KW (h₀ := Z.X.base) I.ok.mod.kin M.kp hall (thn (args_run (pos := pos) ha tk I (by omega) sr lk q) fun us s1 ⟨vs, ds, H1, G1, ρ1, I1, r, s1', g1, rd, q1⟩ => ?_) hpl he
  refine thn (kws_run (pos := pos) hk tk I1 (by omega) s1' lk q1) fun ws s2 ⟨zs, es', H2, G2, ρ2, I2, rz, s2', g2, re, q2⟩ => ⟨I2.kIn, ?_⟩
  rw [hks]
  obtain ⟨l1, l2, q3⟩ := q2
  have L1 : us.length = n0 := by rw [← r.length, ← rd.length]; exact l1
  have L2 : ws.length = ks.length := by rw [← rz.length, ← re.length]; exact l2
  obtain ⟨bs, bv, hbd, rb, rr⟩ := hb.to us ws vs zs L1 L2 r rz
  exact thn (run_mk (Q := fun d => Qd d ρ2) M F hr hg (by omega) tk lk I2 s2' rb (rr _ _ _ _ (rd.mono g2) re) hbd q3) fun u s' h => callP_F h fun d v G' H' q' sr' g' r' => l d ρ2 v G' H' q' (sr'.le (by omega)) ((g1.trans g2).trans g') r'

/-! ## isinstance -/
def tyD (cm : Nat → Addr) : D → Option Value
  | .non => some (.type "NoneType")
  | .bl _ => some (.type "bool")
  | .int _ => some (.type "int")
  | .str _ => some (.type "str")
  | .tup _ => some (.type "tuple")
  | .lst _ => some (.type "list")
  | .dct _ => some (.type "dict")
  | .ins c _ => some (.ref (cm c))
  | _ => none
/-- an own class whose objects may be asked for their type -/
structure InsTy (K : PySem.W.Frag) (C : Addr) : Prop where
  cl : Cls K C
  ha : PySem.W.findIn K (.ref C) "__class__" = some (some (.builtin "object.__class__"))
  hn : PySem.W.specialIn K (.builtin "object.__class__") "__get__" = some (some (.builtin "getset_descriptor.__get__"))
  htk : PySem.W.takesIn K (.builtin "object.__class__") = some true
  hm : PySem.W.mroIn K C (.type "object") = some true
/-- isinstance(x, u) is told by g, over trees -/
def IsK (K : PySem.W.Frag) (cm : Nat → Addr) (u : Value) (g : D → Option Bool) : Prop := ∀ d b, g d = some b → ∃ t, tyD cm d = some t ∧ PySem.W.kitOne K t u = some b ∧ ∀ c l, d = .ins c l → InsTy K (cm c)
theorem tyX_of {K : PySem.W.Frag} {k : Kx} {G H : Hp} {d : D} {v : V} {t : Value} (s : Sub G H) (r : Rep k G d v) (h : tyD k.cm d = some t) (hi : ∀ c l, d = .ins c l → InsTy K (k.cm c)) : TyX K H v t := by
  cases r with
  | ins e r =>
    cases h
    have i := hi _ _ rfl
    exact .base (.ins (s _ _ e) i.cl i.ha i.hn i.htk i.hm)
  | non => cases h; exact .base .non
  | bl => cases h; exact .base (.bl _)
  | int => cases h; exact .base (.int _)
  | str => cases h; exact .base (.str _)
  | tup e _ => cases h; exact .base (.tup (s _ _ e))
  | lst e _ => cases h; exact .base (.lst (s _ _ e))
  | dct e _ => cases h; exact .base (.dK (s _ _ e))
  | cls => cases h
  | pen => cases h
def wIsi (g : D → Option Bool) (w : W1) : W1 := fun ρ Q E => w ρ (fun d ρ1 => ∃ b, g d = some b ∧ Q (.bl b) ρ1) E
theorem pf_isi {g : D → Option Bool} {xc : Expr} {c : V} {u : Value} (hg : Gl Z.X "isinstance") (hm : Z.X.mg "isinstance" = none) (he : PF Z e w ca) (hc : PE Z.X xc (tC c)) (hv : ClsV c u) (hk : IsK Z.X.K Z.k.cm u g)
    (hst : starEach (e :: [xc]) Z.X.env = (false, eval e Z.X.env) :: starEach [xc] Z.X.env := by rfl) (hst2 : starEach (xc :: []) Z.X.env = (false, eval xc Z.X.env) :: starEach [] Z.X.env := by rfl)
    (hpl : (backTo pos (starEach [xc] Z.X.env)).any (·.1) = false := by rfl) : PF Z (.Call (.Name "isinstance" p) (e :: [xc]) [] pos) (wIsi g w) ca := fun W tk =>
  (pe_callB call_isi hg hm rfl (pa_cons (he W tk) (pa_cons hc pa_nil hst2) hst) (by decide) (by decide) hst hpl).weak fun σ H Q ⟨G, ρ, Qd, E, β, hβ, sr, lk, q, l⟩ => by
    refine ⟨G, ρ, _, E, β, hβ, sr, lk, q, fun d ρ1 v G1 H1 q1 s1 g1 r1 => ?_⟩
    obtain ⟨b, hb, q1⟩ := q1
    obtain ⟨t, h1, h2, h3⟩ := hk d b hb
    exact ⟨v, c, t, u, b, rfl, hv, tyX_of s1.b.sub r1 h1 h3, h2, l (.bl b) ρ1 (.bl b) G1 H1 q1 s1 g1 (.bl b)⟩
theorem pf_isT {g : D → Option Bool} {T : Str} {n : String} {tp : Pos} (hg : Gl Z.X "isinstance") (hm : Z.X.mg "isinstance" = none) (he : PF Z e w ca) (hgT : Gl Z.X T) (hmT : Z.X.mg T = none) (hv : bootBuiltins T = some (.type n)) (hk : IsK Z.X.K Z.k.cm (.type n) g)
    (hn : T ≠ "__name__" := by decide) (hdb : (T == ("__debug__" : Str)) = false := by decide)
    (hst : starEach (e :: [.Name T tp]) Z.X.env = (false, eval e Z.X.env) :: starEach [.Name T tp] Z.X.env := by rfl) : PF Z (.Call (.Name "isinstance" p) (e :: [.Name T tp]) [] pos) (wIsi g w) ca :=
  pf_isi hg hm he (pe_bltn (v := .ty n) hgT hmT hv rfl hn hdb) (.ty n) hk hst
theorem pf_isC {g : D → Option Bool} {T : Str} {C : Addr} {tp : Pos} (hg : Gl Z.X "isinstance") (hm : Z.X.mg "isinstance" = none) (he : PF Z e w ca) (hgT : Gl Z.X T) (hmT : Z.X.mg T = some (.ref C)) (hk : IsK Z.X.K Z.k.cm (.ref C) g)
    (hdb : (T == ("__debug__" : Str)) = false := by decide)
    (hst : starEach (e :: [.Name T tp]) Z.X.env = (false, eval e Z.X.env) :: starEach [.Name T tp] Z.X.env := by rfl) : PF Z (.Call (.Name "isinstance" p) (e :: [.Name T tp]) [] pos) (wIsi g w) ca :=
  pf_isi hg hm he (pe_glob (v := .ref C) hgT hmT rfl hdb) (.own C) hk hst

/-! ## chains, in, is, all -/
def w3 (o o' : WO) (wa wb wc : W1) : W1 := fun ρ Q E => wa ρ (fun x ρ1 => wb ρ1 (fun y ρ2 => o x y fun z => asB z fun k => if k = true then wc ρ2 (fun u ρ3 => o' y u fun d => Q d ρ3) E else Q (.bl false) ρ2) E) E
theorem tF_chain {W : WX} {r r' : R2} {o o' : WO} (h : OpD Z r o) (h' : OpD Z r' o') (σ : L2.St) (H : Hp) (Q : VK) (q : tF Z W (w3 o o' wa wb wc) (ca + cb + cc) σ H Q) : tChain r r' (tF Z W wa ca) (tF Z W wb cb) (tF Z W wc cc) σ H Q := by
  obtain ⟨G, ρ, Qd, E, β, hβ, s, lk, q, l⟩ := q
  refine ⟨G, ρ, _, E, β, by omega, s, lk, q, fun x ρ1 v G1 H1 q1 s1 g1 r1 => ?_⟩
  refine ⟨G1, ρ1, _, E, _, by omega, s1, lk, q1, fun y ρ2 u G2 H2 q2 s2 g2 r2 => ?_⟩
  refine h σ ρ2 G2 H2 x y v u _ _ _ s2 (r1.mono g2) r2 q2 fun d v' G3 H3 q3 s3 g3 r3 => ?_
  obtain ⟨k, rfl, q3⟩ := q3.ex
  cases r3
  refine ⟨k, rfl, ?_⟩
  cases k with
  | false => exact l _ _ _ G3 H3 q3 (s3.le (by omega)) ((g1.trans g2).trans g3) (.bl false)
  | true =>
    refine ⟨G3, ρ2, _, E, _, by omega, s3, lk, q3, fun z ρ4 t G4 H4 q4 s4 g4 r4 => ?_⟩
    exact h' σ ρ4 G4 H4 y z u t _ Q _ s4 (r2.mono (g3.trans g4)) r4 q4 fun d v' G5 H5 q5 s5 g5 r5 => l d ρ4 v' G5 H5 q5 (s5.le (by omega)) ((((g1.trans g2).trans g3).trans g4).trans g5) r5
theorem pf_chain {op op' : CmpOp} {r r' : R2} {o o' : WO} (ho : OpR Z.X (compareOp op) r) (ho' : OpR Z.X (compareOp op') r') (h : OpD Z r o) (h' : OpD Z r' o') (ha : PF Z a wa ca) (hb : PF Z b wb cb) (hc : PF Z c wc cc)
    (hm : lastMarks [op, op'] [b, c] = false := by with_unfolding_all rfl) : PF Z (.Compare a [op, op'] [b, c] pos) (w3 o o' wa wb wc) (ca + cb + cc) := fun W t => (pe_chain ho ho' (ha W t) (hb W t) (hc W t) hm).weak (tF_chain h h')
theorem pt_chainD {op op' : CmpOp} {r r' : R2} {o o' : WO} (ho : OpR Z.X (compareOp op) r) (ho' : OpR Z.X (compareOp op') r') (h : OpD Z r o) (h' : OpD Z r' o') (ha : PF Z a wa ca) (hb : PF Z b wb cb) (hc : PF Z c wc cc)
    (hm : lastMarks [op, op'] [b, c] = false := by with_unfolding_all rfl) : PFt Z (.Compare a [op, op'] [b, c] pos) (wTst (w3 o o' wa wb wc)) (ca + cb + cc) :=
  fun W t => (pt_chain ho ho' (ha W t) (hb W t) (hc W t) hm).weak fun σ H Q q => tF_chain h h' σ H _ (tFt_of σ H Q q)
/-- a sign in a text -/
def oInS : WO := fun x y Q => match x, y with
  | .str c, .str z => ∃ n, c = ⟨#[n]⟩ ∧ Q (.bl (decide (n ∈ z.cps.toList)))
  | _, _ => False
theorem opd_inS : OpD Z (fun x y H Q => ∃ (c : Nat) (z : Str), x = .str ⟨#[c]⟩ ∧ y = .str z ∧ Q (.bl (decide (c ∈ z.cps.toList))) H) oInS := .scal fun G H x y v u Qd Q s rx ry q l => by
  cases rx <;> cases ry <;> first
    | (obtain ⟨n, rfl, q⟩ := q; exact ⟨n, _, rfl, rfl, l _ _ q (.bl _)⟩)
    | exact False.elim q
def oIsB : WO := fun x y Q => match x, y with
  | .bl a, .bl b => Q (.bl (decide (a = b)))
  | _, _ => False
def oNotB : WO := fun x y Q => match x, y with
  | .bl a, .bl b => Q (.bl (!decide (a = b)))
  | _, _ => False
theorem opd_isB : OpD Z rIsB oIsB := .scal fun G H x y v u Qd Q s rx ry q l => by
  cases rx <;> cases ry <;> first
    | exact ⟨_, _, rfl, rfl, l _ _ q (.bl _)⟩
    | exact False.elim q
theorem opd_notB : OpD Z rNotB oNotB := .scal fun G H x y v u Qd Q s rx ry q l => by
  cases rx <;> cases ry <;> first
    | exact ⟨_, _, rfl, rfl, l _ _ q (.bl _)⟩
    | exact False.elim q
theorem RepL.bls {k : Kx} {G : Hp} : ∀ {bs : List Bool} {vs : List V}, RepL k G (bs.map D.bl) vs → vs = bs.map V.bl
  | [], _, h => by cases h; rfl
  | n :: ns, _, h => by
    cases h with
    | cons r t => cases r; rw [RepL.bls t]; rfl
def oAll : WC := fun xs Q => ∃ bs : List Bool, xs = [.lst (bs.map .bl)] ∧ Q (.bl (bs.all id))
def oAny : WC := fun xs Q => ∃ bs : List Bool, xs = [.lst (bs.map .bl)] ∧ Q (.bl (bs.any id))
theorem cal_all : CalD Z (rAll Z.X.K) oAll := .scal fun G H xs vs Qd Q s r ⟨bs, e, q⟩ l => by
  subst e
  obtain ⟨v, rfl, r1⟩ := r.inv1
  cases r1 with
  | lst e t => exact ⟨_, bs, rfl, by rw [← t.bls]; exact seqL s e, l _ _ q (.bl _)⟩
theorem cal_any : CalD Z (rAny Z.X.K) oAny := .scal fun G H xs vs Qd Q s r ⟨bs, e, q⟩ l => by
  subst e
  obtain ⟨v, rfl, r1⟩ := r.inv1
  cases r1 with
  | lst e t => exact ⟨_, bs, rfl, by rw [← t.bls]; exact seqL s e, l _ _ q (.bl _)⟩
end
end FL
set_option Elab.async false
set_option linter.all false
set_option maxRecDepth 100000
set_option maxHeartbeats 4000000
namespace FL
open PySem PySem.Spec PyProof.Rows L2

/-! ## == and != of own objects with an own __eq__ -/
section
variable {M : Model} {prog : Program} {w : World} {A : Around} {E : Value → Shared → Prop} {s : Shared} {K : PySem.W.Frag} {x C f : Addr} {b tb : Value} {ox : Obj} {od : Option Obj}
theorem bound_ne {args : List Value} {Q : Option Value → Shared → Prop} (X : K.In s.heap) (I : PySem.W.InstAt s.heap x ox C od) (hs : PySem.W.findIn K (.ref C) "__ne__" = some (some (.builtin "object.__ne__")))
    (h : wpAny M A (call (.builtin "object.__ne__") (.ref x :: args)) (fun v => Q (some v)) E s) : wpAny M A (callSpecialIfBound? (.ref x) "__ne__" args) Q E s := by
  simp only [callSpecialIfBound?, bindSpecialIfBound?]
  refine wpAny_holding (wpAny_bind (wpAny_bind (wpAny_bind (I.type.here ((PySem.W.looks_findIn X hs).here ?_)))))
  refine wpAny_bind (wpAny_askSetting (wpAny_ite ?_))
  have last : wpAny M A (call (.builtin "object.__ne__") ([.ref x] ++ args) >>= fun v => pure (some v)) Q E s := wpAny_bind (wpAny_mono h (fun v s' h' => wpAny_pure h') fun _ _ h' => h')
  split
  · exact wpAny_bind (wpAny_of_eq (F.cmp_object.ne.bind _) (wpAny_pure (by exact last)))
  · exact wpAny_tryCatch (wpAny_bind (wpAny_of_eq (F.cmp_object.ne.bind _) (wpAny_pure (by exact last))))
/-- the answer of an own __eq__ is a bool, and Q has its negation -/
def NegB (Q : Value → Shared → Prop) (v : Value) (s' : Shared) : Prop := ∃ c, v = .bool c ∧ Q (.bool (!c)) s'
theorem ne_entry {Q : Fin → Shared → Prop} (hu : A.units < cLine) (X : K.In s.heap) (I : PySem.W.InstAt s.heap x ox C od) (hs : PySem.W.findIn K (.ref C) "__eq__" = some (some (.ref f))) (hf : PySem.W.isFn K (.ref f) = true)
    (h : wpAny (model prog w) A (call (.ref f) [.ref x, b]) (fun v s' => ∃ c, v = .bool c ∧ Q (.done (.ret (.bool (!c)))) s') E s) : wpAny (model prog w) A (Builtin.«object.__ne__» ⟨[.ref x, b], []⟩) Q E s := by
  unfold Builtin.«object.__ne__»
  repeat (first
    | with_reducible refine wpAny_cRoomFor hu ?_
    | (refine wpAny_bind (m := callSpecialIfBound? (.ref x) (Str.ofString "__eq__") [b])
        (PySem.W.ifBound_K X I hs hf (wpAny_mono h (fun r s' hr => by
          obtain ⟨b, rfl, hq⟩ := hr
          repeat (first | exact hq | exact wpAny_pure hq | exact wpAny_truthy_bool hq | (refine wpAny_bind (m := truthy (.bool _)) (wpAny_truthy_bool ?_)) | wp_step)) fun _ _ e => e)))
    | wp_step)
theorem try_ne {Q : Option Value → Shared → Prop} (hu : A.units + 1 < cLine) (X : K.In s.heap) (I : PySem.W.InstAt s.heap x ox C od) (hs : PySem.W.findIn K (.ref C) "__eq__" = some (some (.ref f))) (hf : PySem.W.isFn K (.ref f) = true)
    (hn : PySem.W.findIn K (.ref C) "__ne__" = some (some (.builtin "object.__ne__"))) (hm : PySem.W.mroIn K C (.type "object") = some true)
    (h : wpAny (model prog w) A.in1 (call (.ref f) [.ref x, b]) (NegB fun v => Q (some v)) E s) : wpAny (model prog w) A (tryCompare (.ref x) "__ne__" b) Q E s := by
  unfold tryCompare
  refine wpAny_bind (bound_ne X I hn (wpAny_call (codeAny_call_builtin F.cmp_object.ne.plain F.cmpEntry_ne (PySem.W.check_slot F.cmpKind_ne F.cmpSplit_ne (I.type.andThen (PySem.W.looks_mroIn X hm)) (F.cmpArgs_ne _ _)
    (ne_entry (A := A.in1) hu X I hs hf (wpAny_mono h (fun v s' hv => ?_) fun _ _ e => e))))))
  obtain ⟨c, rfl, hq⟩ := hv
  first | exact ⟨c, rfl, wpAny_pure hq⟩ | exact ⟨c, rfl, wpAny_pure (wpAny_pure hq)⟩ | exact ⟨c, rfl, hq⟩
theorem rich_ne {Q : Value → Shared → Prop} (hu : A.units + 1 < cLine) (X : K.In s.heap) (I : PySem.W.InstAt s.heap x ox C od) (hb : PySem.W.Looks (model prog w) s.heap (typeOf b) tb) (hnf : PySem.W.notFirst K C tb = true)
    (hs : PySem.W.findIn K (.ref C) "__eq__" = some (some (.ref f))) (hf : PySem.W.isFn K (.ref f) = true)
    (hn : PySem.W.findIn K (.ref C) "__ne__" = some (some (.builtin "object.__ne__"))) (hm : PySem.W.mroIn K C (.type "object") = some true)
    (h : wpAny (model prog w) A.in1 (call (.ref f) [.ref x, b]) (NegB Q) E s) : wpAny (model prog w) A (richCompare .NotEq (.ref x) b) Q E s := by
  have one : wpAny (model prog w) A (tryCompare (.ref x) (cmpInfo .NotEq).2.1 b) (fun r s' => ∃ v, r = some v ∧ Q v s') E s :=
    try_ne hu X I hs hf hn hm (wpAny_mono h (fun v s' ⟨c, e, q⟩ => ⟨c, e, _, rfl, q⟩) fun _ _ e => e)
  unfold richCompare
  simp only [oneThing_ref]
  refine wpAny_holding (wpAny_bind (wpAny_cRoomFor (Nat.lt_of_succ_lt hu) ?_))
  refine wpAny_bind (I.type.here (wpAny_bind (hb.here ?_)))
  split
  · rename_i q
    have e : PySem.W.subIn K tb (.ref C) = some false := by
      rcases Bool.or_eq_true_iff.mp hnf with e | e
      · rw [beq_iff_eq.mp e] at q; simp at q
      · exact beq_iff_eq.mp e
    refine wpAny_bind ((PySem.W.looks_subIn X e).here ?_)
    simp only [Bool.false_eq_true, if_false]
    refine wpAny_bind (wpAny_mono one (fun r s' z => ?_) fun _ _ e => e)
    obtain ⟨v, rfl, hq⟩ := z
    exact wpAny_pure hq
  · refine wpAny_bind (wpAny_pure ?_)
    simp only [Bool.false_eq_true, if_false]
    refine wpAny_bind (wpAny_mono one (fun r s' z => ?_) fun _ _ e => e)
    obtain ⟨v, rfl, hq⟩ := z
    exact wpAny_pure hq
end
/-- what the text says of a class with an own == (okD: what it may be compared with) -/
structure EqK (K : PySem.W.Frag) (cm : Nat → Addr) (c : Nat) (f : Addr) (okD : D → Prop) : Prop where
  eq : PySem.W.findIn K (.ref (cm c)) "__eq__" = some (some (.ref f))
  fn : PySem.W.isFn K (.ref f) = true
  ne : PySem.W.findIn K (.ref (cm c)) "__ne__" = some (some (.builtin "object.__ne__"))
  mo : PySem.W.mroIn K (cm c) (.type "object") = some true
  ok : ∀ d, okD d → ∃ t, tyD cm d = some t ∧ PySem.W.notFirst K (cm c) t = true ∧ ∀ c l, d = .ins c l → InsTy K (cm c)
section
variable {Z : Cz} {n c cs ca cb : Nat} {f : Addr} {fd : FuncData} {ps : List Str} {sp : SpD} {okD : D → Prop} {a b : Expr} {wa wb : W1} {pos : Pos}
def rEqK (Z : Cz) (c cs : Nat) (sp : SpD) (okD : D → Prop) (g : Bool → Bool) : R2 := fun x y H Q => ∃ (G : Hp) (β : Nat) (l : List (Str × D)) (dy : D) (QB : Bool → Prop), β + cs ≤ Z.B ∧ Sub G H ∧ PenOk Z.k β G H ∧ Rep Z.k G (.ins c l) x ∧ Rep Z.k G dy y ∧ okD dy ∧
  sp [.ins c l, dy] (fun _ d => asB d QB) (fun _ _ => False) ∧ ∀ b G' H', QB b → SB Z.k G H (β + cs) G' H' → Q (.bl (g b)) H'
theorem run_eqK {A : Around} {pins : List (Addr × Obj)} {σ : L2.St} {H G : Hp} {s : Shared} {x u : Value} {v1 v2 : V} {d1 d2 : D} {β : Nat} {QB : Bool → Prop} (F : FnF Z.k.cm Z.X.prog Z.X.w Z.X.K Z.X.mg Z.X.base n f fd ps sp cs) (hb : Binds Z.X.K fd ps []) (hr : Room n A) (hg : A.guards = some [])
    (hA : Env0 Z.X.prog Z.X.w Z.X.K Z.X.mg Z.X.base A Z.X.stack s H) (I : Inv Z.X pins σ H s) (hβ : β + cs ≤ Z.B) (s0 : Sub G H) (po : PenOk Z.k β G H) (r1 : RelV v1 x) (r2 : RelV v2 u) (d1r : Rep Z.k G d1 v1) (d2r : Rep Z.k G d2 v2) (q : sp [d1, d2] (fun _ d => asB d QB) (fun _ _ => False)) :
    wpAny (model Z.X.prog Z.X.w) A (call (.ref f) [x, u]) (fun v s' => ∃ b G' H', v = .bool b ∧ QB b ∧ SB Z.k G H (β + cs) G' H' ∧ Inv Z.X pins σ H' s') Z.X.xe s := by
  have hl : [x, u].length = ps.length := by rw [← F.len _ _ _ q]; rfl
  refine wpAny_call (codeAny_mono (F.run A Z.X.stack s Z.k.p Z.k.me G H ⟨[x, u], []⟩ [x, u] [v1, v2] [d1, d2] _ _ β (Nat.le_trans hβ Z.hB) hr hg hA (by
      have := hb s [x, u] I.kIn hl
      rwa [List.append_nil] at this) (.cons r1 (.cons r2 .nil)) s0 po (.cons d1r (.cons d2r .nil)) q) fun r s' hq => ?_)
  cases r with
  | error er =>
    obtain ⟨_, _, _, _, _, _, _, _, _, _, _, _, z⟩ := hq
    obtain ⟨_, _, _, _, _, _, z⟩ := z
    exact z.elim
  | ok fl =>
    cases fl with
    | ret t =>
      obtain ⟨v, H', J, rv, G', sb, q⟩ := I.after hq
      rcases q with ⟨d, q, r⟩ | ⟨d, a, _, q, _, _, _, r⟩
      · obtain ⟨b, rfl, q⟩ := q.ex
        cases r
        exact ⟨b, G', H', rv, q, sb, J⟩
      · obtain ⟨b, rfl, q⟩ := q.ex
        cases r
    | next => exact False.elim hq
    | brk => exact False.elim hq
    | cont => exact False.elim hq
theorem op_eqK (T : EqK Z.X.K Z.k.cm c f okD) (F : FnF Z.k.cm Z.X.prog Z.X.w Z.X.K Z.X.mg Z.X.base n f fd ps sp cs) (hb : Binds Z.X.K fd ps []) (hr : Room (n + 1) Z.X.A) (hg : Z.X.A.guards = some []) : OpR Z.X (compareOp .Eq) (rEqK Z c cs sp okD id) := by
  intro pins s σ H x y v u Q I rx ry h
  obtain ⟨G, β, l, dy, QB, hβ, s0, po, r1, r2, ok, q, k⟩ := h
  obtain ⟨t, t1, t2, t3⟩ := T.ok dy ok
  obtain ⟨P, kx, hP, _⟩ := kit_of I ry (tyX_of s0 r2 t1 t3)
  have r1' := r1
  cases r1 with
  | @ins a c' dx fs l' e r =>
    obtain rfl : v = Value.ref a := rx
    obtain ⟨mA, O, _⟩ := ins_get I.hok (s0 _ _ e)
    obtain ⟨od, J, _⟩ := O.look
    obtain ⟨m, hF⟩ := I.fr
    show wpAny _ _ (richCompare .Eq _ _) _ _ _
    refine PySem.W.cmp_K (op := .Eq) hr.units0 hF I.ok.mod.kin J (kx.ty _ _ I.kIn hP) t2 T.eq T.fn ?_
    refine wpAny_mono (run_eqK F hb (hr.mono (Nat.le_succ _)) hg I.env0 I hβ s0 po (v1 := .ref _) rfl ry r1' r2 q) (fun w s' ⟨b, G', H', e, qb, sb, J⟩ => ?_) fun _ _ x => x
    subst e
    exact ⟨.bl b, H', J, rfl, k b G' H' qb sb⟩
theorem op_neK (T : EqK Z.X.K Z.k.cm c f okD) (F : FnF Z.k.cm Z.X.prog Z.X.w Z.X.K Z.X.mg Z.X.base n f fd ps sp cs) (hb : Binds Z.X.K fd ps []) (hr : Room (n + 1) Z.X.A) (hg : Z.X.A.guards = some []) : OpR Z.X (compareOp .NotEq) (rEqK Z c cs sp okD not) := by
  intro pins s σ H x y v u Q I rx ry h
  obtain ⟨G, β, l, dy, QB, hβ, s0, po, r1, r2, ok, q, k⟩ := h
  obtain ⟨t, t1, t2, t3⟩ := T.ok dy ok
  obtain ⟨P, kx, hP, _⟩ := kit_of I ry (tyX_of s0 r2 t1 t3)
  have r1' := r1
  cases r1 with
  | @ins a c' dx fs l' e r =>
    obtain rfl : v = Value.ref a := rx
    obtain ⟨mA, O, _⟩ := ins_get I.hok (s0 _ _ e)
    obtain ⟨od, J, _⟩ := O.look
    show wpAny _ _ (richCompare .NotEq _ _) _ _ _
    refine rich_ne (by have := hr.un; omega) I.kIn J (kx.ty _ _ I.kIn hP) t2 T.eq T.fn T.ne T.mo ?_
    refine wpAny_mono (run_eqK F hb hr.in1 hg I.env0.in1 I hβ s0 po (v1 := .ref _) rfl ry r1' r2 q) (fun w s' ⟨b, G', H', e, qb, sb, J⟩ => ?_) fun _ _ x => x
    exact ⟨b, e, .bl (!b), H', J, rfl, k b G' H' qb sb⟩
/-- e == e', e != e' over trees -/
def wEqK (c : Nat) (sp : SpD) (okD : D → Prop) (g : Bool → Bool) (wa wb : W1) : W1 := fun ρ Q E => wa ρ (fun x ρ1 => wb ρ1 (fun y ρ2 => ∃ l, x = .ins c l ∧ okD y ∧ sp [.ins c l, y] (fun _ d => asB d fun b => Q (.bl (g b)) ρ2) (fun _ _ => False)) E) E
theorem tF_eqK {W : WX} {g : Bool → Bool} (σ : L2.St) (H : Hp) (Q : VK) (q : tF Z W (wEqK c sp okD g wa wb) (ca + cb + cs) σ H Q) : tOp (rEqK Z c cs sp okD g) (tF Z W wa ca) (tF Z W wb cb) σ H Q := by
  obtain ⟨G, ρ, Qd, E, β, hβ, s, lk, q, l⟩ := q
  refine ⟨G, ρ, _, E, β, by omega, s, lk, q, fun x ρ1 v G1 H1 q1 s1 g1 r1 => ?_⟩
  refine ⟨G1, ρ1, _, E, _, by omega, s1, lk, q1, fun y ρ2 u G2 H2 q2 s2 g2 r2 => ?_⟩
  obtain ⟨l', rfl, ok, q2⟩ := q2
  exact ⟨G2, _, l', y, fun b => Qd (.bl (g b)) ρ2, by omega, s2.b.sub, s2.b.pen, r1.mono g2, r2, ok, q2, fun b G' H' qb sb => l _ ρ2 _ G' H' qb ((s2.called sb).le (by omega)) ((g1.trans g2).trans sb.g0) (.bl _)⟩
theorem pf_eqK (T : EqK Z.X.K Z.k.cm c f okD) (F : FnF Z.k.cm Z.X.prog Z.X.w Z.X.K Z.X.mg Z.X.base n f fd ps sp cs) (hb : Binds Z.X.K fd ps []) (hr : Room (n + 1) Z.X.A) (hg : Z.X.A.guards = some []) (ha : PF Z a wa ca) (hb' : PF Z b wb cb) (hm : behindInMarks .Eq b = false) :
    PF Z (.Compare a [.Eq] [b] pos) (wEqK c sp okD id wa wb) (ca + cb + cs) := fun W t => (pe_cmpR (op_eqK T F hb hr hg) (ha W t) (hb' W t) hm).weak tF_eqK
theorem pf_neK (T : EqK Z.X.K Z.k.cm c f okD) (F : FnF Z.k.cm Z.X.prog Z.X.w Z.X.K Z.X.mg Z.X.base n f fd ps sp cs) (hb : Binds Z.X.K fd ps []) (hr : Room (n + 1) Z.X.A) (hg : Z.X.A.guards = some []) (ha : PF Z a wa ca) (hb' : PF Z b wb cb) (hm : behindInMarks .NotEq b = false) :
    PF Z (.Compare a [.NotEq] [b] pos) (wEqK c sp okD not wa wb) (ca + cb + cs) := fun W t => (pe_cmpR (op_neK T F hb hr hg) (ha W t) (hb' W t) hm).weak tF_eqK
theorem pt_neK (T : EqK Z.X.K Z.k.cm c f okD) (F : FnF Z.k.cm Z.X.prog Z.X.w Z.X.K Z.X.mg Z.X.base n f fd ps sp cs) (hb : Binds Z.X.K fd ps []) (hr : Room (n + 1) Z.X.A) (hg : Z.X.A.guards = some []) (ha : PF Z a wa ca) (hb' : PF Z b wb cb) (hm : behindInMarks .NotEq b = false) :
    PFt Z (.Compare a [.NotEq] [b] pos) (wTst (wEqK c sp okD not wa wb)) (ca + cb + cs) := fun W t => (pt_cmpR (op_neK T F hb hr hg) (ha W t) (hb' W t) hm).weak fun σ H Q q => tF_eqK σ H _ (tFt_of σ H Q q)
theorem pt_eqK (T : EqK Z.X.K Z.k.cm c f okD) (F : FnF Z.k.cm Z.X.prog Z.X.w Z.X.K Z.X.mg Z.X.base n f fd ps sp cs) (hb : Binds Z.X.K fd ps []) (hr : Room (n + 1) Z.X.A) (hg : Z.X.A.guards = some []) (ha : PF Z a wa ca) (hb' : PF Z b wb cb) (hm : behindInMarks .Eq b = false) :
    PFt Z (.Compare a [.Eq] [b] pos) (wTst (wEqK c sp okD id wa wb)) (ca + cb + cs) := fun W t => (pt_cmpR (op_eqK T F hb hr hg) (ha W t) (hb' W t) hm).weak fun σ H Q q => tF_eqK σ H _ (tFt_of σ H Q q)
end
end FL
set_option Elab.async false
set_option linter.all false
set_option maxRecDepth 100000
set_option maxHeartbeats 4000000
namespace FL
open PySem PySem.Spec PyProof.Rows L2

/-! ## repr of lists and tuples -/
/-- a list or tuple of data that repr prints -/
def shows (d : PyData) : Prop := SeqAt.shaped d = true ∧ d.showable = true ∧ d.shown.length ≤ 16000000
def isSeq : D → Bool
  | .lst _ | .tup _ => true
  | _ => false
section
variable {Z : Cz}
def rRepr (K : PySem.W.Frag) : List V → Hp → VK → Prop := fun xs H Q => ∃ a d, xs = [.ref a] ∧ Dp K H (.ref a) d ∧ shows d ∧ Q (.str d.shown) H
theorem call_reprA {n : Nat} (hr : Room n Z.X.A) (hg : Z.X.A.guards = some []) : CallR Z.X (.builtin "repr") (rRepr Z.X.K) := by
  intro pins s σ H vs us Q I r h
  obtain ⟨a, d, rfl, hd, ⟨h1, h2, h3⟩, q⟩ := h
  rw [Vals.ref1 r]
  obtain ⟨as, rd⟩ := Dp.reads I d (.ref a) (.ref a) hd rfl
  have hs : d.canLay0 = true ∧ d.depth ≤ 64 := by
    unfold SeqAt.shaped at h1
    rw [Bool.and_eq_true, decide_eq_true_eq] at h1
    exact h1
  have e : sizeLine = 16777216 := sizeLine_eq
  exact repr_of_reads' rd h2 (PyData.noDict_hsm (PyData.hasDict_of_canLay _ hs.1)) hg (by have := hr.un; omega) (fun b o e => e) (fun h' u tk k => ⟨.str d.shown, H, I.kept (t' := tk) k, ⟨u, rfl⟩, q⟩) (by omega)
def oRepr : WC := fun xs Q => ∃ d, xs = [d] ∧ isSeq d = true ∧ shows (toP d) ∧ Q (.str (toP d).shown)
theorem cal_repr : CalD Z (rRepr Z.X.K) oRepr := .scal fun G H xs vs Qd Q s r ⟨d, e, sq, hs, q⟩ l => by
  subst e
  obtain ⟨v, rfl, r1⟩ := r.inv1
  have hd := r1.dp (K := Z.X.K) s (shaped_lay hs.1)
  cases r1 with
  | lst e t => exact ⟨_, _, rfl, hd, hs, l _ _ q (.str _)⟩
  | tup e t => exact ⟨_, _, rfl, hd, hs, l _ _ q (.str _)⟩
  | _ => cases sq

/-! ## parallel assignment -/
variable {a b e : Expr} {w : W1} {wl : WL} {pos p1 p2 pt px : Pos} {ca cb : Nat} {i j : Nat} {x y : Str}
theorem fs_par {kt k2 pt2} (hc : Z.X.calm = true) (hN : Z.X.N.Nodup) (hi : Z.X.N[i]? = some x) (hj : Z.X.N[j]? = some y) (hij : i ≠ j) (hx : Z.X.env.scope.names.lookup x = some .local) (hy : Z.X.env.scope.names.lookup y = some .local) (ha : PFl Z [a, b] wl ca)
    (hw : swappedStores [.Tuple [.Name x p1, .Name y p2] kt pt] (.Tuple [a, b] k2 pt2) Z.X.env = pure (some [x, y]))
    (hs : swapsWithSole [.Tuple [.Name x p1, .Name y p2] kt pt] (.Tuple [a, b] k2 pt2) pos.line Z.X.env = pure false := by rfl) :
    PSF Z (.Assign [.Tuple [.Name x p1, .Name y p2] kt pt] (.Tuple [a, b] k2 pt2) pos) (wPar i j wl) ca := fun W t => (ps_par hc hN hi hj hij hx hy (ha W t) hw hs).weak fun D σ H ⟨G, ρ, DD, E, β, hb, s, lk, q, l⟩ =>
  ⟨G, ρ, _, E, β, hb, s, lk, q, fun ds ρ1 vs G1 H1 q1 s1 g1 r1 => by
    match ds, q1, r1 with
    | [d, e], q1, r1 =>
      obtain ⟨v, u, rfl, rd, re⟩ := r1.inv2
      exact ⟨v, u, rfl, l.nx _ _ G1 H1 q1 ((s1.set rd).set re) g1⟩⟩
def wPar3 (i j m : Nat) (wl : WL) : WS := fun DD E ρ => wl ρ (fun ds ρ1 => match ds with
  | [d, e, f] => DD.nx (((ρ1.set i (.va d)).set j (.va e)).set m (.va f))
  | _ => False) E
theorem RepL.inv3 {k : Kx} {G : Hp} {d e f : D} {vs : List V} (h : RepL k G [d, e, f] vs) : ∃ v u w, vs = [v, u, w] ∧ Rep k G d v ∧ Rep k G e u ∧ Rep k G f w := by
  cases h with
  | cons r t =>
    obtain ⟨u, w, rfl, r2, r3⟩ := t.inv2
    exact ⟨_, _, _, rfl, r, r2, r3⟩
theorem fs_par3 {m : Nat} {z : Str} {c : Expr} {p3 : Pos} {kt k2 pt2} (hc : Z.X.calm = true) (hN : Z.X.N.Nodup) (hi : Z.X.N[i]? = some x) (hj : Z.X.N[j]? = some y) (hm : Z.X.N[m]? = some z) (hij : i ≠ j) (him : i ≠ m) (hjm : j ≠ m)
    (hx : Z.X.env.scope.names.lookup x = some .local) (hy : Z.X.env.scope.names.lookup y = some .local) (hz : Z.X.env.scope.names.lookup z = some .local) (ha : PFl Z [a, b, c] wl ca)
    (hw : swappedStores [.Tuple [.Name x p1, .Name y p2, .Name z p3] kt pt] (.Tuple [a, b, c] k2 pt2) Z.X.env = pure (some [x, y, z]))
    (hs : swapsWithSole [.Tuple [.Name x p1, .Name y p2, .Name z p3] kt pt] (.Tuple [a, b, c] k2 pt2) pos.line Z.X.env = pure false := by rfl) :
    PSF Z (.Assign [.Tuple [.Name x p1, .Name y p2, .Name z p3] kt pt] (.Tuple [a, b, c] k2 pt2) pos) (wPar3 i j m wl) ca := fun W t => (ps_par3 hc hN hi hj hm hij him hjm hx hy hz (ha W t) hw hs).weak fun D σ H ⟨G, ρ, DD, E, β, hb, s, lk, q, l⟩ =>
  ⟨G, ρ, _, E, β, hb, s, lk, q, fun ds ρ1 vs G1 H1 q1 s1 g1 r1 => by
    match ds, q1, r1 with
    | [d, e, f], q1, r1 =>
      obtain ⟨v, u, t, rfl, rd, re, rf⟩ := r1.inv3
      exact ⟨v, u, t, rfl, l.nx _ _ G1 H1 q1 (((s1.set rd).set re).set rf) g1⟩⟩
end
end FL
set_option Elab.async false
set_option linter.all false
set_option maxRecDepth 100000
set_option maxHeartbeats 4000000
namespace FL
open PySem PySem.Spec PyProof.Rows L2

section
variable {cm : Nat → Addr} {P : Program} {w : World} {K : PySem.W.Frag} {mg : Str → Option Value} {base : Heap}
/-- from a promise over heaps to one over trees -/
theorem FnF.of_ok {n c : Nat} {f : Addr} {fd : FuncData} {ps : List Str} {spL : Sp} {sp : SpD} (F : FnOk P w K mg base (fun _ _ _ _ _ _ => False) n f fd ps spL) (len : ∀ ds Q E, sp ds Q E → ds.length = ps.length)
    (h : ∀ (k : Kx) (G H : Hp) (vs : List V) (ds : List D) (Q : Bool → D → Prop) (E : Nat → List (Str × D) → Prop) (β : Nat), β + c ≤ cap → sp ds Q E → Sub G H → PenOk k β G H → RepL k G ds vs → spL vs H (RetQ k (β + c) G H Q) (fun _ _ _ => False)) : FnF cm P w K mg base n f fd ps sp c :=
  ⟨len, fun A outer s p me G H args us vs ds Q E β hc hr hg e0 hb rv s0 po rd q => codeAny_mono (F.run A outer s H args us vs _ _ hr e0 hb rv (h ⟨cm, p, me⟩ G H vs ds Q E β hc q s0 po rd)) fun r s' z => by
    cases r with
    | error e => exact False.elim z
    | ok fl => cases fl <;> exact z⟩
/-- a draw: an argument and any number below it -/
def spDraw : SpD := fun ds Q _ => ∃ n : Int, ds = [.pen, .int n] ∧ 0 < n ∧ n < 1000000 ∧ ∀ d : Int, 0 ≤ d → d < n → Q false (.int d)
theorem SB.drawn {k : Kx} {G H H' : Hp} {β : Nat} {q : Addr} {ns : List Int} {i r : Int} (s : Sub G H) (p : PenOk k β G H) (kp : ∀ b o, H b = some o → b ≠ k.p → H' b = some o) (h1 : H' k.p = some (.lst [.ref q, .int i, .int r])) (h2 : G q = some (.lst (ns.map V.int))) (i0 : 0 ≤ i) (i1 : i ≤ (β : Int) + 1) (r0 : 0 ≤ r) : SB k G H (β + 1) G H' where
  sub := fun a o e => kp a o (s a o e) fun z => by rw [z, p.1] at e; cases e
  g0 := Sub.rfl'
  fr := fun a o e => .inl e
  kp := kp
  pen := ⟨p.1, q, ns, i, r, h1, h2, ⟨i0, by omega⟩, r0⟩
  pn := p.there
end

/-! ## the law -/
/-- a promise whose walk may use that nothing is being printed -/
def FnG (P : Program) (w : World) (K : PySem.W.Frag) (mg : Str → Option Value) (base : Heap) (CX : CXT) (n : Nat) (f : Addr) (fd : FuncData) (ps : List Str) (sp : Sp) : Prop :=
  ∀ (A : Around) (outer : List PySem.Env) (s : Shared) (H : Hp) (args : Args) (us : List Value) (vs : List V) (Q : VK) (E : XK), Room n A → A.guards = some [] → Env0 P w K mg base A outer s H → BindsTo s fd args (ps.zip us) → Vals vs us → sp vs H Q E →
    codeAny (model P w) A (.call (.ref f) args) (CR CX outer P w H s Q E) s
/-- a law: at most 63 ints in, True out -/
def spLawG (K : PySem.W.Frag) : Sp := fun vs H Q _ => ∃ (a : Addr) (ns : List Int), vs = [.ref a] ∧ SqL K H a (ns.map V.int) ∧ ns.length ≤ 63 ∧ ∀ H', Q (.bl true) H'
/-- the slots behind the pen's making -/
def lawE (n : Nat) : Env := (List.replicate n Sl.no).set 1 (.va .pen)
section
variable {cm : Nat → Addr} {P : Program} {w : World} {K : PySem.W.Frag} {mg : Str → Option Value} {base : Heap} {N : List Str} {f fP : Addr} {fd fdP : FuncData} {st : Stmt} {n c : Nat} {spL : Sp}
theorem lawG {e : Expr} {p1 spos : Pos} {rest : List Stmt} (F : Fun K "law" "law" st f fd) (S : FnScope N ["script"] (defScope st)) (hN : 2 ≤ N.length) (hb : defBody st = .Assign [.Name "pen" p1] e spos :: rest) (hc : c ≤ cap)
    (hpen : ∀ (cdv : Value) (A : Around) (outer : List PySem.Env) (s : Shared) (H : Hp) (E : XK), Room n (bodyX P w K mg base N "law" (defScope st) f cdv A outer s H E).A →
      ∃ t, PS (bodyX P w K mg base N "law" (defScope st) f cdv A outer s H E) (.Assign [.Name "pen" p1] e spos) t ∧ ∀ (a : Addr) (ns : List Int) (D : Ends), SqL K H a (ns.map V.int) → ns.length ≤ 63 →
        (∀ (q p : Addr) (H' : Hp), H q = none → H p = none → p ≠ q → H' q = some (.lst ((ns.take 60).map V.int)) → H' p = some (.lst [.ref q, .int 0, .int 0]) → D.nx ((L2.start N [.ref a]).set 1 (some (.ref p))) H') → t D (L2.start N [.ref a]) H)
    (hrest : ∀ (cdv : Value) (A : Around) (outer : List PySem.Env) (s : Shared) (p me : Addr) (G H0 H : Hp) (E : XK) (B : Nat) (hB : B ≤ cap), (bodyX P w K mg base N "law" (defScope st) f cdv A outer s H E).A.guards = some [] → Room n (bodyX P w K mg base N "law" (defScope st) f cdv A outer s H E).A →
      ∃ u : WS, PBF ⟨⟨cm, p, me⟩, G, H0, bodyX P w K mg base N "law" (defScope st) f cdv A outer s H E, B, hB⟩ rest u c ∧ u { nx := fun _ => False, rt := fun _ d => d = .bl true } (fun _ _ _ => False) (lawE N.length)) :
    FnG P w K mg base (L2.CX P w) (n + 1) f fd ["script"] (spLawG K) := by
  intro A outer s H ar us vs Q E hr hg e0 hbd rv ⟨a, ns, ev, hS, hl, k⟩
  subst ev
  obtain ⟨oc, od, kV, doc, pm, an, cdv, ct, osl, rfl, lk, hcd⟩ := F.ex
  have KX : K.In s.heap := e0.mod.kin.keeps fun b o e => (e0.bs b o e).1
  have lim : s.heap.NoLimit := e0.mod.nolimit.keeps fun b o e => (e0.bs b o e).1
  refine codeAny_call_function hr.depth (KX _ _ lk) rfl S.co S.gen rfl (PySem.W.codeRec_of KX hcd) (hbd _ _ _ _ (wpAny_newFunctionEnv_cells S.kind (fun y hy => ?_) fun env he s1 x => ?_))
  · rcases S.par y.1 (List.of_mem_zip hy).1 with z | z
    · exact .inl z
    · exact .inr ⟨z, PySem.W.cellsFrom_some _ _ _ (.inl z)⟩
  · subst he
    refine ⟨lim.keeps x.toInCall.keep, codeAny_func ?_⟩
    have hr1 : Room n (bodyX P w K mg base N "law" (defScope st) f cdv A outer s H E).A := hr.deeper _
    obtain ⟨t, ht, hq⟩ := hpen cdv A outer s H E hr1
    have I := inv_start (CX := L2.CX P w) (E := E) S hr.hd e0 (vs := [V.ref a]) rfl rv x
    have hs : PSs (bodyX P w K mg base N "law" (defScope st) f cdv A outer s H E) (defBody st) (tSeq t fun D σ H' => ∃ (Z : Cz) (u : WS), Z.X = bodyX P w K mg base N "law" (defScope st) f cdv A outer s H E ∧ PBF Z rest u c ∧ tFs Z (fun cls d _ H' => E cls d H') u c D σ H') := by
      rw [hb]
      refine pss_cons ht ⟨fun pins s2 σ H2 D I2 ⟨Z, u, hX, hP, q⟩ => ?_⟩
      have tk : Takes Z.X (fun cls d _ H' => E cls d H') := by rw [hX]; exact body_takes
      rw [← hX] at I2
      have z := (hP _ tk).run pins s2 σ H2 D I2 q
      rw [hX] at z
      exact z
    refine wpAny_mono (hs.run [] s1 (L2.start N [.ref a]) H { nx := fun _ H' => Q .non H', rt := Q } I (hq a ns _ hS hl fun q p H' hq0 hp0 npq hq' hp' => ?_)) (fun fl s' hs => ?_) fun e s' hs => hs
    · obtain ⟨u, hu, z⟩ := hrest cdv A outer s p 0 (upd (fun _ => none) q (.lst ((ns.take 60).map V.int))) H' H E c hc hg hr1
      refine ⟨⟨⟨cm, p, 0⟩, upd (fun _ => none) q (.lst ((ns.take 60).map V.int)), H', bodyX P w K mg base N "law" (defScope st) f cdv A outer s H E, c, hc⟩, u, rfl, hu, upd (fun _ => none) q (.lst ((ns.take 60).map V.int)), _, _, _, 0, by show 0 + c ≤ c; omega, ?_, Lnk.no, z, ?_⟩
      · have sub : Sub (upd (fun _ => none) q (.lst ((ns.take 60).map V.int))) H' := fun b o e => by
          by_cases z : b = q
          · subst z; rw [upd_same] at e; rw [← e]; exact hq'
          · rw [upd_ne z] at e; cases e
        have pk : PenOk ⟨cm, p, 0⟩ 0 (upd (fun _ => none) q (.lst ((ns.take 60).map V.int))) H' := ⟨by show upd (fun _ => none) q _ p = none; rw [upd_ne npq], q, ns.take 60, 0, 0, hp', upd_same, ⟨by decide, by decide⟩, by decide⟩
        refine ⟨.start sub pk, by rw [List.length_set, lawE, List.length_set, List.length_replicate]; unfold L2.start; rw [List.length_append, List.length_map, List.length_replicate, List.length_singleton]; omega, fun i d e => ?_, fun i d e => ?_, fun i j d e a ne h1 => ?_⟩
        · rcases get_set e with ⟨rfl, z⟩ | ⟨_, z⟩
          · cases z
            refine ⟨.ref p, ?_, .pen⟩
            rw [List.getElem?_set_self]
            unfold L2.start
            rw [List.length_append, List.length_map, List.length_replicate, List.length_singleton]; omega
          · rw [List.getElem?_replicate] at z
            split at z <;> cases z
        · rcases get_set e with ⟨_, z⟩ | ⟨_, z⟩
          · cases z
          · rw [List.getElem?_replicate] at z
            split at z <;> cases z
        · rcases get_set h1 with ⟨_, z⟩ | ⟨_, z⟩
          · cases z
          · rw [List.getElem?_replicate] at z
            split at z <;> cases z
      · refine ⟨fun _ _ _ _ z => z.elim, fun _ _ _ _ z => z.elim, fun _ _ _ _ z => z.elim, fun d v G' H'' z _ r => ?_, fun d a' G' H'' z _ o => ?_⟩
        · subst z; cases r; exact k _
        · subst z; have := o.r; cases this
    · have last : ∀ {σ' : L2.St} {H' : Hp} {v : V} {u : Value}, Inv (bodyX P w K mg base N "law" (defScope st) f cdv A outer s H E) [] σ' H' s' → RelV v u → Q v H' → CE outer P w H s Q u s' :=
        fun {σ' H' v u} J rv q => ⟨v, H', J.os, J.bare, J.base, J.hok, rv, q⟩
      cases fl with
      | ret u =>
        obtain ⟨v, σ', H', J, rv, q⟩ := hs
        exact last J rv q
      | next =>
        obtain ⟨σ', H', J, q⟩ := hs
        exact last (v := V.non) (u := Value.none) J rfl q
      | brk =>
        obtain ⟨_, _, _, q⟩ := hs
        exact False.elim q
      | cont =>
        obtain ⟨_, _, _, q⟩ := hs
        exact False.elim q
end
/-! ## the end of a law's row -/
section
variable {P : Program} {w : World} {K : PySem.W.Frag} {mg mb : Str → Option Value} {s₁ : Shared} {a : Addr} {vs : List Value} {ns : List Int}
/-- an abstract heap that knows the script's list, one way or the other -/
theorem first_heap (KX : K.In s₁.heap) (ha : s₁.heap.get? a = some { cls := .type "list", data := .seq vs.toArray }) (hi : IntsAre vs ns) (hl : ns.length ≤ sizeLine) :
    ∃ H : Hp, SqL K H a (ns.map V.int) ∧ HOk P w H s₁.heap ∧ ∀ b o, H b = some o → b = a ∧ K.lookup a = none ∧ ∃ ob xs, o = .frz ob (.lst xs) := by
  have rv := vals_ints hi
  have lenV := hi.length
  by_cases hk : K.lookup a = none
  · refine ⟨upd (fun _ => none) a (.frz { cls := .type "list", data := .seq vs.toArray } (.lst (ns.map V.int))), .inl (.inr ⟨_, upd_same⟩), fun b u e => ?_, fun b o e => ?_⟩
    · by_cases q : b = a
      · subst q
        rw [upd_same] at e
        cases e
        exact ⟨ha, by rw [List.length_map]; exact hl, vs, _, rv, ha⟩
      · rw [upd_ne q] at e; cases e
    · by_cases q : b = a
      · subst q
        rw [upd_same] at e
        cases e
        exact ⟨rfl, hk, _, _, rfl⟩
      · rw [upd_ne q] at e; cases e
  · obtain ⟨o, ho⟩ := Option.ne_none_iff_exists'.mp hk
    have e := KX a o ho
    rw [ha] at e
    cases e
    exact ⟨fun _ => none, .inr ⟨_, vs.toArray, _, ho, rfl, rfl, rfl, by rw [List.size_toArray, lenV]; exact hl, by simpa using rv⟩, (fun b u e => nomatch (e : (none : Option HO) = some u)), fun b o e => nomatch (e : (none : Option HO) = some o)⟩
theorem runG {n : Nat} {fa : Addr} {fd : FuncData} {x : Str} (KX : K.In s₁.heap) (hns : s₁.heap.Ns mainGlobals mg) (hb : s₁.heap.Ns builtinsNs mb) (hbb : ∀ x : Str, x ≠ "__name__" → mb x = bootBuiltins x) (hlim : s₁.heap.NoLimit) (hg : s₁.gens = #[])
    (ha : s₁.heap.get? a = some { cls := .type "list", data := .seq vs.toArray }) (hi : IntsAre vs ns) (hl : ns.length ≤ 63) (hr : Room n callerA)
    (F : ∀ base : Heap, K.In base → base.Ns mainGlobals mg → FnG P w K mg base (L2.CX P w) n fa fd [x] (spLawG K)) (hbind : ∀ (s : Shared) (u : Value), BindsTo s fd ⟨[u], []⟩ [(x, u)]) :
    codeAny (model P w) callerA (.call (.ref fa) ⟨[.ref a], []⟩) (fun r s' => r = .ok (.ret (.bool true)) ∧ OldK s₁.heap s'.heap ∧ s'.os = s₁.os ∧ AllBare s'.gens) s₁ := by
  obtain ⟨H, hS, hok, only⟩ := first_heap (P := P) (w := w) KX ha hi (Nat.le_trans hl (by rw [sizeLine_eq]; decide))
  -- what is not the script's list stands in the base
  have keep : ∀ {b : Addr} {o : Obj}, s₁.heap.get? b = some o → (H b = none) → (hidT s₁.heap H).get? b = some o := fun e z => hidT_get e z
  have noDict : ∀ {b : Addr} {o : Obj} {es : Array DictEntry} {ep : Nat}, s₁.heap.get? b = some o → o.data = .dict es ep → H b = none := fun {b o es ep} e d => by
    cases q : H b with
    | none => rfl
    | some u =>
      obtain ⟨rfl, _⟩ := only b u q
      rw [ha] at e
      cases e
      exact nomatch (d : Data.seq vs.toArray _ = Data.dict es ep)
  have ns' : ∀ {b : Addr} {m : Str → Option Value}, s₁.heap.Ns b m → (hidT s₁.heap H).Ns b m := fun ⟨o, es, ep, e, d, r⟩ => ⟨o, es, ep, keep e (noDict e d), d, r⟩
  have kin : K.In (hidT s₁.heap H) := fun b o e => keep (KX b o e) (by
    cases q : H b with
    | none => rfl
    | some u =>
      obtain ⟨rfl, hk, _⟩ := only b u q
      rw [hk] at e; cases e)
  have e0 : Env0 P w K mg (hidT s₁.heap H) callerA [] s₁ H := {
    frames := rfl
    mod := ⟨kin, ns' hns, ⟨mb, ns' hb, hbb⟩, let ⟨mc, h1, h2⟩ := hlim; ⟨mc, ns' h1, h2⟩⟩
    bs := fun b o e => of_hidT e
    bsz := Nat.le_of_eq (hidT_size _ _)
    funs := trivial
    frf := fun b hb => nomatch (show b ∈ ([] : List Addr) from hb)
    hok := hok
    bare := .of_eq hg }
  refine codeAny_mono (F _ kin (ns' hns) callerA [] s₁ H ⟨[.ref a], []⟩ [.ref a] [.ref a] (fun v _ => v = .bl true) (fun _ _ _ => False) hr rfl e0 (hbind s₁ (.ref a)) (.cons rfl .nil) ⟨a, ns, rfl, hS, hl, fun _ => rfl⟩) fun r s' h => ?_
  cases r with
  | error e =>
    obtain ⟨_, _, _, _, _, _, _, _, _, _, _, _, z⟩ := h
    exact z.elim
  | ok fl =>
    cases fl with
    | next => exact False.elim h
    | brk => exact False.elim h
    | cont => exact False.elim h
    | ret u =>
      obtain ⟨v, H', os, bare, un, hok', r', q⟩ := h
      subst q
      obtain rfl : u = Value.bool true := r'
      refine ⟨rfl, OldK.of_keep fun b o e => ?_, os, bare⟩
      cases q : H b with
      | none => exact un.keep b o e q (fun z => nomatch (show b ∈ ([] : List Addr) from z)) (by simp)
      | some u =>
        obtain ⟨_, _, ob, xs, rfl⟩ := only b u q
        obtain ⟨e1, _⟩ := hok b _ q
        obtain ⟨e2, _⟩ := hok' b _ (un.frzs b ob _ q)
        rw [e] at e1
        cases e1
        exact e2
theorem walkG {l : PySem.W.OpenLaw} {k : Nat} {q : Program} {loose : List Str} {XP : (Str → Option Value) → Heap → Prop} {YP : World → Heap → Prop} {d : DefRec} {K : Params → PySem.W.Frag} {x : Str}
    (hn : l.most = some 63) (hdf : d.params.defaults = []) (hr : Room k callerA) (hY : ∀ (w : World) (h : Heap), YP w h → (K w.params).In h)
    (F : ∀ (w : World) (mg : Str → Option Value) (fa : Addr) (h : Heap), (K w.params).In h → h.Ns mainGlobals mg → mg d.name = some (.ref fa) →
      ∃ fd : FuncData, (∀ (s : Shared) (u : Value), BindsTo s fd ⟨[u], []⟩ [(x, u)]) ∧ ∀ base : Heap, (K w.params).In base → base.Ns mainGlobals mg → FnG l.prog w (K w.params) mg base (L2.CX l.prog w) k fa fd [x] (spLawG (K w.params))) :
    PySem.W.WalkO q loose XP YP l.row.toRowW d [] (fun f vs => PySem.call f vs) := by
  refine Att.attach_call hn hdf fun w s₀ s₁ mg mb fa o pm cd doc a vs ns G Y ho hd hcd hmg hobj hints hlen hg => ?_
  have KX := hY w _ Y
  obtain ⟨fd, hb, hF⟩ := F w mg fa _ KX G.T.g hmg
  exact runG KX G.T.g G.T.b G.T.builtins G.T.nolimit hg hobj hints hlen hr hF hb
end
end FL
set_option Elab.async false
set_option linter.all false
set_option maxRecDepth 100000
set_option maxHeartbeats 4000000
namespace FL
open PySem PySem.Spec PyProof.Rows L2

theorem PBF.le {Z : Cz} {sts : List Stmt} {u : WS} {c c' : Nat} (h : PBF Z sts u c) (l : c ≤ c') : PBF Z sts u c' := fun W t => (h W t).weak fun D σ H ⟨G, ρ, DD, E, β, hb, s, lk, q, e⟩ => ⟨G, ρ, DD, E, β, by omega, s, lk, q, e.le (by omega)⟩
section
variable {cm : Nat → Addr} {P : Program} {w : World} {K : PySem.W.Frag} {mg : Str → Option Value} {base : Heap} {x qual : Str} {st : Stmt} {f : Addr} {fd : FuncData} {N ps : List Str} {n c : Nat} {sp : SpD}
theorem FnF.fun_ (F : Fun K x qual st f fd) (S : FnScope N ps (defScope st)) (len : ∀ ds Q E, sp ds Q E → ds.length = ps.length)
    (hbody : ∀ (cd : Value) (A : Around) (outer : List PySem.Env) (s : Shared) (p me : Addr) (G H : Hp) (E : XK) (B : Nat) (hB : B ≤ cap), (bodyX P w K mg base N qual (defScope st) f cd A outer s H E).A.guards = some [] → Room n (bodyX P w K mg base N qual (defScope st) f cd A outer s H E).A →
      ∃ u : WS, PBF ⟨⟨cm, p, me⟩, G, H, bodyX P w K mg base N qual (defScope st) f cd A outer s H E, B, hB⟩ (defBody st) u c ∧ ∀ ds Q E', sp ds Q E' → u { nx := fun _ => Q false .non, rt := Q } (fun c fs _ => E' c fs) (startE N.length ds)) :
    FnF cm P w K mg base (n + 1) f fd ps sp c := by
  obtain ⟨oc, od, kV, doc, pm, an, cdv, ct, osl, rfl, lk, hcd⟩ := F.ex
  exact FnF.of lk hcd S len hbody
theorem IniF.funD {c0 : Nat} {dvs : List V} {kws : List (Str × V)} (F : FunD K x qual (defArgs st) (defBody st) (defScope st) dvs kws f fd) (S : FnScope N ps (defScope st)) (len : ∀ ds Q E, sp ds Q E → ds.length + 1 = ps.length)
    (hbody : ∀ (cd : Value) (A : Around) (outer : List PySem.Env) (s : Shared) (p me : Addr) (G H H2 : Hp) (E : XK) (B : Nat) (hB : B ≤ cap), (bodyX P w K mg base N qual (defScope st) f cd A outer s H2 E).A.guards = some [] → Room n (bodyX P w K mg base N qual (defScope st) f cd A outer s H2 E).A →
      ∃ u : WS, PBF ⟨⟨cm, p, me⟩, G, H, bodyX P w K mg base N qual (defScope st) f cd A outer s H2 E, B, hB⟩ (defBody st) u c ∧ ∀ ds Q E', sp ds Q E' → u { nx := fun ρ => ∃ l, ρ[0]? = some (.ow (.ins c0 l)) ∧ Q false (.ins c0 l), rt := fun _ _ => False } (fun c fs _ => E' c fs) ((startE N.length (.non :: ds)).set 0 (.ow (.ins c0 [])))) :
    IniF cm P w K mg base (n + 1) c0 f fd ps sp c := by
  obtain ⟨oc, od, dV, kV, doc, pm, an, cdv, ct, osl, rfl, lk, hcd, _, _⟩ := F.ex
  exact IniF.of lk hcd S len hbody
theorem IniF.fun_ {c0 : Nat} (F : Fun K x qual st f fd) (S : FnScope N ps (defScope st)) (len : ∀ ds Q E, sp ds Q E → ds.length + 1 = ps.length)
    (hbody : ∀ (cd : Value) (A : Around) (outer : List PySem.Env) (s : Shared) (p me : Addr) (G H H2 : Hp) (E : XK) (B : Nat) (hB : B ≤ cap), (bodyX P w K mg base N qual (defScope st) f cd A outer s H2 E).A.guards = some [] → Room n (bodyX P w K mg base N qual (defScope st) f cd A outer s H2 E).A →
      ∃ u : WS, PBF ⟨⟨cm, p, me⟩, G, H, bodyX P w K mg base N qual (defScope st) f cd A outer s H2 E, B, hB⟩ (defBody st) u c ∧ ∀ ds Q E', sp ds Q E' → u { nx := fun ρ => ∃ l, ρ[0]? = some (.ow (.ins c0 l)) ∧ Q false (.ins c0 l), rt := fun _ _ => False } (fun c fs _ => E' c fs) ((startE N.length (.non :: ds)).set 0 (.ow (.ins c0 [])))) :
    IniF cm P w K mg base (n + 1) c0 f fd ps sp c := by
  obtain ⟨oc, od, kV, doc, pm, an, cdv, ct, osl, rfl, lk, hcd⟩ := F.ex
  exact IniF.of lk hcd S len hbody
end
section
variable {Z : Cz} {x : Str} {pos : Pos}
theorem pf_globS {z : Str} (hg : Gl Z.X x) (hm : ∃ t, Z.X.mg x = some (.str z t)) (hd : (x == ("__debug__" : Str)) = false := by decide) : PF Z (.Name x pos) (wC (.str z)) 0 := by
  obtain ⟨t, hm⟩ := hm
  exact pf_glob (v := .str z) hg hm ⟨t, rfl⟩ (fun _ => .str z) hd
theorem pf_globI {z : Int} (hg : Gl Z.X x) (hm : ∃ t, Z.X.mg x = some (.int z t)) (hd : (x == ("__debug__" : Str)) = false := by decide) : PF Z (.Name x pos) (wC (.int z)) 0 := by
  obtain ⟨t, hm⟩ := hm
  exact pf_glob (v := .int z) hg hm ⟨t, rfl⟩ (fun _ => .int z) hd
end
/-- which slots a target names -/
def wAsg (t : Tg) (w : W1) : WS := fun DD E ρ => w ρ (fun d ρ1 => bindT t d ρ1 fun ρ2 => DD.nx ρ2) E
theorem fs_asg {Z : Cz} {tg e : Expr} {w : W1} {t : Tg} {pos : Pos} {ca : Nat} (he : PF Z e w ca) (hg : PG Z.X tg (gF Z.X.K t)) (hs : swapsWithSole [tg] e pos.line Z.X.env = pure false := by rfl) (hw : swappedStores [tg] e Z.X.env = pure none := by rfl)
    (h1 : (assignEach [tg] Z.X.env).map (·.2) = [assign tg Z.X.env] := by rfl) : PSF Z (.Assign [tg] e pos) (wAsg t w) ca := fun W tk => (ps_asg (he W tk) hg hs hw h1).weak fun D σ H ⟨G, ρ, DD, E, β, hb, s, lk, q, l⟩ =>
  ⟨G, ρ, _, E, β, hb, s, lk, q, fun d ρ1 v G1 H1 q1 s1 g1 r1 => gF_run s1 r1 q1 fun ρ2 σ2 q2 s2 _ _ _ => l.nx _ _ G1 H1 q2 s2 g1⟩
/-- a bool that decides -/
theorem ite_of {c : Bool} {A B : Prop} (h1 : c = true → A) (h2 : c = false → B) : if c = true then A else B := by
  cases c
  · exact (if_neg (by decide)).mpr (h2 rfl)
  · exact (if_pos rfl).mpr (h1 rfl)
end FL
set_option Elab.async false
set_option linter.all false
set_option maxRecDepth 100000
set_option maxHeartbeats 4000000
namespace FL
open PySem PySem.Spec PyProof.Rows L2

/-! ## isinstance and ==: what is told by the kind of a tree -/
def gTy (own : List Nat) (t : String) : D → Option Bool
  | .non => some (t == "NoneType")
  | .bl _ => some (t == "int" || t == "bool")
  | .int _ => some (t == "int")
  | .str _ => some (t == "str")
  | .tup _ => some (t == "tuple")
  | .lst _ => some (t == "list")
  | .dct _ => some (t == "dict")
  | .ins c _ => if own.contains c then some false else none
  | _ => none
def gOwn (own : List Nat) (c : Nat) : D → Option Bool
  | .ins c' _ => if own.contains c' then some (c' == c) else none
  | .cls _ => none
  | .pen => none
  | _ => some false
section
variable {K : PySem.W.Frag} {cm : Nat → Addr} {own : List Nat} {t : String} {c : Nat}
theorem isK_ty (b : kitB "NoneType" t = some (t == "NoneType") ∧ kitB "bool" t = some (t == "int" || t == "bool") ∧ kitB "int" t = some (t == "int") ∧ kitB "str" t = some (t == "str") ∧ kitB "tuple" t = some (t == "tuple") ∧ kitB "list" t = some (t == "list") ∧ kitB "dict" t = some (t == "dict"))
    (h : ∀ c, own.contains c = true → InsTy K (cm c) ∧ PySem.W.kitOne K (.ref (cm c)) (.type t) = some false) : IsK K cm (.type t) (gTy own t) := by
  obtain ⟨b1, b2, b3, b4, b5, b6, b7⟩ := b
  intro d r e
  cases d with
  | ins c l =>
    replace e : (if own.contains c = true then some false else none) = some r := e
    split at e
    · rename_i z
      cases e
      exact ⟨_, rfl, (h c z).2, fun c' l' q => by cases q; exact (h c z).1⟩
    · cases e
  | non => cases e; exact ⟨_, rfl, kit_ty b1, fun _ _ q => by cases q⟩
  | bl => cases e; exact ⟨_, rfl, kit_ty b2, fun _ _ q => by cases q⟩
  | int => cases e; exact ⟨_, rfl, kit_ty b3, fun _ _ q => by cases q⟩
  | str => cases e; exact ⟨_, rfl, kit_ty b4, fun _ _ q => by cases q⟩
  | tup => cases e; exact ⟨_, rfl, kit_ty b5, fun _ _ q => by cases q⟩
  | lst => cases e; exact ⟨_, rfl, kit_ty b6, fun _ _ q => by cases q⟩
  | dct => cases e; exact ⟨_, rfl, kit_ty b7, fun _ _ q => by cases q⟩
  | cls => cases e
  | pen => cases e
/-- the built-in kinds are not the class u -/
structure Off (K : PySem.W.Frag) (u : Value) : Prop where
  n : PySem.W.kitOne K (.type "NoneType") u = some false
  b : PySem.W.kitOne K (.type "bool") u = some false
  i : PySem.W.kitOne K (.type "int") u = some false
  s : PySem.W.kitOne K (.type "str") u = some false
  t : PySem.W.kitOne K (.type "tuple") u = some false
  l : PySem.W.kitOne K (.type "list") u = some false
  d : PySem.W.kitOne K (.type "dict") u = some false
theorem isK_own (b : Off K (.ref (cm c))) (h : ∀ c', own.contains c' = true → InsTy K (cm c') ∧ PySem.W.kitOne K (.ref (cm c')) (.ref (cm c)) = some (c' == c)) : IsK K cm (.ref (cm c)) (gOwn own c) := by
  intro d r e
  cases d with
  | ins c' l =>
    replace e : (if own.contains c' = true then some (c' == c) else none) = some r := e
    split at e
    · rename_i z
      cases e
      exact ⟨_, rfl, (h c' z).2, fun c'' l' q => by cases q; exact (h c' z).1⟩
    · cases e
  | non => cases e; exact ⟨_, rfl, b.n, fun _ _ q => by cases q⟩
  | bl => cases e; exact ⟨_, rfl, b.b, fun _ _ q => by cases q⟩
  | int => cases e; exact ⟨_, rfl, b.i, fun _ _ q => by cases q⟩
  | str => cases e; exact ⟨_, rfl, b.s, fun _ _ q => by cases q⟩
  | tup => cases e; exact ⟨_, rfl, b.t, fun _ _ q => by cases q⟩
  | lst => cases e; exact ⟨_, rfl, b.l, fun _ _ q => by cases q⟩
  | dct => cases e; exact ⟨_, rfl, b.d, fun _ _ q => by cases q⟩
  | cls => cases e
  | pen => cases e
theorem kit_mro {C : Addr} {T : String} (hT : PySem.W.kitMeta T = true) (h : PySem.W.mroIn K C (.type T) = some false) : PySem.W.kitOne K (.ref C) (.type T) = some false := by
  unfold PySem.W.kitOne
  rw [if_neg (by simp)]
  show (if PySem.W.kitMeta T = true then PySem.W.mroIn K C (.type T) else none) = some false
  rw [if_pos hT]
  exact h
theorem kit_off {C : Addr} {a : String} {l : List Value} (h1 : PySem.W.hasDictIn K C = true) (h2 : PySem.W.typeIn K (.ref C) = some (.type "type")) (e : fastBuiltinMro a = some l) (h : l.contains (.ref C) = false) : PySem.W.kitOne K (.type a) (.ref C) = some false := by
  have hc : (PySem.W.clsIn K C).isSome = true := by
    obtain ⟨cd, hc, _⟩ := PySem.W.any_some h1
    rw [hc]; rfl
  unfold PySem.W.kitOne
  rw [if_neg (by simp)]
  show (if ((PySem.W.clsIn K C).isSome && PySem.W.typeIn K (.ref C) == some (.type "type")) = true then (fastBuiltinMro a).map (·.contains (.ref C)) else none) = some false
  rw [if_pos (by rw [hc, h2]; rfl), e]
  exact congrArg some h
theorem off_of {C : Addr} (h1 : PySem.W.hasDictIn K C = true) (h2 : PySem.W.typeIn K (.ref C) = some (.type "type")) : Off K (.ref C) :=
  ⟨kit_off (l := [.type "NoneType", .type "object"]) h1 h2 (by decide +kernel) (by simp), kit_off (l := [.type "bool", .type "int", .type "object"]) h1 h2 (by decide +kernel) (by simp), kit_off (l := [.type "int", .type "object"]) h1 h2 (by decide +kernel) (by simp),
    kit_off (l := [.type "str", .type "object"]) h1 h2 (by decide +kernel) (by simp), kit_off (l := [.type "tuple", .type "object"]) h1 h2 (by decide +kernel) (by simp), kit_off (l := [.type "list", .type "object"]) h1 h2 (by decide +kernel) (by simp), kit_off (l := [.type "dict", .type "object"]) h1 h2 (by decide +kernel) (by simp)⟩
theorem kit_other {C C' : Addr} (h1 : PySem.W.hasDictIn K C = true) (h2 : PySem.W.typeIn K (.ref C) = some (.type "type")) (h : PySem.W.mroIn K C' (.ref C) = some false) (n : C' ≠ C) : PySem.W.kitOne K (.ref C') (.ref C) = some false := by
  have hc : (PySem.W.clsIn K C).isSome = true := by
    obtain ⟨cd, hc, _⟩ := PySem.W.any_some h1
    rw [hc]; rfl
  unfold PySem.W.kitOne
  rw [if_neg (by simpa using n)]
  show (if ((PySem.W.clsIn K C).isSome && PySem.W.typeIn K (.ref C) == some (.type "type")) = true then PySem.W.mroIn K C' (.ref C) else none) = some false
  rw [if_pos (by rw [hc, h2]; rfl)]
  exact h
theorem kit_self {C : Addr} : PySem.W.kitOne K (.ref C) (.ref C) = some true := by
  unfold PySem.W.kitOne
  simp
/-- the built-in kinds do not come first before the class at C -/
theorem sub_ty {a : String} {l : List Value} {C : Addr} (e : fastBuiltinMro a = some l) (h : l.contains (.ref C) = false) : PySem.W.notFirst K C (.type a) = true := by
  unfold PySem.W.notFirst
  rw [show PySem.W.subIn K (.type a) (.ref C) = (fastBuiltinMro a).map (·.contains (.ref C)) from rfl, e]
  show (_ || some (l.contains (.ref C)) == some false) = true
  rw [h]
  simp
theorem nf_ty {C : Addr} {d : D} {t : Value} (h : tyD cm d = some t) (hn : ∀ c l, d ≠ .ins c l) : PySem.W.notFirst K C t = true := by
  cases d with
  | ins c l => exact absurd rfl (hn c l)
  | non => cases h; exact sub_ty (l := [.type "NoneType", .type "object"]) (by decide +kernel) (by simp)
  | bl => cases h; exact sub_ty (l := [.type "bool", .type "int", .type "object"]) (by decide +kernel) (by simp)
  | int => cases h; exact sub_ty (l := [.type "int", .type "object"]) (by decide +kernel) (by simp)
  | str => cases h; exact sub_ty (l := [.type "str", .type "object"]) (by decide +kernel) (by simp)
  | tup => cases h; exact sub_ty (l := [.type "tuple", .type "object"]) (by decide +kernel) (by simp)
  | lst => cases h; exact sub_ty (l := [.type "list", .type "object"]) (by decide +kernel) (by simp)
  | dct => cases h; exact sub_ty (l := [.type "dict", .type "object"]) (by decide +kernel) (by simp)
  | cls => cases h
  | pen => cases h
def okG (own : List Nat) (c : Nat) (d : D) : Prop := (gOwn own c d).isSome = true
theorem eqK_mk {f : Addr} (eq : PySem.W.findIn K (.ref (cm c)) "__eq__" = some (some (.ref f))) (fn : PySem.W.isFn K (.ref f) = true) (ne : PySem.W.findIn K (.ref (cm c)) "__ne__" = some (some (.builtin "object.__ne__"))) (mo : PySem.W.mroIn K (cm c) (.type "object") = some true)
    (h : ∀ c', own.contains c' = true → InsTy K (cm c') ∧ PySem.W.notFirst K (cm c) (.ref (cm c')) = true) : EqK K cm c f (okG own c) := by
  refine ⟨eq, fn, ne, mo, fun d ok => ?_⟩
  have base : ∀ t, tyD cm d = some t → (∀ c l, d ≠ .ins c l) → ∃ t, tyD cm d = some t ∧ PySem.W.notFirst K (cm c) t = true ∧ ∀ c l, d = .ins c l → InsTy K (cm c) := fun t e n => ⟨t, e, nf_ty e n, fun c l q => absurd q (n c l)⟩
  cases d with
  | ins c' l =>
    replace ok : (if own.contains c' = true then some (c' == c) else none).isSome = true := ok
    split at ok
    · rename_i z
      exact ⟨_, rfl, (h c' z).2, fun c'' l' q => by cases q; exact (h c' z).1⟩
    · cases ok
  | cls => cases ok
  | pen => cases ok
  | _ => exact base _ rfl (fun _ _ q => by cases q)
theorem nf_self {C : Addr} : PySem.W.notFirst K C (.ref C) = true := by
  unfold PySem.W.notFirst
  simp
end
theorem own0 {p : Nat → Prop} : ∀ c, ([] : List Nat).contains c = true → p c := fun c h => by cases h
theorem ownS {p : Nat → Prop} {x : Nat} {l : List Nat} (h : p x) (t : ∀ c, l.contains c = true → p c) : ∀ c, (x :: l).contains c = true → p c := fun c hc => by
  have h2 : c ∈ x :: l := by simpa using hc
  rcases List.mem_cons.mp h2 with rfl | h3
  · exact h
  · exact t c (by simpa using h3)
theorem kw0 {K : PySem.W.Frag} {A : Addr} : ∀ q ∈ ([] : List (Str × V)), ∃ u, PySem.W.nsIn K A q.1 = some (some u) ∧ RelV q.2 u := fun q h => by cases h
theorem kwS {K : PySem.W.Frag} {A : Addr} {x : Str} {v : V} {u : Value} {l : List (Str × V)} (h : PySem.W.nsIn K A x = some (some u)) (r : RelV v u) (t : ∀ q ∈ l, ∃ u, PySem.W.nsIn K A q.1 = some (some u) ∧ RelV q.2 u) : ∀ q ∈ (x, v) :: l, ∃ u, PySem.W.nsIn K A q.1 = some (some u) ∧ RelV q.2 u := fun q hq => by
  rcases List.mem_cons.mp hq with rfl | h2
  · exact ⟨u, h, r⟩
  · exact t q h2
end FL
set_option Elab.async false
set_option linter.all false
set_option maxRecDepth 100000
set_option maxHeartbeats 4000000
namespace FL
open PySem PySem.Spec PyProof.Rows L2
section
variable {P : Program} {w : World} {K : PySem.W.Frag} {mg : Str → Option Value} {base : Heap}
/-- the pen at p: its numbers at q -/
def PenH (H : Hp) (p q : Addr) (ns : List Int) (i r : Int) : Prop := H p = some (.lst [.ref q, .int i, .int r]) ∧ H q = some (.lst (ns.map V.int)) ∧ 0 ≤ i ∧ i < (cap : Int) ∧ 0 ≤ r
/-- what stood stays, but for the pen -/
def PenS (H H' : Hp) (p q : Addr) (i r : Int) : Prop := (∀ b o, H b = some o → b ≠ p → H' b = some o) ∧ H' p = some (.lst [.ref q, .int i, .int r])
/-- the script's first sixty numbers, a place, a rest -/
def spPenH (K : PySem.W.Frag) : Sp := fun vs H Q _ => ∃ (a : Addr) (ns : List Int), vs = [.ref a] ∧ SqL K H a (ns.map V.int) ∧ ns.length ≤ 1000 ∧ ∀ (q p : Addr) (H' : Hp), H q = none → H p = none → p ≠ q → (∀ b o, H b = some o → H' b = some o) → H' q = some (.lst ((ns.take 60).map V.int)) → H' p = some (.lst [.ref q, .int 0, .int 0]) → Q (.ref p) H'
/-- the next number: the place moves on -/
def spNextH : Sp := fun vs H Q _ => ∃ (p q : Addr) (ns : List Int) (i r : Int), vs = [.ref p] ∧ PenH H p q ns i r ∧ ∀ (z : Int) (H' : Hp), 0 ≤ z → PenS H H' p q (i + 1) r → Q (.int z) H'
def spDrawH : Sp := fun vs H Q _ => ∃ (p q : Addr) (ns : List Int) (i r n : Int), vs = [.ref p, .int n] ∧ 0 < n ∧ n < 1000000 ∧ PenH H p q ns i r ∧ ∀ (z i' r' : Int) (H' : Hp), 0 ≤ z → z < n → i ≤ i' → i' ≤ i + 1 → 0 ≤ r' → PenS H H' p q i' r' → Q (.int z) H'
/-- the module's names that the three defs need -/
structure PenT (mg : Str → Option Value) (fN : Addr) : Prop where
  len : mg "len" = none
  list : mg "list" = none
  next : mg "_law_next" = some (.ref fN)
theorem log2_lt {n k : Nat} (hk : 0 < k) (h : n < 2 ^ k) : n.log2 < k := by
  by_cases z : n = 0
  · subst z; exact hk
  · exact (Nat.log2_lt z).mpr h
theorem at_ints {ns : List Int} {j : Int} (h0 : 0 ≤ j) (h1 : j < ((ns.map V.int).length : Int)) : ∃ c, atI (ns.map V.int) j = some (.int c) := by
  rw [List.length_map] at h1
  have h2 : j.toNat < ns.length := by omega
  refine ⟨ns[j.toNat], ?_⟩
  unfold atI ixN
  rw [if_pos h0, List.length_map, if_pos h1]
  show (ns.map V.int)[j.toNat]? = _
  rw [List.getElem?_map, List.getElem?_eq_getElem h2]
  rfl
theorem dp_ints {H : Hp} : ∀ ns : List Int, DpAll K H (ns.map V.int) (ns.map PyData.int)
  | [] => .nil
  | n :: ns => .cons (.int n) (dp_ints ns)
theorem lay_ints : ∀ ns : List Int, PyData.canLayAll0 (ns.map PyData.int) = true
  | [] => rfl
  | n :: ns => by
    show (PyData.canLay0 (.int n) && PyData.canLayAll0 (ns.map PyData.int)) = true
    rw [lay_ints ns]; rfl
theorem dep_ints : ∀ ns : List Int, PyData.depthAll (ns.map PyData.int) = 0
  | [] => rfl
  | n :: ns => by
    show max (PyData.depth (.int n)) (PyData.depthAll (ns.map PyData.int)) = 0
    rw [dep_ints ns]; rfl
theorem shaped_ints (ns : List Int) : SeqAt.shaped (.list (ns.map PyData.int)) = true := by
  unfold SeqAt.shaped
  rw [Bool.and_eq_true, decide_eq_true_eq]
  refine ⟨lay_ints ns, ?_⟩
  show PyData.depthAll (ns.map PyData.int) + 1 ≤ 64
  rw [dep_ints]; decide
theorem cut60 (ns : List Int) : cutV (ns.map V.int) none (some 60) = (ns.take 60).map V.int := by
  unfold cutV
  rw [List.map_take]
  show ((ns.map V.int).drop 0).take (HT.sIx (ns.map V.int).length (ns.map V.int).length (some 60) - 0) = _
  rw [List.drop_zero, Nat.sub_zero, show (some (60 : Int)) = some ((60 : Nat) : Int) from rfl, HT.sIx_nat]
  by_cases h : (ns.map V.int).length ≤ 60
  · rw [Nat.min_eq_right h, List.take_length, List.take_of_length_le h]
  · rw [Nat.min_eq_left (by omega)]
theorem draw_F {cm : Nat → Addr} {n : Nat} {f : Addr} {fd : FuncData} {ps : List Str} (hl : ps.length = 2) (F : FnOk P w K mg base (fun _ _ _ _ _ _ => False) n f fd ps spDrawH) : FnF cm P w K mg base n f fd ps spDraw 1 := by
  refine FnF.of_ok F (fun ds Q E ⟨n, e, _⟩ => by subst e; rw [hl]; rfl) fun k G H vs ds Q E β hc ⟨n, e, n0, n1, q⟩ s po rd => ?_
  subst e
  obtain ⟨v, u, rfl, r1, r2⟩ := rd.inv2
  cases r1
  cases r2
  obtain ⟨hG, q0, ns, i, r, h1, h2, ⟨i0, i1⟩, r0⟩ := id po
  refine ⟨k.p, q0, ns, i, r, n, rfl, n0, n1, ⟨h1, s _ _ h2, i0, by omega, r0⟩, fun z i' r' H' z0 z1 a b c st => ⟨G, SB.drawn s po st.1 st.2 h2 (by omega) (by omega) c, .inl ⟨_, q z z0 z1, .int z⟩⟩⟩
end
section
variable {Z : Cz} {e : Expr} {w : W1} {ca : Nat} {pos : Pos}
theorem pf_cvalI {i : Nat} {mc : Value} {f : Str} {z : Int} (he : PF Z e w ca) (r : ClX.CRead Z.X.K (Z.k.cm i) mc) (k : ∃ u, ClX.CVal Z.X.K (Z.k.cm i) mc f (.int z) u)
    (hb : attributeBase e f Z.X.env (eval e Z.X.env) = eval e Z.X.env := by rfl) : PF Z (.Attribute e f pos) (wCv i (.int z) w) ca := by
  obtain ⟨u, k⟩ := k
  exact pf_cval he r k (fun _ => .int z) hb
end
/-! ## plain laws of readings -/
/-- a comprehension without tests whose elements are told by a function -/
theorem lc_map {i : Nat} {we : W1} {vs : List Nat} {ds : List D} {ρ1 : Env} {Q : List D → Env → Prop} (f : D → D) (h : ∀ d, d ∈ ds → ∀ Q' : WQ, (∀ ρ4, wipeE ρ4 vs = wipeE ρ1 vs → Q' (f d) ρ4) → we ((wipeE ρ1 vs).set i (.va d)) Q' noE) (q : Q (ds.map f) (wipeE ρ1 vs)) (hv : wipeE (wipeE ρ1 vs) vs = wipeE ρ1 vs) :
    ∃ I : Nat → List D → Env → Prop, I 0 [] (wipeE ρ1 vs) ∧ (∀ k d acc ρ, ds[k]? = some d → I k acc ρ → bindT (.one i) d ρ fun ρ2 => wYes ρ2 (fun b ρ3 => if b = true then we ρ3 (fun x ρ4 => I (k + 1) (acc ++ [x]) (wipeE ρ4 vs)) noE else I (k + 1) acc (wipeE ρ3 vs)) noE) ∧
      ∀ acc ρ, I ds.length acc ρ → Q acc ρ := by
  refine ⟨fun k acc ρ => acc = (ds.take k).map f ∧ ρ = wipeE ρ1 vs, ⟨rfl, rfl⟩, fun k d acc ρ hd ⟨e1, e2⟩ => ?_, fun acc ρ ⟨e1, e2⟩ => ?_⟩
  · subst e1; subst e2
    simp only [bindT, wYes, ↓reduceIte]
    refine h d (List.mem_of_getElem? hd) _ fun ρ4 e => ⟨?_, e⟩
    have hk := (List.getElem?_eq_some_iff.mp hd)
    obtain ⟨hk, hd'⟩ := hk
    rw [List.take_succ, hd, List.map_append]
    rfl
  · subst e1; subst e2
    rw [List.take_length]
    exact q
theorem sh_int (i : Int) : SeqAt.shaped (.int i) = true := rfl
theorem sh_bool (b : Bool) : SeqAt.shaped (.bool b) = true := rfl
theorem sh_none : SeqAt.shaped .none = true := rfl
theorem ev_int (i j : Int) : PyData.eqv (.int i) (.int j) = decide (i = j) := by
  show (i == j) = _
  by_cases h : i = j <;> simp [h]
theorem ev_str (x y : Str) : PyData.eqv (.str x) (.str y) = decide (x = y) := by
  show (x == y) = _
  by_cases h : x = y <;> simp [h]
theorem ev_bool (x y : Bool) : PyData.eqv (.bool x) (.bool y) = decide (x = y) := by
  show (x == y) = _
  by_cases h : x = y <;> simp [h]
theorem ev_tup (x y : List PyData) : PyData.eqv (.tuple x) (.tuple y) = PyData.eqvAll x y := rfl
theorem ev_lst (x y : List PyData) : PyData.eqv (.list x) (.list y) = PyData.eqvAll x y := rfl
theorem ev_cons (a b : PyData) (x y : List PyData) : PyData.eqvAll (a :: x) (b :: y) = (PyData.eqv a b && PyData.eqvAll x y) := rfl
theorem ev_nil : PyData.eqvAll [] [] = true := rfl
/-- flat data within a list or tuple -/
def flatP (d : PyData) : Prop := d.canLay0 = true ∧ d.depth = 0
theorem flatP_all : ∀ {l : List PyData}, (∀ d ∈ l, flatP d) → PyData.canLayAll0 l = true ∧ PyData.depthAll l = 0
  | [], _ => ⟨rfl, rfl⟩
  | d :: l, h => by
    obtain ⟨a, b⟩ := h d (List.mem_cons_self ..)
    obtain ⟨c, e⟩ := flatP_all (l := l) fun x hx => h x (List.mem_cons_of_mem _ hx)
    refine ⟨?_, ?_⟩
    · show (PyData.canLay0 d && PyData.canLayAll0 l) = true
      rw [a, c]; rfl
    · show max (PyData.depth d) (PyData.depthAll l) = 0
      rw [b, e]; rfl
theorem sh_tup {l : List PyData} (h : ∀ d ∈ l, flatP d) : SeqAt.shaped (.tuple l) = true := by
  obtain ⟨a, b⟩ := flatP_all h
  unfold SeqAt.shaped
  rw [Bool.and_eq_true, decide_eq_true_eq]
  refine ⟨a, ?_⟩
  show PyData.depthAll l + 1 ≤ 64
  rw [b]; decide
theorem sh_lst {l : List PyData} (h : ∀ d ∈ l, flatP d) : SeqAt.shaped (.list l) = true := by
  obtain ⟨a, b⟩ := flatP_all h
  unfold SeqAt.shaped
  rw [Bool.and_eq_true, decide_eq_true_eq]
  refine ⟨a, ?_⟩
  show PyData.depthAll l + 1 ≤ 64
  rw [b]; decide
theorem fl_int (i : Int) : flatP (.int i) := ⟨rfl, rfl⟩
theorem fl_bool (i : Bool) : flatP (.bool i) := ⟨rfl, rfl⟩
theorem fl_none : flatP .none := ⟨rfl, rfl⟩
theorem fl_str {x : Str} (h : SeqAt.shaped (.str x) = true) : flatP (.str x) := ⟨shaped_lay h, rfl⟩
/-- one statement at a time -/
theorem seq_gen {u v : WS} {DD : DE} {E : WN} {ρ : Env} (h : ∀ R : Env → Prop, (∀ ρ1, v DD E ρ1 → R ρ1) → u { DD with nx := R } E ρ) : wSeq u v DD E ρ := h _ fun _ x => x
theorem bools_facts : ∀ {l : List PyData}, (∀ d ∈ l, ∃ b, d = .bool b) → PyData.showableAll l = true ∧ PyData.leavesShortAll 8 l = true ∧ PyData.weightAll l ≤ 3 * l.length
  | [], _ => ⟨rfl, rfl, Nat.le_refl _⟩
  | d :: l, h => by
    obtain ⟨b, rfl⟩ := h d (List.mem_cons_self ..)
    obtain ⟨a, c, e⟩ := bools_facts (l := l) fun x hx => h x (List.mem_cons_of_mem _ hx)
    refine ⟨?_, ?_, ?_⟩
    · show (true && PyData.showableAll l) = true
      rw [a]; rfl
    · show (true && PyData.leavesShortAll 8 l) = true
      rw [c]; rfl
    · simp only [PyData.weightAll, PyData.weight, List.length_cons]
      omega
theorem shows_bools {l : List PyData} (h : ∀ d ∈ l, ∃ b, d = .bool b) (hl : l.length ≤ 1000) : shows (.list l) := by
  obtain ⟨a, b, c⟩ := bools_facts h
  refine ⟨sh_lst fun d hd => ?_, a, ?_⟩
  · obtain ⟨b, rfl⟩ := h d hd
    exact fl_bool b
  · have z := PyData.shown_le 8 (Nat.le_refl _) (.list l) b
    have y : (PyData.list l).weight = PyData.weightAll l := by simp only [PyData.weight]
    rw [y] at z
    omega
theorem b0 : ∀ d ∈ ([] : List PyData), ∃ b, d = .bool b := fun d h => by cases h
theorem bS {b : Bool} {l : List PyData} (h : ∀ d ∈ l, ∃ b, d = .bool b) : ∀ d ∈ PyData.bool b :: l, ∃ b, d = .bool b := fun d hd => by
  rcases List.mem_cons.mp hd with rfl | h2
  · exact ⟨b, rfl⟩
  · exact h d h2
/-- a loop whose body stores nothing but the target -/
theorem for_set {ds : List D} {u : WS} {DD : DE} {E : WN} {ρ1 : Env} (j : Nat) (hx : ∃ x, ρ1[j]? = some x) (turn : ∀ d ∈ ds, u { DD with nx := fun ρ => ∃ x, ρ = ρ1.set j x, ct := fun ρ => ∃ x, ρ = ρ1.set j x, bk := DD.nx } E (ρ1.set j (.va d))) (fin : ∀ x, DD.nx (ρ1.set j x)) :
    ∃ I : Nat → Env → Prop, I 0 ρ1 ∧ (∀ i d ρ, ds[i]? = some d → I i ρ → bindT (.one j) d ρ fun ρ2 => u { DD with nx := I (i + 1), ct := I (i + 1), bk := DD.nx } E ρ2) ∧ ∀ ρ, I ds.length ρ → DD.nx ρ := by
  refine ⟨fun _ ρ => ∃ x, ρ = ρ1.set j x, ?_, fun i d ρ hd ⟨x, e⟩ => ?_, fun ρ ⟨x, e⟩ => by rw [e]; exact fin x⟩
  · obtain ⟨x, hx⟩ := hx
    refine ⟨x, (List.ext_getElem? fun i => ?_).symm⟩
    by_cases h : i = j
    · subst h
      rw [List.getElem?_set_self (List.getElem?_eq_some_iff.mp hx).1, hx]
    · rw [List.getElem?_set_ne (Ne.symm h)]
  · subst e
    show u _ E ((ρ1.set j x).set j (.va d))
    rw [List.set_set]
    exact turn d (List.mem_of_getElem? hd)
end FL
set_option Elab.async false
set_option linter.all false
set_option maxRecDepth 100000
set_option maxHeartbeats 4000000
namespace FL
open PySem PySem.Spec PyProof.Rows L2

/-! ## what repr prints, bounded -/
structure Sh (d : PyData) (a w : Nat) : Prop where
  c : d.canLay0 = true
  s : d.showable = true
  l : d.leavesShort 1921 = true
  dp : d.depth ≤ a
  wt : d.weight ≤ w
structure ShL (d : List PyData) (a w : Nat) : Prop where
  c : PyData.canLayAll0 d = true
  s : PyData.showableAll d = true
  l : PyData.leavesShortAll 1921 d = true
  dp : PyData.depthAll d ≤ a
  wt : PyData.weightAll d ≤ w
theorem Sh.non : Sh .none 0 0 := ⟨rfl, rfl, rfl, Nat.le_refl _, by simp [PyData.weight]⟩
theorem Sh.bl (b : Bool) : Sh (.bool b) 0 0 := ⟨rfl, rfl, rfl, Nat.le_refl _, by simp [PyData.weight]⟩
theorem Sh.int {i : Int} (h : i.natAbs.log2 < 1920) : Sh (.int i) 0 1921 := by
  refine ⟨rfl, by simpa [PyData.showable] using h, ?_, Nat.le_refl _, ?_⟩
  · have z := int_text_len_1921 h
    simp only [PyData.leavesShort, decide_eq_true_eq]
    exact z
  · simp only [PyData.weight]
    split <;> omega
theorem Sh.str {x : Str} (h : PyData.strOk x = true) : Sh (.str x) 0 x.length := by
  refine ⟨by simpa [PyData.canLay0] using h, rfl, ?_, Nat.le_refl _, by simp only [PyData.weight]; exact Nat.le_refl _⟩
  exact PyData.leavesShort_of_canLay0 1921 (.str x) (by simpa [PyData.canLay0] using h) rfl
theorem ShL.nil : ShL [] 0 0 := ⟨rfl, rfl, rfl, Nat.le_refl _, by simp [PyData.weightAll]⟩
theorem ShL.cons {d : PyData} {l : List PyData} {a b v w : Nat} (h : Sh d a v) (t : ShL l b w) : ShL (d :: l) (max a b) (v + 1 + w) := by
  refine ⟨?_, ?_, ?_, ?_, ?_⟩
  · show (PyData.canLay0 d && PyData.canLayAll0 l) = true
    rw [h.c, t.c]; rfl
  · show (PyData.showable d && PyData.showableAll l) = true
    rw [h.s, t.s]; rfl
  · show (PyData.leavesShort 1921 d && PyData.leavesShortAll 1921 l) = true
    rw [h.l, t.l]; rfl
  · show max (PyData.depth d) (PyData.depthAll l) ≤ _
    have := h.dp; have := t.dp
    omega
  · simp only [PyData.weightAll]
    have := h.wt; have := t.wt
    omega
theorem Sh.lst {l : List PyData} {a w : Nat} (h : ShL l a w) : Sh (.list l) (a + 1) w := ⟨h.c, h.s, h.l, Nat.succ_le_succ h.dp, by simp only [PyData.weight]; exact h.wt⟩
theorem Sh.tup {l : List PyData} {a w : Nat} (h : ShL l a w) : Sh (.tuple l) (a + 1) w := ⟨h.c, h.s, h.l, Nat.succ_le_succ h.dp, by simp only [PyData.weight]; exact h.wt⟩
theorem Sh.shaped {d : PyData} {a w : Nat} (h : Sh d a w) (ha : a ≤ 64) : SeqAt.shaped d = true := by
  unfold SeqAt.shaped
  rw [Bool.and_eq_true, decide_eq_true_eq]
  exact ⟨h.c, Nat.le_trans h.dp ha⟩
theorem Sh.shows {d : PyData} {a w : Nat} (h : Sh d a w) (ha : a ≤ 64) (hw : w ≤ 8300) : shows d := by
  refine ⟨h.shaped ha, h.s, ?_⟩
  have z := PyData.shown_le 1921 (by decide) d h.l
  have := h.wt
  have : (1921 + 2) * d.weight ≤ (1921 + 2) * 8300 := Nat.mul_le_mul_left _ (by omega)
  omega

/-! ## keywords: makings and calls without places -/
section
variable {Z : Cz} {a b c e o : Expr} {es : List Expr} {wa wb wc w : W1} {wl wk : WL} {pos p apos : Pos} {ca cb cc co cs : Nat} {x m : Str}
theorem pf_makeK0 {i n : Nat} {f : Addr} {fd : FuncData} {ps ks : List Str} {sp : SpD} {gD : List D → List D → List D} {kws : List Keyword} (M : Mk Z.X.K (Z.k.cm i) f) (F : IniF Z.k.cm Z.X.prog Z.X.w Z.X.K Z.X.mg Z.X.base n i f fd ps sp cs) (hr : Room (n + 1) Z.X.A) (hg : Z.X.A.guards = some [])
    (hG : Gl Z.X x) (hm : Z.X.mg x = some (.ref (Z.k.cm i))) (hb : MkK Z.X.K fd ps 0 ks gD) (hk : PFk Z kws wk cb)
    (hall : (backToKw pos (keywordEach kws Z.X.env)).all (·.1.isSome) = true := by rfl) (hks : (backToKw pos (keywordEach kws Z.X.env)).filterMap (·.1) = ks := by rfl) (hdb : (x == ("__debug__" : Str)) = false := by decide)
    (hpl : ((backTo pos (starEach [] Z.X.env)).any (·.1) || (backToKw pos (keywordEach kws Z.X.env)).any (·.1.isNone)) = false := by rfl) :
    PF Z (.Call (.Name x p) [] kws pos) (wMakeK 0 ks.length sp gD wNil wk) (cb + cs) := fun W tk => by
  refine ⟨fun pins s σ H Q I ⟨G, ρ, Qd, E, β, hβ, sr, lk, q, l⟩ => ?_⟩
  refine wpAny_Call_Name_kw (ld_glob I hG hm ?_ hdb)
  refine PySem.W.callWith_KW0 (h₀ := Z.X.base) I.ok.mod.kin M.kp hall ?_ hpl
  refine thn (kws_run (pos := pos) hk tk I (by omega) sr lk q) fun ws s2 ⟨zs, es', H2, G2, ρ2, I2, rz, s2', g2, re, q2⟩ => ⟨I2.kIn, ?_⟩
  rw [hks]
  obtain ⟨_, l2, q3⟩ := q2
  have L2 : ws.length = ks.length := by rw [← rz.length, ← re.length]; exact l2
  obtain ⟨bs, bv, hbd, rb, rr⟩ := hb.to [] ws [] zs rfl L2 .nil rz
  exact thn (run_mk (Q := fun d => Qd d ρ2) M F hr hg (by omega) tk lk I2 s2' rb (rr _ _ _ _ .nil re) hbd q3) fun u s' h => callP_F h fun d v G' H' q' sr' g' r' => l d ρ2 v G' H' q' (sr'.le (by omega)) (g2.trans g') r'
/-- how a call with keywords binds: n values by places -/
structure KBd (K : PySem.W.Frag) (fd : FuncData) (ps : List Str) (n : Nat) (ks : List Str) (gD : List D → List D → List D) : Prop where
  to : ∀ (us ws : List Value) (vs zs : List V), us.length = n → ws.length = ks.length → Vals vs us → Vals zs ws →
    ∃ bs bv, (∀ s : Shared, K.In s.heap → BindsTo s fd ⟨us, ks.zip ws⟩ (ps.zip bs)) ∧ Vals bv bs ∧ ∀ k G ds es, RepL k G ds vs → RepL k G es zs → RepL k G (gD ds es) bv
def wCallK (n m : Nat) (sp : SpD) (gD : List D → List D → List D) (wl wk : WL) : W1 := fun ρ Q E => wl ρ (fun ds ρ1 => wk ρ1 (fun es ρ2 => ds.length = n ∧ es.length = m ∧ sp (gD ds es) (fun _ d => Q d ρ2) (fun c fs => E c fs ρ2)) E) E
theorem pf_callKW0 {n : Nat} {f : Addr} {fd : FuncData} {ps ks : List Str} {sp : SpD} {gD : List D → List D → List D} {kws : List Keyword} (F : FnF Z.k.cm Z.X.prog Z.X.w Z.X.K Z.X.mg Z.X.base n f fd ps sp cs) (hr : Room n Z.X.A) (hg : Z.X.A.guards = some [])
    (hG : Gl Z.X x) (hm : Z.X.mg x = some (.ref f)) (hkp : PySem.W.keepIn Z.X.K (.ref f) = true) (hb : KBd Z.X.K fd ps 0 ks gD) (hk : PFk Z kws wk cb)
    (hall : (backToKw pos (keywordEach kws Z.X.env)).all (·.1.isSome) = true := by rfl) (hks : (backToKw pos (keywordEach kws Z.X.env)).filterMap (·.1) = ks := by rfl) (hdb : (x == ("__debug__" : Str)) = false := by decide)
    (hpl : ((backTo pos (starEach [] Z.X.env)).any (·.1) || (backToKw pos (keywordEach kws Z.X.env)).any (·.1.isNone)) = false := by rfl) :
    PF Z (.Call (.Name x p) [] kws pos) (wCallK 0 ks.length sp gD wNil wk) (cb + cs) := fun W tk => by
  refine ⟨fun pins s σ H Q I ⟨G, ρ, Qd, E, β, hβ, sr, lk, q, l⟩ => ?_⟩
  refine wpAny_Call_Name_kw (ld_glob I hG hm ?_ hdb)
  refine PySem.W.callWith_KW0 (h₀ := Z.X.base) I.ok.mod.kin hkp hall ?_ hpl
  refine thn (kws_run (pos := pos) hk tk I (by omega) sr lk q) fun ws s2 ⟨zs, es', H2, G2, ρ2, I2, rz, s2', g2, re, q2⟩ => ⟨I2.kIn, ?_⟩
  rw [hks]
  obtain ⟨_, l2, q3⟩ := q2
  have L2 : ws.length = ks.length := by rw [← rz.length, ← re.length]; exact l2
  obtain ⟨bs, bv, hbd, rb, rr⟩ := hb.to [] ws [] zs rfl L2 .nil rz
  exact thn (run_F (Q := fun _ d => Qd d ρ2) F hr hg (by omega) tk lk I2 s2' (hbd _ I2.kIn) rb (rr _ _ _ _ .nil re) q3) fun u s' h => callP_F h fun d v G' H' q' sr' g' r' => l d ρ2 v G' H' q' (sr'.le (by omega)) (g2.trans g') r'
/-- C.m(k = v, ..), m a classmethod -/
def wClmK (i m : Nat) (sp : SpD) (gD : List D → List D) (w : W1) (wk : WL) : W1 := fun ρ Q E => w ρ (fun x ρ1 => x = .cls i ∧ wk ρ1 (fun es ρ2 => es.length = m ∧ sp (.cls i :: gD es) (fun _ d => Q d ρ2) (fun c fs => E c fs ρ2)) E) E
theorem pf_clmethK {i n : Nat} {f pr : Addr} {fd : FuncData} {ps ks : List Str} {sp : SpD} {gD : List D → List D} {mc : Value} {pl : Sem Bool} {kws : List Keyword} (he : PF Z o w co) (r : ClX.CRead Z.X.K (Z.k.cm i) mc) (hm : ClX.CMet Z.X.K (Z.k.cm i) mc m pr f) (F : FnF Z.k.cm Z.X.prog Z.X.w Z.X.K Z.X.mg Z.X.base n f fd ps sp cs) (hr : Room n Z.X.A) (hg : Z.X.A.guards = some [])
    (hb : KBd Z.X.K fd ps 1 ks (fun ds es => ds ++ gD es)) (hk : PFk Z kws wk cb)
    (hall : (backToKw pos (keywordEach kws Z.X.env)).all (·.1.isSome) = true := by rfl) (hks : (backToKw pos (keywordEach kws Z.X.env)).filterMap (·.1) = ks := by rfl)
    (hpl : ((backTo pos (starEach [] Z.X.env)).any (·.1) || (backToKw pos (keywordEach kws Z.X.env)).any (·.1.isNone)) = false := by rfl)
    (ht : eval (.Call (.Attribute o m apos) [] kws pos) Z.X.env = (do
      let ov ← eval o Z.X.env
      standAt apos.atName
      let (f, first) ← holding [ov] (getMethod ov m pl)
      callWith pos f first (backTo pos (starEach [] Z.X.env)) (backToKw pos (keywordEach kws Z.X.env))) := by rfl) : PF Z (.Call (.Attribute o m apos) [] kws pos) (wClmK i ks.length sp gD w wk) (co + cb + cs) := fun W tk => by
  refine ⟨fun pins s σ H Q I ⟨G, ρ, Qd, E, β, hβ, sr, lk, q, l⟩ => ?_⟩
  refine PySem.W.methodCall_KW (pl := pl) (thn (val_run he tk I (by omega) sr lk q) fun u s1 ⟨v, d, H1, G1, ρ1, I1, rv, s1', g1, r1, q1⟩ => ?_) ht
  obtain ⟨rfl, q1⟩ := q1
  cases r1
  obtain rfl : u = Value.ref _ := rv
  refine ClX.getmethcm_ok I1 r hm fun s2 I2 => ?_
  refine PySem.W.callWith_of (P := PySem.W.MethP Z.X.K s1.heap.objs.size f (.ref (Z.k.cm i))) hpl (PySem.W.keeps_M hm.fi) (evalArgs_kw2_nil hall ?_)
  refine thn (kws_run (pos := pos) hk tk I2 (by omega) s1' lk q1) fun ws s3 ⟨zs, es', H2, G2, ρ2, I3, rz, s2', g2, re, q2⟩ => ⟨⟨ClX.pin_at I3, I3.kIn⟩, ?_⟩
  rw [hks]
  obtain ⟨l2, q3⟩ := q2
  have L2 : ws.length = ks.length := by rw [← rz.length, ← re.length]; exact l2
  refine wpAny_call (PySem.W.method_call (ClX.pin_at I3) ?_)
  obtain ⟨bs, bv, hbd, rb, rr⟩ := hb.to [.ref (Z.k.cm i)] ws [.ref (Z.k.cm i)] zs rfl L2 (.cons rfl .nil) rz
  refine codeAny_mono (code_F (Q := fun _ d => Qd d ρ2) F hr hg (by omega) tk lk I3 s2' (hbd _ I3.kIn) rb (rr _ _ [.cls i] _ (.cons (.cls i) .nil) re) q3) fun r s' h => ?_
  cases r with
  | error e => exact h
  | ok fl =>
    cases fl with
    | ret u => exact callP_F (unpin_callP h) fun d v G' H' q' sr' g' r' => l d ρ2 v G' H' q' (sr'.le (by omega)) ((g1.trans g2).trans g') r'
    | next => exact False.elim h
    | brk => exact False.elim h
    | cont => exact False.elim h
/-! ## class things reached through an instance -/
def wIclm (i : Nat) (m : Str) (sp : SpD) (dds : List D) (w : W1) (wl : WL) : W1 := fun ρ Q E => w ρ (fun x ρ1 => match x with
  | .ins c' l => c' = i ∧ l.lookup m = none ∧ wl ρ1 (fun ds ρ2 => sp (.cls i :: (ds ++ dds)) (fun _ d => Q d ρ2) (fun c fs => E c fs ρ2)) E
  | _ => False) E
theorem pf_iclm {i n : Nat} {f pr : Addr} {fd : FuncData} {ps : List Str} {sp : SpD} {dds : List D} {pl : Sem Bool} (he : PF Z o w co) (hm : ClX.CInst Z.X.K (Z.k.cm i) m pr f) (F : FnF Z.k.cm Z.X.prog Z.X.w Z.X.K Z.X.mg Z.X.base n f fd ps sp cs) (hr : Room n Z.X.A) (hg : Z.X.A.guards = some []) (hd : Dfl Z.X Z.k fd ps dds) (ha : PFl Z (e :: es) wl ca)
    (hst : starEach (e :: es) Z.X.env = (false, eval e Z.X.env) :: starEach es Z.X.env := by rfl) (hpl : (backTo pos (starEach es Z.X.env)).any (·.1) = false := by rfl)
    (ht : eval (.Call (.Attribute o m apos) (e :: es) [] pos) Z.X.env = (do
      let ov ← eval o Z.X.env
      standAt apos.atName
      let (f, first) ← holding [ov] (getMethod ov m pl)
      callWith pos f first (backTo pos (starEach (e :: es) Z.X.env)) (backToKw pos (keywordEach [] Z.X.env))) := by rfl) : PF Z (.Call (.Attribute o m apos) (e :: es) [] pos) (wIclm i m sp dds w wl) (co + ca + cs) := fun W tk => by
  refine ⟨fun pins s σ H Q I ⟨G, ρ, Qd, E, β, hβ, sr, lk, q, l⟩ => ?_⟩
  refine PySem.W.methodCall_KW (pl := pl) (thn (val_run he tk I (by omega) sr lk q) fun u s1 ⟨v, d, H1, G1, ρ1, I1, rv, s1', g1, r1, q1⟩ => ?_) ht
  cases r1 with
  | @ins a c' dx fs l' e r =>
    obtain ⟨rfl, hl, q1⟩ := q1
    obtain rfl : u = Value.ref a := rv
    obtain ⟨mA, O, rr, _, _, _⟩ := ins_get I1.hok (s1'.b.sub _ _ e)
    have hn : mA m = none := RelO.none_of (by rw [← r.look.1 hl]; exact rr m)
    obtain ⟨od, J, hlk⟩ := O.look
    refine ClX.getmethim_ok I1 J (by rw [hlk m, hn]) hm fun s2 I2 => ?_
    refine ClX.callwith_cm I2 (ClX.base_none I1 (Nat.le_refl _)) hm.fi (thn (args_run (pos := pos) ha tk I2 (by omega) s1' lk q1) fun us s3 ⟨vs, ds, H2, G2, ρ2, I3, r2, s2', g2, rd, q2⟩ => ⟨⟨ClX.pin_at I3, I3.kIn⟩, ?_⟩) hst hpl
    refine wpAny_call (PySem.W.method_call (ClX.pin_at I3) ?_)
    refine codeAny_mono (code_call (us := .ref _ :: us) (vs := .ref _ :: vs) (ds := .cls c' :: ds) (Q := fun _ d => Qd d ρ2) F hr hg (by omega) hd tk lk I3 s2' (.cons rfl r2) (.cons (.cls c') rd) q2) fun r s' h => ?_
    cases r with
    | error e => exact h
    | ok fl =>
      cases fl with
      | ret u => exact callP_F (unpin_callP h) fun d v G' H' q' sr' g' r' => l d ρ2 v G' H' q' (sr'.le (by omega)) ((g1.trans g2).trans g') r'
      | next => exact False.elim h
      | brk => exact False.elim h
      | cont => exact False.elim h
  | _ => exact False.elim q1
/-- o.m(e, ..), m a staticmethod; o.f, a class's constant -/
structure IVal (K : PySem.W.Frag) (C : Addr) (f : Str) (z : Int) : Prop where
  ex : ∃ t, PySem.W.findIn K (.ref C) f = some (some (.int z t)) ∧ PySem.W.specialIn K (.int z t) "__get__" = some none
  cp : PySem.W.copiedNames.contains f = false
def wIval (i : Nat) (f : Str) (z : Int) (w : W1) : W1 := fun ρ Q E => w ρ (fun x ρ1 => match x with
  | .ins c' l => c' = i ∧ l.lookup f = none ∧ Q (.int z) ρ1
  | _ => False) E
theorem pf_ival {i : Nat} {f : Str} {z : Int} (he : PF Z o w co) (cl : Cls Z.X.K (Z.k.cm i)) (k : IVal Z.X.K (Z.k.cm i) f z) (hab : attributeBase o f Z.X.env (eval o Z.X.env) = eval o Z.X.env := by rfl) : PF Z (.Attribute o f pos) (wIval i f z w) co := fun W tk => by
  refine ⟨fun pins s σ H Q I ⟨G, ρ, Qd, E, β, hβ, sr, lk, q, l⟩ => ?_⟩
  refine attr_of hab (thn (val_run he tk I (by omega) sr lk q) fun u s1 ⟨v, d, H1, G1, ρ1, I1, rv, s1', g1, r1, q1⟩ => ?_)
  cases r1 with
  | @ins a c' dx fs l' e r =>
    obtain ⟨rfl, hl, q1⟩ := q1
    obtain rfl : u = Value.ref a := rv
    obtain ⟨mA, O, rr, _, _, _⟩ := ins_get I1.hok (s1'.b.sub _ _ e)
    have hn : mA f = none := RelO.none_of (by rw [← r.look.1 hl]; exact rr f)
    obtain ⟨od, J, hlk⟩ := O.look
    obtain ⟨t, k1, k2⟩ := k.ex
    exact PySem.W.get_value I1.kIn J (PySem.W.plainGet_of (cl.get f)).1 (PySem.W.findObj_cls cl.hd k1 k2 rfl k.cp (by rw [hlk f, hn])) rfl ⟨.int z, H1, I1.tok _, ⟨t, rfl⟩, l (.int z) ρ1 (.int z) G1 H1 q1 s1' g1 (.int z)⟩
  | _ => exact False.elim q1
end
/-! ## signs -/
def wNeg (w : W1) : W1 := fun ρ Q E => w ρ (fun d ρ1 => match d with
  | .int i => Q (.int (-i)) ρ1
  | _ => False) E
theorem pf_neg {Z : Cz} {a : Expr} {w : W1} {ca : Nat} {pos : Pos} (h : PF Z a w ca) : PF Z (.UnaryOp .USub a pos) (wNeg w) ca := fun W t => (pe_un un_neg (h W t)).weak fun σ H Q ⟨G, ρ, Qd, E, β, hb, s, lk, q, l⟩ =>
  ⟨G, ρ, _, E, β, hb, s, lk, q, fun d ρ1 v G1 H1 q1 s1 g1 r1 => by
    cases r1 with
    | int i => exact ⟨i, rfl, l _ ρ1 _ G1 H1 q1 s1 g1 (.int _)⟩
    | _ => exact False.elim q1⟩
end FL
set_option Elab.async false
set_option linter.all false
set_option maxRecDepth 100000
set_option maxHeartbeats 4000000
namespace FL
open PySem PySem.Spec PyProof.Rows L2

/-! ## zip, enumerate -/
def zipD : List D → List D → List D
  | a :: l, b :: m => .tup [a, b] :: zipD l m
  | _, _ => []
theorem zipD_len : ∀ (l m : List D), (zipD l m).length = min l.length m.length
  | [], _ => by simp [zipD]
  | _ :: _, [] => by simp [zipD]
  | a :: l, b :: m => by simp [zipD, zipD_len l m]
theorem zipD_get : ∀ {l m : List D} {i : Nat} {a b : D}, l[i]? = some a → m[i]? = some b → (zipD l m)[i]? = some (.tup [a, b])
  | [], _, i, _, _, h, _ => by simp at h
  | _ :: _, [], i, _, _, _, h => by simp at h
  | x :: l, y :: m, 0, a, b, h, g => by
    simp at h g
    subst h; subst g
    rfl
  | x :: l, y :: m, i + 1, a, b, h, g => by
    have := zipD_get (l := l) (m := m) (i := i) (a := a) (b := b) (by simpa using h) (by simpa using g)
    simpa [zipD] using this
section
variable {Z : Cz} {e e2 : Expr} {w : W1} {wl : WL} {p pos tpos : Pos} {ca : Nat} {elts : List Expr} {kk : Nat}
theorem walk_zipD {a b : Addr} {vs us : List V} {G : Hp} {ds es : List D} (h : G a = some (.lst vs)) (r : RepL Z.k G ds vs) (h2 : G b = some (.lst us)) (r2 : RepL Z.k G es us) (hl : (zipD ds es).length ≤ sizeLine) : WalkD Z (Itz Z.X.K a b) G (zipD ds es) where
  len := hl
  go := fun i H s hi => by
    rw [zipD_len] at hi
    have h1 : i < vs.length := by rw [← r.length]; omega
    have h3 : i < us.length := by rw [← r2.length]; omega
    exact ⟨vs, us, vs[i], us[i], Sub.seqL h s, Sub.seqL h2 s, List.getElem?_eq_getElem h1, List.getElem?_eq_getElem h3⟩
  st := fun H s => ⟨vs, us, Sub.seqL h s, Sub.seqL h2 s, by rw [zipD_len, ← r.length, ← r2.length]; omega⟩
  yl := fun i H x H' hi s y => by
    obtain ⟨T, x, y', e1, e2, e3, e4, e5⟩ := y
    obtain ⟨d, g1, g2⟩ := r.get (e4 vs (Sub.seqL h s))
    obtain ⟨d', g3, g4⟩ := r2.get (e5 us (Sub.seqL h2 s))
    exact ⟨_, zipD_get g1 g3, .inr ⟨T, _, [d, d'], e1, e2, e3, rfl, .cons g2 (.cons g4 .nil)⟩⟩
def wZip (wl : WL) : WL := fun ρ Q E => wl ρ (fun ds ρ1 => match ds with
  | [.lst l, .lst m] => (zipD l m).length ≤ 1000000 ∧ Q (zipD l m) ρ1
  | _ => False) E
theorem fi_zip (hg : Gl Z.X "zip") (hm : Z.X.mg "zip" = none) (h : PFl Z [e, e2] wl ca)
    (hs : starEach [e, e2] Z.X.env = (false, eval e Z.X.env) :: starEach [e2] Z.X.env := by rfl) (hpl : (backTo pos (starEach [e2] Z.X.env)).any (·.1) = false := by rfl) : PIF Z (.Tuple elts kk tpos) (.Call (.Name "zip" p) [e, e2] [] pos) (wZip wl) ca :=
  fun W t => (pi_zip hg hm (h W t) hs hpl).weak fun σ H R ⟨G, ρ, QI, E, β, hb, s, lk, q, l⟩ => ⟨G, ρ, _, E, β, hb, s, lk, q, fun ds ρ1 vs G1 H1 q1 s1 g1 r1 => by
    match ds, q1, r1 with
    | [.lst x, .lst y], q1, r1 =>
      obtain ⟨v, u, rfl, ra, rb⟩ := r1.inv2
      cases ra with
      | lst ea ra =>
        cases rb with
        | lst eb rb => exact ⟨_, _, _, _, rfl, seqL s1.b.sub ea, seqL s1.b.sub eb, l _ ρ1 G1 H1 _ q1.2 s1 g1 (walk_zipD ea ra eb rb (million q1.1))⟩⟩

/-! ## repr of whatever -/
def rReprA (K : PySem.W.Frag) : List V → Hp → VK → Prop := fun xs H Q => rRepr K xs H Q ∨ ∃ v d, xs = [v] ∧ Dp K H v d ∧ shows d ∧ (∀ a, v ≠ .ref a) ∧ Q (.str d.shown) H
theorem call_reprS {n : Nat} (hr : Room n Z.X.A) (hg : Z.X.A.guards = some []) : CallR Z.X (.builtin "repr") (rReprA Z.X.K) := by
  intro pins s σ H vs us Q I r h
  rcases h with h | ⟨v, d, rfl, hd, hs, nr, q⟩
  · exact call_reprA hr hg pins s σ H vs us Q I r h
  · obtain ⟨u, rfl, rv⟩ := r.one
    have e : sizeLine = 16777216 := sizeLine_eq
    cases hd with
    | non => cases rv; exact PySem.P.repr_of_none ⟨.str "None", H, I.tok _, ⟨_, rfl⟩, q⟩
    | bl b => cases rv; exact PySem.P.repr_of_bool ⟨.str _, H, I.tok _, ⟨_, rfl⟩, by
        have : (if b = true then (("True" : String) : Str) else "False") = PyData.shown (.bool b) := by cases b <;> rfl
        rw [this]; exact q⟩
    | int i =>
      obtain ⟨t, rfl⟩ := rv
      exact PySem.P.repr_of_int (by simpa [PyData.showable] using hs.2.1) ⟨.str _, H, I.tok _, ⟨_, rfl⟩, q⟩
    | str x =>
      obtain ⟨t, rfl⟩ := rv
      exact PySem.P.repr_of_str ⟨.str _, H, I.tok _, ⟨_, rfl⟩, q⟩ (by have := hs.2.2; show (PyData.shown (.str x)).length ≤ sizeLine; omega)
    | lst => exact absurd rfl (nr _)
    | tup => exact absurd rfl (nr _)
def oReprA : WC := fun xs Q => match xs with
  | [d] => shows (toP d) ∧ (match d with | .dct _ => False | .ins _ _ => False | .cls _ => False | .pen => False | _ => True) ∧ Q (.str (toP d).shown)
  | _ => False
theorem cal_reprS : CalD Z (rReprA Z.X.K) oReprA := .scal fun G H xs vs Qd Q s r q l => by
  match xs, q with
  | [d], ⟨hs, hk, q⟩ =>
    obtain ⟨v, rfl, r1⟩ := r.inv1
    have hd := r1.dp (K := Z.X.K) s (shaped_lay hs.1)
    cases r1 with
    | lst e t => exact .inl ⟨_, _, rfl, hd, hs, l _ _ q (.str _)⟩
    | tup e t => exact .inl ⟨_, _, rfl, hd, hs, l _ _ q (.str _)⟩
    | non => exact .inr ⟨_, _, rfl, hd, hs, (by intro a z; cases z), l _ _ q (.str _)⟩
    | bl => exact .inr ⟨_, _, rfl, hd, hs, (by intro a z; cases z), l _ _ q (.str _)⟩
    | int => exact .inr ⟨_, _, rfl, hd, hs, (by intro a z; cases z), l _ _ q (.str _)⟩
    | str => exact .inr ⟨_, _, rfl, hd, hs, (by intro a z; cases z), l _ _ q (.str _)⟩
    | dct => exact hk.elim
    | ins => exact hk.elim
    | cls => exact hk.elim
    | pen => exact hk.elim
end
/-- item by item -/
inductive RelD (P : D → D → Prop) : List D → List D → Prop
  | nil : RelD P [] []
  | cons {a b : D} {l m : List D} : P a b → RelD P l m → RelD P (a :: l) (b :: m)
theorem RelD.snoc {P : D → D → Prop} {a b : D} : ∀ {l m : List D}, RelD P l m → P a b → RelD P (l ++ [a]) (m ++ [b])
  | _, _, .nil, h => .cons h .nil
  | _, _, .cons x t, h => .cons x (t.snoc h)
/-- a comprehension without tests whose elements are only known by a relation -/
theorem lc_rel {i : Nat} {we : W1} {vs : List Nat} {ds : List D} {ρ1 : Env} {Q : List D → Env → Prop} (P : D → D → Prop) (h : ∀ d, d ∈ ds → ∀ Q' : WQ, (∀ x ρ4, P d x → wipeE ρ4 vs = wipeE ρ1 vs → Q' x ρ4) → we ((wipeE ρ1 vs).set i (.va d)) Q' noE) (q : ∀ xs, RelD P ds xs → Q xs (wipeE ρ1 vs)) :
    ∃ I : Nat → List D → Env → Prop, I 0 [] (wipeE ρ1 vs) ∧ (∀ k d acc ρ, ds[k]? = some d → I k acc ρ → bindT (.one i) d ρ fun ρ2 => wYes ρ2 (fun b ρ3 => if b = true then we ρ3 (fun x ρ4 => I (k + 1) (acc ++ [x]) (wipeE ρ4 vs)) noE else I (k + 1) acc (wipeE ρ3 vs)) noE) ∧
      ∀ acc ρ, I ds.length acc ρ → Q acc ρ := by
  refine ⟨fun k acc ρ => RelD P (ds.take k) acc ∧ ρ = wipeE ρ1 vs, ⟨.nil, rfl⟩, fun k d acc ρ hd ⟨e1, e2⟩ => ?_, fun acc ρ ⟨e1, e2⟩ => ?_⟩
  · subst e2
    simp only [bindT, wYes, ↓reduceIte]
    refine h d (List.mem_of_getElem? hd) _ fun x ρ4 hp e => ⟨?_, e⟩
    rw [List.take_succ, hd]
    exact e1.snoc hp
  · subst e2
    rw [List.take_length] at e1
    exact q acc e1
/-- a loop over pairs whose body stores nothing but the targets -/
theorem for_set2 {ds : List D} {u : WS} {DD : DE} {E : WN} {ρ1 : Env} (i j : Nat) (nij : i ≠ j) (hx : ∃ x, ρ1[i]? = some x) (hy : ∃ x, ρ1[j]? = some x)
    (turn : ∀ d ∈ ds, ∃ x y, d = .tup [x, y] ∧ u { DD with nx := fun ρ => ∃ x y, ρ = (ρ1.set i x).set j y, ct := fun ρ => ∃ x y, ρ = (ρ1.set i x).set j y, bk := DD.nx } E ((ρ1.set i (.va x)).set j (.va y))) (fin : ∀ x y, DD.nx ((ρ1.set i x).set j y)) :
    ∃ I : Nat → Env → Prop, I 0 ρ1 ∧ (∀ n d ρ, ds[n]? = some d → I n ρ → bindT (.many [i, j]) d ρ fun ρ2 => u { DD with nx := I (n + 1), ct := I (n + 1), bk := DD.nx } E ρ2) ∧ ∀ ρ, I ds.length ρ → DD.nx ρ := by
  have self : ∀ {k : Nat} {x : Sl}, ρ1[k]? = some x → ρ1.set k x = ρ1 := fun {k x} h => List.ext_getElem? fun n => by
    by_cases q : n = k
    · subst q
      rw [List.getElem?_set_self (List.getElem?_eq_some_iff.mp h).1, h]
    · rw [List.getElem?_set_ne (Ne.symm q)]
  refine ⟨fun _ ρ => ∃ x y, ρ = (ρ1.set i x).set j y, ?_, fun n d ρ hd ⟨x, y, e⟩ => ?_, fun ρ ⟨x, y, e⟩ => by rw [e]; exact fin x y⟩
  · obtain ⟨x, hx⟩ := hx
    obtain ⟨y, hy⟩ := hy
    exact ⟨x, y, by rw [self hx, self hy]⟩
  · subst e
    obtain ⟨a, b, rfl, h⟩ := turn d (List.mem_of_getElem? hd)
    refine ⟨rfl, ?_⟩
    show u _ E ((((ρ1.set i x).set j y).set i (.va a)).set j (.va b))
    rw [List.set_comm _ _ (Ne.symm nij) (l := ρ1.set i x), List.set_set, List.set_set]
    exact h
end FL
set_option Elab.async false
set_option linter.all false
set_option maxRecDepth 100000
set_option maxHeartbeats 8000000
namespace FL
open PySem PySem.Spec PyProof.Rows L2

def top (i : Nat) : Stmt := PySem.Challenge.pw_askranges_k51_traps.main.body.getD i (.Pass ⟨0, 0, 0, 0⟩)
abbrev s_law_next : Stmt := top 13
abbrev s_law_draw : Stmt := top 14
abbrev s_Item_is_name : Stmt := inClass (top 8) 2
abbrev s_is_integer : Stmt := top 7
abbrev s_Item_init : Stmt := inClass (top 8) 1
abbrev s_law_before : Stmt := top 15
abbrev s_law_loose : Stmt := top 16
abbrev s_law_due : Stmt := top 17
abbrev s_Item_is_exact : Stmt := inClass (top 8) 8
abbrev s_Item_greatest : Stmt := inClass (top 8) 6
abbrev s_Item_least : Stmt := inClass (top 8) 5
abbrev s_Item_is_surely_before : Stmt := inClass (top 8) 11
abbrev s_Item_is_loose_with : Stmt := inClass (top 8) 12
abbrev s_trap : Stmt := top 10
abbrev s_Item_eq : Stmt := inClass (top 8) 13
abbrev s_law_pen : Stmt := top 12
abbrev s_law : Stmt := top 18
abbrev sPen : Stmt := s_law_pen
abbrev sNext : Stmt := s_law_next
abbrev sDraw : Stmt := s_law_draw
abbrev c_AskError : Nat := 0
abbrev c_InvalidValue : Nat := 1
abbrev c_InvalidItem : Nat := 2
abbrev c_Item : Nat := 3
abbrev sc_law_next_N : List Str := ["pen", "index", "cell", "low", "mid", "top"]
theorem sc_law_next : FnScope ["pen", "index", "cell", "low", "mid", "top"] ["pen"] (defScope s_law_next) := ⟨rfl, rfl, rfl, by decide +kernel, rfl, by decide +kernel, by decide +kernel⟩
abbrev sc_law_draw_N : List Str := ["pen", "below", "digit"]
theorem sc_law_draw : FnScope ["pen", "below", "digit"] ["pen", "below"] (defScope s_law_draw) := ⟨rfl, rfl, rfl, by decide +kernel, rfl, by decide +kernel, by decide +kernel⟩
abbrev sc_Item_is_name_N : List Str := ["thing", "sign"]
theorem sc_Item_is_name : FnScope ["thing", "sign"] ["thing"] (defScope s_Item_is_name) := ⟨rfl, rfl, rfl, by decide +kernel, rfl, by decide +kernel, by decide +kernel⟩
abbrev sc_is_integer_N : List Str := ["thing"]
theorem sc_is_integer : FnScope ["thing"] ["thing"] (defScope s_is_integer) := ⟨rfl, rfl, rfl, by decide +kernel, rfl, by decide +kernel, by decide +kernel⟩
abbrev sc_Item_init_N : List Str := ["self", "name", "least", "greatest", "price"]
theorem sc_Item_init : FnScope ["self", "name", "least", "greatest", "price"] ["self", "name", "least", "greatest", "price"] (defScope s_Item_init) := ⟨rfl, rfl, rfl, by decide +kernel, rfl, by decide +kernel, by decide +kernel⟩
abbrev sc_law_before_N : List Str := ["one", "two"]
theorem sc_law_before : FnScope ["one", "two"] ["one", "two"] (defScope s_law_before) := ⟨rfl, rfl, rfl, by decide +kernel, rfl, by decide +kernel, by decide +kernel⟩
abbrev sc_law_loose_N : List Str := ["one", "two"]
theorem sc_law_loose : FnScope ["one", "two"] ["one", "two"] (defScope s_law_loose) := ⟨rfl, rfl, rfl, by decide +kernel, rfl, by decide +kernel, by decide +kernel⟩
abbrev sc_law_due_N : List Str := ["one", "two", "low", "high"]
theorem sc_law_due : FnScope ["one", "two", "low", "high"] ["one", "two"] (defScope s_law_due) := ⟨rfl, rfl, rfl, by decide +kernel, rfl, by decide +kernel, by decide +kernel⟩
abbrev sc_Item_is_exact_N : List Str := ["self"]
theorem sc_Item_is_exact : FnScope ["self"] ["self"] (defScope s_Item_is_exact) := ⟨rfl, rfl, rfl, by decide +kernel, rfl, by decide +kernel, by decide +kernel⟩
abbrev sc_Item_greatest_N : List Str := ["self"]
theorem sc_Item_greatest : FnScope ["self"] ["self"] (defScope s_Item_greatest) := ⟨rfl, rfl, rfl, by decide +kernel, rfl, by decide +kernel, by decide +kernel⟩
abbrev sc_Item_least_N : List Str := ["self"]
theorem sc_Item_least : FnScope ["self"] ["self"] (defScope s_Item_least) := ⟨rfl, rfl, rfl, by decide +kernel, rfl, by decide +kernel, by decide +kernel⟩
abbrev sc_Item_is_surely_before_N : List Str := ["self", "other"]
theorem sc_Item_is_surely_before : FnScope ["self", "other"] ["self", "other"] (defScope s_Item_is_surely_before) := ⟨rfl, rfl, rfl, by decide +kernel, rfl, by decide +kernel, by decide +kernel⟩
abbrev sc_Item_is_loose_with_N : List Str := ["self", "other"]
theorem sc_Item_is_loose_with : FnScope ["self", "other"] ["self", "other"] (defScope s_Item_is_loose_with) := ⟨rfl, rfl, rfl, by decide +kernel, rfl, by decide +kernel, by decide +kernel⟩
abbrev sc_trap_N : List Str := ["first", "second", "value"]
theorem sc_trap : FnScope ["first", "second", "value"] ["first", "second"] (defScope s_trap) := ⟨rfl, rfl, rfl, by decide +kernel, rfl, by decide +kernel, by decide +kernel⟩
abbrev sc_Item_eq_N : List Str := ["self", "other"]
theorem sc_Item_eq : FnScope ["self", "other"] ["self", "other"] (defScope s_Item_eq) := ⟨rfl, rfl, rfl, by decide +kernel, rfl, by decide +kernel, by decide +kernel⟩
abbrev sc_law_pen_N : List Str := ["script"]
theorem sc_law_pen : FnScope ["script"] ["script"] (defScope s_law_pen) := ⟨rfl, rfl, rfl, by decide +kernel, rfl, by decide +kernel, by decide +kernel⟩
abbrev sc_law_N : List Str := ["script", "pen", "turn", "spots", "nyms", "rows", "here", "there", "due", "nested", "item", "row", "wide", "told", "k"]
theorem sc_law : FnScope ["script", "pen", "turn", "spots", "nyms", "rows", "here", "there", "due", "nested", "item", "row", "wide", "told", "k"] ["script"] (defScope s_law) := ⟨rfl, rfl, rfl, by decide +kernel, rfl, by decide +kernel, by decide +kernel⟩
theorem scPen : FnScope ["script"] ["script"] (defScope sPen) := ⟨rfl, rfl, rfl, by decide +kernel, rfl, by decide +kernel, by decide +kernel⟩
theorem scNext : FnScope ["pen", "index", "cell", "low", "mid", "top"] ["pen"] (defScope sNext) := ⟨rfl, rfl, rfl, by decide +kernel, rfl, by decide +kernel, by decide +kernel⟩
theorem scDraw : FnScope ["pen", "below", "digit"] ["pen", "below"] (defScope sDraw) := ⟨rfl, rfl, rfl, by decide +kernel, rfl, by decide +kernel, by decide +kernel⟩
section
variable {P : Program} {w : World} {K : PySem.W.Frag} {mg : Str → Option Value} {base : Heap}
theorem ok_next {f : Addr} {fd : FuncData} (F : Fun K "_law_next" "_law_next" sNext f fd) (T : PenT mg f) : FnOk P w K mg base CX0 1 f fd ["pen"] spNextH := by
  refine F.ok scNext (fun vs H Q E h => ?_) (fun cdv A outer s H vs Q E hr h => ?_)
  · obtain ⟨p, q, ns, i, r, rfl, _⟩ := h
    rfl
  · obtain ⟨p, q, ns, i, r, rfl, ⟨h1, h2, i0, ic, r0⟩, k⟩ := h
    have hu := hu_of hr
    refine ⟨_, pss_cons (ps_set (i := 1) scNext.nd rfl (Or.inl rfl) (pe_ix ix_seq (pv 0) pe_int (by intro _ _; rfl)))
      (pss_cons (ps_asg (pe_op op_add (pv 1) pe_int) (pg_sub (pv 0) pe_int set_list))
      (pss_cons (ps_set (i := 2) scNext.nd rfl (Or.inl rfl) (pe_op op_add (pe_op op_mul (pv 1) pe_int) pe_int))
      (pss_cons (ps_if (pt_cmpR (op_neD hr.units) (pe_ix ix_seq (pv 0) pe_int (by intro _ _; rfl)) (pe_lst pa_nil) (nomark _))
        (pss_one (ps_set (i := 2) scNext.nd rfl (Or.inl rfl) (pe_ix ix_seq (pe_ix ix_seq (pv 0) pe_int (by intro _ _; rfl)) (pe_op op_mod (pv 1) (pe_callB call_lenA (by rfl) T.len PySem.boot_len (pa_cons (pe_ix ix_seq (pv 0) pe_int (by intro _ _; rfl)) pa_nil))) (by intro _ _; rfl)))) pss_nil)
      (pss_cons (ps_if ((pw_and (pt_cmpR op_lt (pv 1) (pe_callB call_lenA (by rfl) T.len PySem.boot_len (pa_cons (pe_ix ix_seq (pv 0) pe_int (by intro _ _; rfl)) pa_nil)) (nomark _)) (pw_and1 (pt_cmpR op_ge (pv 2) (pe_op op_pow pe_int pe_int) (nomark _)))).pt)
        (pss_one (ps_ret (pv 2))) pss_nil)
      (pss_cons (ps_set (i := 3) scNext.nd rfl (Or.inl rfl) (pe_op op_mod (pe_op op_add (pe_op op_add (pe_op op_mod (pv 2) pe_int) (pe_op op_mul (pv 1) pe_int)) pe_int) pe_int))
      (pss_cons (ps_set (i := 4) scNext.nd rfl (Or.inl rfl) (pe_op op_mod (pe_op op_add (pe_op op_add (pe_op op_mul (pv 3) (pv 3)) (pe_op op_mul (pv 1) pe_int)) pe_int) pe_int))
      (pss_cons (ps_set (i := 5) scNext.nd rfl (Or.inl rfl) (pe_op op_mod (pe_op op_add (pe_op op_add (pe_op op_mul (pv 4) (pv 4)) (pv 3)) (pe_op op_mul (pe_op op_mulW (pv 1) (pv 1)) pe_int)) pe_int))
      (pss_one (ps_ret (pe_op op_add (pe_op op_mul (pe_op op_add (pe_op op_mul (pv 5) pe_int) (pv 4)) pe_int) (pv 3))))))))))), ?_⟩
    -- index = pen[1]; pen[1] = index + 1; cell = index * 1039 + 23
    refine ⟨_, rfl, .inl ⟨p, _, 1, .int i, rfl, rfl, .of h1, rfl, ?_⟩⟩
    refine ⟨_, rfl, _, _, rfl, rfl, _, rfl, p, _, 1, 1, rfl, rfl, h1, rfl, ?_⟩
    have g1 : upd H p (.lst [.ref q, .int (i + 1), .int r]) p = some (.lst [.ref q, .int (i + 1), .int r]) := upd_same
    have npq : q ≠ p := fun e => by
      rw [e, h1] at h2
      have z := HO.lst.inj (Option.some.inj h2)
      cases ns with
      | nil => cases z
      | cons n t =>
        have z2 := (List.cons.inj z).1
        cases z2
    have g2 : upd H p (.lst [.ref q, .int (i + 1), .int r]) q = some (.lst (ns.map V.int)) := by rw [upd_ne npq]; exact h2
    refine ⟨_, rfl, _, _, rfl, rfl, .inr (by decide), _, _, rfl, rfl, ?_⟩
    -- if pen[0] != []: cell = pen[0][index % len(pen[0])]
    refine ⟨_, rfl, .inl ⟨p, _, 0, .ref q, rfl, rfl, .of g1, rfl, ?_⟩⟩
    refine ⟨Nat.zero_le _, fun l hl => ?_⟩
    have npl : p ≠ l := ne_of_none g1 hl
    have nql : q ≠ l := ne_of_none g2 hl
    have e1 : upd (upd H p (.lst [.ref q, .int (i + 1), .int r])) l (.lst []) p = some (.lst [.ref q, .int (i + 1), .int r]) := by rw [upd_ne npl]; exact g1
    have e2 : upd (upd H p (.lst [.ref q, .int (i + 1), .int r])) l (.lst []) q = some (.lst (ns.map V.int)) := by rw [upd_ne nql]; exact g2
    have st : PenS H (upd (upd H p (.lst [.ref q, .int (i + 1), .int r])) l (.lst [])) p q (i + 1) r := ⟨fun b o e nb => by
      rw [upd_ne (ne_of_none (show upd H p (.lst [.ref q, .int (i + 1), .int r]) b = some o by rw [upd_ne nb]; exact e) hl), upd_ne nb]; exact e, e1⟩
    refine ⟨.list (ns.map PyData.int), .list [], .lst (.of e2) (dp_ints _), .lst (.of upd_same) .nil, shaped_ints _, rfl, _, rfl, ?_⟩
    have icap : i.natAbs.log2 + i.natAbs.log2 < 1000000 := by
      have z : i.natAbs < 2 ^ 4096 := by
        have e : (cap : Int) = ((2 ^ 4096 : Nat) : Int) := rfl
        rw [e] at ic
        omega
      have := log2_lt (n := i.natAbs) (k := 4096) (by decide) z
      omega
    have hlen : ((ns.map V.int).length : Int) = (ns.length : Int) := by rw [List.length_map]
    by_cases hns : ns = []
    · subst hns
      refine iteF ?_
      refine ⟨_, rfl, _, rfl, .inl ⟨p, _, 0, .ref q, rfl, rfl, .of e1, rfl, .inl ⟨_, _, rfl, .inl (.of e2), ?_⟩⟩⟩
      refine ⟨_, _, rfl, rfl, _, rfl, ?_⟩
      refine ite2 (fun hlt => ?_) (fun hlt => ?_)
      · refine ⟨_, rfl, _, _, rfl, rfl, ⟨by decide, by decide, by decide⟩, _, _, rfl, rfl, _, rfl, ?_⟩
        refine ite2 (fun hge => ?_) (fun hge => ?_)
        · refine ⟨_, rfl, ?_⟩
          exact k _ _ (by have z := of_decide_eq_true hge; exact Int.le_trans (by decide) z) st
        · refine ⟨_, rfl, _, _, rfl, rfl, (show (0 : Int) < 2147483587 by decide), _, rfl, _, _, rfl, rfl, .inr ⟨by decide, by decide⟩, _, _, rfl, rfl, _, _, rfl, rfl, _, _, rfl, rfl, (show (0 : Int) < 2147483587 by decide), ?_⟩
          refine ⟨_, rfl, _, rfl, _, _, rfl, rfl, .inl ⟨by omega, by omega⟩, _, rfl, _, _, rfl, rfl, .inr ⟨by decide, by decide⟩, _, _, rfl, rfl, _, _, rfl, rfl, _, _, rfl, rfl, (show (0 : Int) < 2147483563 by decide), ?_⟩
          refine ⟨_, rfl, _, rfl, _, _, rfl, rfl, .inl ⟨by omega, by omega⟩, _, rfl, _, _, rfl, rfl, _, rfl, _, rfl, _, _, rfl, rfl, icap, _, _, rfl, rfl, .inr ⟨by decide, by decide⟩, _, _, rfl, rfl, _, _, rfl, rfl, (show (0 : Int) < 2147483549 by decide), ?_⟩
          refine ⟨_, rfl, _, _, rfl, rfl, .inr ⟨by decide, by decide⟩, _, rfl, _, _, rfl, rfl, _, _, rfl, rfl, .inr ⟨by decide, by decide⟩, _, rfl, _, _, rfl, rfl, ?_⟩
          exact k _ _ (by omega) st
      · refine iteF ?_
        refine ⟨_, rfl, _, _, rfl, rfl, (show (0 : Int) < 2147483587 by decide), _, rfl, _, _, rfl, rfl, .inr ⟨by decide, by decide⟩, _, _, rfl, rfl, _, _, rfl, rfl, _, _, rfl, rfl, (show (0 : Int) < 2147483587 by decide), ?_⟩
        refine ⟨_, rfl, _, rfl, _, _, rfl, rfl, .inl ⟨by omega, by omega⟩, _, rfl, _, _, rfl, rfl, .inr ⟨by decide, by decide⟩, _, _, rfl, rfl, _, _, rfl, rfl, _, _, rfl, rfl, (show (0 : Int) < 2147483563 by decide), ?_⟩
        refine ⟨_, rfl, _, rfl, _, _, rfl, rfl, .inl ⟨by omega, by omega⟩, _, rfl, _, _, rfl, rfl, _, rfl, _, rfl, _, _, rfl, rfl, icap, _, _, rfl, rfl, .inr ⟨by decide, by decide⟩, _, _, rfl, rfl, _, _, rfl, rfl, (show (0 : Int) < 2147483549 by decide), ?_⟩
        refine ⟨_, rfl, _, _, rfl, rfl, .inr ⟨by decide, by decide⟩, _, rfl, _, _, rfl, rfl, _, _, rfl, rfl, .inr ⟨by decide, by decide⟩, _, rfl, _, _, rfl, rfl, ?_⟩
        exact k _ _ (by omega) st
    · have hpos : 0 < ns.length := List.length_pos_iff.mpr hns
      obtain ⟨n0, ns0, rfl⟩ : ∃ a b, ns = a :: b := List.exists_cons_of_ne_nil hns
      refine iteT ?_
      have hm0 : 0 ≤ i % (((n0 :: ns0).map V.int).length : Int) := Int.emod_nonneg _ (by rw [hlen]; omega)
      have hm1 : i % (((n0 :: ns0).map V.int).length : Int) < (((n0 :: ns0).map V.int).length : Int) := Int.emod_lt_of_pos _ (by rw [hlen]; omega)
      obtain ⟨c, hat⟩ := at_ints hm0 hm1
      refine ⟨_, rfl, .inl ⟨p, _, 0, .ref q, rfl, rfl, .of e1, rfl, _, rfl, _, rfl, .inl ⟨p, _, 0, .ref q, rfl, rfl, .of e1, rfl, .inl ⟨_, _, rfl, .inl (.of e2), ?_⟩⟩⟩⟩
      refine ⟨_, _, rfl, rfl, (by rw [hlen]; omega), .inl ⟨q, _, _, _, rfl, rfl, .of e2, hat, ?_⟩⟩
      refine ⟨_, rfl, _, rfl, .inl ⟨p, _, 0, .ref q, rfl, rfl, .of e1, rfl, .inl ⟨_, _, rfl, .inl (.of e2), ?_⟩⟩⟩
      refine ⟨_, _, rfl, rfl, _, rfl, ?_⟩
      refine ite2 (fun hlt => ?_) (fun hlt => ?_)
      · refine ⟨_, rfl, _, _, rfl, rfl, ⟨by decide, by decide, by decide⟩, _, _, rfl, rfl, _, rfl, ?_⟩
        refine ite2 (fun hge => ?_) (fun hge => ?_)
        · refine ⟨_, rfl, ?_⟩
          exact k _ _ (by have z := of_decide_eq_true hge; exact Int.le_trans (by decide) z) st
        · refine ⟨_, rfl, _, _, rfl, rfl, (show (0 : Int) < 2147483587 by decide), _, rfl, _, _, rfl, rfl, .inr ⟨by decide, by decide⟩, _, _, rfl, rfl, _, _, rfl, rfl, _, _, rfl, rfl, (show (0 : Int) < 2147483587 by decide), ?_⟩
          refine ⟨_, rfl, _, rfl, _, _, rfl, rfl, .inl ⟨by omega, by omega⟩, _, rfl, _, _, rfl, rfl, .inr ⟨by decide, by decide⟩, _, _, rfl, rfl, _, _, rfl, rfl, _, _, rfl, rfl, (show (0 : Int) < 2147483563 by decide), ?_⟩
          refine ⟨_, rfl, _, rfl, _, _, rfl, rfl, .inl ⟨by omega, by omega⟩, _, rfl, _, _, rfl, rfl, _, rfl, _, rfl, _, _, rfl, rfl, icap, _, _, rfl, rfl, .inr ⟨by decide, by decide⟩, _, _, rfl, rfl, _, _, rfl, rfl, (show (0 : Int) < 2147483549 by decide), ?_⟩
          refine ⟨_, rfl, _, _, rfl, rfl, .inr ⟨by decide, by decide⟩, _, rfl, _, _, rfl, rfl, _, _, rfl, rfl, .inr ⟨by decide, by decide⟩, _, rfl, _, _, rfl, rfl, ?_⟩
          exact k _ _ (by omega) st
      · refine iteF ?_
        refine ⟨_, rfl, _, _, rfl, rfl, (show (0 : Int) < 2147483587 by decide), _, rfl, _, _, rfl, rfl, .inr ⟨by decide, by decide⟩, _, _, rfl, rfl, _, _, rfl, rfl, _, _, rfl, rfl, (show (0 : Int) < 2147483587 by decide), ?_⟩
        refine ⟨_, rfl, _, rfl, _, _, rfl, rfl, .inl ⟨by omega, by omega⟩, _, rfl, _, _, rfl, rfl, .inr ⟨by decide, by decide⟩, _, _, rfl, rfl, _, _, rfl, rfl, _, _, rfl, rfl, (show (0 : Int) < 2147483563 by decide), ?_⟩
        refine ⟨_, rfl, _, rfl, _, _, rfl, rfl, .inl ⟨by omega, by omega⟩, _, rfl, _, _, rfl, rfl, _, rfl, _, rfl, _, _, rfl, rfl, icap, _, _, rfl, rfl, .inr ⟨by decide, by decide⟩, _, _, rfl, rfl, _, _, rfl, rfl, (show (0 : Int) < 2147483549 by decide), ?_⟩
        refine ⟨_, rfl, _, _, rfl, rfl, .inr ⟨by decide, by decide⟩, _, rfl, _, _, rfl, rfl, _, _, rfl, rfl, .inr ⟨by decide, by decide⟩, _, rfl, _, _, rfl, rfl, ?_⟩
        exact k _ _ (by omega) st
theorem ok_pen {f fN : Addr} {fd : FuncData} (F : Fun K "_law_pen" "_law_pen" sPen f fd) (T : PenT mg fN) : FnOk P w K mg base CX0 1 f fd ["script"] (spPenH K) := by
  refine F.ok scPen (fun vs H Q E h => ?_) (fun cdv A outer s H vs Q E hr h => ?_)
  · obtain ⟨a, ns, rfl, _⟩ := h
    rfl
  · obtain ⟨a, ns, rfl, hS, hl, k⟩ := h
    refine ⟨_, pss_one (ps_ret (pe_lst (pa_cons (pe_callTy call_list_of (by rfl) T.list PyProof.Rows.boot_list (pa_cons (pe_slice sl_list (pv 0) po_none (po_some pe_int)) pa_nil)) (pa_cons pe_int (pa_cons pe_int pa_nil))))), ?_⟩
    refine ⟨_, rfl, _, rfl, a, _, rfl, hS, fun c hc => ?_⟩
    refine ⟨c, _, rfl, .inl (.of upd_same), fun q hq => ?_⟩
    refine ⟨by show 3 ≤ sizeLine; rw [sizeLine_eq]; decide, fun p hp => ?_⟩
    rw [cut60] at hq hp ⊢
    have nqc : q ≠ c := fun e => by rw [e, upd_same] at hq; cases hq
    have npq : p ≠ q := fun e => by rw [e, upd_same] at hp; cases hp
    rw [upd_ne nqc] at hq
    rw [upd_ne npq] at hp
    have npc : p ≠ c := fun e => by rw [e, upd_same] at hp; cases hp
    rw [upd_ne npc] at hp
    exact k q p _ hq hp npq (fun b o e => by rw [upd_ne (ne_of_none e hp), upd_ne (ne_of_none e hq), upd_ne (ne_of_none e hc)]; exact e) (by rw [upd_ne (Ne.symm npq), upd_same]) upd_same
theorem ok_draw {f fN : Addr} {fd fdN : FuncData} (F : Fun K "_law_draw" "_law_draw" sDraw f fd) (FN : Fun K "_law_next" "_law_next" sNext fN fdN) (bN : Binds K fdN ["pen"] []) (T : PenT mg fN) : FnOk P w K mg base CX0 2 f fd ["pen", "below"] spDrawH := by
  refine F.ok scDraw (fun vs H Q E h => ?_) (fun cdv A outer s H vs Q E hr h => ?_)
  · obtain ⟨p, q, ns, i, r, n, rfl, _⟩ := h
    rfl
  · obtain ⟨p, q, ns, i, r, n, rfl, n0, n1, hP, k⟩ := h
    obtain ⟨h1, h2, i0, ic, r0⟩ := id hP
    have GN : FnOk P w K mg base CX0 1 fN fdN ["pen"] spNextH := ok_next FN T
    have hx := @pass0
    have hd : CDiv 0 n := ⟨n0, by omega⟩
    refine ⟨_, pss_cons (ps_if (pt_cmpR op_lt (pe_ix ix_seq (pv 0) pe_int (by intro _ _; rfl)) (pv 1) (nomark _))
        (pss_one (ps_asg (pe_call GN hr (by rfl) T.next FN.kp bN .nil pass0 (pa_cons (pv 0) pa_nil)) (pg_sub (pv 0) pe_int set_list))) pss_nil)
      (pss_cons (ps_set (i := 2) scDraw.nd rfl (Or.inl rfl) (pe_op op_mod (pe_ix ix_seq (pv 0) pe_int (by intro _ _; rfl)) (pv 1)))
      (pss_cons (ps_asg (pe_op op_fdiv (pe_ix ix_seq (pv 0) pe_int (by intro _ _; rfl)) (pv 1)) (pg_sub (pv 0) pe_int set_list))
      (pss_one (ps_ret (pv 2))))), ?_⟩
    refine ⟨_, rfl, .inl ⟨p, _, 2, .int r, rfl, rfl, .of h1, rfl, ?_⟩⟩
    refine ⟨_, rfl, _, _, rfl, rfl, _, rfl, ?_⟩
    refine ite2 (fun _ => ?_) (fun _ => ?_)
    · refine ⟨_, rfl, p, q, ns, i, r, rfl, hP, fun z H2 z0 st => ?_⟩
      obtain ⟨kp, e1⟩ := st
      refine ⟨_, rfl, p, _, 2, 2, rfl, rfl, e1, rfl, ?_⟩
      have e2 : upd H2 p (.lst [.ref q, .int (i + 1), .int z]) p = some (.lst [.ref q, .int (i + 1), .int z]) := upd_same
      refine ⟨_, rfl, .inl ⟨p, _, 2, .int z, rfl, rfl, .of e2, rfl, ?_⟩⟩
      refine ⟨_, rfl, _, _, rfl, rfl, n0, ?_⟩
      refine ⟨_, rfl, .inl ⟨p, _, 2, .int z, rfl, rfl, .of e2, rfl, ?_⟩⟩
      refine ⟨_, rfl, _, _, rfl, rfl, hd, ?_⟩
      refine ⟨_, rfl, p, _, 2, 2, rfl, rfl, e2, rfl, ?_⟩
      refine ⟨_, rfl, ?_⟩
      exact k _ (i + 1) (z / n) _ (Int.emod_nonneg _ (by omega)) (Int.emod_lt_of_pos _ n0) (by omega) (by omega) (Int.ediv_nonneg z0 (by omega)) ⟨fun b o e nb => by rw [upd_ne nb, upd_ne nb]; exact kp b o e nb, upd_same⟩
    · refine ⟨_, rfl, .inl ⟨p, _, 2, .int r, rfl, rfl, .of h1, rfl, ?_⟩⟩
      refine ⟨_, rfl, _, _, rfl, rfl, n0, ?_⟩
      refine ⟨_, rfl, .inl ⟨p, _, 2, .int r, rfl, rfl, .of h1, rfl, ?_⟩⟩
      refine ⟨_, rfl, _, _, rfl, rfl, hd, ?_⟩
      refine ⟨_, rfl, p, _, 2, 2, rfl, rfl, h1, rfl, ?_⟩
      refine ⟨_, rfl, ?_⟩
      exact k _ i (r / n) _ (Int.emod_nonneg _ (by omega)) (Int.emod_lt_of_pos _ n0) (by omega) (by omega) (Int.ediv_nonneg r0 (by omega)) ⟨fun b o e nb => by rw [upd_ne nb]; exact e, upd_same⟩
end

structure Ad where
  C_Item : Addr
  A_law_next : Addr
  D_law_next : FuncData
  A_law_draw : Addr
  D_law_draw : FuncData
  A_Item_is_name : Addr
  D_Item_is_name : FuncData
  A_is_integer : Addr
  D_is_integer : FuncData
  A_Item_init : Addr
  D_Item_init : FuncData
  A_law_before : Addr
  D_law_before : FuncData
  A_law_loose : Addr
  D_law_loose : FuncData
  A_law_due : Addr
  D_law_due : FuncData
  A_Item_is_exact : Addr
  D_Item_is_exact : FuncData
  A_Item_greatest : Addr
  D_Item_greatest : FuncData
  A_Item_least : Addr
  D_Item_least : FuncData
  A_Item_is_surely_before : Addr
  D_Item_is_surely_before : FuncData
  A_Item_is_loose_with : Addr
  D_Item_is_loose_with : FuncData
  A_trap : Addr
  D_trap : FuncData
  A_Item_eq : Addr
  D_Item_eq : FuncData
  A_law_pen : Addr
  D_law_pen : FuncData
  A_law : Addr
  D_law : FuncData
  R_Item_greatest : Addr
  R_Item_is_exact : Addr
  R_Item_least : Addr
  R_Item_is_name : Addr
def Ad.cm (a : Ad) (i : Nat) : Addr := match i with
  | 3 => a.C_Item
  | _ => 0
abbrev owns : List Nat := [c_Item]

def swp {α : Type} : List α → List α
  | [a, b] => [b, a]
  | _ => []
def rot3 {α : Type} : List α → List α
  | [a, b, c] => [b, c, a]
  | _ => []
def gnl (ds es : List D) : List D := ds ++ rot3 es ++ [.int 1]

structure Txt (K : PySem.W.Frag) (mg : Str → Option Value) (a : Ad) : Prop where
  f_law_next : Fun K "_law_next" "_law_next" s_law_next a.A_law_next a.D_law_next
  b_law_next : Binds K a.D_law_next ["pen"] []
  g_law_next : mg "_law_next" = some (.ref a.A_law_next)
  f_law_draw : Fun K "_law_draw" "_law_draw" s_law_draw a.A_law_draw a.D_law_draw
  b_law_draw : Binds K a.D_law_draw ["pen", "below"] []
  g_law_draw : mg "_law_draw" = some (.ref a.A_law_draw)
  f_Item_is_name : Fun K "is_name" "Item.is_name" s_Item_is_name a.A_Item_is_name a.D_Item_is_name
  b_Item_is_name : Binds K a.D_Item_is_name ["thing"] []
  sm_Item_is_name : SMet K (a.cm c_Item) (.type "type") "is_name" a.R_Item_is_name a.A_Item_is_name
  f_is_integer : Fun K "is_integer" "is_integer" s_is_integer a.A_is_integer a.D_is_integer
  b_is_integer : Binds K a.D_is_integer ["thing"] []
  g_is_integer : mg "is_integer" = some (.ref a.A_is_integer)
  f_Item_init : FunD K "__init__" "Item.__init__" (defArgs s_Item_init) (defBody s_Item_init) (defScope s_Item_init) [] [("price", .int 1)] a.A_Item_init a.D_Item_init
  f_law_before : Fun K "_law_before" "_law_before" s_law_before a.A_law_before a.D_law_before
  b_law_before : Binds K a.D_law_before ["one", "two"] []
  g_law_before : mg "_law_before" = some (.ref a.A_law_before)
  f_law_loose : Fun K "_law_loose" "_law_loose" s_law_loose a.A_law_loose a.D_law_loose
  b_law_loose : Binds K a.D_law_loose ["one", "two"] []
  g_law_loose : mg "_law_loose" = some (.ref a.A_law_loose)
  f_law_due : Fun K "_law_due" "_law_due" s_law_due a.A_law_due a.D_law_due
  b_law_due : Binds K a.D_law_due ["one", "two"] []
  g_law_due : mg "_law_due" = some (.ref a.A_law_due)
  f_Item_is_exact : Fun K "is_exact" "Item.is_exact" s_Item_is_exact a.A_Item_is_exact a.D_Item_is_exact
  b_Item_is_exact : Binds K a.D_Item_is_exact ["self"] []
  p_Item_is_exact : PropOf K (a.cm c_Item) "is_exact" a.R_Item_is_exact a.A_Item_is_exact
  f_Item_greatest : Fun K "greatest" "Item.greatest" s_Item_greatest a.A_Item_greatest a.D_Item_greatest
  b_Item_greatest : Binds K a.D_Item_greatest ["self"] []
  p_Item_greatest : PropOf K (a.cm c_Item) "greatest" a.R_Item_greatest a.A_Item_greatest
  f_Item_least : Fun K "least" "Item.least" s_Item_least a.A_Item_least a.D_Item_least
  b_Item_least : Binds K a.D_Item_least ["self"] []
  p_Item_least : PropOf K (a.cm c_Item) "least" a.R_Item_least a.A_Item_least
  f_Item_is_surely_before : Fun K "is_surely_before" "Item.is_surely_before" s_Item_is_surely_before a.A_Item_is_surely_before a.D_Item_is_surely_before
  b_Item_is_surely_before : Binds K a.D_Item_is_surely_before ["self", "other"] []
  m_Item_is_surely_before : Meth K (a.cm c_Item) "is_surely_before" a.A_Item_is_surely_before
  f_Item_is_loose_with : Fun K "is_loose_with" "Item.is_loose_with" s_Item_is_loose_with a.A_Item_is_loose_with a.D_Item_is_loose_with
  b_Item_is_loose_with : Binds K a.D_Item_is_loose_with ["self", "other"] []
  m_Item_is_loose_with : Meth K (a.cm c_Item) "is_loose_with" a.A_Item_is_loose_with
  f_trap : Fun K "trap" "trap" s_trap a.A_trap a.D_trap
  b_trap : Binds K a.D_trap ["first", "second"] []
  g_trap : mg "trap" = some (.ref a.A_trap)
  f_Item_eq : Fun K "__eq__" "Item.__eq__" s_Item_eq a.A_Item_eq a.D_Item_eq
  b_Item_eq : Binds K a.D_Item_eq ["self", "other"] []
  f_law_pen : Fun K "_law_pen" "_law_pen" s_law_pen a.A_law_pen a.D_law_pen
  b_law_pen : Binds K a.D_law_pen ["script"] []
  g_law_pen : mg "_law_pen" = some (.ref a.A_law_pen)
  f_law : Fun K "law" "law" s_law a.A_law a.D_law
  b_law : Binds K a.D_law ["script"] []
  g_law : mg "law" = some (.ref a.A_law)
  g_Item : mg "Item" = some (.ref (a.cm c_Item))
  cl_Item : Cls K (a.cm c_Item)
  it_Item : InsTy K (a.cm c_Item)
  mk_Item : Mk K (a.cm c_Item) a.A_Item_init
  cr_Item : ClX.CRead K (a.cm c_Item) (.type "type")
  cv_Item_MOST : ∃ u, ClX.CVal K (a.cm c_Item) (.type "type") "MOST" (.int 999) u
  na_Item_parts : NoAttr K (a.cm c_Item) "parts"
  is_bool : IsK K a.cm (.type "bool") (gTy owns "bool")
  is_int : IsK K a.cm (.type "int") (gTy owns "int")
  is_str : IsK K a.cm (.type "str") (gTy owns "str")
  is_Item : IsK K a.cm (.ref (a.cm c_Item)) (gOwn owns c_Item)
  eq_Item : EqK K a.cm c_Item a.A_Item_eq (okG owns c_Item)
  g_LETTERS : ∃ t, mg "LETTERS" = some (.str "abcdefghijklmnopqrstuvwxyz" t)
  g_MAX_NAME : ∃ t, mg "MAX_NAME" = some (.int 8 t)
  n_all : mg "all" = none
  n_bool : mg "bool" = none
  n_int : mg "int" = none
  n_isinstance : mg "isinstance" = none
  n_len : mg "len" = none
  n_list : mg "list" = none
  n_max : mg "max" = none
  n_range : mg "range" = none
  n_repr : mg "repr" = none
  n_str : mg "str" = none
  n_zip : mg "zip" = none
  mk_price_Item : MkK K a.D_Item_init ["self", "name", "least", "greatest", "price"] 3 ["price"] (fun ds es => ds ++ es)
  mb_Item : MkB K a.D_Item_init ["self", "name", "least", "greatest", "price"] [.int 1]
  kb_trap_second_first : KBd K a.D_trap ["first", "second"] 0 ["second", "first"] (fun ds es => ds ++ swp es)
section
variable {P : Program} {w : World} {K : PySem.W.Frag} {mg : Str → Option Value} {base : Heap} {a : Ad}

theorem item_kw {f : Addr} {fd : FuncData} (F : FunD K "__init__" "Item.__init__" (defArgs s_Item_init) (defBody s_Item_init) (defScope s_Item_init) [] [("price", .int 1)] f fd) : MkK K fd ["self", "name", "least", "greatest", "price"] 3 ["price"] (fun ds es => ds ++ es) := by
  obtain ⟨mv, kb⟩ := F.kbinds0 (ps := ["self", "name", "least", "greatest", "price"]) 4 ["price"] [] (fun us _ ws => us ++ ws) (by simp) (by intro q hq; cases hq) (fun r _ rz => r.append rz) (fun D doc pm an cdv ct us mv ws l1 l2 l3 => match us, mv, ws, l1, l2, l3 with
    | [_, _, _, _], [], [_], _, _, _ => rfl)
  exact MkK.of kb (fun x us ws => rfl) (fun r rz => r.append rz) (fun k G ds es vs zs r rz => r.append rz)
abbrev itD (n : Str) (l h p : Int) : D := .ins c_Item [("parts", .tup [.str n, .int l, .int h, .int p])]
abbrev rowD (n : Str) (l h p : Int) : D := .tup [.str n, .int l, .int h, .int p]
def isNm (x : Str) : Bool := decide (1 ≤ (x.length : Int)) && (decide ((x.length : Int) ≤ 8) && (x.cps.toList.map fun c => decide (c ∈ ("abcdefghijklmnopqrstuvwxyz" : Str).cps.toList)).all id)
def nmOk (x : Str) : Prop := x.length ≤ 1000000 ∧ isNm x = true
def nmS (x : Str) : Prop := SeqAt.shaped (.str x) = true
/-- what a drawn row is -/
def rowOk (n : Str) (l h p : Int) : Prop := (n = "a" ∨ n = "b") ∧ 0 ≤ l ∧ l ≤ h ∧ h ≤ 16 ∧ (l = h → p = 0) ∧ (l < h → 1 ≤ p ∧ p ≤ 3)
inductive EqIt (n : Str) (l h p : Int) : D → Bool → Prop
  | it {n2 : Str} {l2 h2 p2 : Int} (a : nmS n) (b : nmS n2) : EqIt n l h p (itD n2 l2 h2 p2) (decide (n = n2) && decide (l = l2) && decide (h = h2) && decide (p = p2))
  | off {d : D} (z : gOwn owns c_Item d = some false) : EqIt n l h p d false
def inLet : D → Bool
  | .str y => y.cps.toList.all fun c => decide (c ∈ ("abcdefghijklmnopqrstuvwxyz" : Str).cps.toList)
  | _ => false
theorem sg_let (x : Str) : (sgD x).map (fun d => D.bl (inLet d)) = (x.cps.toList.map fun c => decide (c ∈ ("abcdefghijklmnopqrstuvwxyz" : Str).cps.toList)).map D.bl := by
  unfold sgD
  rw [List.map_map, List.map_map]
  refine List.map_congr_left fun c _ => ?_
  show D.bl (([c] : List Nat).all fun c => decide (c ∈ ("abcdefghijklmnopqrstuvwxyz" : Str).cps.toList)) = _
  rw [List.all_cons, List.all_nil, Bool.and_true]
  rfl
theorem sh_row {n : Str} {l h p : Int} (a : nmS n) : SeqAt.shaped (.tuple [.str n, .int l, .int h, .int p]) = true := sh_tup fun d hd => by
  simp at hd
  rcases hd with rfl | rfl | rfl | rfl
  · exact fl_str a
  · exact fl_int _
  · exact fl_int _
  · exact fl_int _
theorem rowOk.nm {n : Str} {l h p : Int} (r : rowOk n l h p) : nmOk n ∧ nmS n := by
  rcases r.1 with rfl | rfl
  · exact ⟨⟨by decide, by decide +kernel⟩, by unfold nmS; decide +kernel⟩
  · exact ⟨⟨by decide, by decide +kernel⟩, by unfold nmS; decide +kernel⟩

theorem rot_v : ∀ {zs : List V} {ws : List Value}, Vals zs ws → Vals (rot3 zs) (rot3 ws)
  | _, _, .nil => .nil
  | _, _, .cons _ .nil => .nil
  | _, _, .cons _ (.cons _ .nil) => .nil
  | _, _, .cons a (.cons b (.cons c .nil)) => .cons b (.cons c (.cons a .nil))
  | _, _, .cons _ (.cons _ (.cons _ (.cons _ _))) => .nil
theorem rot_r {k : Kx} {G : Hp} : ∀ {zs : List D} {ws : List V}, RepL k G zs ws → RepL k G (rot3 zs) (rot3 ws)
  | _, _, .nil => .nil
  | _, _, .cons _ .nil => .nil
  | _, _, .cons _ (.cons _ .nil) => .nil
  | _, _, .cons a (.cons b (.cons c .nil)) => .cons b (.cons c (.cons a .nil))
  | _, _, .cons _ (.cons _ (.cons _ (.cons _ _))) => .nil
theorem swp_v : ∀ {zs : List V} {ws : List Value}, Vals zs ws → Vals (swp zs) (swp ws)
  | _, _, .nil => .nil
  | _, _, .cons _ .nil => .nil
  | _, _, .cons a (.cons b .nil) => .cons b (.cons a .nil)
  | _, _, .cons _ (.cons _ (.cons _ _)) => .nil
theorem swp_r {k : Kx} {G : Hp} : ∀ {zs : List D} {ws : List V}, RepL k G zs ws → RepL k G (swp zs) (swp ws)
  | _, _, .nil => .nil
  | _, _, .cons _ .nil => .nil
  | _, _, .cons a (.cons b .nil) => .cons b (.cons a .nil)
  | _, _, .cons _ (.cons _ (.cons _ _)) => .nil
theorem item_kw3 {f : Addr} {fd : FuncData} (F : FunD K "__init__" "Item.__init__" (defArgs s_Item_init) (defBody s_Item_init) (defScope s_Item_init) [] [("price", .int 1)] f fd) : MkK K fd ["self", "name", "least", "greatest", "price"] 0 ["greatest", "name", "least"] gnl := by
  obtain ⟨mv, kb⟩ := F.kbinds0 (ps := ["self", "name", "least", "greatest", "price"]) 1 ["greatest", "name", "least"] [("price", .int 1)] (fun us mz ws => us ++ rot3 ws ++ mz) (by simp) (fun q hq => hq) (fun r rm rz => (r.append (rot_v rz)).append rm) (fun D doc pm an cdv ct us mv ws l1 l2 l3 => match us, mv, ws, l1, l2, l3 with
    | [_], [_], [_, _, _], _, _, _ => ⟨_, _, _, _, _, _, rfl, rfl, rfl⟩)
  obtain ⟨to, rel⟩ := kb
  have rv : Vals [V.int 1] mv := by
    have := rel (vs := []) (us := []) (zs := []) (ws := []) .nil .nil
    exact this
  exact MkK.of (gV := fun vs zs => vs ++ rot3 zs ++ [V.int 1]) ⟨to, rel⟩ (fun x us ws => rfl) (fun r rz => (r.append (rot_v rz)).append rv) (fun k G ds es vs zs r rz => (r.append (rot_r rz)).append (.cons (.int 1) .nil))
theorem item_mb {f : Addr} {fd : FuncData} (F : FunD K "__init__" "Item.__init__" (defArgs s_Item_init) (defBody s_Item_init) (defScope s_Item_init) [] [("price", .int 1)] f fd) : MkB K fd ["self", "name", "least", "greatest", "price"] [.int 1] := by
  obtain ⟨ds, r, b⟩ := F.binds0 (ps := ["self", "name", "least", "greatest", "price"]) 4 (by simp) rfl (fun D doc pm an cdv ct us ks l1 l2 => match us, ks, l1, l2 with
    | [_, _, _, _], [_], _, _ => ⟨_, _, _, _, _, _, rfl, rfl, rfl⟩)
  exact ⟨⟨[.int 1], ds, r, b, fun k G => .cons (.int 1) .nil⟩⟩

theorem trap_kw {f : Addr} {fd : FuncData} (F : Fun K "trap" "trap" s_trap f fd) : KBd K fd ["first", "second"] 0 ["second", "first"] (fun ds es => ds ++ swp es) := by
  obtain ⟨oc, od, kV, doc, pm, an, cdv, ct, osl, rfl, lk, hcd⟩ := F.ex
  refine ⟨fun us ws vs zs l1 l2 r rz => ⟨us ++ swp ws, vs ++ swp zs, fun s kin => ?_, r.append (swp_v rz), fun k G ds es rd re => rd.append (swp_r re)⟩⟩
  match us, ws, l1, l2 with
  | [], [_, _], _, _ => exact .of_eq rfl

/-- the trap of two open ranges -/
def trapD (l h l2 h2 : Int) : D := if (h < l2 ∨ h2 < l) ∨ l ≤ l2 ∧ h2 ≤ h then .non else .tup [.int (if l < l2 then l2 else l), .int (if l2 < l then l2 else if l2 < h + 1 then h + 1 else l2)]

def cnd (l h l2 h2 x y : Int) : Prop := (l2 ≤ x ∧ x ≤ h2) ∧ (y < l ∨ h < y)
theorem trap_hit {l h l2 h2 x y : Int} (o1 : l < h) (o2 : l2 < h2) (hx : l ≤ x ∧ x ≤ h) (hy : l2 ≤ y ∧ y ≤ h2) (c : cnd l h l2 h2 x y) (m1 : ∀ x' y' : Int, l ≤ x' → x' < x → l2 ≤ y' → y' ≤ h2 → ¬ cnd l h l2 h2 x' y') (m2 : ∀ y' : Int, l2 ≤ y' → y' < y → ¬ cnd l h l2 h2 x y') : trapD l h l2 h2 = .tup [.int x, .int y] := by
  unfold cnd at *
  have a1 := m1 (x - 1) y
  have a2 := m2 l2
  have a3 := m2 (y - 1)
  unfold trapD
  rw [if_neg (by omega), show (if l < l2 then l2 else l) = x by split <;> omega, show (if l2 < l then l2 else if l2 < h + 1 then h + 1 else l2) = y by split <;> (try split) <;> omega]
theorem trap_miss {l h l2 h2 : Int} (o1 : l < h) (o2 : l2 < h2) (m : ∀ x y : Int, l ≤ x → x < l + (h + 1 - l) → l2 ≤ y → y ≤ h2 → ¬ cnd l h l2 h2 x y) : trapD l h l2 h2 = .non := by
  unfold cnd at m
  have a1 := m l l2
  have a2 := m l2 l2
  have a3 := m l (h + 1)
  have a4 := m l2 (h + 1)
  have a5 := m l h2
  have a6 := m l2 h2
  unfold trapD
  rw [if_pos (by omega)]
theorem rngD_at {lo : Int} {n i : Nat} {d : D} (h : (rngD lo n)[i]? = some d) : i < n ∧ d = .int (lo + i) := by
  have hi : i < n := by
    have := (List.getElem?_eq_some_iff.mp h).1
    rw [rngD_len] at this
    exact this
  rw [rngD_get hi] at h
  exact ⟨hi, (Option.some.inj h).symm⟩

structure NmG (m : Str) : Prop where
  ok : nmOk m
  s : nmS m
def itR : D → D
  | .tup [.str n, .int l, .int h, .int p] => itD n l h p
  | d => d

theorem penT (T : Txt K mg a) : PenT mg a.A_law_next := ⟨T.n_len, T.n_list, T.g_law_next⟩
theorem ok_law_draw (T : Txt K mg a) : FnF a.cm P w K mg base 2 a.A_law_draw a.D_law_draw ["pen", "below"] spDraw 1 := draw_F rfl (ok_draw T.f_law_draw T.f_law_next T.b_law_next (penT T))
theorem ne_is_loose_with_parts : ¬ (Str.ofString "is_loose_with" = Str.ofString "parts") := by decide +kernel
theorem ne_is_surely_before_parts : ¬ (Str.ofString "is_surely_before" = Str.ofString "parts") := by decide +kernel
def sp_Item_is_name : SpD := fun ds Q E => ∃ (x : Str), ds = [.str x] ∧ x.length ≤ 1000000 ∧ Q false (.bl (isNm x))
theorem spx_Item_is_name {x : Str} {Q : Bool → D → Prop} {E : Nat → List (Str × D) → Prop} : sp_Item_is_name [.str x] Q E ↔ x.length ≤ 1000000 ∧ Q false (.bl (isNm x)) := ⟨fun ⟨_, e, h⟩ => by cases e; exact h, fun h => ⟨_, rfl, h⟩⟩
set_option maxHeartbeats 8000000 in
theorem ok_Item_is_name (T : Txt K mg a) : FnF a.cm P w K mg base 1 a.A_Item_is_name a.D_Item_is_name ["thing"] sp_Item_is_name 0 := by
  refine FnF.fun_ T.f_Item_is_name sc_Item_is_name (fun ds Q E h => by obtain ⟨_, rfl, _⟩ := h; rfl) fun cd A outer s p me G H E B hB hg hr => ⟨_, PBF.le ((fs_one (fs_ret (pf_and (pf_isT (by rfl) T.n_isinstance (pf_var (pv 0)) (by rfl) T.n_str (by decide +kernel) T.is_str) (pf_and (pf_chain op_le op_le opd_intb opd_intb pf_int (pf_calB call_lenA cal_len (by rfl) T.n_len (by decide +kernel) (fa_cons (pf_var (pv 0)) fa_nil)) (pf_globI (by rfl) T.g_MAX_NAME)) (pf_one (pf_calB (cr_all (by rfl)) cal_all (by rfl) T.n_all (by decide +kernel) (fa_cons (PO.frz (po_lc (own := [("sign", 1)]) (t := (.one 1)) (by rfl) sc_Item_is_name.nd (fi_str (pf_var (pv 0))) (blkOk_by (own := [("sign", 1)]) (N := sc_Item_is_name_N) (sc := defScope s_Item_is_name) (by decide +kernel)) (by decide) (fun _ _ _ _ _ => (pg_name (i := 1) sc_Item_is_name.nd rfl (by first | exact Or.inl rfl | exact Or.inr (Or.inl rfl)))) (fun _ _ _ _ _ _ => fts_nil) (fun _ _ _ _ _ _ => (pf_cmp op_in_sign opd_inS (pf_var (pv 1)) (pf_globS (by rfl) T.g_LETTERS) (by with_unfolding_all rfl))))) fa_nil)))))))) (by decide +kernel), fun ds Q E' h => ?_⟩
  obtain ⟨x, rfl, hx, q⟩ := h
  unfold isNm at q
  refine ⟨true, rfl, ?_⟩
  show (if true = true then _ else Q false (.bl false))
  rw [if_pos rfl]
  refine ⟨hx, ite_of (fun e1 => ?_) (fun e1 => ?_)⟩
  · refine ite_of (fun e2 => ?_) (fun e2 => ?_)
    · rw [e1, e2] at q
      refine ⟨hx, lc_map (fun d => .bl (inLet d)) (fun d hd Q' k => ?_) ?_ rfl⟩
      · obtain ⟨c, hc, rfl⟩ := List.mem_map.mp hd
        have e : inLet (.str ⟨#[c]⟩) = decide (c ∈ ("abcdefghijklmnopqrstuvwxyz" : Str).cps.toList) := by
          show (([c] : List Nat).all fun c => decide (c ∈ ("abcdefghijklmnopqrstuvwxyz" : Str).cps.toList)) = _
          rw [List.all_cons, List.all_nil, Bool.and_true]
        refine ⟨c, rfl, ?_⟩
        rw [← e]
        exact k _ rfl
      · rw [sg_let]
        exact ⟨_, rfl, q⟩
    · rw [e1, e2] at q
      show Q false (.bl false)
      exact q
  · rw [e1] at q
    simp only [asB, Bool.false_eq_true, if_false]
    exact q
def sp_is_integer : SpD := fun ds Q E => ∃ (d : D), ds = [d] ∧ ∃ b b2, gTy owns "int" d = some b ∧ gTy owns "bool" d = some b2 ∧ Q false (.bl (b && !b2))
theorem spx_is_integer {d : D} {Q : Bool → D → Prop} {E : Nat → List (Str × D) → Prop} : sp_is_integer [d] Q E ↔ ∃ b b2, gTy owns "int" d = some b ∧ gTy owns "bool" d = some b2 ∧ Q false (.bl (b && !b2)) := ⟨fun ⟨_, e, h⟩ => by cases e; exact h, fun h => ⟨_, rfl, h⟩⟩
set_option maxHeartbeats 8000000 in
theorem ok_is_integer (T : Txt K mg a) : FnF a.cm P w K mg base 1 a.A_is_integer a.D_is_integer ["thing"] sp_is_integer 0 := by
  refine FnF.fun_ T.f_is_integer sc_is_integer (fun ds Q E h => by obtain ⟨_, rfl, _⟩ := h; rfl) fun cd A outer s p me G H E B hB hg hr => ⟨_, PBF.le ((fs_one (fs_ret (pf_and (pf_isT (by rfl) T.n_isinstance (pf_var (pv 0)) (by rfl) T.n_int (by decide +kernel) T.is_int) (pf_one (pf_not (pf_isT (by rfl) T.n_isinstance (pf_var (pv 0)) (by rfl) T.n_bool (by decide +kernel) T.is_bool))))))) (by decide +kernel), fun ds Q E' h => ?_⟩
  obtain ⟨d, rfl, b, b2, hb, hb2, q⟩ := h
  refine ⟨b, hb, ite_of (fun e => ?_) (fun e => ?_)⟩
  · subst e
    exact ⟨b2, hb2, q⟩
  · subst e
    exact q
def sp_Item_init : SpD := fun ds Q E => ∃ (n : Str) (l h p : Int), ds = [.str n, .int l, .int h, .int p] ∧ nmOk n ∧ l ≤ h ∧ 1 ≤ p ∧ p ≤ 999 ∧ Q false (itD n l h (if l < h then p else 0))
theorem spx_Item_init {n : Str} {l h p : Int} {Q : Bool → D → Prop} {E : Nat → List (Str × D) → Prop} : sp_Item_init [.str n, .int l, .int h, .int p] Q E ↔ nmOk n ∧ l ≤ h ∧ 1 ≤ p ∧ p ≤ 999 ∧ Q false (itD n l h (if l < h then p else 0)) := ⟨fun ⟨_, _, _, _, e, h⟩ => by cases e; exact h, fun h => ⟨_, _, _, _, rfl, h⟩⟩
set_option maxHeartbeats 8000000 in
theorem ok_Item_init (T : Txt K mg a) : IniF a.cm P w K mg base 2 c_Item a.A_Item_init a.D_Item_init ["self", "name", "least", "greatest", "price"] sp_Item_init 0 := by
  refine IniF.funD T.f_Item_init sc_Item_init (fun ds Q E h => by obtain ⟨_, _, _, _, rfl, _⟩ := h; rfl) fun cd A outer s p me G H H2 E B hB hg hr => ⟨_, PBF.le ((fs_cons (fs_if (fw_pt (fw_or (ft_not (pt_bool (pf_smeth (i := c_Item) (pf_gcls (i := c_Item) (by rfl) T.g_Item) T.cr_Item T.sm_Item_is_name (ok_Item_is_name T) (hr.mono (by decide)) hg (Dfl.no T.b_Item_is_name) (fa_cons (pf_var (pv 1)) fa_nil)))) (fw_or (ft_not (pt_bool (pf_call (ok_is_integer T) (hr.mono (by decide)) hg (by rfl) T.g_is_integer T.f_is_integer.kp (Dfl.no T.b_is_integer) (fa_cons (pf_var (pv 2)) fa_nil)))) (fw_or (ft_not (pt_bool (pf_call (ok_is_integer T) (hr.mono (by decide)) hg (by rfl) T.g_is_integer T.f_is_integer.kp (Dfl.no T.b_is_integer) (fa_cons (pf_var (pv 3)) fa_nil)))) (fw_or1 (ft_not (pt_cmpD op_le opd_intb (pf_var (pv 2)) (pf_var (pv 3)) (nomark _))))))))
    (fs_one fs_dead)
    fs_nil)
    (fs_cons (fs_if (fw_pt (fw_or (ft_not (pt_bool (pf_call (ok_is_integer T) (hr.mono (by decide)) hg (by rfl) T.g_is_integer T.f_is_integer.kp (Dfl.no T.b_is_integer) (fa_cons (pf_var (pv 4)) fa_nil)))) (fw_or1 (ft_not (pt_chainD op_le op_le opd_intb opd_intb pf_int (pf_var (pv 4)) (pf_cvalI (i := c_Item) (pf_gcls (i := c_Item) (by rfl) T.g_Item) T.cr_Item T.cv_Item_MOST))))))
    (fs_one fs_dead)
    fs_nil)
    (fs_one (fs_self (c := c_Item) (pf_tup (fa_cons (pf_var (pv 1)) (fa_cons (pf_var (pv 2)) (fa_cons (pf_var (pv 3)) (fa_cons (pf_if (pt_cmpD op_lt opd_intb (pf_var (pv 2)) (pf_var (pv 3)) (nomark _)) (pf_var (pv 4)) pf_int) fa_nil))))) (pv 0) T.cl_Item T.na_Item_parts))))) (by decide +kernel), fun ds Q E' h => ?_⟩
  obtain ⟨n, l, h, p, rfl, ⟨hn, hn2⟩, hlh, p1, p2, q⟩ := h
  simp [asB, FL.isNon, isSeq, wNeg, wRet, wRetO, wSeq, wNext, wIte, wSet, wSetO, wDrop, wAnd, wOr, wNot, wTst, wAndV, wOrV, wNotV, wIf, w2, w3, wVar, wC, wCv, wCall, wCallO, wMakeV, wMakeK, wCallK, wClmK, wIclm, wIval, wCls, wClm, wMeth, wProp, wFld, wIsi, wCal, wCons, wNil, wTup, wLst, oI, oAdd, oEq, oNe, oIx, oLen, oMax, oMin, oAll, oInS, oIsB, oNotB, oIsN, oNotN, oRepr, oReprA, wZip, zipD, wEqK, wYes, startE, wSelf, putFD, wPar, wPar3, wAsg, bindT, setsE, wipeE, atI, ixN, toP, toPs, sh_int, sh_bool, sh_none, ev_int, ev_str, ev_bool, ev_tup, ev_lst, ev_cons, ev_nil, CPow, CMul, CDiv, ne_is_loose_with_parts, ne_is_surely_before_parts, spx_Item_is_name, spx_is_integer, gTy, hn, hn2, hlh, p1, p2] at q ⊢
  split <;> simp_all
def sp_law_before : SpD := fun ds Q E => ∃ (n : Str) (l h p : Int) (n2 : Str) (l2 h2 p2 : Int), ds = [rowD n l h p, rowD n2 l2 h2 p2] ∧ Q false (.bl (decide (h < l2)))
theorem spx_law_before {n : Str} {l h p : Int} {n2 : Str} {l2 h2 p2 : Int} {Q : Bool → D → Prop} {E : Nat → List (Str × D) → Prop} : sp_law_before [rowD n l h p, rowD n2 l2 h2 p2] Q E ↔ Q false (.bl (decide (h < l2))) := ⟨fun ⟨_, _, _, _, _, _, _, _, e, h⟩ => by cases e; exact h, fun h => ⟨_, _, _, _, _, _, _, _, rfl, h⟩⟩
set_option maxHeartbeats 8000000 in
theorem ok_law_before (T : Txt K mg a) : FnF a.cm P w K mg base 1 a.A_law_before a.D_law_before ["one", "two"] sp_law_before 0 := by
  refine FnF.fun_ T.f_law_before sc_law_before (fun ds Q E h => by obtain ⟨_, _, _, _, _, _, _, _, rfl, _⟩ := h; rfl) fun cd A outer s p me G H E B hB hg hr => ⟨_, PBF.le ((fs_one (fs_ret (pf_cmp op_lt opd_intb (pf_ix (pf_var (pv 0)) pf_int) (pf_ix (pf_var (pv 1)) pf_int) (nomark _))))) (by decide +kernel), fun ds Q E' h => ?_⟩
  obtain ⟨n, l, h, p, n2, l2, h2, p2, rfl, q⟩ := h
  simp [asB, FL.isNon, isSeq, wNeg, wRet, wRetO, wSeq, wNext, wIte, wSet, wSetO, wDrop, wAnd, wOr, wNot, wTst, wAndV, wOrV, wNotV, wIf, w2, w3, wVar, wC, wCv, wCall, wCallO, wMakeV, wMakeK, wCallK, wClmK, wIclm, wIval, wCls, wClm, wMeth, wProp, wFld, wIsi, wCal, wCons, wNil, wTup, wLst, oI, oAdd, oEq, oNe, oIx, oLen, oMax, oMin, oAll, oInS, oIsB, oNotB, oIsN, oNotN, oRepr, oReprA, wZip, zipD, wEqK, wYes, startE, wSelf, putFD, wPar, wPar3, wAsg, bindT, setsE, wipeE, atI, ixN, toP, toPs, sh_int, sh_bool, sh_none, ev_int, ev_str, ev_bool, ev_tup, ev_lst, ev_cons, ev_nil, CPow, CMul, CDiv, ne_is_loose_with_parts, ne_is_surely_before_parts, ]
  exact q
def sp_law_loose : SpD := fun ds Q E => ∃ (n : Str) (l h p : Int) (n2 : Str) (l2 h2 p2 : Int), ds = [rowD n l h p, rowD n2 l2 h2 p2] ∧ Q false (.bl (!(decide (l = h) && decide (l2 = h2)) && (!decide (h < l2) && !decide (h2 < l))))
theorem spx_law_loose {n : Str} {l h p : Int} {n2 : Str} {l2 h2 p2 : Int} {Q : Bool → D → Prop} {E : Nat → List (Str × D) → Prop} : sp_law_loose [rowD n l h p, rowD n2 l2 h2 p2] Q E ↔ Q false (.bl (!(decide (l = h) && decide (l2 = h2)) && (!decide (h < l2) && !decide (h2 < l)))) := ⟨fun ⟨_, _, _, _, _, _, _, _, e, h⟩ => by cases e; exact h, fun h => ⟨_, _, _, _, _, _, _, _, rfl, h⟩⟩
set_option maxHeartbeats 8000000 in
theorem ok_law_loose (T : Txt K mg a) : FnF a.cm P w K mg base 2 a.A_law_loose a.D_law_loose ["one", "two"] sp_law_loose 0 := by
  refine FnF.fun_ T.f_law_loose sc_law_loose (fun ds Q E h => by obtain ⟨_, _, _, _, _, _, _, _, rfl, _⟩ := h; rfl) fun cd A outer s p me G H E B hB hg hr => ⟨_, PBF.le ((fs_cons (fs_if (fw_pt (fw_and (pt_cmpD (op_eqA hr.units) opd_eq (pf_ix (pf_var (pv 0)) pf_int) (pf_ix (pf_var (pv 0)) pf_int) (nomark _)) (fw_and1 (pt_cmpD (op_eqA hr.units) opd_eq (pf_ix (pf_var (pv 1)) pf_int) (pf_ix (pf_var (pv 1)) pf_int) (nomark _)))))
    (fs_one (fs_ret pf_bl))
    fs_nil)
    (fs_one (fs_ret (pf_and (pf_not (pf_call (ok_law_before T) (hr.mono (by decide)) hg (by rfl) T.g_law_before T.f_law_before.kp (Dfl.no T.b_law_before) (fa_cons (pf_var (pv 0)) (fa_cons (pf_var (pv 1)) fa_nil)))) (pf_one (pf_not (pf_call (ok_law_before T) (hr.mono (by decide)) hg (by rfl) T.g_law_before T.f_law_before.kp (Dfl.no T.b_law_before) (fa_cons (pf_var (pv 1)) (fa_cons (pf_var (pv 0)) fa_nil)))))))))) (by decide +kernel), fun ds Q E' h => ?_⟩
  obtain ⟨n, l, h, p, n2, l2, h2, p2, rfl, q⟩ := h
  simp [asB, FL.isNon, isSeq, wNeg, wRet, wRetO, wSeq, wNext, wIte, wSet, wSetO, wDrop, wAnd, wOr, wNot, wTst, wAndV, wOrV, wNotV, wIf, w2, w3, wVar, wC, wCv, wCall, wCallO, wMakeV, wMakeK, wCallK, wClmK, wIclm, wIval, wCls, wClm, wMeth, wProp, wFld, wIsi, wCal, wCons, wNil, wTup, wLst, oI, oAdd, oEq, oNe, oIx, oLen, oMax, oMin, oAll, oInS, oIsB, oNotB, oIsN, oNotN, oRepr, oReprA, wZip, zipD, wEqK, wYes, startE, wSelf, putFD, wPar, wPar3, wAsg, bindT, setsE, wipeE, atI, ixN, toP, toPs, sh_int, sh_bool, sh_none, ev_int, ev_str, ev_bool, ev_tup, ev_lst, ev_cons, ev_nil, CPow, CMul, CDiv, ne_is_loose_with_parts, ne_is_surely_before_parts, spx_law_before]
  by_cases e1 : l = h <;> by_cases e2 : l2 = h2 <;> by_cases e3 : h < l2 <;> by_cases e4 : h2 < l <;> simp [e1, e2, e3, e4] at q ⊢ <;> first | exact q | exact .inl q | exact .inl (.inl q) | grind
def sp_law_due : SpD := fun ds Q E => ∃ (n : Str) (l h p : Int) (n2 : Str) (l2 h2 p2 : Int), ds = [rowD n l h p, rowD n2 l2 h2 p2] ∧ l < h ∧ l2 < h2 ∧ -1000 ≤ l ∧ h ≤ 1000 ∧ -1000 ≤ l2 ∧ h2 ≤ 1000 ∧ Q false (trapD l h l2 h2)
theorem spx_law_due {n : Str} {l h p : Int} {n2 : Str} {l2 h2 p2 : Int} {Q : Bool → D → Prop} {E : Nat → List (Str × D) → Prop} : sp_law_due [rowD n l h p, rowD n2 l2 h2 p2] Q E ↔ l < h ∧ l2 < h2 ∧ -1000 ≤ l ∧ h ≤ 1000 ∧ -1000 ≤ l2 ∧ h2 ≤ 1000 ∧ Q false (trapD l h l2 h2) := ⟨fun ⟨_, _, _, _, _, _, _, _, e, h⟩ => by cases e; exact h, fun h => ⟨_, _, _, _, _, _, _, _, rfl, h⟩⟩
set_option maxHeartbeats 8000000 in
theorem ok_law_due (T : Txt K mg a) : FnF a.cm P w K mg base 3 a.A_law_due a.D_law_due ["one", "two"] sp_law_due 0 := by
  refine FnF.fun_ T.f_law_due sc_law_due (fun ds Q E h => by obtain ⟨_, _, _, _, _, _, _, _, rfl, _⟩ := h; rfl) fun cd A outer s p me G H E B hB hg hr => ⟨_, PBF.le ((fs_cons (fs_for (t := (.one 2)) body_owns (by rfl) (fi_range2 (by rfl) T.n_range (fa_cons (pf_ix (pf_var (pv 0)) pf_int) (fa_cons (pf_op op_addA opd_add (pf_ix (pf_var (pv 0)) pf_int) pf_int) fa_nil))) (pg_name (i := 2) sc_law_due.nd rfl (by first | exact Or.inl rfl | exact Or.inr (Or.inl rfl)))
    (fs_one (fs_for (t := (.one 3)) body_owns (by rfl) (fi_range2 (by rfl) T.n_range (fa_cons (pf_ix (pf_var (pv 1)) pf_int) (fa_cons (pf_op op_addA opd_add (pf_ix (pf_var (pv 1)) pf_int) pf_int) fa_nil))) (pg_name (i := 3) sc_law_due.nd rfl (by first | exact Or.inl rfl | exact Or.inr (Or.inl rfl)))
    (fs_one (fs_if (fw_pt (fw_and (pt_bool (pf_call (ok_law_loose T) (hr.mono (by decide)) hg (by rfl) T.g_law_loose T.f_law_loose.kp (Dfl.no T.b_law_loose) (fa_cons (pf_tup (fa_cons pf_str (fa_cons (pf_var (pv 2)) (fa_cons (pf_var (pv 2)) (fa_cons pf_int fa_nil))))) (fa_cons (pf_var (pv 1)) fa_nil)))) (fw_and1 (ft_not (pt_bool (pf_call (ok_law_loose T) (hr.mono (by decide)) hg (by rfl) T.g_law_loose T.f_law_loose.kp (Dfl.no T.b_law_loose) (fa_cons (pf_var (pv 0)) (fa_cons (pf_tup (fa_cons pf_str (fa_cons (pf_var (pv 3)) (fa_cons (pf_var (pv 3)) (fa_cons pf_int fa_nil))))) fa_nil))))))))
    (fs_one (fs_ret (pf_tup (fa_cons (pf_var (pv 2)) (fa_cons (pf_var (pv 3)) fa_nil)))))
    fs_nil)))))
    (fs_one (fs_ret pf_non)))) (by decide +kernel), fun ds Q E' h => ?_⟩
  obtain ⟨n, l, h, p, n2, l2, h2, p2, rfl, o1, o2, b1, b2, b3, b4, q⟩ := h
  refine seq_gen fun R hR => ?_
  refine ⟨_, rfl, _, rfl, ⟨by omega, by omega, by omega, by omega⟩, by omega, fun i ρ => (∃ a b, ρ = [.va (rowD n l h p), .va (rowD n2 l2 h2 p2), a, b]) ∧ ∀ x y : Int, l ≤ x → x < l + i → l2 ≤ y → y ≤ h2 → ¬ cnd l h l2 h2 x y, ⟨⟨_, _, rfl⟩, fun x y a b => by omega⟩, fun i d ρ hd ⟨⟨a, b, e⟩, iv⟩ => ?_, fun ρ ⟨⟨a, b, e⟩, iv⟩ => ?_⟩
  · obtain ⟨hi, rfl⟩ := rngD_at hd
    subst e
    refine ⟨_, rfl, _, rfl, ⟨by omega, by omega, by omega, by omega⟩, by omega, fun j ρ => (∃ b, ρ = [.va (rowD n l h p), .va (rowD n2 l2 h2 p2), .va (.int (l + i)), b]) ∧ ∀ y : Int, l2 ≤ y → y < l2 + j → ¬ cnd l h l2 h2 (l + i) y, ⟨⟨_, rfl⟩, fun y a => by omega⟩, fun j d ρ hd ⟨⟨b, e⟩, jv⟩ => ?_, fun ρ ⟨⟨b, e⟩, jv⟩ => ?_⟩
    · obtain ⟨hj, rfl⟩ := rngD_at hd
      subst e
      have g2 : ¬ l2 = h2 := by omega
      have g1 : ¬ l = h := by omega
      simp [asB, FL.isNon, isSeq, wNeg, wRet, wRetO, wSeq, wNext, wIte, wSet, wSetO, wDrop, wAnd, wOr, wNot, wTst, wAndV, wOrV, wNotV, wIf, w2, w3, wVar, wC, wCv, wCall, wCallO, wMakeV, wMakeK, wCallK, wClmK, wIclm, wIval, wCls, wClm, wMeth, wProp, wFld, wIsi, wCal, wCons, wNil, wTup, wLst, oI, oAdd, oEq, oNe, oIx, oLen, oMax, oMin, oAll, oInS, oIsB, oNotB, oIsN, oNotN, oRepr, oReprA, wZip, zipD, wEqK, wYes, startE, wSelf, putFD, wPar, wPar3, wAsg, bindT, setsE, wipeE, atI, ixN, toP, toPs, sh_int, sh_bool, sh_none, ev_int, ev_str, ev_bool, ev_tup, ev_lst, ev_cons, ev_nil, CPow, CMul, CDiv, ne_is_loose_with_parts, ne_is_surely_before_parts, spx_law_loose, g1, g2]
      have step : ¬ cnd l h l2 h2 (l + i) (l2 + j) → ∀ y : Int, l2 ≤ y → y < l2 + (j + 1) → ¬ cnd l h l2 h2 (l + i) y := fun nc y h1 h3 => by
        by_cases hy : y < l2 + j
        · exact jv y h1 hy
        · have : y = l2 + j := by omega
          subst this
          exact nc
      split
      · rename_i c1
        split
        · rename_i c2
          exact step (by unfold cnd; omega)
        · rename_i c2
          rw [trap_hit o1 o2 ⟨by omega, by omega⟩ ⟨by omega, by omega⟩ (by unfold cnd; omega) (fun x' y' a b c d => iv x' y' a b c d) jv] at q
          exact q
      · exact step (by unfold cnd; omega)
    · rw [rngD_len] at jv
      refine ⟨⟨_, _, e⟩, fun x y h1 h3 h4 h5 => ?_⟩
      by_cases hx : x < l + i
      · exact iv x y h1 hx h4 h5
      · have : x = l + i := by omega
        subst this
        exact jv y h4 (by omega)
  · rw [rngD_len] at iv
    apply hR
    subst e
    rw [trap_miss o1 o2 (fun x y a b => iv x y a (by omega))] at q
    exact q
def sp_Item_is_exact : SpD := fun ds Q E => ∃ (n : Str) (l h p : Int), ds = [itD n l h p] ∧ Q false (.bl (decide (l = h)))
theorem spx_Item_is_exact {n : Str} {l h p : Int} {Q : Bool → D → Prop} {E : Nat → List (Str × D) → Prop} : sp_Item_is_exact [itD n l h p] Q E ↔ Q false (.bl (decide (l = h))) := ⟨fun ⟨_, _, _, _, e, h⟩ => by cases e; exact h, fun h => ⟨_, _, _, _, rfl, h⟩⟩
set_option maxHeartbeats 8000000 in
theorem ok_Item_is_exact (T : Txt K mg a) : FnF a.cm P w K mg base 1 a.A_Item_is_exact a.D_Item_is_exact ["self"] sp_Item_is_exact 0 := by
  refine FnF.fun_ T.f_Item_is_exact sc_Item_is_exact (fun ds Q E h => by obtain ⟨_, _, _, _, rfl, _⟩ := h; rfl) fun cd A outer s p me G H E B hB hg hr => ⟨_, PBF.le ((fs_one (fs_ret (pf_cmp (op_eqA hr.units) opd_eq (pf_ix (pf_fld (c := c_Item) (pf_var (pv 0)) T.cl_Item T.na_Item_parts) pf_int) (pf_ix (pf_fld (c := c_Item) (pf_var (pv 0)) T.cl_Item T.na_Item_parts) pf_int) (nomark _))))) (by decide +kernel), fun ds Q E' h => ?_⟩
  obtain ⟨n, l, h, p, rfl, q⟩ := h
  simp [asB, FL.isNon, isSeq, wNeg, wRet, wRetO, wSeq, wNext, wIte, wSet, wSetO, wDrop, wAnd, wOr, wNot, wTst, wAndV, wOrV, wNotV, wIf, w2, w3, wVar, wC, wCv, wCall, wCallO, wMakeV, wMakeK, wCallK, wClmK, wIclm, wIval, wCls, wClm, wMeth, wProp, wFld, wIsi, wCal, wCons, wNil, wTup, wLst, oI, oAdd, oEq, oNe, oIx, oLen, oMax, oMin, oAll, oInS, oIsB, oNotB, oIsN, oNotN, oRepr, oReprA, wZip, zipD, wEqK, wYes, startE, wSelf, putFD, wPar, wPar3, wAsg, bindT, setsE, wipeE, atI, ixN, toP, toPs, sh_int, sh_bool, sh_none, ev_int, ev_str, ev_bool, ev_tup, ev_lst, ev_cons, ev_nil, CPow, CMul, CDiv, ne_is_loose_with_parts, ne_is_surely_before_parts, ]
  exact q
def sp_Item_greatest : SpD := fun ds Q E => ∃ (n : Str) (l h p : Int), ds = [itD n l h p] ∧ Q false (.int h)
theorem spx_Item_greatest {n : Str} {l h p : Int} {Q : Bool → D → Prop} {E : Nat → List (Str × D) → Prop} : sp_Item_greatest [itD n l h p] Q E ↔ Q false (.int h) := ⟨fun ⟨_, _, _, _, e, h⟩ => by cases e; exact h, fun h => ⟨_, _, _, _, rfl, h⟩⟩
set_option maxHeartbeats 8000000 in
theorem ok_Item_greatest (T : Txt K mg a) : FnF a.cm P w K mg base 1 a.A_Item_greatest a.D_Item_greatest ["self"] sp_Item_greatest 0 := by
  refine FnF.fun_ T.f_Item_greatest sc_Item_greatest (fun ds Q E h => by obtain ⟨_, _, _, _, rfl, _⟩ := h; rfl) fun cd A outer s p me G H E B hB hg hr => ⟨_, PBF.le ((fs_one (fs_ret (pf_ix (pf_fld (c := c_Item) (pf_var (pv 0)) T.cl_Item T.na_Item_parts) pf_int)))) (by decide +kernel), fun ds Q E' h => ?_⟩
  obtain ⟨n, l, h, p, rfl, q⟩ := h
  simp [asB, FL.isNon, isSeq, wNeg, wRet, wRetO, wSeq, wNext, wIte, wSet, wSetO, wDrop, wAnd, wOr, wNot, wTst, wAndV, wOrV, wNotV, wIf, w2, w3, wVar, wC, wCv, wCall, wCallO, wMakeV, wMakeK, wCallK, wClmK, wIclm, wIval, wCls, wClm, wMeth, wProp, wFld, wIsi, wCal, wCons, wNil, wTup, wLst, oI, oAdd, oEq, oNe, oIx, oLen, oMax, oMin, oAll, oInS, oIsB, oNotB, oIsN, oNotN, oRepr, oReprA, wZip, zipD, wEqK, wYes, startE, wSelf, putFD, wPar, wPar3, wAsg, bindT, setsE, wipeE, atI, ixN, toP, toPs, sh_int, sh_bool, sh_none, ev_int, ev_str, ev_bool, ev_tup, ev_lst, ev_cons, ev_nil, CPow, CMul, CDiv, ne_is_loose_with_parts, ne_is_surely_before_parts, ]
  exact q
def sp_Item_least : SpD := fun ds Q E => ∃ (n : Str) (l h p : Int), ds = [itD n l h p] ∧ Q false (.int l)
theorem spx_Item_least {n : Str} {l h p : Int} {Q : Bool → D → Prop} {E : Nat → List (Str × D) → Prop} : sp_Item_least [itD n l h p] Q E ↔ Q false (.int l) := ⟨fun ⟨_, _, _, _, e, h⟩ => by cases e; exact h, fun h => ⟨_, _, _, _, rfl, h⟩⟩
set_option maxHeartbeats 8000000 in
theorem ok_Item_least (T : Txt K mg a) : FnF a.cm P w K mg base 1 a.A_Item_least a.D_Item_least ["self"] sp_Item_least 0 := by
  refine FnF.fun_ T.f_Item_least sc_Item_least (fun ds Q E h => by obtain ⟨_, _, _, _, rfl, _⟩ := h; rfl) fun cd A outer s p me G H E B hB hg hr => ⟨_, PBF.le ((fs_one (fs_ret (pf_ix (pf_fld (c := c_Item) (pf_var (pv 0)) T.cl_Item T.na_Item_parts) pf_int)))) (by decide +kernel), fun ds Q E' h => ?_⟩
  obtain ⟨n, l, h, p, rfl, q⟩ := h
  simp [asB, FL.isNon, isSeq, wNeg, wRet, wRetO, wSeq, wNext, wIte, wSet, wSetO, wDrop, wAnd, wOr, wNot, wTst, wAndV, wOrV, wNotV, wIf, w2, w3, wVar, wC, wCv, wCall, wCallO, wMakeV, wMakeK, wCallK, wClmK, wIclm, wIval, wCls, wClm, wMeth, wProp, wFld, wIsi, wCal, wCons, wNil, wTup, wLst, oI, oAdd, oEq, oNe, oIx, oLen, oMax, oMin, oAll, oInS, oIsB, oNotB, oIsN, oNotN, oRepr, oReprA, wZip, zipD, wEqK, wYes, startE, wSelf, putFD, wPar, wPar3, wAsg, bindT, setsE, wipeE, atI, ixN, toP, toPs, sh_int, sh_bool, sh_none, ev_int, ev_str, ev_bool, ev_tup, ev_lst, ev_cons, ev_nil, CPow, CMul, CDiv, ne_is_loose_with_parts, ne_is_surely_before_parts, ]
  exact q
def sp_Item_is_surely_before : SpD := fun ds Q E => ∃ (n : Str) (l h p : Int) (n2 : Str) (l2 h2 p2 : Int), ds = [itD n l h p, itD n2 l2 h2 p2] ∧ Q false (.bl (decide (h < l2)))
theorem spx_Item_is_surely_before {n : Str} {l h p : Int} {n2 : Str} {l2 h2 p2 : Int} {Q : Bool → D → Prop} {E : Nat → List (Str × D) → Prop} : sp_Item_is_surely_before [itD n l h p, itD n2 l2 h2 p2] Q E ↔ Q false (.bl (decide (h < l2))) := ⟨fun ⟨_, _, _, _, _, _, _, _, e, h⟩ => by cases e; exact h, fun h => ⟨_, _, _, _, _, _, _, _, rfl, h⟩⟩
set_option maxHeartbeats 8000000 in
theorem ok_Item_is_surely_before (T : Txt K mg a) : FnF a.cm P w K mg base 3 a.A_Item_is_surely_before a.D_Item_is_surely_before ["self", "other"] sp_Item_is_surely_before 0 := by
  refine FnF.fun_ T.f_Item_is_surely_before sc_Item_is_surely_before (fun ds Q E h => by obtain ⟨_, _, _, _, _, _, _, _, rfl, _⟩ := h; rfl) fun cd A outer s p me G H E B hB hg hr => ⟨_, PBF.le ((fs_one (fs_ret (pf_cmp op_lt opd_intb (pf_prop (ci := c_Item) (pf_var (pv 0)) T.cl_Item T.p_Item_greatest (ok_Item_greatest T) (hr.mono (by decide)) hg T.b_Item_greatest) (pf_prop (ci := c_Item) (pf_var (pv 1)) T.cl_Item T.p_Item_least (ok_Item_least T) (hr.mono (by decide)) hg T.b_Item_least) (nomark _))))) (by decide +kernel), fun ds Q E' h => ?_⟩
  obtain ⟨n, l, h, p, n2, l2, h2, p2, rfl, q⟩ := h
  simp [asB, FL.isNon, isSeq, wNeg, wRet, wRetO, wSeq, wNext, wIte, wSet, wSetO, wDrop, wAnd, wOr, wNot, wTst, wAndV, wOrV, wNotV, wIf, w2, w3, wVar, wC, wCv, wCall, wCallO, wMakeV, wMakeK, wCallK, wClmK, wIclm, wIval, wCls, wClm, wMeth, wProp, wFld, wIsi, wCal, wCons, wNil, wTup, wLst, oI, oAdd, oEq, oNe, oIx, oLen, oMax, oMin, oAll, oInS, oIsB, oNotB, oIsN, oNotN, oRepr, oReprA, wZip, zipD, wEqK, wYes, startE, wSelf, putFD, wPar, wPar3, wAsg, bindT, setsE, wipeE, atI, ixN, toP, toPs, sh_int, sh_bool, sh_none, ev_int, ev_str, ev_bool, ev_tup, ev_lst, ev_cons, ev_nil, CPow, CMul, CDiv, ne_is_loose_with_parts, ne_is_surely_before_parts, spx_Item_least, spx_Item_greatest]
  exact q
def sp_Item_is_loose_with : SpD := fun ds Q E => ∃ (n : Str) (l h p : Int) (n2 : Str) (l2 h2 p2 : Int), ds = [itD n l h p, itD n2 l2 h2 p2] ∧ Q false (.bl (!(decide (l = h) && decide (l2 = h2)) && (!decide (h < l2) && !decide (h2 < l))))
theorem spx_Item_is_loose_with {n : Str} {l h p : Int} {n2 : Str} {l2 h2 p2 : Int} {Q : Bool → D → Prop} {E : Nat → List (Str × D) → Prop} : sp_Item_is_loose_with [itD n l h p, itD n2 l2 h2 p2] Q E ↔ Q false (.bl (!(decide (l = h) && decide (l2 = h2)) && (!decide (h < l2) && !decide (h2 < l)))) := ⟨fun ⟨_, _, _, _, _, _, _, _, e, h⟩ => by cases e; exact h, fun h => ⟨_, _, _, _, _, _, _, _, rfl, h⟩⟩
set_option maxHeartbeats 8000000 in
theorem ok_Item_is_loose_with (T : Txt K mg a) : FnF a.cm P w K mg base 4 a.A_Item_is_loose_with a.D_Item_is_loose_with ["self", "other"] sp_Item_is_loose_with 0 := by
  refine FnF.fun_ T.f_Item_is_loose_with sc_Item_is_loose_with (fun ds Q E h => by obtain ⟨_, _, _, _, _, _, _, _, rfl, _⟩ := h; rfl) fun cd A outer s p me G H E B hB hg hr => ⟨_, PBF.le ((fs_cons (fs_if (fw_pt (fw_and (pt_bool (pf_prop (ci := c_Item) (pf_var (pv 0)) T.cl_Item T.p_Item_is_exact (ok_Item_is_exact T) (hr.mono (by decide)) hg T.b_Item_is_exact)) (fw_and1 (pt_bool (pf_prop (ci := c_Item) (pf_var (pv 1)) T.cl_Item T.p_Item_is_exact (ok_Item_is_exact T) (hr.mono (by decide)) hg T.b_Item_is_exact)))))
    (fs_one (fs_ret pf_bl))
    fs_nil)
    (fs_one (fs_ret (pf_and (pf_not (pf_meth (ci := c_Item) (pf_var (pv 0)) T.cl_Item T.m_Item_is_surely_before (ok_Item_is_surely_before T) (hr.mono (by decide)) hg (Dfl.no T.b_Item_is_surely_before) (fa_cons (pf_var (pv 1)) fa_nil))) (pf_one (pf_not (pf_meth (ci := c_Item) (pf_var (pv 1)) T.cl_Item T.m_Item_is_surely_before (ok_Item_is_surely_before T) (hr.mono (by decide)) hg (Dfl.no T.b_Item_is_surely_before) (fa_cons (pf_var (pv 0)) fa_nil))))))))) (by decide +kernel), fun ds Q E' h => ?_⟩
  obtain ⟨n, l, h, p, n2, l2, h2, p2, rfl, q⟩ := h
  simp [asB, FL.isNon, isSeq, wNeg, wRet, wRetO, wSeq, wNext, wIte, wSet, wSetO, wDrop, wAnd, wOr, wNot, wTst, wAndV, wOrV, wNotV, wIf, w2, w3, wVar, wC, wCv, wCall, wCallO, wMakeV, wMakeK, wCallK, wClmK, wIclm, wIval, wCls, wClm, wMeth, wProp, wFld, wIsi, wCal, wCons, wNil, wTup, wLst, oI, oAdd, oEq, oNe, oIx, oLen, oMax, oMin, oAll, oInS, oIsB, oNotB, oIsN, oNotN, oRepr, oReprA, wZip, zipD, wEqK, wYes, startE, wSelf, putFD, wPar, wPar3, wAsg, bindT, setsE, wipeE, atI, ixN, toP, toPs, sh_int, sh_bool, sh_none, ev_int, ev_str, ev_bool, ev_tup, ev_lst, ev_cons, ev_nil, CPow, CMul, CDiv, ne_is_loose_with_parts, ne_is_surely_before_parts, spx_Item_is_exact, spx_Item_is_surely_before]
  by_cases e1 : l = h <;> by_cases e2 : l2 = h2 <;> by_cases e3 : h < l2 <;> by_cases e4 : h2 < l <;> simp [e1, e2, e3, e4] at q ⊢ <;> first | exact q | exact .inl q | exact .inl (.inl q) | grind
def sp_trap : SpD := fun ds Q E => ∃ (n : Str) (l h p : Int) (n2 : Str) (l2 h2 p2 : Int), ds = [itD n l h p, itD n2 l2 h2 p2] ∧ l < h ∧ l2 < h2 ∧ Q false (trapD l h l2 h2)
theorem spx_trap {n : Str} {l h p : Int} {n2 : Str} {l2 h2 p2 : Int} {Q : Bool → D → Prop} {E : Nat → List (Str × D) → Prop} : sp_trap [itD n l h p, itD n2 l2 h2 p2] Q E ↔ l < h ∧ l2 < h2 ∧ Q false (trapD l h l2 h2) := ⟨fun ⟨_, _, _, _, _, _, _, _, e, h⟩ => by cases e; exact h, fun h => ⟨_, _, _, _, _, _, _, _, rfl, h⟩⟩
set_option maxHeartbeats 8000000 in
theorem ok_trap (T : Txt K mg a) : FnF a.cm P w K mg base 5 a.A_trap a.D_trap ["first", "second"] sp_trap 0 := by
  refine FnF.fun_ T.f_trap sc_trap (fun ds Q E h => by obtain ⟨_, _, _, _, _, _, _, _, rfl, _⟩ := h; rfl) fun cd A outer s p me G H E B hB hg hr => ⟨_, PBF.le ((fs_cons (fs_if (fw_pt (fw_or (ft_not (pt_bool (pf_meth (ci := c_Item) (pf_var (pv 0)) T.cl_Item T.m_Item_is_loose_with (ok_Item_is_loose_with T) (hr.mono (by decide)) hg (Dfl.no T.b_Item_is_loose_with) (fa_cons (pf_var (pv 1)) fa_nil)))) (fw_or1 (fw_pt (fw_and (pt_cmpD op_le opd_intb (pf_prop (ci := c_Item) (pf_var (pv 0)) T.cl_Item T.p_Item_least (ok_Item_least T) (hr.mono (by decide)) hg T.b_Item_least) (pf_prop (ci := c_Item) (pf_var (pv 1)) T.cl_Item T.p_Item_least (ok_Item_least T) (hr.mono (by decide)) hg T.b_Item_least) (nomark _)) (fw_and1 (pt_cmpD op_le opd_intb (pf_prop (ci := c_Item) (pf_var (pv 1)) T.cl_Item T.p_Item_greatest (ok_Item_greatest T) (hr.mono (by decide)) hg T.b_Item_greatest) (pf_prop (ci := c_Item) (pf_var (pv 0)) T.cl_Item T.p_Item_greatest (ok_Item_greatest T) (hr.mono (by decide)) hg T.b_Item_greatest) (nomark _))))))))
    (fs_one (fs_ret pf_non))
    fs_nil)
    (fs_cons (fs_set (i := 2) (pf_calB (call_max2 (by rfl)) cal_max (by rfl) T.n_max (by decide +kernel) (fa_cons (pf_prop (ci := c_Item) (pf_var (pv 0)) T.cl_Item T.p_Item_least (ok_Item_least T) (hr.mono (by decide)) hg T.b_Item_least) (fa_cons (pf_prop (ci := c_Item) (pf_var (pv 1)) T.cl_Item T.p_Item_least (ok_Item_least T) (hr.mono (by decide)) hg T.b_Item_least) fa_nil))) sc_trap.nd rfl (by first | exact Or.inl rfl | exact Or.inr rfl))
    (fs_one (fs_ret (pf_tup (fa_cons (pf_var (pv 2)) (fa_cons (pf_if (pt_cmpD op_lt opd_intb (pf_prop (ci := c_Item) (pf_var (pv 1)) T.cl_Item T.p_Item_least (ok_Item_least T) (hr.mono (by decide)) hg T.b_Item_least) (pf_prop (ci := c_Item) (pf_var (pv 0)) T.cl_Item T.p_Item_least (ok_Item_least T) (hr.mono (by decide)) hg T.b_Item_least) (nomark _)) (pf_prop (ci := c_Item) (pf_var (pv 1)) T.cl_Item T.p_Item_least (ok_Item_least T) (hr.mono (by decide)) hg T.b_Item_least) (pf_calB (call_max2 (by rfl)) cal_max (by rfl) T.n_max (by decide +kernel) (fa_cons (pf_prop (ci := c_Item) (pf_var (pv 1)) T.cl_Item T.p_Item_least (ok_Item_least T) (hr.mono (by decide)) hg T.b_Item_least) (fa_cons (pf_op op_addA opd_add (pf_prop (ci := c_Item) (pf_var (pv 0)) T.cl_Item T.p_Item_greatest (ok_Item_greatest T) (hr.mono (by decide)) hg T.b_Item_greatest) pf_int) fa_nil)))) fa_nil)))))))) (by decide +kernel), fun ds Q E' h => ?_⟩
  obtain ⟨n, l, h, p, n2, l2, h2, p2, rfl, o1, o2, q⟩ := h
  have g1 : ¬ l = h := by omega
  have g2 : ¬ l2 = h2 := by omega
  unfold trapD at q
  simp [asB, FL.isNon, isSeq, wNeg, wRet, wRetO, wSeq, wNext, wIte, wSet, wSetO, wDrop, wAnd, wOr, wNot, wTst, wAndV, wOrV, wNotV, wIf, w2, w3, wVar, wC, wCv, wCall, wCallO, wMakeV, wMakeK, wCallK, wClmK, wIclm, wIval, wCls, wClm, wMeth, wProp, wFld, wIsi, wCal, wCons, wNil, wTup, wLst, oI, oAdd, oEq, oNe, oIx, oLen, oMax, oMin, oAll, oInS, oIsB, oNotB, oIsN, oNotN, oRepr, oReprA, wZip, zipD, wEqK, wYes, startE, wSelf, putFD, wPar, wPar3, wAsg, bindT, setsE, wipeE, atI, ixN, toP, toPs, sh_int, sh_bool, sh_none, ev_int, ev_str, ev_bool, ev_tup, ev_lst, ev_cons, ev_nil, CPow, CMul, CDiv, ne_is_loose_with_parts, ne_is_surely_before_parts, spx_Item_is_loose_with, spx_Item_least, spx_Item_greatest, g1, g2]
  rcases (show (h < l2 ∧ ¬ l2 ≤ h) ∨ (l2 ≤ h ∧ ¬ h < l2) by omega) with ⟨a1, b1⟩ | ⟨a1, b1⟩ <;> rcases (show (h2 < l ∧ ¬ l ≤ h2) ∨ (l ≤ h2 ∧ ¬ h2 < l) by omega) with ⟨a2, b2⟩ | ⟨a2, b2⟩ <;> rcases (show (l ≤ l2 ∧ ¬ l2 < l) ∨ (l2 < l ∧ ¬ l ≤ l2) by omega) with ⟨a3, b3⟩ | ⟨a3, b3⟩ <;> rcases (show (h2 ≤ h ∧ ¬ h < h2) ∨ (h < h2 ∧ ¬ h2 ≤ h) by omega) with ⟨a4, b4⟩ | ⟨a4, b4⟩ <;> rcases (show (l < l2 ∧ ¬ l2 ≤ l) ∨ (l2 ≤ l ∧ ¬ l < l2) by omega) with ⟨a5, b5⟩ | ⟨a5, b5⟩ <;> rcases (show (l2 < h + 1 ∧ ¬ h + 1 ≤ l2) ∨ (h + 1 ≤ l2 ∧ ¬ l2 < h + 1) by omega) with ⟨a7, b7⟩ | ⟨a7, b7⟩ <;> simp [a1, b1, a2, b2, a3, b3, a4, b4, a5, b5, a7, b7] at q ⊢ <;> first | exact q | omega
def sp_Item_eq : SpD := fun ds Q E => ∃ (n : Str) (l h p : Int) (d : D), ds = [itD n l h p, d] ∧ ∃ b : Bool, EqIt n l h p d b ∧ Q false (.bl b)
theorem spx_Item_eq {n : Str} {l h p : Int} {d : D} {Q : Bool → D → Prop} {E : Nat → List (Str × D) → Prop} : sp_Item_eq [itD n l h p, d] Q E ↔ ∃ b : Bool, EqIt n l h p d b ∧ Q false (.bl b) := ⟨fun ⟨_, _, _, _, _, e, h⟩ => by cases e; exact h, fun h => ⟨_, _, _, _, _, rfl, h⟩⟩
set_option maxHeartbeats 8000000 in
theorem ok_Item_eq (T : Txt K mg a) : FnF a.cm P w K mg base 1 a.A_Item_eq a.D_Item_eq ["self", "other"] sp_Item_eq 0 := by
  refine FnF.fun_ T.f_Item_eq sc_Item_eq (fun ds Q E h => by obtain ⟨_, _, _, _, _, rfl, _⟩ := h; rfl) fun cd A outer s p me G H E B hB hg hr => ⟨_, PBF.le ((fs_one (fs_ret (pf_and (pf_isC (by rfl) T.n_isinstance (pf_var (pv 1)) (by rfl) T.g_Item T.is_Item) (pf_one (pf_cmp (op_eqA hr.units) opd_eq (pf_fld (c := c_Item) (pf_var (pv 0)) T.cl_Item T.na_Item_parts) (pf_fld (c := c_Item) (pf_var (pv 1)) T.cl_Item T.na_Item_parts) (nomark _))))))) (by decide +kernel), fun ds Q E' h => ?_⟩
  obtain ⟨n, l, h, p, d, rfl, b, hd, q⟩ := h
  cases hd with
  | @it n2 l2 h2 p2 hn hn2 =>
    simp [asB, FL.isNon, isSeq, wNeg, wRet, wRetO, wSeq, wNext, wIte, wSet, wSetO, wDrop, wAnd, wOr, wNot, wTst, wAndV, wOrV, wNotV, wIf, w2, w3, wVar, wC, wCv, wCall, wCallO, wMakeV, wMakeK, wCallK, wClmK, wIclm, wIval, wCls, wClm, wMeth, wProp, wFld, wIsi, wCal, wCons, wNil, wTup, wLst, oI, oAdd, oEq, oNe, oIx, oLen, oMax, oMin, oAll, oInS, oIsB, oNotB, oIsN, oNotN, oRepr, oReprA, wZip, zipD, wEqK, wYes, startE, wSelf, putFD, wPar, wPar3, wAsg, bindT, setsE, wipeE, atI, ixN, toP, toPs, sh_int, sh_bool, sh_none, ev_int, ev_str, ev_bool, ev_tup, ev_lst, ev_cons, ev_nil, CPow, CMul, CDiv, ne_is_loose_with_parts, ne_is_surely_before_parts, gOwn, sh_row hn, sh_row hn2, Bool.and_assoc] at q ⊢
    exact q
  | off hd =>
    simp [asB, FL.isNon, isSeq, wNeg, wRet, wRetO, wSeq, wNext, wIte, wSet, wSetO, wDrop, wAnd, wOr, wNot, wTst, wAndV, wOrV, wNotV, wIf, w2, w3, wVar, wC, wCv, wCall, wCallO, wMakeV, wMakeK, wCallK, wClmK, wIclm, wIval, wCls, wClm, wMeth, wProp, wFld, wIsi, wCal, wCons, wNil, wTup, wLst, oI, oAdd, oEq, oNe, oIx, oLen, oMax, oMin, oAll, oInS, oIsB, oNotB, oIsN, oNotN, oRepr, oReprA, wZip, zipD, wEqK, wYes, startE, wSelf, putFD, wPar, wPar3, wAsg, bindT, setsE, wipeE, atI, ixN, toP, toPs, sh_int, sh_bool, sh_none, ev_int, ev_str, ev_bool, ev_tup, ev_lst, ev_cons, ev_nil, CPow, CMul, CDiv, ne_is_loose_with_parts, ne_is_surely_before_parts, hd]
    exact q

theorem EqIt.val {n : Str} {l h p : Int} {n2 : Str} {l2 h2 p2 : Int} {b : Bool} (e : EqIt n l h p (itD n2 l2 h2 p2) b) : b = (decide (n = n2) && decide (l = l2) && decide (h = h2) && decide (p = p2)) := by
  cases e with
  | it a b => rfl
  | off z => cases z
theorem EqIt.no {n : Str} {l h p : Int} {d : D} {b : Bool} (e : EqIt n l h p d b) (z : gOwn owns c_Item d = some false) : b = false := by
  cases e with
  | it a b => cases z
  | off z => rfl
theorem eq_it {n : Str} {l h p : Int} {n2 : Str} {l2 h2 p2 : Int} {Q : Bool → D → Prop} {E : Nat → List (Str × D) → Prop} (a : nmS n) (b : nmS n2) : sp_Item_eq [itD n l h p, itD n2 l2 h2 p2] Q E ↔ Q false (.bl (decide (n = n2) && decide (l = l2) && decide (h = h2) && decide (p = p2))) := by
  rw [spx_Item_eq]
  exact ⟨fun ⟨b, e, q⟩ => by cases e.val; exact q, fun q => ⟨_, .it a b, q⟩⟩
theorem eq_ti {n : Str} {l h p : Int} {n2 : Str} {l2 h2 p2 : Int} {Q : Bool → D → Prop} {E : Nat → List (Str × D) → Prop} (a : nmS n) (b : nmS n2) : sp_Item_eq [itD n2 l2 h2 p2, itD n l h p] Q E ↔ Q false (.bl (decide (n = n2) && decide (l = l2) && decide (h = h2) && decide (p = p2))) := by
  rw [eq_it b a, show decide (n2 = n) = decide (n = n2) from decide_eq_decide.mpr eq_comm, show decide (l2 = l) = decide (l = l2) from decide_eq_decide.mpr eq_comm, show decide (h2 = h) = decide (h = h2) from decide_eq_decide.mpr eq_comm, show decide (p2 = p) = decide (p = p2) from decide_eq_decide.mpr eq_comm]
theorem loose_comm (l h l2 h2 : Int) : ((!decide (l2 = h2) || !decide (l = h)) && (!decide (h2 < l) && !decide (h < l2))) = ((!decide (l = h) || !decide (l2 = h2)) && (!decide (h < l2) && !decide (h2 < l))) := by
  rw [Bool.or_comm, Bool.and_comm (!decide (h2 < l))]
theorem eq_off {n : Str} {l h p : Int} {d : D} {Q : Bool → D → Prop} {E : Nat → List (Str × D) → Prop} (z : gOwn owns c_Item d = some false) : sp_Item_eq [itD n l h p, d] Q E ↔ Q false (.bl false) := by
  rw [spx_Item_eq]
  exact ⟨fun ⟨b, e, q⟩ => by cases e.no z; exact q, fun q => ⟨_, .off z, q⟩⟩

set_option maxHeartbeats 16000000 in
theorem ok_law (T : Txt K mg a) : FnG P w K mg base (L2.CX P w) 6 a.A_law a.D_law ["script"] (spLawG K) := by
  refine lawG (cm := a.cm) (c := 562950003752960) T.f_law sc_law (by decide) rfl (by decide +kernel) (fun cdv A outer s H E hr => ⟨_, ps_set (i := 1) sc_law.nd rfl (by first | exact Or.inl rfl | exact Or.inr rfl) (pe_call (ok_pen T.f_law_pen (penT T)) (hr.mono (by decide)) (by rfl) T.g_law_pen T.f_law_pen.kp T.b_law_pen .nil pass0 (pa_cons (pv 0) pa_nil)), fun a ns D hS hl k => ⟨_, rfl, a, ns, rfl, hS, by omega, fun q p H' hq hp npq kp hq' hp' => k q p H' hq hp npq hq' hp'⟩⟩) fun cd A outer s p me G H0 H E B hB hg hr => ⟨_, PBF.le ((fs_cons (fs_for (t := (.one 2)) body_owns (by rfl) (fi_range1 (by rfl) T.n_range (fa_cons pf_int fa_nil)) (pg_name (i := 2) sc_law.nd rfl (by first | exact Or.inl rfl | exact Or.inr (Or.inl rfl)))
    (fs_cons (fs_set (i := 3) (pf_lst (fa_cons (pf_op op_sub opd_int0 (pf_call (ok_law_draw T) (hr.mono (by decide)) hg (by rfl) T.g_law_draw T.f_law_draw.kp (Dfl.no T.b_law_draw) (fa_cons (pf_var (pv 1)) (fa_cons pf_int fa_nil))) pf_int) (fa_cons (pf_op op_sub opd_int0 (pf_call (ok_law_draw T) (hr.mono (by decide)) hg (by rfl) T.g_law_draw T.f_law_draw.kp (Dfl.no T.b_law_draw) (fa_cons (pf_var (pv 1)) (fa_cons pf_int fa_nil))) pf_int) fa_nil))) sc_law.nd rfl (by first | exact Or.inl rfl | exact Or.inr rfl))
    (fs_cons (fs_set (i := 4) (pf_ix (pf_lst (fa_cons (pf_lst (fa_cons pf_str (fa_cons pf_str fa_nil))) (fa_cons (pf_lst (fa_cons pf_str (fa_cons pf_str fa_nil))) (fa_cons (pf_lst (fa_cons pf_str (fa_cons pf_str fa_nil))) fa_nil)))) (pf_call (ok_law_draw T) (hr.mono (by decide)) hg (by rfl) T.g_law_draw T.f_law_draw.kp (Dfl.no T.b_law_draw) (fa_cons (pf_var (pv 1)) (fa_cons pf_int fa_nil)))) sc_law.nd rfl (by first | exact Or.inl rfl | exact Or.inr rfl))
    (fs_cons (fs_of_asg (e := .Name "x" ⟨0, 0, 0, 0⟩) (fs_lcG (i := 5) (own := [("k", 14)]) (t := (.one 14)) (by rfl) sc_law.nd rfl rfl (sw_true rfl rfl rfl (by decide +kernel)) (fi_range1 (by rfl) T.n_range (fa_cons pf_int fa_nil)) (blkOk_by (own := [("k", 14)]) (N := sc_law_N) (sc := defScope s_law) (by decide +kernel)) (by decide) (fun _ _ _ _ _ => (pg_name (i := 14) sc_law.nd rfl (by first | exact Or.inl rfl | exact Or.inr (Or.inl rfl)))) (fun _ _ _ _ _ _ => fts_nil) (fun _ _ _ _ _ _ => (pf_tup (fa_cons (pf_ix (pf_var (pv 4)) (pf_var (pv 14))) (fa_cons (pf_ix (pf_var (pv 3)) (pf_var (pv 14))) (fa_cons (pf_op op_addA opd_add (pf_op op_addA opd_add (pf_ix (pf_var (pv 3)) (pf_var (pv 14))) pf_int) (pf_call (ok_law_draw T) (hr.mono (by decide)) hg (by rfl) T.g_law_draw T.f_law_draw.kp (Dfl.no T.b_law_draw) (fa_cons (pf_var (pv 1)) (fa_cons pf_int fa_nil)))) (fa_cons (pf_op op_addA opd_add pf_int (pf_call (ok_law_draw T) (hr.mono (by decide)) hg (by rfl) T.g_law_draw T.f_law_draw.kp (Dfl.no T.b_law_draw) (fa_cons (pf_var (pv 1)) (fa_cons pf_int fa_nil)))) fa_nil))))))))
    (fs_cons (fs_asg (t := (.manyL [6, 7])) (PO.frz (po_lc (own := [("row", 11)]) (t := (.one 11)) (by rfl) sc_law.nd (fi_list (pf_var (pv 5))) (blkOk_by (own := [("row", 11)]) (N := sc_law_N) (sc := defScope s_law) (by decide +kernel)) (by decide) (fun _ _ _ _ _ => (pg_name (i := 11) sc_law.nd rfl (by first | exact Or.inl rfl | exact Or.inr (Or.inl rfl)))) (fun _ _ _ _ _ _ => fts_nil) (fun _ _ _ _ _ _ => (pf_makeK (i := c_Item) T.mk_Item (ok_Item_init T) (hr.mono (by decide)) hg (by rfl) T.g_Item T.mk_price_Item (fa_cons (pf_ix (pf_var (pv 11)) pf_int) (fa_cons (pf_ix (pf_var (pv 11)) pf_int) (fa_cons (pf_ix (pf_var (pv 11)) pf_int) fa_nil))) (fk_cons (pf_ix (pf_var (pv 11)) pf_int) fk_nil))))) (pg_lst (by rfl) (pgs_cons (pg_name (i := 6) sc_law.nd rfl (by first | exact Or.inl rfl | exact Or.inr (Or.inl rfl))) (pgs_cons (pg_name (i := 7) sc_law.nd rfl (by first | exact Or.inl rfl | exact Or.inr (Or.inl rfl))) pgs_nil))))
    (fs_cons (fs_set (i := 8) (pf_call (ok_law_due T) (hr.mono (by decide)) hg (by rfl) T.g_law_due T.f_law_due.kp (Dfl.no T.b_law_due) (fa_cons (pf_ix (pf_var (pv 5)) pf_int) (fa_cons (pf_ix (pf_var (pv 5)) pf_int) fa_nil))) sc_law.nd rfl (by first | exact Or.inl rfl | exact Or.inr rfl))
    (fs_cons (fs_set (i := 9) (pf_and (pf_cmp op_le opd_intb (pf_ix (pf_ix (pf_var (pv 5)) pf_int) pf_int) (pf_ix (pf_ix (pf_var (pv 5)) pf_int) pf_int) (nomark _)) (pf_one (pf_cmp op_le opd_intb (pf_ix (pf_ix (pf_var (pv 5)) pf_int) pf_int) (pf_ix (pf_ix (pf_var (pv 5)) pf_int) pf_int) (nomark _)))) sc_law.nd rfl (by first | exact Or.inl rfl | exact Or.inr rfl))
    (fs_cons (fs_if (pt_cmpD (op_neA hr.units) opd_ne (pf_cmp op_isN opd_isN (pf_var (pv 8)) pf_non (nomark _)) (pf_or (pf_var (pv 9)) (pf_one (pf_not (pf_call (ok_law_loose T) (hr.mono (by decide)) hg (by rfl) T.g_law_loose T.f_law_loose.kp (Dfl.no T.b_law_loose) (fa_cons (pf_ix (pf_var (pv 5)) pf_int) (fa_cons (pf_ix (pf_var (pv 5)) pf_int) fa_nil)))))) (nomark _))
    (fs_one (fs_ret pf_bl))
    fs_nil)
    (fs_cons (fs_if (fw_pt (fw_or (pt_cmpD (op_neA hr.units) opd_ne (pf_calB (call_reprS hr hg) cal_reprS (by rfl) T.n_repr (by decide +kernel) (fa_cons (pf_call (ok_trap T) (hr.mono (by decide)) hg (by rfl) T.g_trap T.f_trap.kp (Dfl.no T.b_trap) (fa_cons (pf_var (pv 6)) (fa_cons (pf_var (pv 7)) fa_nil))) fa_nil)) (pf_calB (call_reprS hr hg) cal_reprS (by rfl) T.n_repr (by decide +kernel) (fa_cons (pf_var (pv 8)) fa_nil)) (nomark _)) (fw_or1 (pt_cmpD (op_neA hr.units) opd_ne (pf_calB (call_reprS hr hg) cal_reprS (by rfl) T.n_repr (by decide +kernel) (fa_cons (pf_callKW0 (ok_trap T) (hr.mono (by decide)) hg (by rfl) T.g_trap T.f_trap.kp T.kb_trap_second_first (fk_cons (pf_var (pv 7)) (fk_cons (pf_var (pv 6)) fk_nil))) fa_nil)) (pf_calB (call_reprS hr hg) cal_reprS (by rfl) T.n_repr (by decide +kernel) (fa_cons (pf_var (pv 8)) fa_nil)) (nomark _)))))
    (fs_one (fs_ret pf_bl))
    fs_nil)
    (fs_one (fs_for (t := (.many [10, 11])) body_owns (by rfl) (fi_zip (by rfl) T.n_zip (fa_cons (pf_lst (fa_cons (pf_var (pv 6)) (fa_cons (pf_var (pv 7)) fa_nil))) (fa_cons (pf_var (pv 5)) fa_nil))) (pg_tup (by rfl) (pgs_cons (pg_name (i := 10) sc_law.nd rfl (by first | exact Or.inl rfl | exact Or.inr (Or.inl rfl))) (pgs_cons (pg_name (i := 11) sc_law.nd rfl (by first | exact Or.inl rfl | exact Or.inr (Or.inl rfl))) pgs_nil)))
    (fs_one (fs_if (pt_neK T.eq_Item (ok_Item_eq T) T.b_Item_eq (hr.mono (by decide)) hg (pf_var (pv 10)) (pf_makeK (i := c_Item) T.mk_Item (ok_Item_init T) (hr.mono (by decide)) hg (by rfl) T.g_Item T.mk_price_Item (fa_cons (pf_ix (pf_var (pv 11)) pf_int) (fa_cons (pf_ix (pf_var (pv 11)) pf_int) (fa_cons (pf_ix (pf_var (pv 11)) pf_int) fa_nil))) (fk_cons (pf_ix (pf_var (pv 11)) pf_int) fk_nil)) (nomark _))
    (fs_one (fs_ret pf_bl))
    fs_nil)))))))))))))
    (fs_cons (fs_set (i := 12) (pf_lst (fa_cons (pf_make (c := c_Item) T.mk_Item (ok_Item_init T) (hr.mono (by decide)) hg (by rfl) T.g_Item T.mb_Item (fa_cons pf_str (fa_cons pf_int (fa_cons (pf_op op_pow opd_int pf_int pf_int) fa_nil)))) (fa_cons (pf_make (c := c_Item) T.mk_Item (ok_Item_init T) (hr.mono (by decide)) hg (by rfl) T.g_Item T.mb_Item (fa_cons pf_str (fa_cons pf_int (fa_cons (pf_op op_mul opd_int pf_int (pf_op op_pow opd_int pf_int pf_int)) fa_nil)))) (fa_cons (pf_make (c := c_Item) T.mk_Item (ok_Item_init T) (hr.mono (by decide)) hg (by rfl) T.g_Item T.mb_Item (fa_cons pf_str (fa_cons (pf_op op_sub opd_int0 pf_int (pf_op op_pow opd_int pf_int pf_int)) (fa_cons pf_int fa_nil)))) fa_nil)))) sc_law.nd rfl (by first | exact Or.inl rfl | exact Or.inr rfl))
    (fs_cons (fs_set (i := 13) (pf_lst (fa_cons (pf_call (ok_trap T) (hr.mono (by decide)) hg (by rfl) T.g_trap T.f_trap.kp (Dfl.no T.b_trap) (fa_cons (pf_ix (pf_var (pv 12)) pf_int) (fa_cons (pf_ix (pf_var (pv 12)) pf_int) fa_nil))) (fa_cons (pf_call (ok_trap T) (hr.mono (by decide)) hg (by rfl) T.g_trap T.f_trap.kp (Dfl.no T.b_trap) (fa_cons (pf_ix (pf_var (pv 12)) pf_int) (fa_cons (pf_ix (pf_var (pv 12)) pf_int) fa_nil))) (fa_cons (pf_call (ok_trap T) (hr.mono (by decide)) hg (by rfl) T.g_trap T.f_trap.kp (Dfl.no T.b_trap) (fa_cons (pf_ix (pf_var (pv 12)) pf_int) (fa_cons (pf_ix (pf_var (pv 12)) pf_int) fa_nil))) (fa_cons (pf_call (ok_trap T) (hr.mono (by decide)) hg (by rfl) T.g_trap T.f_trap.kp (Dfl.no T.b_trap) (fa_cons (pf_ix (pf_var (pv 12)) pf_int) (fa_cons (pf_ix (pf_var (pv 12)) pf_int) fa_nil))) fa_nil))))) sc_law.nd rfl (by first | exact Or.inl rfl | exact Or.inr rfl))
    (fs_one (fs_ret (pf_cmp (op_eqA hr.units) opd_eq (pf_var (pv 13)) (pf_lst (fa_cons (pf_tup (fa_cons pf_int (fa_cons (pf_op op_addA opd_add (pf_op op_pow opd_int pf_int pf_int) pf_int) fa_nil))) (fa_cons (pf_tup (fa_cons pf_int (fa_cons pf_int fa_nil))) (fa_cons (pf_tup (fa_cons pf_int (fa_cons (pf_op op_sub opd_int0 pf_int (pf_op op_pow opd_int pf_int pf_int)) fa_nil))) (fa_cons (pf_tup (fa_cons pf_int (fa_cons (pf_op op_sub opd_int0 pf_int (pf_op op_pow opd_int pf_int pf_int)) fa_nil))) fa_nil))))) (nomark _)))))))) (by decide +kernel), ?_⟩
  refine seq_gen fun R hR => ?_
  refine ⟨by decide, by decide, fun i ρ => ∃ a0 a2 a3 a4 a5 a6 a7 a8 a9 a10 a11 a12 a13 a14, ρ = [a0, .va .pen, a2, a3, a4, a5, a6, a7, a8, a9, a10, a11, a12, a13, a14], ⟨_, _, _, _, _, _, _, _, _, _, _, _, _, _, rfl⟩, fun i d ρ hd ⟨a0, a2, a3, a4, a5, a6, a7, a8, a9, a10, a11, a12, a13, a14, e⟩ => ?_, fun ρ ⟨a0, a2, a3, a4, a5, a6, a7, a8, a9, a10, a11, a12, a13, a14, e⟩ => ?_⟩
  · subst e
    simp only [bindT, List.set]
    clear hR
    refine seq_gen fun R hR => ?_
    simp [asB, FL.isNon, isSeq, wNeg, wRet, wRetO, wSeq, wNext, wIte, wSet, wSetO, wDrop, wAnd, wOr, wNot, wTst, wAndV, wOrV, wNotV, wIf, w2, w3, wVar, wC, wCv, wCall, wCallO, wMakeV, wMakeK, wCallK, wClmK, wIclm, wIval, wCls, wClm, wMeth, wProp, wFld, wIsi, wCal, wCons, wNil, wTup, wLst, oI, oAdd, oEq, oNe, oIx, oLen, oMax, oMin, oAll, oInS, oIsB, oNotB, oIsN, oNotN, oRepr, oReprA, wZip, zipD, wEqK, wYes, startE, wSelf, putFD, wPar, wPar3, wAsg, bindT, setsE, wipeE, toP, toPs, sh_int, sh_bool, sh_none, ev_int, ev_str, ev_bool, ev_tup, ev_lst, ev_cons, ev_nil, CPow, CMul, CDiv, ne_is_loose_with_parts, ne_is_surely_before_parts, spDraw]
    intro s s0 s1 t t0 t1
    apply hR
    clear hR R
    refine seq_gen fun R hR => ?_
    simp [asB, FL.isNon, isSeq, wNeg, wRet, wRetO, wSeq, wNext, wIte, wSet, wSetO, wDrop, wAnd, wOr, wNot, wTst, wAndV, wOrV, wNotV, wIf, w2, w3, wVar, wC, wCv, wCall, wCallO, wMakeV, wMakeK, wCallK, wClmK, wIclm, wIval, wCls, wClm, wMeth, wProp, wFld, wIsi, wCal, wCons, wNil, wTup, wLst, oI, oAdd, oEq, oNe, oIx, oLen, oMax, oMin, oAll, oInS, oIsB, oNotB, oIsN, oNotN, oRepr, oReprA, wZip, zipD, wEqK, wYes, startE, wSelf, putFD, wPar, wPar3, wAsg, bindT, setsE, wipeE, toP, toPs, sh_int, sh_bool, sh_none, ev_int, ev_str, ev_bool, ev_tup, ev_lst, ev_cons, ev_nil, CPow, CMul, CDiv, ne_is_loose_with_parts, ne_is_surely_before_parts, spDraw]
    intro v v0 v1
    obtain ⟨m1, m2, g1, g2, hv⟩ : ∃ m1 m2 : Str, NmG m1 ∧ NmG m2 ∧ L2.atI [D.lst [D.str "a", D.str "q"], D.lst [D.str "q", D.str "a"], D.lst [D.str "a", D.str "a"]] v = some (.lst [.str m1, .str m2]) := by
      have na : NmG "a" := ⟨⟨by decide, by decide +kernel⟩, by unfold nmS; decide +kernel⟩
      have nq : NmG "q" := ⟨⟨by decide, by decide +kernel⟩, by unfold nmS; decide +kernel⟩
      have hu : v = 0 ∨ v = 1 ∨ v = 2 := by omega
      rcases hu with rfl | rfl | rfl
      · exact ⟨_, _, na, nq, rfl⟩
      · exact ⟨_, _, nq, na, rfl⟩
      · exact ⟨_, _, na, na, rfl⟩
    refine ⟨_, hv, ?_⟩
    apply hR
    clear hR R
    refine seq_gen fun R hR => ?_
    have e2 : rngD 0 (Int.toNat 2) = [.int 0, .int 1] := rfl
    refine ⟨by decide, by decide, lc_rel (fun d x => ∃ m l h p, (d = .int 0 ∧ m = m1 ∨ d = .int 1 ∧ m = m2) ∧ -4 ≤ l ∧ l ≤ 4 ∧ l < h ∧ h ≤ l + 7 ∧ 1 ≤ p ∧ p ≤ 5 ∧ x = rowD m l h p) (fun d hd Q' k => ?_) (fun xs hx => ?_)⟩
    · rw [e2] at hd
      simp at hd
      rcases hd with rfl | rfl
      · simp [asB, FL.isNon, isSeq, wNeg, wRet, wRetO, wSeq, wNext, wIte, wSet, wSetO, wDrop, wAnd, wOr, wNot, wTst, wAndV, wOrV, wNotV, wIf, w2, w3, wVar, wC, wCv, wCall, wCallO, wMakeV, wMakeK, wCallK, wClmK, wIclm, wIval, wCls, wClm, wMeth, wProp, wFld, wIsi, wCal, wCons, wNil, wTup, wLst, oI, oAdd, oEq, oNe, oIx, oLen, oMax, oMin, oAll, oInS, oIsB, oNotB, oIsN, oNotN, oRepr, oReprA, wZip, zipD, wEqK, wYes, startE, wSelf, putFD, wPar, wPar3, wAsg, bindT, setsE, wipeE, atI, ixN, toP, toPs, sh_int, sh_bool, sh_none, ev_int, ev_str, ev_bool, ev_tup, ev_lst, ev_cons, ev_nil, CPow, CMul, CDiv, ne_is_loose_with_parts, ne_is_surely_before_parts, spDraw]
        intro a a0 a1 b b0 b1
        exact k _ _ ⟨m1, _, _, _, .inl ⟨rfl, rfl⟩, by omega, by omega, by omega, by omega, by omega, by omega, rfl⟩ rfl
      · simp [asB, FL.isNon, isSeq, wNeg, wRet, wRetO, wSeq, wNext, wIte, wSet, wSetO, wDrop, wAnd, wOr, wNot, wTst, wAndV, wOrV, wNotV, wIf, w2, w3, wVar, wC, wCv, wCall, wCallO, wMakeV, wMakeK, wCallK, wClmK, wIclm, wIval, wCls, wClm, wMeth, wProp, wFld, wIsi, wCal, wCons, wNil, wTup, wLst, oI, oAdd, oEq, oNe, oIx, oLen, oMax, oMin, oAll, oInS, oIsB, oNotB, oIsN, oNotN, oRepr, oReprA, wZip, zipD, wEqK, wYes, startE, wSelf, putFD, wPar, wPar3, wAsg, bindT, setsE, wipeE, atI, ixN, toP, toPs, sh_int, sh_bool, sh_none, ev_int, ev_str, ev_bool, ev_tup, ev_lst, ev_cons, ev_nil, CPow, CMul, CDiv, ne_is_loose_with_parts, ne_is_surely_before_parts, spDraw]
        intro a a0 a1 b b0 b1
        exact k _ _ ⟨m2, _, _, _, .inr ⟨rfl, rfl⟩, by omega, by omega, by omega, by omega, by omega, by omega, rfl⟩ rfl
    · rw [e2] at hx
      obtain ⟨l, h, p, l2, h2, p2, i1, i2, i3, i4, i5, i6, j1, j2, j3, j4, j5, j6, rfl⟩ : ∃ l h p l2 h2 p2 : Int, -4 ≤ l ∧ l ≤ 4 ∧ l < h ∧ h ≤ l + 7 ∧ 1 ≤ p ∧ p ≤ 5 ∧ -4 ≤ l2 ∧ l2 ≤ 4 ∧ l2 < h2 ∧ h2 ≤ l2 + 7 ∧ 1 ≤ p2 ∧ p2 ≤ 5 ∧ xs = [rowD m1 l h p, rowD m2 l2 h2 p2] := by
        cases hx with
        | cons h1 t =>
          cases t with
          | cons h2 t =>
            cases t
            obtain ⟨m, l, h, p, hk, a1, a2, a3, a4, a5, a6, rfl⟩ := h1
            obtain ⟨m', l', h', p', hk', c1, c2, c3, c4, c5, c6, rfl⟩ := h2
            have z1 : m = m1 := by simpa using hk
            have z2 : m' = m2 := by simpa using hk'
            subst z1; subst z2
            exact ⟨l, h, p, l', h', p', a1, a2, a3, a4, a5, a6, c1, c2, c3, c4, c5, c6, rfl⟩
      apply hR
      clear hR R hx
      refine seq_gen fun R hR => ?_
      refine ⟨by show 2 ≤ 1000000; decide, lc_map itR (fun d hd Q' k => ?_) ?_ rfl⟩
      · simp at hd
        rcases hd with rfl | rfl
        · have u1 : l ≤ h := by omega
          have u2 : p ≤ 999 := by omega
          simp [asB, FL.isNon, isSeq, wNeg, wRet, wRetO, wSeq, wNext, wIte, wSet, wSetO, wDrop, wAnd, wOr, wNot, wTst, wAndV, wOrV, wNotV, wIf, w2, w3, wVar, wC, wCv, wCall, wCallO, wMakeV, wMakeK, wCallK, wClmK, wIclm, wIval, wCls, wClm, wMeth, wProp, wFld, wIsi, wCal, wCons, wNil, wTup, wLst, oI, oAdd, oEq, oNe, oIx, oLen, oMax, oMin, oAll, oInS, oIsB, oNotB, oIsN, oNotN, oRepr, oReprA, wZip, zipD, wEqK, wYes, startE, wSelf, putFD, wPar, wPar3, wAsg, bindT, setsE, wipeE, atI, ixN, toP, toPs, sh_int, sh_bool, sh_none, ev_int, ev_str, ev_bool, ev_tup, ev_lst, ev_cons, ev_nil, CPow, CMul, CDiv, ne_is_loose_with_parts, ne_is_surely_before_parts, spx_Item_init, g1.ok, u1, u2, i3, i5]
          exact k _ rfl
        · have u1 : l2 ≤ h2 := by omega
          have u2 : p2 ≤ 999 := by omega
          simp [asB, FL.isNon, isSeq, wNeg, wRet, wRetO, wSeq, wNext, wIte, wSet, wSetO, wDrop, wAnd, wOr, wNot, wTst, wAndV, wOrV, wNotV, wIf, w2, w3, wVar, wC, wCv, wCall, wCallO, wMakeV, wMakeK, wCallK, wClmK, wIclm, wIval, wCls, wClm, wMeth, wProp, wFld, wIsi, wCal, wCons, wNil, wTup, wLst, oI, oAdd, oEq, oNe, oIx, oLen, oMax, oMin, oAll, oInS, oIsB, oNotB, oIsN, oNotN, oRepr, oReprA, wZip, zipD, wEqK, wYes, startE, wSelf, putFD, wPar, wPar3, wAsg, bindT, setsE, wipeE, atI, ixN, toP, toPs, sh_int, sh_bool, sh_none, ev_int, ev_str, ev_bool, ev_tup, ev_lst, ev_cons, ev_nil, CPow, CMul, CDiv, ne_is_loose_with_parts, ne_is_surely_before_parts, spx_Item_init, g2.ok, u1, u2, j3, j5]
          exact k _ rfl
      · refine ⟨rfl, ?_⟩
        apply hR
        clear hR R
        simp only [List.set, wipeE, setsE, itR, List.map]
        have b1 : -1000 ≤ l := by omega
        have b2 : h ≤ 1000 := by omega
        have b3 : -1000 ≤ l2 := by omega
        have b4 : h2 ≤ 1000 := by omega
        have o1 : ¬ l = h := by omega
        have o2 : ¬ l2 = h2 := by omega
        have u2 : p ≤ 999 := by omega
        have u4 : p2 ≤ 999 := by omega
        have u1 : l ≤ h := by omega
        have u3 : l2 ≤ h2 := by omega
        have lg : ∀ j : Int, -1000 ≤ j → j ≤ 1000 → j.natAbs.log2 < 1920 := fun j a b => log2_lt (k := 1920) (by decide) (Nat.lt_of_lt_of_le (show j.natAbs < 2 ^ 60 by omega) (Nat.pow_le_pow_right (by decide) (by decide)))
        have ht : (∃ X Y, trapD l h l2 h2 = .tup [.int X, .int Y] ∧ -1000 ≤ X ∧ X ≤ 1000 ∧ -1000 ≤ Y ∧ Y ≤ 1000 ∧ ¬ h < l2 ∧ ¬ h2 < l ∧ ¬ (l ≤ l2 ∧ h2 ≤ h)) ∨ trapD l h l2 h2 = .non ∧ ((h < l2 ∨ h2 < l) ∨ l ≤ l2 ∧ h2 ≤ h) := by
          by_cases hC : (h < l2 ∨ h2 < l) ∨ l ≤ l2 ∧ h2 ≤ h
          · exact .inr ⟨if_pos hC, hC⟩
          · refine .inl ⟨_, _, if_neg hC, ?_, ?_, ?_, ?_, by omega, by omega, by omega⟩
            · split <;> omega
            · split <;> omega
            · split <;> (try split) <;> omega
            · split <;> (try split) <;> omega
        refine seq_gen fun R hR => ?_
        simp [asB, FL.isNon, isSeq, wNeg, wRet, wRetO, wSeq, wNext, wIte, wSet, wSetO, wDrop, wAnd, wOr, wNot, wTst, wAndV, wOrV, wNotV, wIf, w2, w3, wVar, wC, wCv, wCall, wCallO, wMakeV, wMakeK, wCallK, wClmK, wIclm, wIval, wCls, wClm, wMeth, wProp, wFld, wIsi, wCal, wCons, wNil, wTup, wLst, oI, oAdd, oEq, oNe, oIx, oLen, oMax, oMin, oAll, oInS, oIsB, oNotB, oIsN, oNotN, oRepr, oReprA, wZip, zipD, wEqK, wYes, startE, wSelf, putFD, wPar, wPar3, wAsg, bindT, setsE, wipeE, atI, ixN, toP, toPs, sh_int, sh_bool, sh_none, ev_int, ev_str, ev_bool, ev_tup, ev_lst, ev_cons, ev_nil, CPow, CMul, CDiv, ne_is_loose_with_parts, ne_is_surely_before_parts, spx_law_loose, spx_law_due, spx_trap, spx_Item_init, okG, gOwn, swp, i3, j3, b1, b2, b3, b4]
        apply hR
        clear hR R
        by_cases n1 : l ≤ l2 <;> by_cases n2 : h2 ≤ h <;> by_cases c1 : h < l2 <;> by_cases c2 : h2 < l <;> (try (exfalso; omega)) <;> rcases ht with ⟨X, Y, ht, X1, X2, Y1, Y2, y1, y2, y3⟩ | ⟨ht, y1⟩ <;> (try (exfalso; omega))
        all_goals
          refine seq_gen fun R hR => ?_
          simp [asB, FL.isNon, isSeq, wNeg, wRet, wRetO, wSeq, wNext, wIte, wSet, wSetO, wDrop, wAnd, wOr, wNot, wTst, wAndV, wOrV, wNotV, wIf, w2, w3, wVar, wC, wCv, wCall, wCallO, wMakeV, wMakeK, wCallK, wClmK, wIclm, wIval, wCls, wClm, wMeth, wProp, wFld, wIsi, wCal, wCons, wNil, wTup, wLst, oI, oAdd, oEq, oNe, oIx, oLen, oMax, oMin, oAll, oInS, oIsB, oNotB, oIsN, oNotN, oRepr, oReprA, wZip, zipD, wEqK, wYes, startE, wSelf, putFD, wPar, wPar3, wAsg, bindT, setsE, wipeE, atI, ixN, toP, toPs, sh_int, sh_bool, sh_none, ev_int, ev_str, ev_bool, ev_tup, ev_lst, ev_cons, ev_nil, CPow, CMul, CDiv, ne_is_loose_with_parts, ne_is_surely_before_parts, n1, n2]
          apply hR
          clear hR R
          refine seq_gen fun R hR => ?_
          simp [asB, FL.isNon, isSeq, wNeg, wRet, wRetO, wSeq, wNext, wIte, wSet, wSetO, wDrop, wAnd, wOr, wNot, wTst, wAndV, wOrV, wNotV, wIf, w2, w3, wVar, wC, wCv, wCall, wCallO, wMakeV, wMakeK, wCallK, wClmK, wIclm, wIval, wCls, wClm, wMeth, wProp, wFld, wIsi, wCal, wCons, wNil, wTup, wLst, oI, oAdd, oEq, oNe, oIx, oLen, oMax, oMin, oAll, oInS, oIsB, oNotB, oIsN, oNotN, oRepr, oReprA, wZip, zipD, wEqK, wYes, startE, wSelf, putFD, wPar, wPar3, wAsg, bindT, setsE, wipeE, atI, ixN, toP, toPs, sh_int, sh_bool, sh_none, ev_int, ev_str, ev_bool, ev_tup, ev_lst, ev_cons, ev_nil, CPow, CMul, CDiv, ne_is_loose_with_parts, ne_is_surely_before_parts, spx_law_loose, spx_law_due, spx_trap, spx_Item_init, okG, gOwn, swp, ht, o1, o2, n1, n2, c1, c2]
          apply hR
          clear hR R
          refine seq_gen fun R hR => ?_
          simp [asB, FL.isNon, isSeq, wNeg, wRet, wRetO, wSeq, wNext, wIte, wSet, wSetO, wDrop, wAnd, wOr, wNot, wTst, wAndV, wOrV, wNotV, wIf, w2, w3, wVar, wC, wCv, wCall, wCallO, wMakeV, wMakeK, wCallK, wClmK, wIclm, wIval, wCls, wClm, wMeth, wProp, wFld, wIsi, wCal, wCons, wNil, wTup, wLst, oI, oAdd, oEq, oNe, oIx, oLen, oMax, oMin, oAll, oInS, oIsB, oNotB, oIsN, oNotN, oRepr, oReprA, wZip, zipD, wEqK, wYes, startE, wSelf, putFD, wPar, wPar3, wAsg, bindT, setsE, wipeE, atI, ixN, toP, toPs, sh_int, sh_bool, sh_none, ev_int, ev_str, ev_bool, ev_tup, ev_lst, ev_cons, ev_nil, CPow, CMul, CDiv, ne_is_loose_with_parts, ne_is_surely_before_parts, spx_law_loose, spx_law_due, spx_trap, spx_Item_init, okG, gOwn, swp, ht, i3, j3]
          refine ⟨(by first | exact Sh.shows .non (by decide) (by decide) | exact Sh.shows (.tup (.cons (.int (lg _ X1 X2)) (.cons (.int (lg _ Y1 Y2)) .nil))) (by decide) (by omega)), ?_⟩
          apply hR
          clear hR R
          refine ⟨by show 2 ≤ 1000; decide, by show 2 ≤ 1000000; decide, for_set2 10 11 (by decide) ⟨_, rfl⟩ ⟨_, rfl⟩ (fun d hd => ?_) (fun x y => ⟨_, _, _, _, _, _, _, _, _, _, _, _, _, _, rfl⟩)⟩
          simp [zipD] at hd
          rcases hd with rfl | rfl
          · refine ⟨_, _, rfl, ?_⟩
            simp [asB, FL.isNon, isSeq, wNeg, wRet, wRetO, wSeq, wNext, wIte, wSet, wSetO, wDrop, wAnd, wOr, wNot, wTst, wAndV, wOrV, wNotV, wIf, w2, w3, wVar, wC, wCv, wCall, wCallO, wMakeV, wMakeK, wCallK, wClmK, wIclm, wIval, wCls, wClm, wMeth, wProp, wFld, wIsi, wCal, wCons, wNil, wTup, wLst, oI, oAdd, oEq, oNe, oIx, oLen, oMax, oMin, oAll, oInS, oIsB, oNotB, oIsN, oNotN, oRepr, oReprA, wZip, zipD, wEqK, wYes, startE, wSelf, putFD, wPar, wPar3, wAsg, bindT, setsE, wipeE, atI, ixN, toP, toPs, sh_int, sh_bool, sh_none, ev_int, ev_str, ev_bool, ev_tup, ev_lst, ev_cons, ev_nil, CPow, CMul, CDiv, ne_is_loose_with_parts, ne_is_surely_before_parts, spx_law_loose, spx_law_due, spx_trap, spx_Item_init, okG, gOwn, swp, eq_it g1.s g1.s, g1.ok, u1, u2, i3, i5]
          · refine ⟨_, _, rfl, ?_⟩
            simp [asB, FL.isNon, isSeq, wNeg, wRet, wRetO, wSeq, wNext, wIte, wSet, wSetO, wDrop, wAnd, wOr, wNot, wTst, wAndV, wOrV, wNotV, wIf, w2, w3, wVar, wC, wCv, wCall, wCallO, wMakeV, wMakeK, wCallK, wClmK, wIclm, wIval, wCls, wClm, wMeth, wProp, wFld, wIsi, wCal, wCons, wNil, wTup, wLst, oI, oAdd, oEq, oNe, oIx, oLen, oMax, oMin, oAll, oInS, oIsB, oNotB, oIsN, oNotN, oRepr, oReprA, wZip, zipD, wEqK, wYes, startE, wSelf, putFD, wPar, wPar3, wAsg, bindT, setsE, wipeE, atI, ixN, toP, toPs, sh_int, sh_bool, sh_none, ev_int, ev_str, ev_bool, ev_tup, ev_lst, ev_cons, ev_nil, CPow, CMul, CDiv, ne_is_loose_with_parts, ne_is_surely_before_parts, spx_law_loose, spx_law_due, spx_trap, spx_Item_init, okG, gOwn, swp, eq_it g2.s g2.s, g2.ok, u3, u4, j3, j5]
  · apply hR
    subst e
    clear hR
    have na : nmOk "a" := ⟨by decide, by decide +kernel⟩
    have nq : nmOk "q" := ⟨by decide, by decide +kernel⟩
    have nz : nmOk "z" := ⟨by decide, by decide +kernel⟩
    refine seq_gen fun R hR => ?_
    simp [asB, FL.isNon, isSeq, wNeg, wRet, wRetO, wSeq, wNext, wIte, wSet, wSetO, wDrop, wAnd, wOr, wNot, wTst, wAndV, wOrV, wNotV, wIf, w2, w3, wVar, wC, wCv, wCall, wCallO, wMakeV, wMakeK, wCallK, wClmK, wIclm, wIval, wCls, wClm, wMeth, wProp, wFld, wIsi, wCal, wCons, wNil, wTup, wLst, oI, oAdd, oEq, oNe, oIx, oLen, oMax, oMin, oAll, oInS, oIsB, oNotB, oIsN, oNotN, oRepr, oReprA, wZip, zipD, wEqK, wYes, startE, wSelf, putFD, wPar, wPar3, wAsg, bindT, setsE, wipeE, atI, ixN, toP, toPs, sh_int, sh_bool, sh_none, ev_int, ev_str, ev_bool, ev_tup, ev_lst, ev_cons, ev_nil, CPow, CMul, CDiv, ne_is_loose_with_parts, ne_is_surely_before_parts, spx_law_loose, spx_law_due, spx_trap, spx_Item_init, okG, gOwn, swp, na, nq, nz]
    apply hR
    clear hR R
    refine seq_gen fun R hR => ?_
    simp [asB, FL.isNon, isSeq, wNeg, wRet, wRetO, wSeq, wNext, wIte, wSet, wSetO, wDrop, wAnd, wOr, wNot, wTst, wAndV, wOrV, wNotV, wIf, w2, w3, wVar, wC, wCv, wCall, wCallO, wMakeV, wMakeK, wCallK, wClmK, wIclm, wIval, wCls, wClm, wMeth, wProp, wFld, wIsi, wCal, wCons, wNil, wTup, wLst, oI, oAdd, oEq, oNe, oIx, oLen, oMax, oMin, oAll, oInS, oIsB, oNotB, oIsN, oNotN, oRepr, oReprA, wZip, zipD, wEqK, wYes, startE, wSelf, putFD, wPar, wPar3, wAsg, bindT, setsE, wipeE, atI, ixN, toP, toPs, sh_int, sh_bool, sh_none, ev_int, ev_str, ev_bool, ev_tup, ev_lst, ev_cons, ev_nil, CPow, CMul, CDiv, ne_is_loose_with_parts, ne_is_surely_before_parts, spx_law_loose, spx_law_due, spx_trap, spx_Item_init, okG, gOwn, swp, trapD]
    apply hR
    clear hR R
    simp [asB, FL.isNon, isSeq, wNeg, wRet, wRetO, wSeq, wNext, wIte, wSet, wSetO, wDrop, wAnd, wOr, wNot, wTst, wAndV, wOrV, wNotV, wIf, w2, w3, wVar, wC, wCv, wCall, wCallO, wMakeV, wMakeK, wCallK, wClmK, wIclm, wIval, wCls, wClm, wMeth, wProp, wFld, wIsi, wCal, wCons, wNil, wTup, wLst, oI, oAdd, oEq, oNe, oIx, oLen, oMax, oMin, oAll, oInS, oIsB, oNotB, oIsN, oNotN, oRepr, oReprA, wZip, zipD, wEqK, wYes, startE, wSelf, putFD, wPar, wPar3, wAsg, bindT, setsE, wipeE, atI, ixN, toP, toPs, sh_int, sh_bool, sh_none, ev_int, ev_str, ev_bool, ev_tup, ev_lst, ev_cons, ev_nil, CPow, CMul, CDiv, ne_is_loose_with_parts, ne_is_surely_before_parts]
    decide +kernel
end
end FL
set_option Elab.async false
set_option linter.all false
set_option maxRecDepth 100000
set_option maxHeartbeats 8000000
namespace FL
open PySem PySem.Spec PyProof.Rows L2

theorem all_mk {l : PySem.W.OpenLaw} {w : World} {K : PySem.W.Frag} {h : Heap} {mg : Str → Option Value} {fa : Addr} (X : K.In h) (G : h.Ns mainGlobals mg) (hfa : mg "law" = some (.ref fa))
    {A_law_next : Addr} {od_law_next an_law_next : Option Addr} {sl_law_next : Array (Option Value)} {oc_law_next kV_law_next dc_law_next pm_law_next cd_law_next ct_law_next : Value}
    {A_law_draw : Addr} {od_law_draw an_law_draw : Option Addr} {sl_law_draw : Array (Option Value)} {oc_law_draw kV_law_draw dc_law_draw pm_law_draw cd_law_draw ct_law_draw : Value}
    {A_Item_is_name : Addr} {od_Item_is_name an_Item_is_name : Option Addr} {sl_Item_is_name : Array (Option Value)} {oc_Item_is_name kV_Item_is_name dc_Item_is_name pm_Item_is_name cd_Item_is_name ct_Item_is_name : Value}
    {R_Item_is_name : Addr} {rest_Item_is_name : List Value}
    {A_is_integer : Addr} {od_is_integer an_is_integer : Option Addr} {sl_is_integer : Array (Option Value)} {oc_is_integer kV_is_integer dc_is_integer pm_is_integer cd_is_integer ct_is_integer : Value}
    {A_Item_init : Addr} {od_Item_init an_Item_init : Option Addr} {sl_Item_init : Array (Option Value)} {oc_Item_init dc_Item_init pm_Item_init cd_Item_init ct_Item_init : Value}
    {KW_Item_init : Addr}
    {tk_Item_init_0 : Tok}
    {A_law_before : Addr} {od_law_before an_law_before : Option Addr} {sl_law_before : Array (Option Value)} {oc_law_before kV_law_before dc_law_before pm_law_before cd_law_before ct_law_before : Value}
    {A_law_loose : Addr} {od_law_loose an_law_loose : Option Addr} {sl_law_loose : Array (Option Value)} {oc_law_loose kV_law_loose dc_law_loose pm_law_loose cd_law_loose ct_law_loose : Value}
    {A_law_due : Addr} {od_law_due an_law_due : Option Addr} {sl_law_due : Array (Option Value)} {oc_law_due kV_law_due dc_law_due pm_law_due cd_law_due ct_law_due : Value}
    {A_Item_is_exact : Addr} {od_Item_is_exact an_Item_is_exact : Option Addr} {sl_Item_is_exact : Array (Option Value)} {oc_Item_is_exact kV_Item_is_exact dc_Item_is_exact pm_Item_is_exact cd_Item_is_exact ct_Item_is_exact : Value}
    {R_Item_is_exact : Addr} {rest_Item_is_exact : List Value}
    {A_Item_greatest : Addr} {od_Item_greatest an_Item_greatest : Option Addr} {sl_Item_greatest : Array (Option Value)} {oc_Item_greatest kV_Item_greatest dc_Item_greatest pm_Item_greatest cd_Item_greatest ct_Item_greatest : Value}
    {R_Item_greatest : Addr} {rest_Item_greatest : List Value}
    {A_Item_least : Addr} {od_Item_least an_Item_least : Option Addr} {sl_Item_least : Array (Option Value)} {oc_Item_least kV_Item_least dc_Item_least pm_Item_least cd_Item_least ct_Item_least : Value}
    {R_Item_least : Addr} {rest_Item_least : List Value}
    {A_Item_is_surely_before : Addr} {od_Item_is_surely_before an_Item_is_surely_before : Option Addr} {sl_Item_is_surely_before : Array (Option Value)} {oc_Item_is_surely_before kV_Item_is_surely_before dc_Item_is_surely_before pm_Item_is_surely_before cd_Item_is_surely_before ct_Item_is_surely_before : Value}
    {A_Item_is_loose_with : Addr} {od_Item_is_loose_with an_Item_is_loose_with : Option Addr} {sl_Item_is_loose_with : Array (Option Value)} {oc_Item_is_loose_with kV_Item_is_loose_with dc_Item_is_loose_with pm_Item_is_loose_with cd_Item_is_loose_with ct_Item_is_loose_with : Value}
    {A_trap : Addr} {od_trap an_trap : Option Addr} {sl_trap : Array (Option Value)} {oc_trap kV_trap dc_trap pm_trap cd_trap ct_trap : Value}
    {A_Item_eq : Addr} {od_Item_eq an_Item_eq : Option Addr} {sl_Item_eq : Array (Option Value)} {oc_Item_eq kV_Item_eq dc_Item_eq pm_Item_eq cd_Item_eq ct_Item_eq : Value}
    {A_law_pen : Addr} {od_law_pen an_law_pen : Option Addr} {sl_law_pen : Array (Option Value)} {oc_law_pen kV_law_pen dc_law_pen pm_law_pen cd_law_pen ct_law_pen : Value}
    {A_law : Addr} {od_law an_law : Option Addr} {sl_law : Array (Option Value)} {oc_law kV_law dc_law pm_law cd_law ct_law : Value}
    {C_Item : Addr}
    {tv_Item_MOST : Tok}
    {tg_LETTERS : Tok}
    {tg_MAX_NAME : Tok}
    (aC_Item : PySem.W.nsIn K mainGlobals "Item" = some (some (.ref C_Item)))
    (a_law_next : PySem.W.nsIn K mainGlobals "_law_next" = some (some (.ref A_law_next)))
    (l_law_next : K.lookup A_law_next = some ⟨oc_law_next, od_law_next, .func (PySem.W.fnOf "_law_next" "_law_next" (defArgs s_law_next) (defBody s_law_next) (defScope s_law_next) .none kV_law_next dc_law_next pm_law_next an_law_next cd_law_next ct_law_next), sl_law_next⟩)
    (c_law_next : PySem.W.codeIn K cd_law_next "_law_next" = true)
    (k_law_next : PySem.W.keepIn K (.ref A_law_next) = true)
    (a_law_draw : PySem.W.nsIn K mainGlobals "_law_draw" = some (some (.ref A_law_draw)))
    (l_law_draw : K.lookup A_law_draw = some ⟨oc_law_draw, od_law_draw, .func (PySem.W.fnOf "_law_draw" "_law_draw" (defArgs s_law_draw) (defBody s_law_draw) (defScope s_law_draw) .none kV_law_draw dc_law_draw pm_law_draw an_law_draw cd_law_draw ct_law_draw), sl_law_draw⟩)
    (c_law_draw : PySem.W.codeIn K cd_law_draw "_law_draw" = true)
    (k_law_draw : PySem.W.keepIn K (.ref A_law_draw) = true)
    (a_Item_is_name : PySem.W.findCls K (.ref C_Item) (.type "type") "is_name" = some (.get (.builtin "staticmethod.__get__") (.ref R_Item_is_name) .none (.ref C_Item)))
    (r_Item_is_name : PySem.W.recIn K R_Item_is_name "staticmethod" = some (.ref A_Item_is_name :: rest_Item_is_name))
    (l_Item_is_name : K.lookup A_Item_is_name = some ⟨oc_Item_is_name, od_Item_is_name, .func (PySem.W.fnOf "is_name" "Item.is_name" (defArgs s_Item_is_name) (defBody s_Item_is_name) (defScope s_Item_is_name) .none kV_Item_is_name dc_Item_is_name pm_Item_is_name an_Item_is_name cd_Item_is_name ct_Item_is_name), sl_Item_is_name⟩)
    (c_Item_is_name : PySem.W.codeIn K cd_Item_is_name "Item.is_name" = true)
    (k_Item_is_name : PySem.W.keepIn K (.ref A_Item_is_name) = true)
    (a_is_integer : PySem.W.nsIn K mainGlobals "is_integer" = some (some (.ref A_is_integer)))
    (l_is_integer : K.lookup A_is_integer = some ⟨oc_is_integer, od_is_integer, .func (PySem.W.fnOf "is_integer" "is_integer" (defArgs s_is_integer) (defBody s_is_integer) (defScope s_is_integer) .none kV_is_integer dc_is_integer pm_is_integer an_is_integer cd_is_integer ct_is_integer), sl_is_integer⟩)
    (c_is_integer : PySem.W.codeIn K cd_is_integer "is_integer" = true)
    (k_is_integer : PySem.W.keepIn K (.ref A_is_integer) = true)
    (a_Item_init : PySem.W.findIn K (.ref C_Item) "__init__" = some (some (.ref A_Item_init)))
    (i_Item_init : PySem.W.isFn K (.ref A_Item_init) = true)
    (l_Item_init : K.lookup A_Item_init = some ⟨oc_Item_init, od_Item_init, .func (PySem.W.fnOf "__init__" "Item.__init__" (defArgs s_Item_init) (defBody s_Item_init) (defScope s_Item_init) .none (.ref KW_Item_init) dc_Item_init pm_Item_init an_Item_init cd_Item_init ct_Item_init), sl_Item_init⟩)
    (c_Item_init : PySem.W.codeIn K cd_Item_init "Item.__init__" = true)
    (k_Item_init : PySem.W.keepIn K (.ref A_Item_init) = true)
    (kw_Item_init_0 : PySem.W.nsIn K KW_Item_init "price" = some (some (.int 1 tk_Item_init_0)))
    (a_law_before : PySem.W.nsIn K mainGlobals "_law_before" = some (some (.ref A_law_before)))
    (l_law_before : K.lookup A_law_before = some ⟨oc_law_before, od_law_before, .func (PySem.W.fnOf "_law_before" "_law_before" (defArgs s_law_before) (defBody s_law_before) (defScope s_law_before) .none kV_law_before dc_law_before pm_law_before an_law_before cd_law_before ct_law_before), sl_law_before⟩)
    (c_law_before : PySem.W.codeIn K cd_law_before "_law_before" = true)
    (k_law_before : PySem.W.keepIn K (.ref A_law_before) = true)
    (a_law_loose : PySem.W.nsIn K mainGlobals "_law_loose" = some (some (.ref A_law_loose)))
    (l_law_loose : K.lookup A_law_loose = some ⟨oc_law_loose, od_law_loose, .func (PySem.W.fnOf "_law_loose" "_law_loose" (defArgs s_law_loose) (defBody s_law_loose) (defScope s_law_loose) .none kV_law_loose dc_law_loose pm_law_loose an_law_loose cd_law_loose ct_law_loose), sl_law_loose⟩)
    (c_law_loose : PySem.W.codeIn K cd_law_loose "_law_loose" = true)
    (k_law_loose : PySem.W.keepIn K (.ref A_law_loose) = true)
    (a_law_due : PySem.W.nsIn K mainGlobals "_law_due" = some (some (.ref A_law_due)))
    (l_law_due : K.lookup A_law_due = some ⟨oc_law_due, od_law_due, .func (PySem.W.fnOf "_law_due" "_law_due" (defArgs s_law_due) (defBody s_law_due) (defScope s_law_due) .none kV_law_due dc_law_due pm_law_due an_law_due cd_law_due ct_law_due), sl_law_due⟩)
    (c_law_due : PySem.W.codeIn K cd_law_due "_law_due" = true)
    (k_law_due : PySem.W.keepIn K (.ref A_law_due) = true)
    (a_Item_is_exact : PySem.W.findIn K (.ref C_Item) "is_exact" = some (some (.ref R_Item_is_exact)))
    (r_Item_is_exact : PySem.W.recIn K R_Item_is_exact "property" = some (.ref A_Item_is_exact :: rest_Item_is_exact))
    (pg_Item_is_exact : PySem.W.specialIn K (.ref R_Item_is_exact) "__get__" = some (some (.builtin "property.__get__")))
    (pt_Item_is_exact : PySem.W.takesIn K (.ref R_Item_is_exact) = some true)
    (l_Item_is_exact : K.lookup A_Item_is_exact = some ⟨oc_Item_is_exact, od_Item_is_exact, .func (PySem.W.fnOf "is_exact" "Item.is_exact" (defArgs s_Item_is_exact) (defBody s_Item_is_exact) (defScope s_Item_is_exact) .none kV_Item_is_exact dc_Item_is_exact pm_Item_is_exact an_Item_is_exact cd_Item_is_exact ct_Item_is_exact), sl_Item_is_exact⟩)
    (c_Item_is_exact : PySem.W.codeIn K cd_Item_is_exact "Item.is_exact" = true)
    (k_Item_is_exact : PySem.W.keepIn K (.ref A_Item_is_exact) = true)
    (a_Item_greatest : PySem.W.findIn K (.ref C_Item) "greatest" = some (some (.ref R_Item_greatest)))
    (r_Item_greatest : PySem.W.recIn K R_Item_greatest "property" = some (.ref A_Item_greatest :: rest_Item_greatest))
    (pg_Item_greatest : PySem.W.specialIn K (.ref R_Item_greatest) "__get__" = some (some (.builtin "property.__get__")))
    (pt_Item_greatest : PySem.W.takesIn K (.ref R_Item_greatest) = some true)
    (l_Item_greatest : K.lookup A_Item_greatest = some ⟨oc_Item_greatest, od_Item_greatest, .func (PySem.W.fnOf "greatest" "Item.greatest" (defArgs s_Item_greatest) (defBody s_Item_greatest) (defScope s_Item_greatest) .none kV_Item_greatest dc_Item_greatest pm_Item_greatest an_Item_greatest cd_Item_greatest ct_Item_greatest), sl_Item_greatest⟩)
    (c_Item_greatest : PySem.W.codeIn K cd_Item_greatest "Item.greatest" = true)
    (k_Item_greatest : PySem.W.keepIn K (.ref A_Item_greatest) = true)
    (a_Item_least : PySem.W.findIn K (.ref C_Item) "least" = some (some (.ref R_Item_least)))
    (r_Item_least : PySem.W.recIn K R_Item_least "property" = some (.ref A_Item_least :: rest_Item_least))
    (pg_Item_least : PySem.W.specialIn K (.ref R_Item_least) "__get__" = some (some (.builtin "property.__get__")))
    (pt_Item_least : PySem.W.takesIn K (.ref R_Item_least) = some true)
    (l_Item_least : K.lookup A_Item_least = some ⟨oc_Item_least, od_Item_least, .func (PySem.W.fnOf "least" "Item.least" (defArgs s_Item_least) (defBody s_Item_least) (defScope s_Item_least) .none kV_Item_least dc_Item_least pm_Item_least an_Item_least cd_Item_least ct_Item_least), sl_Item_least⟩)
    (c_Item_least : PySem.W.codeIn K cd_Item_least "Item.least" = true)
    (k_Item_least : PySem.W.keepIn K (.ref A_Item_least) = true)
    (a_Item_is_surely_before : PySem.W.findIn K (.ref C_Item) "is_surely_before" = some (some (.ref A_Item_is_surely_before)))
    (i_Item_is_surely_before : PySem.W.isFn K (.ref A_Item_is_surely_before) = true)
    (l_Item_is_surely_before : K.lookup A_Item_is_surely_before = some ⟨oc_Item_is_surely_before, od_Item_is_surely_before, .func (PySem.W.fnOf "is_surely_before" "Item.is_surely_before" (defArgs s_Item_is_surely_before) (defBody s_Item_is_surely_before) (defScope s_Item_is_surely_before) .none kV_Item_is_surely_before dc_Item_is_surely_before pm_Item_is_surely_before an_Item_is_surely_before cd_Item_is_surely_before ct_Item_is_surely_before), sl_Item_is_surely_before⟩)
    (c_Item_is_surely_before : PySem.W.codeIn K cd_Item_is_surely_before "Item.is_surely_before" = true)
    (k_Item_is_surely_before : PySem.W.keepIn K (.ref A_Item_is_surely_before) = true)
    (a_Item_is_loose_with : PySem.W.findIn K (.ref C_Item) "is_loose_with" = some (some (.ref A_Item_is_loose_with)))
    (i_Item_is_loose_with : PySem.W.isFn K (.ref A_Item_is_loose_with) = true)
    (l_Item_is_loose_with : K.lookup A_Item_is_loose_with = some ⟨oc_Item_is_loose_with, od_Item_is_loose_with, .func (PySem.W.fnOf "is_loose_with" "Item.is_loose_with" (defArgs s_Item_is_loose_with) (defBody s_Item_is_loose_with) (defScope s_Item_is_loose_with) .none kV_Item_is_loose_with dc_Item_is_loose_with pm_Item_is_loose_with an_Item_is_loose_with cd_Item_is_loose_with ct_Item_is_loose_with), sl_Item_is_loose_with⟩)
    (c_Item_is_loose_with : PySem.W.codeIn K cd_Item_is_loose_with "Item.is_loose_with" = true)
    (k_Item_is_loose_with : PySem.W.keepIn K (.ref A_Item_is_loose_with) = true)
    (a_trap : PySem.W.nsIn K mainGlobals "trap" = some (some (.ref A_trap)))
    (l_trap : K.lookup A_trap = some ⟨oc_trap, od_trap, .func (PySem.W.fnOf "trap" "trap" (defArgs s_trap) (defBody s_trap) (defScope s_trap) .none kV_trap dc_trap pm_trap an_trap cd_trap ct_trap), sl_trap⟩)
    (c_trap : PySem.W.codeIn K cd_trap "trap" = true)
    (k_trap : PySem.W.keepIn K (.ref A_trap) = true)
    (a_Item_eq : PySem.W.findIn K (.ref C_Item) "__eq__" = some (some (.ref A_Item_eq)))
    (i_Item_eq : PySem.W.isFn K (.ref A_Item_eq) = true)
    (l_Item_eq : K.lookup A_Item_eq = some ⟨oc_Item_eq, od_Item_eq, .func (PySem.W.fnOf "__eq__" "Item.__eq__" (defArgs s_Item_eq) (defBody s_Item_eq) (defScope s_Item_eq) .none kV_Item_eq dc_Item_eq pm_Item_eq an_Item_eq cd_Item_eq ct_Item_eq), sl_Item_eq⟩)
    (c_Item_eq : PySem.W.codeIn K cd_Item_eq "Item.__eq__" = true)
    (k_Item_eq : PySem.W.keepIn K (.ref A_Item_eq) = true)
    (a_law_pen : PySem.W.nsIn K mainGlobals "_law_pen" = some (some (.ref A_law_pen)))
    (l_law_pen : K.lookup A_law_pen = some ⟨oc_law_pen, od_law_pen, .func (PySem.W.fnOf "_law_pen" "_law_pen" (defArgs s_law_pen) (defBody s_law_pen) (defScope s_law_pen) .none kV_law_pen dc_law_pen pm_law_pen an_law_pen cd_law_pen ct_law_pen), sl_law_pen⟩)
    (c_law_pen : PySem.W.codeIn K cd_law_pen "_law_pen" = true)
    (k_law_pen : PySem.W.keepIn K (.ref A_law_pen) = true)
    (a_law : PySem.W.nsIn K mainGlobals "law" = some (some (.ref A_law)))
    (l_law : K.lookup A_law = some ⟨oc_law, od_law, .func (PySem.W.fnOf "law" "law" (defArgs s_law) (defBody s_law) (defScope s_law) .none kV_law dc_law pm_law an_law cd_law ct_law), sl_law⟩)
    (c_law : PySem.W.codeIn K cd_law "law" = true)
    (k_law : PySem.W.keepIn K (.ref A_law) = true)
    (pg_Item : PySem.W.plainGet K C_Item Str.empty = true)
    (hd_Item : PySem.W.hasDictIn K C_Item = true)
    (po_Item : PySem.W.plainOver K C_Item = true)
    (sa_Item : PySem.W.findIn K (.ref C_Item) "__setattr__" = some (some (.builtin "object.__setattr__")))
    (ty1_Item : PySem.W.findIn K (.ref C_Item) "__class__" = some (some (.builtin "object.__class__")))
    (ty4_Item : PySem.W.mroIn K C_Item (.type "object") = some true)
    (mk_Item : PySem.W.makesIn K C_Item = true)
    (kc_Item : PySem.W.keepIn K (.ref C_Item) = true)
    (rd_Item : PySem.W.readsIn K C_Item (.type "type") = true)
    (ga_Item : PySem.W.specialIn K (.ref C_Item) "__getattribute__" = some (some (.builtin "type.__getattribute__")))
    (cv_Item_MOST : PySem.W.findCls K (.ref C_Item) (.type "type") "MOST" = some (.val (.int 999 tv_Item_MOST)))
    (na_Item_parts : PySem.W.findIn K (.ref C_Item) "parts" = some none)
    (ty2 : PySem.W.specialIn K (.builtin "object.__class__") "__get__" = some (some (.builtin "getset_descriptor.__get__")))
    (ty3 : PySem.W.takesIn K (.builtin "object.__class__") = some true)
    (kt_Item_bool : PySem.W.mroIn K C_Item (.type "bool") = some false)
    (kt_Item_int : PySem.W.mroIn K C_Item (.type "int") = some false)
    (kt_Item_str : PySem.W.mroIn K C_Item (.type "str") = some false)
    (tyi_Item : PySem.W.typeIn K (.ref C_Item) = some (.type "type"))
    (ne_Item : PySem.W.findIn K (.ref C_Item) "__ne__" = some (some (.builtin "object.__ne__")))
    (gv_LETTERS : PySem.W.nsIn K mainGlobals "LETTERS" = some (some (.str "abcdefghijklmnopqrstuvwxyz" tg_LETTERS)))
    (gv_MAX_NAME : PySem.W.nsIn K mainGlobals "MAX_NAME" = some (some (.int 8 tg_MAX_NAME)))
    (z_all : PySem.W.nsIn K mainGlobals "all" = some none)
    (z_bool : PySem.W.nsIn K mainGlobals "bool" = some none)
    (z_int : PySem.W.nsIn K mainGlobals "int" = some none)
    (z_isinstance : PySem.W.nsIn K mainGlobals "isinstance" = some none)
    (z_len : PySem.W.nsIn K mainGlobals "len" = some none)
    (z_list : PySem.W.nsIn K mainGlobals "list" = some none)
    (z_max : PySem.W.nsIn K mainGlobals "max" = some none)
    (z_range : PySem.W.nsIn K mainGlobals "range" = some none)
    (z_repr : PySem.W.nsIn K mainGlobals "repr" = some none)
    (z_str : PySem.W.nsIn K mainGlobals "str" = some none)
    (z_zip : PySem.W.nsIn K mainGlobals "zip" = some none)
    : ∃ fd : FuncData, (∀ (s : Shared) (v : Value), BindsTo s fd ⟨[v], []⟩ [("script", v)]) ∧ ∀ base : Heap, K.In base → base.Ns mainGlobals mg → FnG l.prog w K mg base (L2.CX l.prog w) 6 fa fd ["script"] (spLawG K) := by
  have e := hfa.symm.trans (PySem.W.mg_of X G a_law)
  cases e
  have T : Txt K mg ⟨C_Item, A_law_next, (PySem.W.fnOf "_law_next" "_law_next" (defArgs s_law_next) (defBody s_law_next) (defScope s_law_next) .none kV_law_next dc_law_next pm_law_next an_law_next cd_law_next ct_law_next), A_law_draw, (PySem.W.fnOf "_law_draw" "_law_draw" (defArgs s_law_draw) (defBody s_law_draw) (defScope s_law_draw) .none kV_law_draw dc_law_draw pm_law_draw an_law_draw cd_law_draw ct_law_draw), A_Item_is_name, (PySem.W.fnOf "is_name" "Item.is_name" (defArgs s_Item_is_name) (defBody s_Item_is_name) (defScope s_Item_is_name) .none kV_Item_is_name dc_Item_is_name pm_Item_is_name an_Item_is_name cd_Item_is_name ct_Item_is_name), A_is_integer, (PySem.W.fnOf "is_integer" "is_integer" (defArgs s_is_integer) (defBody s_is_integer) (defScope s_is_integer) .none kV_is_integer dc_is_integer pm_is_integer an_is_integer cd_is_integer ct_is_integer), A_Item_init, (PySem.W.fnOf "__init__" "Item.__init__" (defArgs s_Item_init) (defBody s_Item_init) (defScope s_Item_init) .none (.ref KW_Item_init) dc_Item_init pm_Item_init an_Item_init cd_Item_init ct_Item_init), A_law_before, (PySem.W.fnOf "_law_before" "_law_before" (defArgs s_law_before) (defBody s_law_before) (defScope s_law_before) .none kV_law_before dc_law_before pm_law_before an_law_before cd_law_before ct_law_before), A_law_loose, (PySem.W.fnOf "_law_loose" "_law_loose" (defArgs s_law_loose) (defBody s_law_loose) (defScope s_law_loose) .none kV_law_loose dc_law_loose pm_law_loose an_law_loose cd_law_loose ct_law_loose), A_law_due, (PySem.W.fnOf "_law_due" "_law_due" (defArgs s_law_due) (defBody s_law_due) (defScope s_law_due) .none kV_law_due dc_law_due pm_law_due an_law_due cd_law_due ct_law_due), A_Item_is_exact, (PySem.W.fnOf "is_exact" "Item.is_exact" (defArgs s_Item_is_exact) (defBody s_Item_is_exact) (defScope s_Item_is_exact) .none kV_Item_is_exact dc_Item_is_exact pm_Item_is_exact an_Item_is_exact cd_Item_is_exact ct_Item_is_exact), A_Item_greatest, (PySem.W.fnOf "greatest" "Item.greatest" (defArgs s_Item_greatest) (defBody s_Item_greatest) (defScope s_Item_greatest) .none kV_Item_greatest dc_Item_greatest pm_Item_greatest an_Item_greatest cd_Item_greatest ct_Item_greatest), A_Item_least, (PySem.W.fnOf "least" "Item.least" (defArgs s_Item_least) (defBody s_Item_least) (defScope s_Item_least) .none kV_Item_least dc_Item_least pm_Item_least an_Item_least cd_Item_least ct_Item_least), A_Item_is_surely_before, (PySem.W.fnOf "is_surely_before" "Item.is_surely_before" (defArgs s_Item_is_surely_before) (defBody s_Item_is_surely_before) (defScope s_Item_is_surely_before) .none kV_Item_is_surely_before dc_Item_is_surely_before pm_Item_is_surely_before an_Item_is_surely_before cd_Item_is_surely_before ct_Item_is_surely_before), A_Item_is_loose_with, (PySem.W.fnOf "is_loose_with" "Item.is_loose_with" (defArgs s_Item_is_loose_with) (defBody s_Item_is_loose_with) (defScope s_Item_is_loose_with) .none kV_Item_is_loose_with dc_Item_is_loose_with pm_Item_is_loose_with an_Item_is_loose_with cd_Item_is_loose_with ct_Item_is_loose_with), A_trap, (PySem.W.fnOf "trap" "trap" (defArgs s_trap) (defBody s_trap) (defScope s_trap) .none kV_trap dc_trap pm_trap an_trap cd_trap ct_trap), A_Item_eq, (PySem.W.fnOf "__eq__" "Item.__eq__" (defArgs s_Item_eq) (defBody s_Item_eq) (defScope s_Item_eq) .none kV_Item_eq dc_Item_eq pm_Item_eq an_Item_eq cd_Item_eq ct_Item_eq), A_law_pen, (PySem.W.fnOf "_law_pen" "_law_pen" (defArgs s_law_pen) (defBody s_law_pen) (defScope s_law_pen) .none kV_law_pen dc_law_pen pm_law_pen an_law_pen cd_law_pen ct_law_pen), fa, (PySem.W.fnOf "law" "law" (defArgs s_law) (defBody s_law) (defScope s_law) .none kV_law dc_law pm_law an_law cd_law ct_law), R_Item_greatest, R_Item_is_exact, R_Item_least, R_Item_is_name⟩ := {
    f_law_next := fun_mk (st := s_law_next) l_law_next c_law_next k_law_next
    b_law_next := (fun_mk (st := s_law_next) l_law_next c_law_next k_law_next).binds (ps := ["pen"]) fun _ _ _ _ _ _ us hl => match us, hl with | [_], _ => rfl
    g_law_next := PySem.W.mg_of X G a_law_next
    f_law_draw := fun_mk (st := s_law_draw) l_law_draw c_law_draw k_law_draw
    b_law_draw := (fun_mk (st := s_law_draw) l_law_draw c_law_draw k_law_draw).binds (ps := ["pen", "below"]) fun _ _ _ _ _ _ us hl => match us, hl with | [_, _], _ => rfl
    g_law_draw := PySem.W.mg_of X G a_law_draw
    f_Item_is_name := fun_mk (st := s_Item_is_name) l_Item_is_name c_Item_is_name k_Item_is_name
    b_Item_is_name := (fun_mk (st := s_Item_is_name) l_Item_is_name c_Item_is_name k_Item_is_name).binds (ps := ["thing"]) fun _ _ _ _ _ _ us hl => match us, hl with | [_], _ => rfl
    sm_Item_is_name := ⟨a_Item_is_name, ⟨_, r_Item_is_name⟩, k_Item_is_name⟩
    f_is_integer := fun_mk (st := s_is_integer) l_is_integer c_is_integer k_is_integer
    b_is_integer := (fun_mk (st := s_is_integer) l_is_integer c_is_integer k_is_integer).binds (ps := ["thing"]) fun _ _ _ _ _ _ us hl => match us, hl with | [_], _ => rfl
    g_is_integer := PySem.W.mg_of X G a_is_integer
    f_Item_init := ⟨⟨_, _, _, _, _, _, _, _, _, _, rfl, l_Item_init, c_Item_init, .inl ⟨rfl, rfl⟩, .inr ⟨KW_Item_init, rfl, (kwS kw_Item_init_0 ⟨_, rfl⟩ kw0)⟩⟩, k_Item_init⟩
    f_law_before := fun_mk (st := s_law_before) l_law_before c_law_before k_law_before
    b_law_before := (fun_mk (st := s_law_before) l_law_before c_law_before k_law_before).binds (ps := ["one", "two"]) fun _ _ _ _ _ _ us hl => match us, hl with | [_, _], _ => rfl
    g_law_before := PySem.W.mg_of X G a_law_before
    f_law_loose := fun_mk (st := s_law_loose) l_law_loose c_law_loose k_law_loose
    b_law_loose := (fun_mk (st := s_law_loose) l_law_loose c_law_loose k_law_loose).binds (ps := ["one", "two"]) fun _ _ _ _ _ _ us hl => match us, hl with | [_, _], _ => rfl
    g_law_loose := PySem.W.mg_of X G a_law_loose
    f_law_due := fun_mk (st := s_law_due) l_law_due c_law_due k_law_due
    b_law_due := (fun_mk (st := s_law_due) l_law_due c_law_due k_law_due).binds (ps := ["one", "two"]) fun _ _ _ _ _ _ us hl => match us, hl with | [_, _], _ => rfl
    g_law_due := PySem.W.mg_of X G a_law_due
    f_Item_is_exact := fun_mk (st := s_Item_is_exact) l_Item_is_exact c_Item_is_exact k_Item_is_exact
    b_Item_is_exact := (fun_mk (st := s_Item_is_exact) l_Item_is_exact c_Item_is_exact k_Item_is_exact).binds (ps := ["self"]) fun _ _ _ _ _ _ us hl => match us, hl with | [_], _ => rfl
    p_Item_is_exact := ⟨a_Item_is_exact, pg_Item_is_exact, pt_Item_is_exact, _, r_Item_is_exact⟩
    f_Item_greatest := fun_mk (st := s_Item_greatest) l_Item_greatest c_Item_greatest k_Item_greatest
    b_Item_greatest := (fun_mk (st := s_Item_greatest) l_Item_greatest c_Item_greatest k_Item_greatest).binds (ps := ["self"]) fun _ _ _ _ _ _ us hl => match us, hl with | [_], _ => rfl
    p_Item_greatest := ⟨a_Item_greatest, pg_Item_greatest, pt_Item_greatest, _, r_Item_greatest⟩
    f_Item_least := fun_mk (st := s_Item_least) l_Item_least c_Item_least k_Item_least
    b_Item_least := (fun_mk (st := s_Item_least) l_Item_least c_Item_least k_Item_least).binds (ps := ["self"]) fun _ _ _ _ _ _ us hl => match us, hl with | [_], _ => rfl
    p_Item_least := ⟨a_Item_least, pg_Item_least, pt_Item_least, _, r_Item_least⟩
    f_Item_is_surely_before := fun_mk (st := s_Item_is_surely_before) l_Item_is_surely_before c_Item_is_surely_before k_Item_is_surely_before
    b_Item_is_surely_before := (fun_mk (st := s_Item_is_surely_before) l_Item_is_surely_before c_Item_is_surely_before k_Item_is_surely_before).binds (ps := ["self", "other"]) fun _ _ _ _ _ _ us hl => match us, hl with | [_, _], _ => rfl
    m_Item_is_surely_before := ⟨a_Item_is_surely_before, i_Item_is_surely_before, k_Item_is_surely_before⟩
    f_Item_is_loose_with := fun_mk (st := s_Item_is_loose_with) l_Item_is_loose_with c_Item_is_loose_with k_Item_is_loose_with
    b_Item_is_loose_with := (fun_mk (st := s_Item_is_loose_with) l_Item_is_loose_with c_Item_is_loose_with k_Item_is_loose_with).binds (ps := ["self", "other"]) fun _ _ _ _ _ _ us hl => match us, hl with | [_, _], _ => rfl
    m_Item_is_loose_with := ⟨a_Item_is_loose_with, i_Item_is_loose_with, k_Item_is_loose_with⟩
    f_trap := fun_mk (st := s_trap) l_trap c_trap k_trap
    b_trap := (fun_mk (st := s_trap) l_trap c_trap k_trap).binds (ps := ["first", "second"]) fun _ _ _ _ _ _ us hl => match us, hl with | [_, _], _ => rfl
    g_trap := PySem.W.mg_of X G a_trap
    f_Item_eq := fun_mk (st := s_Item_eq) l_Item_eq c_Item_eq k_Item_eq
    b_Item_eq := (fun_mk (st := s_Item_eq) l_Item_eq c_Item_eq k_Item_eq).binds (ps := ["self", "other"]) fun _ _ _ _ _ _ us hl => match us, hl with | [_, _], _ => rfl
    f_law_pen := fun_mk (st := s_law_pen) l_law_pen c_law_pen k_law_pen
    b_law_pen := (fun_mk (st := s_law_pen) l_law_pen c_law_pen k_law_pen).binds (ps := ["script"]) fun _ _ _ _ _ _ us hl => match us, hl with | [_], _ => rfl
    g_law_pen := PySem.W.mg_of X G a_law_pen
    f_law := fun_mk (st := s_law) l_law c_law k_law
    b_law := (fun_mk (st := s_law) l_law c_law k_law).binds (ps := ["script"]) fun _ _ _ _ _ _ us hl => match us, hl with | [_], _ => rfl
    g_law := PySem.W.mg_of X G a_law
    g_Item := PySem.W.mg_of X G aC_Item
    cl_Item := ⟨pg_Item, hd_Item, po_Item, sa_Item⟩
    it_Item := ⟨⟨pg_Item, hd_Item, po_Item, sa_Item⟩, ty1_Item, ty2, ty3, ty4_Item⟩
    mk_Item := ⟨mk_Item, a_Item_init, i_Item_init, kc_Item⟩
    cr_Item := ⟨rd_Item, ga_Item⟩
    cv_Item_MOST := ⟨_, cv_Item_MOST, ⟨_, rfl⟩⟩
    na_Item_parts := na_Item_parts
    is_bool := isK_ty (by decide +kernel) ((ownS (x := c_Item) (⟨⟨⟨pg_Item, hd_Item, po_Item, sa_Item⟩, ty1_Item, ty2, ty3, ty4_Item⟩, kit_mro (by decide +kernel) kt_Item_bool⟩) own0))
    is_int := isK_ty (by decide +kernel) ((ownS (x := c_Item) (⟨⟨⟨pg_Item, hd_Item, po_Item, sa_Item⟩, ty1_Item, ty2, ty3, ty4_Item⟩, kit_mro (by decide +kernel) kt_Item_int⟩) own0))
    is_str := isK_ty (by decide +kernel) ((ownS (x := c_Item) (⟨⟨⟨pg_Item, hd_Item, po_Item, sa_Item⟩, ty1_Item, ty2, ty3, ty4_Item⟩, kit_mro (by decide +kernel) kt_Item_str⟩) own0))
    is_Item := isK_own (c := c_Item) (off_of hd_Item tyi_Item) ((ownS (x := c_Item) (⟨⟨⟨pg_Item, hd_Item, po_Item, sa_Item⟩, ty1_Item, ty2, ty3, ty4_Item⟩, kit_self⟩) own0))
    eq_Item := eqK_mk (c := c_Item) a_Item_eq i_Item_eq ne_Item ty4_Item ((ownS (x := c_Item) (⟨⟨⟨pg_Item, hd_Item, po_Item, sa_Item⟩, ty1_Item, ty2, ty3, ty4_Item⟩, nf_self⟩) own0))
    g_LETTERS := ⟨_, PySem.W.mg_of X G gv_LETTERS⟩
    g_MAX_NAME := ⟨_, PySem.W.mg_of X G gv_MAX_NAME⟩
    n_all := PySem.W.mg_none_of X G z_all
    n_bool := PySem.W.mg_none_of X G z_bool
    n_int := PySem.W.mg_none_of X G z_int
    n_isinstance := PySem.W.mg_none_of X G z_isinstance
    n_len := PySem.W.mg_none_of X G z_len
    n_list := PySem.W.mg_none_of X G z_list
    n_max := PySem.W.mg_none_of X G z_max
    n_range := PySem.W.mg_none_of X G z_range
    n_repr := PySem.W.mg_none_of X G z_repr
    n_str := PySem.W.mg_none_of X G z_str
    n_zip := PySem.W.mg_none_of X G z_zip
    mk_price_Item := item_kw (⟨⟨_, _, _, _, _, _, _, _, _, _, rfl, l_Item_init, c_Item_init, .inl ⟨rfl, rfl⟩, .inr ⟨KW_Item_init, rfl, kwS kw_Item_init_0 ⟨_, rfl⟩ kw0⟩⟩, k_Item_init⟩ : FunD K "__init__" "Item.__init__" (defArgs s_Item_init) (defBody s_Item_init) (defScope s_Item_init) [] [("price", .int 1)] _ _)
    mb_Item := item_mb (⟨⟨_, _, _, _, _, _, _, _, _, _, rfl, l_Item_init, c_Item_init, .inl ⟨rfl, rfl⟩, .inr ⟨KW_Item_init, rfl, kwS kw_Item_init_0 ⟨_, rfl⟩ kw0⟩⟩, k_Item_init⟩ : FunD K "__init__" "Item.__init__" (defArgs s_Item_init) (defBody s_Item_init) (defScope s_Item_init) [] [("price", .int 1)] _ _)
    kb_trap_second_first := trap_kw (fun_mk (st := s_trap) l_trap c_trap k_trap)
  }
  exact ⟨_, fun s v => .of_eq rfl, fun base _ _ => ok_law T⟩
theorem walk {l : PySem.W.OpenLaw} {q : Program} {loose : List Str} {XP : (Str → Option Value) → Heap → Prop} {YP : World → Heap → Prop} {d : DefRec} {K : Params → PySem.W.Frag} (hn : l.most = some 63) (hdf : d.params.defaults = [])
    (hY : ∀ (w : World) (h : Heap), YP w h → (K w.params).In h)
    (F : ∀ (w : World) (mg : Str → Option Value) (fa : Addr) (h : Heap), (K w.params).In h → h.Ns mainGlobals mg → mg d.name = some (.ref fa) →
      ∃ fd : FuncData, (∀ (s : Shared) (u : Value), BindsTo s fd ⟨[u], []⟩ [("script", u)]) ∧ ∀ base : Heap, (K w.params).In base → base.Ns mainGlobals mg → FnG l.prog w (K w.params) mg base (L2.CX l.prog w) 6 fa fd ["script"] (spLawG (K w.params))) :
    PySem.W.WalkO q loose XP YP l.row.toRowW d [] (fun f vs => PySem.call f vs) := walkG (k := 6) (x := "script") hn hdf ⟨rfl, by decide, by decide⟩ hY F
end FL
open PySem PySem.W PyProof.Rows
set_option maxRecDepth 100000 in
set_option maxHeartbeats 0 in
theorem PySem.Challenge.cw_askranges_k51_traps_holds : PySem.Challenge.rw_askranges_k51_traps.Holds := by
  w_on; o_law; k_head; (case hw => w_witness2)
  k_fill
  refine FL.walk (l := PySem.Challenge.rw_askranges_k51_traps) rfl rfl (fun w h Y => PySem.W.kIn_of Y) ?F
  case F =>
    intro w mg fa h KX G hmg
    refine' FL.all_mk KX G hmg ?aC_Item ?a_law_next ?l_law_next ?c_law_next ?k_law_next ?a_law_draw ?l_law_draw ?c_law_draw ?k_law_draw ?a_Item_is_name ?r_Item_is_name ?l_Item_is_name ?c_Item_is_name ?k_Item_is_name ?a_is_integer ?l_is_integer ?c_is_integer ?k_is_integer ?a_Item_init ?i_Item_init ?l_Item_init ?c_Item_init ?k_Item_init ?kw_Item_init_0 ?a_law_before ?l_law_before ?c_law_before ?k_law_before ?a_law_loose ?l_law_loose ?c_law_loose ?k_law_loose ?a_law_due ?l_law_due ?c_law_due ?k_law_due ?a_Item_is_exact ?r_Item_is_exact ?pg_Item_is_exact ?pt_Item_is_exact ?l_Item_is_exact ?c_Item_is_exact ?k_Item_is_exact ?a_Item_greatest ?r_Item_greatest ?pg_Item_greatest ?pt_Item_greatest ?l_Item_greatest ?c_Item_greatest ?k_Item_greatest ?a_Item_least ?r_Item_least ?pg_Item_least ?pt_Item_least ?l_Item_least ?c_Item_least ?k_Item_least ?a_Item_is_surely_before ?i_Item_is_surely_before ?l_Item_is_surely_before ?c_Item_is_surely_before ?k_Item_is_surely_before ?a_Item_is_loose_with ?i_Item_is_loose_with ?l_Item_is_loose_with ?c_Item_is_loose_with ?k_Item_is_loose_with ?a_trap ?l_trap ?c_trap ?k_trap ?a_Item_eq ?i_Item_eq ?l_Item_eq ?c_Item_eq ?k_Item_eq ?a_law_pen ?l_law_pen ?c_law_pen ?k_law_pen ?a_law ?l_law ?c_law ?k_law ?pg_Item ?hd_Item ?po_Item ?sa_Item ?ty1_Item ?ty4_Item ?mk_Item ?kc_Item ?rd_Item ?ga_Item ?cv_Item_MOST ?na_Item_parts ?ty2 ?ty3 ?kt_Item_bool ?kt_Item_int ?kt_Item_str ?tyi_Item ?ne_Item ?gv_LETTERS ?gv_MAX_NAME ?z_all ?z_bool ?z_int ?z_isinstance ?z_len ?z_list ?z_max ?z_range ?z_repr ?z_str ?z_zip
    (case aC_Item => k_is)
    (case a_law_next => k_is)
    (case l_law_next => k_is)
    (case c_law_next => k_is)
    (case k_law_next => k_is)
    (case a_law_draw => k_is)
    (case l_law_draw => k_is)
    (case c_law_draw => k_is)
    (case k_law_draw => k_is)
    (case a_Item_is_name => k_is)
    (case r_Item_is_name => k_is)
    (case l_Item_is_name => k_is)
    (case c_Item_is_name => k_is)
    (case k_Item_is_name => k_is)
    (case a_is_integer => k_is)
    (case l_is_integer => k_is)
    (case c_is_integer => k_is)
    (case k_is_integer => k_is)
    (case a_Item_init => k_is)
    (case i_Item_init => k_is)
    (case l_Item_init => k_is)
    (case c_Item_init => k_is)
    (case k_Item_init => k_is)
    (case kw_Item_init_0 => k_is)
    (case a_law_before => k_is)
    (case l_law_before => k_is)
    (case c_law_before => k_is)
    (case k_law_before => k_is)
    (case a_law_loose => k_is)
    (case l_law_loose => k_is)
    (case c_law_loose => k_is)
    (case k_law_loose => k_is)
    (case a_law_due => k_is)
    (case l_law_due => k_is)
    (case c_law_due => k_is)
    (case k_law_due => k_is)
    (case a_Item_is_exact => k_is)
    (case r_Item_is_exact => k_is)
    (case pg_Item_is_exact => k_is)
    (case pt_Item_is_exact => k_is)
    (case l_Item_is_exact => k_is)
    (case c_Item_is_exact => k_is)
    (case k_Item_is_exact => k_is)
    (case a_Item_greatest => k_is)
    (case r_Item_greatest => k_is)
    (case pg_Item_greatest => k_is)
    (case pt_Item_greatest => k_is)
    (case l_Item_greatest => k_is)
    (case c_Item_greatest => k_is)
    (case k_Item_greatest => k_is)
    (case a_Item_least => k_is)
    (case r_Item_least => k_is)
    (case pg_Item_least => k_is)
    (case pt_Item_least => k_is)
    (case l_Item_least => k_is)
    (case c_Item_least => k_is)
    (case k_Item_least => k_is)
    (case a_Item_is_surely_before => k_is)
    (case i_Item_is_surely_before => k_is)
    (case l_Item_is_surely_before => k_is)
    (case c_Item_is_surely_before => k_is)
    (case k_Item_is_surely_before => k_is)
    (case a_Item_is_loose_with => k_is)
    (case i_Item_is_loose_with => k_is)
    (case l_Item_is_loose_with => k_is)
    (case c_Item_is_loose_with => k_is)
    (case k_Item_is_loose_with => k_is)
    (case a_trap => k_is)
    (case l_trap => k_is)
    (case c_trap => k_is)
    (case k_trap => k_is)
    (case a_Item_eq => k_is)
    (case i_Item_eq => k_is)
    (case l_Item_eq => k_is)
    (case c_Item_eq => k_is)
    (case k_Item_eq => k_is)
    (case a_law_pen => k_is)
    (case l_law_pen => k_is)
    (case c_law_pen => k_is)
    (case k_law_pen => k_is)
    (case a_law => k_is)
    (case l_law => k_is)
    (case c_law => k_is)
    (case k_law => k_is)
    (case pg_Item => k_is)
    (case hd_Item => k_is)
    (case po_Item => k_is)
    (case sa_Item => k_is)
    (case ty1_Item => k_is)
    (case ty4_Item => k_is)
    (case mk_Item => k_is)
    (case kc_Item => k_is)
    (case rd_Item => k_is)
    (case ga_Item => k_is)
    (case cv_Item_MOST => k_is)
    (case na_Item_parts => k_is)
    (case ty2 => k_is)
    (case ty3 => k_is)
    (case kt_Item_bool => k_is)
    (case kt_Item_int => k_is)
    (case kt_Item_str => k_is)
    (case tyi_Item => k_is)
    (case ne_Item => k_is)
    (case gv_LETTERS => k_is)
    (case gv_MAX_NAME => k_is)
    (case z_all => k_is)
    (case z_bool => k_is)
    (case z_int => k_is)
    (case z_isinstance => k_is)
    (case z_len => k_is)
    (case z_list => k_is)
    (case z_max => k_is)
    (case z_range => k_is)
    (case z_repr => k_is)
    (case z_str => k_is)
    (case z_zip => k_is)
