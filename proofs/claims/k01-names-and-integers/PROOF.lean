import PyProof.Rows.All
import Wide.All
import OpenK.AllK
import Wide.FinOn
import HandS.ForMost
import HandS.ForExc
import HandS.Evl
import HandS.Walk
import HandS.Wide
import HandS.TupAny
import HandS.TupLe
import HandS.CallSlots
import HandS.More
import HandS.Star
import HandS.Conv
import HandS.IsInst
import HandS.Deep
import HandS.Text
import HandS.Dict
import HandS.RaiseMore
import PySem.Challenge.RW_overrounds_k01_names_and_integers
set_option Elab.async false
set_option linter.all false
set_option exponentiation.threshold 100000
set_option maxRecDepth 100000
set_option maxHeartbeats 4000000
/-! Z1: data, the two heaps (kept part and whole), slots with owned cells, late values. -/
namespace Z
open PySem L2
open Evl (Ex ex_rd ex_l ex_t)

/-- data: what a value says, without addresses; rol: a list that is only read -/
inductive D where
  | non | bl (b : Bool) | int (i : Int) | str (x : Str)
  | tup (xs : List D) | lst (xs : List D) | rol (xs : List D) | dic (kvs : List (Key × D)) | ins (C : Str) (fs : List (Str × D)) | ty (n : String)

/-- the module: its written part, its names -/
structure Gm where
  K : PySem.W.Frag
  mg : Str → Option Value
abbrev gm (X : Cx) : Gm := ⟨X.K, X.mg⟩

mutual
inductive Rep (G : Gm) (H : Hp) : V → D → Prop
  | non : Rep G H .non .non
  | bl (b : Bool) : Rep G H (.bl b) (.bl b)
  | int (i : Int) : Rep G H (.int i) (.int i)
  | str (x : Str) : Rep G H (.str x) (.str x)
  | ty (n : String) : Rep G H (.ty n) (.ty n)
  | tup {a : Addr} {vs : List V} {ds : List D} : SqT G.K H a vs → Reps G H vs ds → Rep G H (.ref a) (.tup ds)
  | lst {a : Addr} {vs : List V} {ds : List D} : H a = some (.lst vs) → Reps G H vs ds → Rep G H (.ref a) (.lst ds)
  | rol {a : Addr} {vs : List V} {ds : List D} : SqL G.K H a vs → Reps G H vs ds → Rep G H (.ref a) (.rol ds)
  | dic {a : Addr} {vs : List (Key × V)} {ds : List (Key × D)} : H a = some (.dK vs) → RepK G H vs ds → Rep G H (.ref a) (.dic ds)
  | ins {a C dx : Addr} {c : Str} {vs : List (Str × V)} {ds : List (Str × D)} : H a = some (.ins C dx vs) → G.mg c = some (.ref C) → RepF G H vs ds → Rep G H (.ref a) (.ins c ds)
inductive Reps (G : Gm) (H : Hp) : List V → List D → Prop
  | nil : Reps G H [] []
  | cons {v : V} {d : D} {vs : List V} {ds : List D} : Rep G H v d → Reps G H vs ds → Reps G H (v :: vs) (d :: ds)
inductive RepK (G : Gm) (H : Hp) : List (Key × V) → List (Key × D) → Prop
  | nil : RepK G H [] []
  | cons {k : Key} {v : V} {d : D} {vs : List (Key × V)} {ds : List (Key × D)} : Rep G H v d → RepK G H vs ds → RepK G H ((k, v) :: vs) ((k, d) :: ds)
inductive RepF (G : Gm) (H : Hp) : List (Str × V) → List (Str × D) → Prop
  | nil : RepF G H [] []
  | cons {k : Str} {v : V} {d : D} {vs : List (Str × V)} {ds : List (Str × D)} : Rep G H v d → RepF G H vs ds → RepF G H ((k, v) :: vs) ((k, d) :: ds)
end

section
variable {G : Gm} {H H' : Hp}
mutual
theorem Rep.mono (e : Ex H H') : ∀ {v : V} {d : D}, Rep G H v d → Rep G H' v d
  | _, _, .non => .non
  | _, _, .bl b => .bl b
  | _, _, .int i => .int i
  | _, _, .str x => .str x
  | _, _, .ty x => .ty x
  | _, _, .tup h r => .tup (ex_t e h) (Reps.mono e r)
  | _, _, .lst h r => .lst (e _ _ h) (Reps.mono e r)
  | _, _, .rol h r => .rol (ex_l e h) (Reps.mono e r)
  | _, _, .dic h r => .dic (e _ _ h) (RepK.mono e r)
  | _, _, .ins h c r => .ins (e _ _ h) c (RepF.mono e r)
theorem Reps.mono (e : Ex H H') : ∀ {v : List V} {d : List D}, Reps G H v d → Reps G H' v d
  | _, _, .nil => .nil
  | _, _, .cons h r => .cons (Rep.mono e h) (Reps.mono e r)
theorem RepK.mono (e : Ex H H') : ∀ {v : List (Key × V)} {d : List (Key × D)}, RepK G H v d → RepK G H' v d
  | _, _, .nil => .nil
  | _, _, .cons h r => .cons (Rep.mono e h) (RepK.mono e r)
theorem RepF.mono (e : Ex H H') : ∀ {v : List (Str × V)} {d : List (Str × D)}, RepF G H v d → RepF G H' v d
  | _, _, .nil => .nil
  | _, _, .cons h r => .cons (Rep.mono e h) (RepF.mono e r)
end
theorem Reps.length : ∀ {vs : List V} {ds : List D}, Reps G H vs ds → vs.length = ds.length
  | _, _, .nil => rfl
  | _, _, .cons _ r => congrArg (· + 1) r.length
theorem Reps.get : ∀ {vs : List V} {ds : List D} {i : Nat} {d : D}, Reps G H vs ds → ds[i]? = some d → ∃ v, vs[i]? = some v ∧ Rep G H v d
  | _, _, _, _, .nil, e => by simp at e
  | _, _, 0, _, .cons h _, e => by simp at e; subst e; exact ⟨_, rfl, h⟩
  | _, _, i + 1, d, .cons _ r, e => by
    obtain ⟨v, h1, h2⟩ := Reps.get (i := i) (d := d) r (by simpa using e)
    exact ⟨v, by simpa using h1, h2⟩
theorem Reps.get' : ∀ {vs : List V} {ds : List D} {i : Nat} {v : V}, Reps G H vs ds → vs[i]? = some v → ∃ d, ds[i]? = some d ∧ Rep G H v d
  | _, _, _, _, .nil, e => by simp at e
  | _, _, 0, _, .cons h _, e => by simp at e; subst e; exact ⟨_, rfl, h⟩
  | _, _, i + 1, d, .cons _ r, e => by
    obtain ⟨v, h1, h2⟩ := Reps.get' (i := i) (v := d) r (by simpa using e)
    exact ⟨v, by simpa using h1, h2⟩
theorem Reps.append : ∀ {vs ws : List V} {ds es : List D}, Reps G H vs ds → Reps G H ws es → Reps G H (vs ++ ws) (ds ++ es)
  | _, _, _, _, .nil, s => s
  | _, _, _, _, .cons r t, s => .cons r (Reps.append t s)
theorem Reps.take : ∀ {vs : List V} {ds : List D} (n : Nat), Reps G H vs ds → Reps G H (vs.take n) (ds.take n)
  | _, _, 0, _ => .nil
  | _, _, _ + 1, .nil => .nil
  | _, _, n + 1, .cons r t => .cons r (Reps.take n t)
theorem Reps.drop : ∀ {vs : List V} {ds : List D} (n : Nat), Reps G H vs ds → Reps G H (vs.drop n) (ds.drop n)
  | _, _, 0, r => r
  | _, _, _ + 1, .nil => .nil
  | _, _, n + 1, .cons _ t => Reps.drop n t
theorem Reps.set {v : V} {d : D} (h : Rep G H v d) : ∀ {vs : List V} {ds : List D} (i : Nat), Reps G H vs ds → Reps G H (vs.set i v) (ds.set i d)
  | _, _, _, .nil => .nil
  | _, _, 0, .cons _ t => .cons h t
  | _, _, i + 1, .cons q t => .cons q (Reps.set h i t)
theorem Reps.eraseIdx : ∀ {vs : List V} {ds : List D} (i : Nat), Reps G H vs ds → Reps G H (vs.eraseIdx i) (ds.eraseIdx i)
  | _, _, _, .nil => .nil
  | _, _, 0, .cons _ t => t
  | _, _, i + 1, .cons q t => .cons q (Reps.eraseIdx i t)
theorem Reps.reverse : ∀ {vs : List V} {ds : List D}, Reps G H vs ds → Reps G H vs.reverse ds.reverse
  | _, _, .nil => .nil
  | _, _, .cons h r => by rw [List.reverse_cons, List.reverse_cons]; exact Reps.append (Reps.reverse r) (.cons h .nil)
theorem Reps.dropLast : ∀ {vs : List V} {ds : List D}, Reps G H vs ds → Reps G H vs.dropLast ds.dropLast
  | _, _, .nil => .nil
  | _, _, .cons _ .nil => .nil
  | _, _, .cons h (.cons h2 r) => .cons h (Reps.dropLast (.cons h2 r))
/-- a list of ints -/
theorem Reps.ints : ∀ {vs : List V} {ns : List Int}, Reps G H vs (ns.map D.int) → vs = ns.map V.int
  | _, [], .nil => rfl
  | _, n :: ns, .cons h r => by
    cases h
    rw [List.map_cons, Reps.ints r]
theorem reps_ints : ∀ (ns : List Int), Reps G H (ns.map V.int) (ns.map D.int)
  | [] => .nil
  | n :: ns => .cons (.int n) (reps_ints ns)
theorem Reps.bls : ∀ {vs : List V} {ns : List Bool}, Reps G H vs (ns.map D.bl) → vs = ns.map V.bl
  | _, [], .nil => rfl
  | _, n :: ns, .cons h r => by
    cases h
    rw [List.map_cons, Reps.bls r]
theorem Reps.strs : ∀ {vs : List V} {ns : List Str}, Reps G H vs (ns.map D.str) → vs = ns.map V.str
  | _, [], .nil => rfl
  | _, n :: ns, .cons h r => by
    cases h
    rw [List.map_cons, Reps.strs r]
end

/-- the content of an owned object -/
inductive Cell where
  | lst (xs : List D) | dic (kvs : List (Key × D)) | ins (C : Str) (fs : List (Str × D))
@[simp] def Cell.toD : Cell → D
  | .lst xs => .lst xs
  | .dic kvs => .dic kvs
  | .ins C fs => .ins C fs
/-- Hs: the kept part of the heap; H: the whole -/
inductive CellAt (G : Gm) (Hs H : Hp) (p : Addr) : Cell → Prop
  | lst {vs : List V} {ds : List D} : H p = some (.lst vs) → Reps G Hs vs ds → CellAt G Hs H p (.lst ds)
  | dic {vs : List (Key × V)} {ds : List (Key × D)} : H p = some (.dK vs) → RepK G Hs vs ds → CellAt G Hs H p (.dic ds)
  | ins {C dx : Addr} {c : Str} {vs : List (Str × V)} {ds : List (Str × D)} : H p = some (.ins C dx vs) → G.mg c = some (.ref C) → RepF G Hs vs ds → CellAt G Hs H p (.ins c ds)
section
variable {G : Gm} {Hs H Hs' H' : Hp} {p : Addr} {c : Cell}
theorem CellAt.isv (h : CellAt G Hs H p c) : ∃ o, H p = some o := by
  cases h with
  | lst h _ => exact ⟨_, h⟩
  | dic h _ => exact ⟨_, h⟩
  | ins h _ _ => exact ⟨_, h⟩
theorem CellAt.go (h : CellAt G Hs H p c) (e : Ex Hs Hs') (k : ∀ o, H p = some o → H' p = some o) : CellAt G Hs' H' p c := by
  cases h with
  | lst h r => exact .lst (k _ h) (r.mono e)
  | dic h r => exact .dic (k _ h) (r.mono e)
  | ins h q r => exact .ins (k _ h) q (r.mono e)
/-- the cell is kept from now on -/
theorem CellAt.rep (h : CellAt G Hs H p c) (e : Ex Hs Hs') (k : ∀ o, H p = some o → Hs' p = some o) : Rep G Hs' (.ref p) c.toD := by
  cases h with
  | lst h r => exact .lst (k _ h) (r.mono e)
  | dic h r => exact .dic (k _ h) (r.mono e)
  | ins h q r => exact .ins (k _ h) q (r.mono e)
end

inductive Sl where
  | no | sh (d : D) | own (p : Addr) (c : Cell)
abbrev Rho := List Sl
inductive SlOk (G : Gm) (Hs H : Hp) : Sl → Option (Option V) → Prop
  | no {o} : SlOk G Hs H .no o
  | sh {v d} : Rep G Hs v d → SlOk G Hs H (.sh d) (some (some v))
  | own {p c} : Hs p = none → CellAt G Hs H p c → SlOk G Hs H (.own p c) (some (some (.ref p)))
def Own (r : Rho) (a : Addr) : Prop := ∃ (i : Nat) (c : Cell), r[i]? = some (Sl.own a c)
structure StOk (G : Gm) (r : Rho) (s : St) (Hs H : Hp) : Prop where
  len : r.length = s.length
  ex : Ex Hs H
  sl : ∀ (i : Nat) (x : Sl), r[i]? = some x → SlOk G Hs H x s[i]?
  nd : ∀ (i j : Nat) (p : Addr) (c c' : Cell), r[i]? = some (Sl.own p c) → r[j]? = some (Sl.own p c') → i = j
structure Go (O O' : Addr → Prop) (Hs H Hs' H' : Hp) : Prop where
  ss : Ex Hs Hs'
  kp : ∀ a o, H a = some o → ¬ O a → H' a = some o
  fr : ∀ a o, H a = some o → Hs a = none → ¬ O a → Hs' a = none
  ow : ∀ a, O' a → O a ∨ H a = none
  th : ∀ a, H' a = none → H a = none
section
variable {O O1 O2 : Addr → Prop} {Hs H Hs1 H1 Hs2 H2 : Hp}
theorem Go.refl : Go O O Hs H Hs H := ⟨Ex.refl _, fun _ _ h _ => h, fun _ _ _ h _ => h, fun _ h => .inl h, fun _ h => h⟩
theorem Go.trans (a : Go O O1 Hs H Hs1 H1) (b : Go O1 O2 Hs1 H1 Hs2 H2) : Go O O2 Hs H Hs2 H2 := by
  have no1 : ∀ x o, H x = some o → ¬ O x → ¬ O1 x := fun x o h n q => by
    rcases a.ow x q with z | z
    · exact n z
    · rw [h] at z; cases z
  refine ⟨a.ss.trans b.ss, fun x o h n => b.kp x o (a.kp x o h n) (no1 x o h n), fun x o h hs n => b.fr x o (a.kp x o h n) (a.fr x o h hs n) (no1 x o h n), fun x q => ?_, fun x q => a.th x (b.th x q)⟩
  rcases b.ow x q with z | z
  · exact a.ow x z
  · by_cases n : O x
    · exact .inl n
    · refine .inr ?_
      cases h : H x with
      | none => rfl
      | some o => rw [a.kp x o h n] at z; cases z
theorem Go.weak (a : Go O O1 Hs H Hs1 H1) (h : ∀ x, O x → O2 x) : Go O2 O1 Hs H Hs1 H1 :=
  ⟨a.ss, fun x o q n => a.kp x o q fun z => n (h x z), fun x o q r n => a.fr x o q r fun z => n (h x z), fun x q => (a.ow x q).imp (h x) id, a.th⟩
theorem Go.sub (a : Go O O1 Hs H Hs1 H1) (h : ∀ x, O2 x → O1 x) : Go O O2 Hs H Hs1 H1 :=
  ⟨a.ss, a.kp, a.fr, fun x q => a.ow x (h x q), a.th⟩
end

/-- the value of an expression before it is used: kept data, a slot's own object, a new object -/
inductive Late where
  | st (d : D) | sl (i : Nat) | nw (p : Addr) (c : Cell)
inductive LateOk (G : Gm) (r : Rho) (s : St) (Hs H : Hp) : V → Late → Prop
  | st {v d} : Rep G Hs v d → LateOk G r s Hs H v (.st d)
  | sl {v i} : s[i]? = some (some v) → LateOk G r s Hs H v (.sl i)
  | nw {p c} : Hs p = none → CellAt G Hs H p c → ¬ Own r p → LateOk G r s Hs H (.ref p) (.nw p c)
def NewAt (H : Hp) (l : Late) : Prop := ∀ p c, l = .nw p c → H p = none
@[simp] def res (r : Rho) : Late → Option D
  | .st d => some d
  | .sl i => match r[i]? with
    | some (Sl.sh d) => some d
    | some (Sl.own _ c) => some c.toD
    | _ => none
  | .nw _ c => some c.toD
/-- as it is to be kept: the data, the slots behind it -/
@[simp] def frz (r : Rho) : Late → Option (D × Rho)
  | .st d => some (d, r)
  | .sl i => match r[i]? with
    | some (Sl.sh d) => some (d, r)
    | some (Sl.own _ c) => some (c.toD, r.set i (.sh c.toD))
    | _ => none
  | .nw _ c => some (c.toD, r)
/-- what is read now -/
inductive RepB (G : Gm) (Hs H : Hp) : V → D → Prop
  | st {v d} : Rep G Hs v d → RepB G Hs H v d
  | own {p c} : CellAt G Hs H p c → RepB G Hs H (.ref p) c.toD
section
variable {G : Gm} {r r' : Rho} {s : St} {Hs H Hs' H' : Hp} {v : V} {l : Late} {d : D}
theorem LateOk.go (h : LateOk G r s Hs H v l) (g : Go (Own r) (Own r') Hs H Hs' H') : LateOk G r' s Hs' H' v l := by
  cases h with
  | st h => exact .st (h.mono g.ss)
  | sl h => exact .sl h
  | nw h1 h2 h3 =>
    obtain ⟨o, ho⟩ := h2.isv
    refine .nw (g.fr _ _ ho h1 h3) (h2.go g.ss fun o q => g.kp _ o q h3) fun q => ?_
    rcases g.ow _ q with z | z
    · exact h3 z
    · rw [ho] at z; cases z
theorem LateOk.res (h : LateOk G r s Hs H v l) (S : StOk G r s Hs H) (e : res r l = some d) : RepB G Hs H v d := by
  cases h with
  | st h => simp at e; subst e; exact .st h
  | sl h =>
    rename_i i
    simp only [Z.res] at e
    split at e
    · rename_i d' q
      cases e
      have := S.sl i _ q
      rw [h] at this
      cases this with
      | sh z => exact .st z
    · rename_i p c q
      cases e
      have := S.sl i _ q
      rw [h] at this
      cases this with
      | own _ z => exact .own z
    · cases e
  | nw h1 h2 h3 => simp at e; subst e; exact .own h2
theorem StOk.add (S : StOk G r s Hs H) {p : Addr} {o : HO} (hs : Hs p = none) (ho : H p = some o) (n : ¬ Own r p) : StOk G r s (upd Hs p o) H := by
  have e1 : Ex Hs (upd Hs p o) := Ex.new hs
  refine ⟨S.len, fun a u q => ?_, fun i x q => ?_, S.nd⟩
  · by_cases h : a = p
    · subst h; rw [upd_same] at q; cases q; exact ho
    · rw [upd_ne h] at q; exact S.ex a u q
  · have z := S.sl i x q
    revert z
    generalize s[i]? = w
    intro z
    cases z with
    | no => exact .no
    | sh h => exact .sh (h.mono e1)
    | own h1 h2 =>
      refine .own ?_ (h2.go e1 fun _ h => h)
      rw [upd_ne (fun z => n ⟨i, _, by rw [q, z]⟩)]; exact h1
theorem Own.set {i : Nat} {x : Sl} (hx : ∀ p c, x ≠ Sl.own p c) {a : Addr} (h : Own (r.set i x) a) : Own r a := by
  obtain ⟨j, c, h⟩ := h
  by_cases e : i = j
  · subst e
    by_cases hl : i < r.length
    · rw [List.getElem?_set_self hl] at h; cases h; exact absurd rfl (hx _ _)
    · rw [List.getElem?_eq_none (by simpa using hl)] at h; cases h
  · rw [List.getElem?_set_ne e] at h; exact ⟨j, c, h⟩
/-- a slot forgets its object, or knows kept data instead -/
theorem StOk.put (S : StOk G r s Hs H) {i : Nat} {x : Sl} (hx : ∀ p c, x ≠ Sl.own p c) (h : SlOk G Hs H x s[i]?) : StOk G (r.set i x) s Hs H := by
  refine ⟨by rw [List.length_set]; exact S.len, S.ex, fun j y q => ?_, fun j k p c c' q1 q2 => ?_⟩
  · by_cases e : i = j
    · subst e
      by_cases hl : i < r.length
      · rw [List.getElem?_set_self hl] at q; cases q; exact h
      · rw [List.getElem?_eq_none (by simpa using hl)] at q; cases q
    · rw [List.getElem?_set_ne e] at q; exact S.sl j y q
  · have get : ∀ j c, (r.set i x)[j]? = some (Sl.own p c) → r[j]? = some (Sl.own p c) := fun j c q => by
      by_cases e : i = j
      · subst e
        by_cases hl : i < r.length
        · rw [List.getElem?_set_self hl] at q; cases q; exact absurd rfl (hx _ _)
        · rw [List.getElem?_eq_none (by simpa using hl)] at q; cases q
      · rw [List.getElem?_set_ne e] at q; exact q
    exact S.nd j k p c c' (get j c q1) (get k c' q2)
theorem go_add {O O' : Addr → Prop} {p : Addr} {o : HO} (hs : Hs p = none) (hp : ∀ u, H p = some u → O p) (ow : ∀ a, O' a → O a) : Go O O' Hs H (upd Hs p o) H :=
  ⟨Ex.new hs, fun _ _ h _ => h, fun a u h1 h2 n => by
    by_cases e : a = p
    · subst e; exact absurd (hp u h1) n
    · rw [upd_ne e]; exact h2, fun a q => .inl (ow a q), fun _ h => h⟩
/-- what keeping changes: at most one object more is kept, one owned by a slot or the new one -/
def Kept (H : Hp) (r r' : Rho) (l : Late) (Hs Hs' : Hp) : Prop :=
  (∀ a, Own r' a → Own r a) ∧ (Hs' = Hs ∨ ∃ p o, Hs' = upd Hs p o ∧ Hs p = none ∧ H p = some o ∧ (Own r p ∨ ∃ c, l = .nw p c))
theorem Kept.ss {l : Late} {Hs1 : Hp} (k : Kept H r r' l Hs Hs1) : Ex Hs Hs1 := by
  rcases k.2 with rfl | ⟨p, o, rfl, h1, _⟩
  · exact Ex.refl _
  · exact Ex.new h1
/-- LateOk, kept from now on. For a new object: p was not there at H0 -/
theorem LateOk.frz {H0 Hs0 : Hp} {r0 : Rho} (h : LateOk G r s Hs H v l) (S : StOk G r s Hs H) (g0 : Go (Own r0) (Own r) Hs0 H0 Hs H) (nw : NewAt H0 l) (e : Z.frz r l = some (d, r')) :
    ∃ Hs', StOk G r' s Hs' H ∧ Rep G Hs' v d ∧ Go (Own r0) (Own r') Hs0 H0 Hs' H ∧ Kept H r r' l Hs Hs' := by
  cases h with
  | st h => simp at e; obtain ⟨rfl, rfl⟩ := e; exact ⟨Hs, S, h, g0, fun _ h => h, .inl rfl⟩
  | sl h =>
    rename_i i
    simp only [Z.frz] at e
    split at e
    · rename_i d' q
      cases e
      have := S.sl i _ q
      rw [h] at this
      cases this with
      | sh z => exact ⟨Hs, S, z, g0, fun _ h => h, .inl rfl⟩
    · rename_i p c q
      cases e
      have z0 := S.sl i _ q
      rw [h] at z0
      cases z0 with
      | own z1 z =>
        obtain ⟨o, ho⟩ := z.isv
        have hsp : ∀ a, Own (r.set i (.sh c.toD)) a → Own r a := fun a => Own.set (by intro p c q; cases q)
        have rp : Rep G (upd Hs p o) (.ref p) c.toD := z.rep (Ex.new z1) (fun u hu => by rw [ho] at hu; cases hu; exact upd_same)
        refine ⟨upd Hs p o, ?_, rp, g0.trans (go_add z1 (fun _ _ => ⟨i, c, q⟩) hsp), hsp, .inr ⟨p, o, rfl, z1, ho, .inl ⟨i, c, q⟩⟩⟩
        have S1 : StOk G (r.set i .no) s Hs H := S.put (by intro p c q; cases q) .no
        have np1 : ¬ Own (r.set i .no) p := fun ⟨j, c', hj⟩ => by
          by_cases ej : i = j
          · subst ej
            by_cases hl : i < r.length
            · rw [List.getElem?_set_self hl] at hj; cases hj
            · rw [List.getElem?_eq_none (by simpa using hl)] at hj; cases hj
          · rw [List.getElem?_set_ne ej] at hj
            exact ej (S.nd i j p _ _ q hj)
        have S2 := (S1.add z1 ho np1).put (i := i) (x := .sh c.toD) (by intro p c q; cases q) (by rw [h]; exact .sh rp)
        rw [List.set_set] at S2
        exact S2
    · cases e
  | nw h1 h2 h3 =>
    rename_i p c
    simp at e; obtain ⟨rfl, rfl⟩ := e
    obtain ⟨o, ho⟩ := h2.isv
    have n0 : H0 p = none := nw p c rfl
    refine ⟨upd Hs p o, S.add h1 ho h3, h2.rep (Ex.new h1) (fun u hu => by rw [ho] at hu; cases hu; exact upd_same), ⟨g0.ss.trans (Ex.new h1), g0.kp, fun a u q1 q2 n => ?_, g0.ow, g0.th⟩, fun _ h => h, .inr ⟨p, o, rfl, h1, ho, .inr ⟨c, rfl⟩⟩⟩
    rw [upd_ne (ne_of_none q1 n0)]; exact g0.fr a u q1 q2 n
/-- another late value, behind the keeping -/
theorem LateOk.kept {Hs1 : Hp} {v2 : V} {l2 : Late} (h : LateOk G r s Hs H v2 l2) (k : Kept H r r' l Hs Hs1) (n : ∀ p c c', l = .nw p c → l2 ≠ .nw p c') : LateOk G r' s Hs1 H v2 l2 := by
  have ss : Ex Hs Hs1 := by
    rcases k.2 with rfl | ⟨p, o, rfl, h1, _⟩
    · exact Ex.refl _
    · exact Ex.new h1
  cases h with
  | st h => exact .st (h.mono ss)
  | sl h => exact .sl h
  | nw h1 h2 h3 =>
    refine .nw ?_ (h2.go ss fun _ h => h) fun q => h3 (k.1 _ q)
    rcases k.2 with rfl | ⟨p, o, rfl, _, _, ow⟩
    · exact h1
    · rw [upd_ne]
      · exact h1
      · intro e
        subst e
        rcases ow with ow | ⟨c, e⟩
        · exact h3 ow
        · exact n _ _ _ e rfl
end
/-- several -/
inductive LatesOk (G : Gm) (r : Rho) (s : St) (Hs H : Hp) : List V → List Late → Prop
  | nil : LatesOk G r s Hs H [] []
  | cons {v l vs ls} : LateOk G r s Hs H v l → (∀ p c c', l = .nw p c → Late.nw p c' ∉ ls) → LatesOk G r s Hs H vs ls → LatesOk G r s Hs H (v :: vs) (l :: ls)
section
variable {G : Gm} {r r' : Rho} {s : St} {Hs H Hs' H' : Hp}
theorem LatesOk.kept {l : Late} {Hs1 : Hp} (k : Kept H r r' l Hs Hs1) : ∀ {vs ls}, LatesOk G r s Hs H vs ls → (∀ p c c', l = .nw p c → Late.nw p c' ∉ ls) → LatesOk G r' s Hs1 H vs ls
  | _, _, .nil, _ => .nil
  | _, _, .cons a b c, n => .cons (a.kept k fun p c c' e q => n p c c' e (by rw [q]; exact List.mem_cons_self ..)) b (LatesOk.kept k c fun p c c' e q => n p c c' e (List.mem_cons_of_mem _ q))
inductive RepBs (G : Gm) (Hs H : Hp) : List V → List D → Prop
  | nil : RepBs G Hs H [] []
  | cons {v d vs ds} : RepB G Hs H v d → RepBs G Hs H vs ds → RepBs G Hs H (v :: vs) (d :: ds)
end
@[simp] def ress (r : Rho) : List Late → Option (List D)
  | [] => some []
  | l :: ls => match res r l, ress r ls with
    | some d, some ds => some (d :: ds)
    | _, _ => none
@[simp] def frzs (r : Rho) : List Late → Option (List D × Rho)
  | [] => some ([], r)
  | l :: ls => match frz r l with
    | some (d, r1) => match frzs r1 ls with
      | some (ds, r2) => some (d :: ds, r2)
      | none => none
    | none => none
theorem LatesOk.res {G : Gm} {r : Rho} {s : St} {Hs H : Hp} (S : StOk G r s Hs H) : ∀ {vs : List V} {ls : List Late} {ds : List D}, LatesOk G r s Hs H vs ls → ress r ls = some ds → RepBs G Hs H vs ds
  | _, _, _, .nil, e => by simp at e; subst e; exact .nil
  | _, _, ds, .cons (l := l) (ls := ls) a _ c, e => by
    simp only [ress] at e
    split at e
    · rename_i d ds' q1 q2
      cases e
      exact .cons (a.res S q1) (LatesOk.res S c q2)
    · cases e
theorem LatesOk.frz {G : Gm} {s : St} {H : Hp} {H0 Hs0 : Hp} {r0 : Rho} : ∀ {vs : List V} {ls : List Late} {ds : List D} {r r' : Rho} {Hs : Hp}, LatesOk G r s Hs H vs ls → StOk G r s Hs H → Go (Own r0) (Own r) Hs0 H0 Hs H → (∀ l ∈ ls, NewAt H0 l) →
    frzs r ls = some (ds, r') → ∃ Hs', StOk G r' s Hs' H ∧ Reps G Hs' vs ds ∧ Go (Own r0) (Own r') Hs0 H0 Hs' H ∧ Ex Hs Hs'
  | _, _, _, _, _, Hs, .nil, S, g, _, e => by simp at e; obtain ⟨rfl, rfl⟩ := e; exact ⟨Hs, S, .nil, g, Ex.refl _⟩
  | _, _, ds, r, r', Hs, .cons (l := l) (ls := ls) a b c, S, g, n, e => by
    simp only [frzs] at e
    split at e
    · rename_i d r1 q1
      split at e
      · rename_i ds' r2 q2
        cases e
        obtain ⟨Hs1, S1, h1, g1, k1⟩ := a.frz S g (n l (List.mem_cons_self ..)) q1
        obtain ⟨Hs2, S2, h2, g2, e2⟩ := LatesOk.frz (c.kept k1 b) S1 g1 (fun l h => n l (List.mem_cons_of_mem _ h)) q2
        exact ⟨Hs2, S2, .cons (h1.mono e2) h2, g2, k1.ss.trans e2⟩
      · cases e
    · cases e
end Z

/-! Z2: the judgement of an expression (SE), names, constants, operators, subscripts, calls of built-ins. -/
namespace Z
open PySem L2
open Evl (Ex ex_rd ex_l ex_t)

structure Exc where
  cls : Str
  fs : Option (List (Str × D))
def ExcOk (G : Gm) (Hs : Hp) (cls : Value) (d : Option Addr) (x : Exc) : Prop :=
  G.mg x.cls = some cls ∧ match x.fs with
    | none => d = none
    | some fs => ∃ dd vs, d = some dd ∧ Hs dd = some (.xd vs) ∧ RepF G Hs vs fs
/-- what an expression's word says -/
abbrev XW := Rho → (Late → Rho → Prop) → (Exc → Rho → Prop) → Prop
structure Out (G : Gm) (r : Rho) (s : St) (Hs H : Hp) (r' : Rho) (Hs' H' : Hp) : Prop where
  S : StOk G r' s Hs' H'
  g : Go (Own r) (Own r') Hs H Hs' H'
theorem Out.refl {G : Gm} {r : Rho} {s : St} {Hs H : Hp} (S : StOk G r s Hs H) : Out G r s Hs H r Hs H := ⟨S, Go.refl⟩
theorem Out.trans {G : Gm} {r r1 r2 : Rho} {s : St} {Hs H Hs1 H1 Hs2 H2 : Hp} (a : Out G r s Hs H r1 Hs1 H1) (b : Out G r1 s Hs1 H1 r2 Hs2 H2) : Out G r s Hs H r2 Hs2 H2 := ⟨b.S, a.g.trans b.g⟩
abbrev EXC (G : Gm) (W : WX) (PE : Exc → Rho → Prop) (r : Rho) (s : St) (Hs H : Hp) : Prop :=
  ∀ x r' cls d Hs' H', PE x r' → Out G r s Hs H r' Hs' H' → ExcOk G Hs' cls d x → W cls d s H'
def tW (G : Gm) (W : WX) (w : XW) : TE := fun s H Q => ∃ (r : Rho) (Hs : Hp) (P : Late → Rho → Prop) (PE : Exc → Rho → Prop), StOk G r s Hs H ∧ w r P PE ∧
  (∀ l r' v Hs' H', P l r' → Out G r s Hs H r' Hs' H' → LateOk G r' s Hs' H' v l → NewAt H l → Q v H') ∧ EXC G W PE r s Hs H
def SE (X : Cx) (W : WX) (e : Expr) (w : XW) : Prop := PE X e (tW (gm X) W w)
theorem pe_imp {X : Cx} {e : Expr} {t t' : TE} (h : PE X e t) (i : ∀ s H Q, t' s H Q → t s H Q) : PE X e t' := ⟨fun pins s σ H Q I q => h.run pins s σ H Q I (i σ H Q q)⟩
theorem EXC.mono {G : Gm} {W : WX} {PE : Exc → Rho → Prop} {r r1 : Rho} {s : St} {Hs H Hs1 H1 : Hp} (h : EXC G W PE r s Hs H) (o : Out G r s Hs H r1 Hs1 H1) : EXC G W PE r1 s Hs1 H1 :=
  fun x r' cls d Hs' H' p o' e => h x r' cls d Hs' H' p (o.trans o') e

section
variable {X : Cx} {W : WX}
/-! ### names, constants -/
@[simp] def wVar (i : Nat) : XW := fun r P _ => match r[i]? with
  | some (Sl.sh d) => P (.st d) r
  | some (Sl.own _ _) => P (.sl i) r
  | _ => False
theorem se_var {x : Str} {pos : Pos} (i : Nat) (hN : X.N[i]? = some x := by rfl) (hv : Vis X.env.scope x := by first | exact Or.inl rfl | exact Or.inr (Or.inl rfl) | exact Or.inr (Or.inr rfl)) (hd : (x == ("__debug__" : Str)) = false := by decide)
    (hcd : (x == ("__classdict__" : Str)) = false := by decide) : SE X W (.Name x pos) (wVar i) := by
  refine pe_imp (pe_var hN hv hd hcd) fun s H Q q => ?_
  obtain ⟨r, Hs, P, PE, S, w, k, _⟩ := q
  simp only [wVar] at w
  split at w
  · rename_i d e
    have z := S.sl i _ e
    revert z
    generalize hq : s[i]? = o
    intro z
    cases z with
    | sh z => exact ⟨_, hq, k _ _ _ _ _ w (Out.refl S) (.st z) (fun _ _ q => nomatch q)⟩
  · rename_i p c e
    have z := S.sl i _ e
    revert z
    generalize hq : s[i]? = o
    intro z
    cases z with
    | own _ z => exact ⟨_, hq, k _ _ _ _ _ w (Out.refl S) (.sl hq) (fun _ _ q => nomatch q)⟩
  · exact w.elim
@[simp] def wC (d : D) : XW := fun r P _ => P (.st d) r
theorem se_c {e : Expr} {v : V} {d : D} (h : PE X e (tC v)) (rp : ∀ H, Rep (gm X) H v d) : SE X W e (wC d) := by
  refine pe_imp h fun s H Q q => ?_
  obtain ⟨r, Hs, P, PE, S, w, k, _⟩ := q
  exact k _ _ _ _ _ w (Out.refl S) (.st (rp _)) (fun _ _ q => nomatch q)
theorem se_int {i j pos} : SE X W (.Constant (.int i) j pos) (wC (.int i)) := se_c pe_int fun _ => .int _
theorem se_bl {b j pos} : SE X W (.Constant (.bool b) j pos) (wC (.bl b)) := se_c pe_bl fun _ => .bl _
theorem se_non {j pos} : SE X W (.Constant .none j pos) (wC .non) := se_c pe_non fun _ => .non
theorem se_str {x j pos} : SE X W (.Constant (.str x) j pos) (wC (.str x)) := se_c pe_str fun _ => .str _
/-- a module's constant -/
theorem se_gint {x : Str} {i : Int} {t : Tok} {pos : Pos} (hg : Gl X x) (hm : X.mg x = some (.int i t)) (hd : (x == ("__debug__" : Str)) = false := by decide) : SE X W (.Name x pos) (wC (.int i)) := se_c (pe_glob (v := .int i) hg hm ⟨t, rfl⟩ hd) fun _ => .int _
theorem se_gstr {x z : Str} {t : Tok} {pos : Pos} (hg : Gl X x) (hm : X.mg x = some (.str z t)) (hd : (x == ("__debug__" : Str)) = false := by decide) : SE X W (.Name x pos) (wC (.str z)) := se_c (pe_glob (v := .str z) hg hm ⟨t, rfl⟩ hd) fun _ => .str _

/-! ### what an operation gives -/
inductive LR where
  | val (d : D) | new (c : Cell)
abbrev Go0 (Hs H Hs' H' : Hp) : Prop := Go (fun _ => False) (fun _ => False) Hs H Hs' H'
inductive Ret (G : Gm) (Hs H : Hp) : V → LR → Hp → Hp → Prop
  | val {v d Hs' H'} : Go0 Hs H Hs' H' → Ex Hs' H' → Rep G Hs' v d → Ret G Hs H v (.val d) Hs' H'
  | new {p c Hs' H'} : Go0 Hs H Hs' H' → Ex Hs' H' → H p = none → Hs' p = none → CellAt G Hs' H' p c → Ret G Hs H (.ref p) (.new c) Hs' H'
theorem Go0.refl {Hs H : Hp} : Go0 Hs H Hs H := Go.refl
theorem ret0 {G : Gm} {Hs H : Hp} {v : V} {d : D} (e : Ex Hs H) (h : Rep G Hs v d) : Ret G Hs H v (.val d) Hs H := .val Go0.refl e h
theorem Go0.new {Hs H : Hp} {p : Addr} {o : HO} (e : Ex Hs H) (h : H p = none) : Go0 Hs H Hs (upd H p o) :=
  ⟨Ex.refl _, fun a u q _ => by rw [upd_ne (ne_of_none q h)]; exact q, fun a u _ q _ => q, fun _ q => q.elim, fun a q => by
    by_cases e : a = p
    · subst e; exact h
    · rwa [upd_ne e] at q⟩
theorem Go0.new2 {Hs H : Hp} {p : Addr} {o : HO} (e : Ex Hs H) (h : H p = none) : Go0 Hs H (upd Hs p o) (upd H p o) := by
  have hs : Hs p = none := Evl.fresh_back e h
  exact ⟨Ex.new hs, fun a u q _ => by rw [upd_ne (ne_of_none q h)]; exact q, fun a u q1 q _ => by rw [upd_ne (ne_of_none q1 h)]; exact q, fun _ q => q.elim, fun a q => by
    by_cases e : a = p
    · subst e; exact h
    · rwa [upd_ne e] at q⟩
theorem ex_new2 {Hs H : Hp} {p : Addr} {o : HO} (e : Ex Hs H) : Ex (upd Hs p o) (upd H p o) := fun a u q => by
  by_cases h : a = p
  · subst h; rw [upd_same] at q ⊢; exact q
  · rw [upd_ne h] at q ⊢; exact e a u q
theorem ex_new1 {Hs H : Hp} {p : Addr} {o : HO} (e : Ex Hs H) (h : H p = none) : Ex Hs (upd H p o) := e.trans (Ex.new h)
/-- a new list -/
theorem retL {G : Gm} {Hs H : Hp} {p : Addr} {vs : List V} {ds : List D} (e : Ex Hs H) (h : H p = none) (rp : Reps G Hs vs ds) : Ret G Hs H (.ref p) (.new (.lst ds)) Hs (upd H p (.lst vs)) :=
  .new (Go0.new e h) (ex_new1 e h) h (Evl.fresh_back e h) (.lst upd_same rp)
theorem retK {G : Gm} {Hs H : Hp} {p : Addr} {vs : List (Key × V)} {ds : List (Key × D)} (e : Ex Hs H) (h : H p = none) (rp : RepK G Hs vs ds) : Ret G Hs H (.ref p) (.new (.dic ds)) Hs (upd H p (.dK vs)) :=
  .new (Go0.new e h) (ex_new1 e h) h (Evl.fresh_back e h) (.dic upd_same rp)
/-- a new tuple, kept -/
theorem retT {G : Gm} {Hs H : Hp} {p : Addr} {vs : List V} {ds : List D} (e : Ex Hs H) (h : H p = none) (rp : Reps G Hs vs ds) : Ret G Hs H (.ref p) (.val (.tup ds)) (upd Hs p (.tup vs)) (upd H p (.tup vs)) :=
  .val (Go0.new2 e h) (ex_new2 e) (.tup (Evl.st_of upd_same) (rp.mono (Ex.new (Evl.fresh_back e h))))
@[simp] def LR.out (P : Late → Rho → Prop) (r : Rho) : LR → Prop
  | .val d => P (.st d) r
  | .new c => ∀ p, P (.nw p c) r
section
variable {G : Gm} {r : Rho} {s : St} {Hs H Hs' H' : Hp} {v : V}
theorem StOk.go0 (S : StOk G r s Hs H) (g : Go0 Hs H Hs' H') (e : Ex Hs' H') : StOk G r s Hs' H' := by
  refine ⟨S.len, e, fun i x q => ?_, S.nd⟩
  have z := S.sl i x q
  revert z
  generalize s[i]? = w
  intro z
  cases z with
  | no => exact .no
  | sh h => exact .sh (h.mono g.ss)
  | own h1 h2 =>
    obtain ⟨o, ho⟩ := h2.isv
    exact .own (g.fr _ o ho h1 fun q => q) (h2.go g.ss fun o q => g.kp _ o q fun q => q)
theorem Go0.any (g : Go0 Hs H Hs' H') {O : Addr → Prop} : Go O O Hs H Hs' H' := ⟨g.ss, fun a o h _ => g.kp a o h fun q => q, fun a o h q _ => g.fr a o h q fun q => q, fun _ q => .inl q, g.th⟩
theorem StOk.notOwn (S : StOk G r s Hs H) {p : Addr} (h : H p = none) : ¬ Own r p := fun ⟨i, c, q⟩ => by
  have z := S.sl i _ q
  revert z
  generalize s[i]? = w
  intro z
  cases z with
  | own _ z =>
    obtain ⟨o, ho⟩ := z.isv
    rw [h] at ho; cases ho
/-- an operation's result handed on -/
theorem Ret.out {l : LR} {P : Late → Rho → Prop} {Q : VK} (h : Ret G Hs H v l Hs' H') (S : StOk G r s Hs H) (p : l.out P r)
    (k : ∀ l r' v Hs' H', P l r' → Out G r s Hs H r' Hs' H' → LateOk G r' s Hs' H' v l → NewAt H l → Q v H') : Q v H' := by
  cases h with
  | val g e h => exact k _ _ _ _ _ p ⟨S.go0 g e, g.any⟩ (.st h) (fun _ _ q => nomatch q)
  | new g e n1 n2 h => exact k _ _ _ _ _ (p _) ⟨S.go0 g e, g.any⟩ (.nw n2 h (S.notOwn n1)) (fun _ _ q => by cases q; exact n1)
end

/-! ### reading a late value -/
@[simp] def withD (r : Rho) (l : Late) (k : D → Prop) : Prop := match res r l with
  | some d => k d
  | none => False
@[simp] def withF (r : Rho) (l : Late) (k : D → Rho → Prop) : Prop := match frz r l with
  | some (d, r') => k d r'
  | none => False
theorem withD_iff {r : Rho} {l : Late} {k : D → Prop} (h : withD r l k) : ∃ d, res r l = some d ∧ k d := by
  unfold withD at h
  split at h
  · exact ⟨_, by assumption, h⟩
  · exact h.elim
theorem withF_iff {r : Rho} {l : Late} {k : D → Rho → Prop} (h : withF r l k) : ∃ d r', frz r l = some (d, r') ∧ k d r' := by
  unfold withF at h
  split at h
  · exact ⟨_, _, by assumption, h⟩
  · exact h.elim

/-! ### operators -/
abbrev G2 := D → D → (LR → Prop) → Prop
/-- the operation f is told by g -/
def OpOk (X : Cx) (rr : R2) (g : G2) : Prop := ∀ (x y : V) (dx dy : D) (Hs H : Hp) (P : LR → Prop) (Q : VK), Ex Hs H → RepB (gm X) Hs H x dx → RepB (gm X) Hs H y dy → g dx dy P →
    (∀ l v Hs' H', P l → Ret (gm X) Hs H v l Hs' H' → Q v H') → rr x y H Q
@[simp] def w2 (g : G2) (wa wb : XW) : XW := fun r P PE => wa r (fun la r1 => wb r1 (fun lb r2 => withD r2 la fun dx => withD r2 lb fun dy => g dx dy fun l => l.out P r2) PE) PE
theorem t_w2 {rr : R2} {g : G2} {wa wb : XW} (ho : OpOk X rr g) {s : St} {H : Hp} {Q : VK} (q : tW (gm X) W (w2 g wa wb) s H Q) : tOp rr (tW (gm X) W wa) (tW (gm X) W wb) s H Q := by
  obtain ⟨r, Hs, P, PE, S, w, k, ke⟩ := q
  refine ⟨r, Hs, _, PE, S, w, fun la r1 x Hs1 H1 p1 o1 l1 n1 => ?_, ke⟩
  refine ⟨r1, Hs1, _, PE, o1.S, p1, fun lb r2 y Hs2 H2 p2 o2 l2 n2 => ?_, ke.mono o1⟩
  obtain ⟨dx, ex, p2⟩ := withD_iff p2
  obtain ⟨dy, ey, p2⟩ := withD_iff p2
  refine ho x y dx dy Hs2 H2 _ _ o2.S.ex ((l1.go o2.g).res o2.S ex) (l2.res o2.S ey) p2 fun l v Hs' H' pl rt => ?_
  refine rt.out o2.S pl fun l' r' v' Hs3 H3 p3 o3 l3 n3 => k l' r' v' Hs3 H3 p3 ((o1.trans o2).trans o3) l3 fun p c e => ?_
  exact (o1.trans o2).g.th p (n3 p c e)
end
end Z

/-! Z3: operators by data. -/
namespace Z
open PySem L2
open Evl (Ex ex_rd ex_l ex_t)

section
variable {G : Gm} {Hs H : Hp} {v : V} {d : D}
theorem RepB.inv (h : RepB G Hs H v d) : Rep G Hs v d ∨ ∃ p c, v = .ref p ∧ d = Cell.toD c ∧ CellAt G Hs H p c := by
  cases h with
  | st h => exact .inl h
  | own h => exact .inr ⟨_, _, rfl, rfl, h⟩
theorem RepB.intv {i : Int} (h : RepB G Hs H v (.int i)) : v = .int i := by
  rcases h.inv with h | ⟨p, c, _, e, _⟩
  · cases h; rfl
  · cases c <;> cases e
theorem RepB.blv {i : Bool} (h : RepB G Hs H v (.bl i)) : v = .bl i := by
  rcases h.inv with h | ⟨p, c, _, e, _⟩
  · cases h; rfl
  · cases c <;> cases e
theorem RepB.strv {i : Str} (h : RepB G Hs H v (.str i)) : v = .str i := by
  rcases h.inv with h | ⟨p, c, _, e, _⟩
  · cases h; rfl
  · cases c <;> cases e
theorem RepB.nonv (h : RepB G Hs H v .non) : v = .non := by
  rcases h.inv with h | ⟨p, c, _, e, _⟩
  · cases h; rfl
  · cases c <;> cases e
theorem RepB.lstv {ds : List D} (h : RepB G Hs H v (.lst ds)) (e : Ex Hs H) : ∃ p vs, v = .ref p ∧ H p = some (.lst vs) ∧ Reps G Hs vs ds := by
  rcases h.inv with z | ⟨p, c, rfl, q, z⟩
  · cases z with
    | lst y1 r => exact ⟨_, _, rfl, e _ _ y1, r⟩
  · cases z with
    | lst y1 r => cases q; exact ⟨_, _, rfl, y1, r⟩
    | dic _ _ => cases q
    | ins _ _ _ => cases q
theorem RepB.tupv {ds : List D} (h : RepB G Hs H v (.tup ds)) (e : Ex Hs H) : ∃ p vs, v = .ref p ∧ SqT G.K H p vs ∧ Reps G Hs vs ds ∧ Rep G Hs v (.tup ds) := by
  rcases h.inv with z | ⟨p, c, rfl, q, z⟩
  · have h' := z
    cases z with
    | tup y1 r => exact ⟨_, _, rfl, ex_t e y1, r, h'⟩
  · cases c <;> cases q
theorem RepB.dicv {ds : List (Key × D)} (h : RepB G Hs H v (.dic ds)) (e : Ex Hs H) : ∃ p vs, v = .ref p ∧ H p = some (.dK vs) ∧ RepK G Hs vs ds := by
  rcases h.inv with z | ⟨p, c, rfl, q, z⟩
  · cases z with
    | dic y1 r => exact ⟨_, _, rfl, e _ _ y1, r⟩
  · cases z with
    | dic y1 r => cases q; exact ⟨_, _, rfl, y1, r⟩
    | lst _ _ => cases q
    | ins _ _ _ => cases q
theorem RepB.insv {c : Str} {ds : List (Str × D)} (h : RepB G Hs H v (.ins c ds)) (e : Ex Hs H) : ∃ p C dx vs, v = .ref p ∧ H p = some (.ins C dx vs) ∧ G.mg c = some (.ref C) ∧ RepF G Hs vs ds := by
  rcases h.inv with z | ⟨p, c', rfl, q, z⟩
  · cases z with
    | ins y1 hc r => exact ⟨_, _, _, _, rfl, e _ _ y1, hc, r⟩
  · cases z with
    | ins y1 hc r => cases q; exact ⟨_, _, _, _, rfl, y1, hc, r⟩
    | lst _ _ => cases q
    | dic _ _ => cases q
/-- a list that is read -/
def seqL : D → Option (List D)
  | .lst xs => some xs
  | .rol xs => some xs
  | _ => none
theorem RepB.seqLv {ds : List D} (h : RepB G Hs H v d) (q : seqL d = some ds) (e : Ex Hs H) : ∃ p vs, v = .ref p ∧ SqL G.K H p vs ∧ Reps G Hs vs ds := by
  cases d with
  | lst xs =>
    cases q
    obtain ⟨p, vs, h1, h2, h3⟩ := h.lstv e
    exact ⟨p, vs, h1, Evl.sq_of h2, h3⟩
  | rol xs =>
    cases q
    rcases h.inv with z | ⟨p, c, rfl, q, z⟩
    · cases z with
      | rol y1 r => exact ⟨_, _, rfl, ex_l e y1, r⟩
    · cases c <;> cases q
  | _ => cases q
end

def OpG (X : Cx) (f : Value → Value → Sem Value) (g : G2) : Prop := ∃ rr, OpR X f rr ∧ OpOk X rr g
section
variable {X : Cx} {W : WX} {a b : Expr} {wa wb : XW} {pos : Pos}
theorem se_bin {op : Operator} {g : G2} (ho : OpG X (binaryOp op) g) (ha : SE X W a wa) (hb : SE X W b wb) : SE X W (.BinOp a op b pos) (w2 g wa wb) := by
  obtain ⟨rr, h1, h2⟩ := ho
  exact pe_imp (pe_op h1 ha hb) fun s H Q q => t_w2 h2 q
theorem se_cmp {op : CmpOp} {g : G2} (ho : OpG X (compareOp op) g) (ha : SE X W a wa) (hb : SE X W b wb) (hm : behindInMarks op b = false := by first | exact nomark _ | rfl) : SE X W (.Compare a [op] [b] pos) (w2 g wa wb) := by
  obtain ⟨rr, h1, h2⟩ := ho
  exact pe_imp (pe_cmpR h1 ha hb hm) fun s H Q q => t_w2 h2 q

/-! ### + -/
def gAdd : G2
  | .int i, .int j, P => P (.val (.int (i + j)))
  | .str x, .str y, P => x.length + y.length ≤ sizeLine ∧ P (.val (.str (x ++ y)))
  | .lst xs, .lst ys, P => xs.length + ys.length ≤ sizeLine ∧ P (.new (.lst (xs ++ ys)))
  | .tup xs, .tup ys, P => xs.length + ys.length ≤ sizeLine ∧ P (.val (.tup (xs ++ ys)))
  | _, _, _ => False
theorem og_add : OpG X (binaryOp .Add) gAdd := by
  refine ⟨_, OpR.or (OpR.or op_add op_add_str) (OpR.or op_cat op_catA), fun x y dx dy Hs H P Q e rx ry q k => ?_⟩
  cases dx <;> cases dy <;> simp only [gAdd] at q
  · obtain rfl := rx.intv; obtain rfl := ry.intv
    exact .inl (.inl ⟨_, _, rfl, rfl, k _ _ _ _ q (ret0 e (.int _))⟩)
  · obtain rfl := rx.strv; obtain rfl := ry.strv
    exact .inl (.inr ⟨_, _, rfl, rfl, q.1, k _ _ _ _ q.2 (ret0 e (.str _))⟩)
  · obtain ⟨p, vs, rfl, hp, r1, rp⟩ := rx.tupv e
    obtain ⟨p', ws, rfl, hp', r2, rp'⟩ := ry.tupv e
    refine .inr (.inr ⟨p, p', vs, ws, rfl, rfl, hp, hp', by rw [r1.length, r2.length]; exact q.1, fun h => ?_, fun h h' => ?_, fun h h' l hl => k _ _ _ _ q.2 (retT e hl (r1.append r2))⟩)
    · subst h; cases r1; exact k _ _ _ _ q.2 (ret0 e (by simpa using rp'))
    · subst h'; cases r2; exact k _ _ _ _ q.2 (ret0 e (by simpa using rp))
  · obtain ⟨p, vs, rfl, hp, r1⟩ := rx.lstv e
    obtain ⟨p', ws, rfl, hp', r2⟩ := ry.lstv e
    exact .inr (.inl ⟨p, p', vs, ws, rfl, rfl, hp, hp', by rw [r1.length, r2.length]; exact q.1, fun l hl => k _ _ _ _ q.2 (retL e hl (r1.append r2))⟩)
/-! ### - -/
def gSub : G2
  | .int i, .int j, P => P (.val (.int (i - j)))
  | _, _, _ => False
theorem og_sub : OpG X (binaryOp .Sub) gSub := by
  refine ⟨_, op_sub, fun x y dx dy Hs H P Q e rx ry q k => ?_⟩
  cases dx <;> cases dy <;> simp only [gSub] at q
  obtain rfl := rx.intv; obtain rfl := ry.intv
  exact ⟨_, _, rfl, rfl, k _ _ _ _ q (ret0 e (.int _))⟩
/-! ### *: ints (one within 2^64, or wide), list * int -/
def gMul : G2
  | .int i, .int j, P => (CMul i j ∨ CMulW i j) ∧ P (.val (.int (i * j)))
  | .lst xs, .int n, P => -(2 ^ 63) ≤ n ∧ n < 2 ^ 63 ∧ xs.length * n.toNat ≤ sizeLine ∧ P (.new (.lst (List.replicate n.toNat xs).flatten))
  | _, _, _ => False
theorem reps_rep {G : Gm} {H : Hp} {vs : List V} {ds : List D} (r : Reps G H vs ds) : ∀ n : Nat, Reps G H (List.replicate n vs).flatten (List.replicate n ds).flatten
  | 0 => .nil
  | n + 1 => by
    rw [List.replicate_succ, List.replicate_succ, List.flatten_cons, List.flatten_cons]
    exact r.append (reps_rep r n)
theorem og_mul : OpG X (binaryOp .Mult) gMul := by
  refine ⟨_, OpR.or (OpR.or op_mul op_mulW) op_rep, fun x y dx dy Hs H P Q e rx ry q k => ?_⟩
  cases dx <;> cases dy <;> simp only [gMul] at q
  · obtain rfl := rx.intv; obtain rfl := ry.intv
    rcases q.1 with c | c
    · exact .inl (.inl ⟨_, _, rfl, rfl, c, k _ _ _ _ q.2 (ret0 e (.int _))⟩)
    · exact .inl (.inr ⟨_, _, rfl, rfl, c, k _ _ _ _ q.2 (ret0 e (.int _))⟩)
  · obtain ⟨p, vs, rfl, hp, r1⟩ := rx.lstv e
    obtain rfl := ry.intv
    exact .inr ⟨p, _, vs, rfl, rfl, hp, q.1, q.2.1, by rw [r1.length]; exact q.2.2.1, fun l hl => k _ _ _ _ q.2.2.2 (retL e hl (reps_rep r1 _))⟩
/-! ### // and % by a positive divisor below 2^9000 | any % -/
def gDiv : G2
  | .int i, .int j, P => CDivW i j ∧ P (.val (.int (i / j)))
  | _, _, _ => False
theorem og_div : OpG X (binaryOp .FloorDiv) gDiv := by
  refine ⟨_, op_fdivW, fun x y dx dy Hs H P Q e rx ry q k => ?_⟩
  cases dx <;> cases dy <;> simp only [gDiv] at q
  obtain rfl := rx.intv; obtain rfl := ry.intv
  exact ⟨_, _, rfl, rfl, q.1, k _ _ _ _ q.2 (ret0 e (.int _))⟩
def gMod : G2
  | .int i, .int j, P => 0 < j ∧ P (.val (.int (i % j)))
  | _, _, _ => False
theorem og_mod : OpG X (binaryOp .Mod) gMod := by
  refine ⟨_, op_mod, fun x y dx dy Hs H P Q e rx ry q k => ?_⟩
  cases dx <;> cases dy <;> simp only [gMod] at q
  obtain rfl := rx.intv; obtain rfl := ry.intv
  exact ⟨_, _, rfl, rfl, q.1, k _ _ _ _ q.2 (ret0 e (.int _))⟩
def CPowB (i j : Int) : Prop := 0 ≤ j ∧ (Builtin.Int.intBits i : Int) * j ≤ 2 ^ 27
theorem op_powB : OpR X (binaryOp .Pow) (rI CPowB fun i j => .int (i ^ j.toNat)) := opI fun _ _ _ _ _ _ _ hc q => PyProof.Rows.pow_int hc.1 hc.2 q
def gPow : G2
  | .int i, .int j, P => CPowB i j ∧ P (.val (.int (i ^ j.toNat)))
  | _, _, _ => False
theorem og_pow : OpG X (binaryOp .Pow) gPow := by
  refine ⟨_, op_powB, fun x y dx dy Hs H P Q e rx ry q k => ?_⟩
  cases dx <;> cases dy <;> simp only [gPow] at q
  obtain rfl := rx.intv; obtain rfl := ry.intv
  exact ⟨_, _, rfl, rfl, q.1, k _ _ _ _ q.2 (ret0 e (.int _))⟩

/-! ### comparisons of ints and texts -/
def gLt : G2
  | .int i, .int j, P => P (.val (.bl (decide (i < j))))
  | .str i, .str j, P => P (.val (.bl (decide (i.cps.toList < j.cps.toList))))
  | _, _, _ => False
theorem og_lt : OpG X (compareOp .Lt) gLt := by
  refine ⟨_, OpR.or op_lt op_lt_str, fun x y dx dy Hs H P Q e rx ry q k => ?_⟩
  cases dx <;> cases dy <;> simp only [gLt] at q
  · obtain rfl := rx.intv; obtain rfl := ry.intv
    exact .inl ⟨_, _, rfl, rfl, k _ _ _ _ q (ret0 e (.bl _))⟩
  · obtain rfl := rx.strv; obtain rfl := ry.strv
    exact .inr ⟨_, _, rfl, rfl, k _ _ _ _ q (ret0 e (.bl _))⟩
def gLe : G2
  | .int i, .int j, P => P (.val (.bl (decide (i ≤ j))))
  | _, _, _ => False
theorem og_le : OpG X (compareOp .LtE) gLe := by
  refine ⟨_, op_le, fun x y dx dy Hs H P Q e rx ry q k => ?_⟩
  cases dx <;> cases dy <;> simp only [gLe] at q
  obtain rfl := rx.intv; obtain rfl := ry.intv
  exact ⟨_, _, rfl, rfl, k _ _ _ _ q (ret0 e (.bl _))⟩
def gGt : G2
  | .int i, .int j, P => P (.val (.bl (decide (j < i))))
  | _, _, _ => False
theorem og_gt : OpG X (compareOp .Gt) gGt := by
  refine ⟨_, op_gt, fun x y dx dy Hs H P Q e rx ry q k => ?_⟩
  cases dx <;> cases dy <;> simp only [gGt] at q
  obtain rfl := rx.intv; obtain rfl := ry.intv
  exact ⟨_, _, rfl, rfl, k _ _ _ _ q (ret0 e (.bl _))⟩
def gGe : G2
  | .int i, .int j, P => P (.val (.bl (decide (j ≤ i))))
  | _, _, _ => False
theorem og_ge : OpG X (compareOp .GtE) gGe := by
  refine ⟨_, op_ge, fun x y dx dy Hs H P Q e rx ry q k => ?_⟩
  cases dx <;> cases dy <;> simp only [gGe] at q
  obtain rfl := rx.intv; obtain rfl := ry.intv
  exact ⟨_, _, rfl, rfl, k _ _ _ _ q (ret0 e (.bl _))⟩

/-! ### == and != -/
mutual
def py : D → PyData
  | .non => .none
  | .bl b => .bool b
  | .int i => .int i
  | .str x => .str x
  | .tup xs => .tuple (pys xs)
  | .lst xs => .list (pys xs)
  | .rol xs => .list (pys xs)
  | .dic _ => .dict []
  | .ins _ _ => .dict []
  | .ty _ => .dict []
def pys : List D → List PyData
  | [] => []
  | x :: xs => py x :: pys xs
end
mutual
theorem Rep.dp {G : Gm} {Hs H : Hp} (e : Ex Hs H) : ∀ {v : V} {d : D}, Rep G Hs v d → (py d).canLay0 = true → Dp G.K H v (py d)
  | _, _, .non, _ => .non
  | _, _, .bl b, _ => .bl b
  | _, _, .int i, _ => .int i
  | _, _, .str x, _ => .str x
  | _, _, .tup h r, c => .tup (ex_t e h) (Reps.dp e r (by simpa [py, PyData.canLay0] using c))
  | _, _, .lst h r, c => .lst (Evl.sq_of (e _ _ h)) (Reps.dp e r (by simpa [py, PyData.canLay0] using c))
  | _, _, .rol h r, c => .lst (ex_l e h) (Reps.dp e r (by simpa [py, PyData.canLay0] using c))
  | _, _, .dic h r, c => by simp [py, PyData.canLay0] at c
  | _, _, .ins h q r, c => by simp [py, PyData.canLay0] at c
  | _, _, .ty n, c => by simp [py, PyData.canLay0] at c
theorem Reps.dp {G : Gm} {Hs H : Hp} (e : Ex Hs H) : ∀ {v : List V} {d : List D}, Reps G Hs v d → PyData.canLayAll0 (pys d) = true → DpAll G.K H v (pys d)
  | _, _, .nil, _ => .nil
  | _, _, .cons (d := d) (ds := ds) h r, c => by
    have c' : (py d).canLay0 = true ∧ PyData.canLayAll0 (pys ds) = true := by simpa [pys, PyData.canLayAll0] using c
    exact .cons (Rep.dp e h c'.1) (Reps.dp e r c'.2)
end
theorem RepB.dp {G : Gm} {Hs H : Hp} {v : V} {d : D} (h : RepB G Hs H v d) (e : Ex Hs H) (c : (py d).canLay0 = true) : Dp G.K H v (py d) := by
  rcases h.inv with z | ⟨p, cl, rfl, rfl, z⟩
  · exact z.dp e c
  · cases z with
    | lst y1 r => exact .lst (Evl.sq_of y1) (r.dp e (by simpa [py, PyData.canLay0] using c))
    | dic _ _ => simp [py, PyData.canLay0] at c
    | ins _ _ _ => simp [py, PyData.canLay0] at c
def okEq (d : D) : Bool := SeqAt.shaped (py d)
def eqD (d e : D) : Bool := PyData.eqv (py d) (py e)
def gEq : G2
  | .int i, .int j, P => P (.val (.bl (decide (i = j))))
  | d, e, P => okEq d = true ∧ okEq e = true ∧ P (.val (.bl (eqD d e)))
def gNe : G2
  | .int i, .int j, P => P (.val (.bl (!decide (i = j))))
  | d, e, P => okEq d = true ∧ okEq e = true ∧ P (.val (.bl (!eqD d e)))
theorem okEq_int (i : Int) : okEq (.int i) = true := by simp [okEq, py, SeqAt.shaped, PyData.canLay0, PyData.depth]
theorem eqD_int (i j : Int) : eqD (.int i) (.int j) = decide (i = j) := by
  show (i == j) = decide (i = j)
  by_cases h : i = j <;> simp [h]
theorem gEq_gen {d e : D} {P : LR → Prop} (h : gEq d e P) : okEq d = true ∧ okEq e = true ∧ P (.val (.bl (eqD d e))) := by
  unfold gEq at h
  split at h
  · exact ⟨okEq_int _, okEq_int _, by rw [eqD_int]; exact h⟩
  · exact h
theorem gNe_gen {d e : D} {P : LR → Prop} (h : gNe d e P) : okEq d = true ∧ okEq e = true ∧ P (.val (.bl (!eqD d e))) := by
  unfold gNe at h
  split at h
  · exact ⟨okEq_int _, okEq_int _, by rw [eqD_int]; exact h⟩
  · exact h
theorem og_eq (hu : X.A.units + 64 < cLine) : OpG X (compareOp .Eq) gEq := by
  refine ⟨_, op_eqD hu, fun x y dx dy Hs H P Q e rx ry q k => ?_⟩
  obtain ⟨h1, h2, q⟩ := gEq_gen q
  exact ⟨py dx, py dy, rx.dp e (SeqAt.canLay_of_shaped h1), ry.dp e (SeqAt.canLay_of_shaped h2), h1, h2, k _ _ _ _ q (ret0 e (.bl _))⟩
theorem og_ne (hu : X.A.units + 64 < cLine) : OpG X (compareOp .NotEq) gNe := by
  refine ⟨_, op_neD hu, fun x y dx dy Hs H P Q e rx ry q k => ?_⟩
  obtain ⟨h1, h2, q⟩ := gNe_gen q
  exact ⟨py dx, py dy, rx.dp e (SeqAt.canLay_of_shaped h1), ry.dp e (SeqAt.canLay_of_shaped h2), h1, h2, k _ _ _ _ q (ret0 e (.bl _))⟩
/-! ### is None, is True .. -/
def gIs : G2
  | .bl a, .bl b, P => P (.val (.bl (decide (a = b))))
  | .non, .non, P => P (.val (.bl true))
  | .bl _, .non, P => P (.val (.bl false))
  | .int _, .non, P => P (.val (.bl false))
  | .str _, .non, P => P (.val (.bl false))
  | .tup _, .non, P => P (.val (.bl false))
  | .lst _, .non, P => P (.val (.bl false))
  | .rol _, .non, P => P (.val (.bl false))
  | .dic _, .non, P => P (.val (.bl false))
  | .ins _ _, .non, P => P (.val (.bl false))
  | _, _, _ => False
theorem RepB.isnon {G : Gm} {Hs H : Hp} {v : V} {d : D} (h : RepB G Hs H v d) (n : d ≠ .non) : decide (v = .non) = false := by
  refine decide_eq_false fun e => ?_
  subst e
  rcases h.inv with h | ⟨p, c, q, _, _⟩
  · cases h; exact n rfl
  · cases q
theorem og_is : OpG X (compareOp .Is) gIs := by
  refine ⟨_, OpR.or op_isN op_is_bl, fun x y dx dy Hs H P Q e rx ry q k => ?_⟩
  cases dx <;> cases dy <;> simp only [gIs] at q <;> first
    | (obtain rfl := ry.nonv; exact .inl ⟨rfl, by rw [rx.isnon (by simp)]; exact k _ _ _ _ q (ret0 e (.bl _))⟩)
    | (obtain rfl := ry.nonv; obtain rfl := rx.nonv; exact .inl ⟨rfl, k _ _ _ _ q (ret0 e (.bl _))⟩)
    | (obtain rfl := rx.blv; obtain rfl := ry.blv; exact .inr ⟨_, _, rfl, rfl, k _ _ _ _ q (ret0 e (.bl _))⟩)
def gIsN : G2 := fun x y P => gIs x y fun l => match l with
  | .val (.bl b) => P (.val (.bl !b))
  | _ => False
theorem og_isnot : OpG X (compareOp .IsNot) gIsN := by
  refine ⟨_, OpR.or op_notN op_isnot_bl, fun x y dx dy Hs H P Q e rx ry q k => ?_⟩
  cases dx <;> cases dy <;> simp only [gIs, gIsN] at q <;> first
    | (obtain rfl := ry.nonv; exact .inl ⟨rfl, by rw [rx.isnon (by simp)]; exact k _ _ _ _ q (ret0 e (.bl _))⟩)
    | (obtain rfl := ry.nonv; obtain rfl := rx.nonv; exact .inl ⟨rfl, k _ _ _ _ q (ret0 e (.bl _))⟩)
    | (obtain rfl := rx.blv; obtain rfl := ry.blv; exact .inr ⟨_, _, rfl, rfl, k _ _ _ _ q (ret0 e (.bl _))⟩)
end
end Z

/-! Z4: tests, and / or / not, chains, if-expressions, argument lists, displays, subscripts, slices, calls of built-ins. -/
namespace Z
open PySem L2
open Evl (Ex ex_rd ex_l ex_t)

abbrev TWt := Rho → (Bool → Rho → Prop) → (Exc → Rho → Prop) → Prop
def tWT (G : Gm) (W : WX) (w : TWt) : TT := fun s H Q => ∃ (r : Rho) (Hs : Hp) (P : Bool → Rho → Prop) (PE : Exc → Rho → Prop), StOk G r s Hs H ∧ w r P PE ∧
  (∀ b r' Hs' H', P b r' → Out G r s Hs H r' Hs' H' → Q b H') ∧ EXC G W PE r s Hs H
def ST (X : Cx) (W : WX) (e : Expr) (w : TWt) : Prop := PT X e (tWT (gm X) W w)
def SW (X : Cx) (W : WX) (e : Expr) (w : TWt) : Prop := PW X e (tWT (gm X) W w)
theorem pt_imp {X : Cx} {e : Expr} {t t' : TT} (h : PT X e t) (i : ∀ s H Q, t' s H Q → t s H Q) : PT X e t' := ⟨fun pins s σ H Q I q => h.run pins s σ H Q I (i σ H Q q)⟩
theorem pw_imp {X : Cx} {e : Expr} {t t' : TT} (h : PW X e t) (i : ∀ s H Q, t' s H Q → t s H Q) : PW X e t' := ⟨fun wh pins s σ H Q I q => h.run wh pins s σ H Q I (i σ H Q q)⟩
abbrev TAw := Rho → (List Late → Rho → Prop) → (Exc → Rho → Prop) → Prop
def tWA (G : Gm) (W : WX) (w : TAw) : TA := fun s H Q => ∃ (r : Rho) (Hs : Hp) (P : List Late → Rho → Prop) (PE : Exc → Rho → Prop), StOk G r s Hs H ∧ w r P PE ∧
  (∀ ls r' vs Hs' H', P ls r' → Out G r s Hs H r' Hs' H' → LatesOk G r' s Hs' H' vs ls → (∀ l ∈ ls, NewAt H l) → Q vs H') ∧ EXC G W PE r s Hs H
def SA (X : Cx) (W : WX) (es : List Expr) (w : TAw) : Prop := PA X es (tWA (gm X) W w)
theorem pa_imp {X : Cx} {es : List Expr} {t t' : TA} (h : PA X es t) (i : ∀ s H Q, t' s H Q → t s H Q) : PA X es t' := ⟨fun pos pins s σ H Q I q => h.run pos pins s σ H Q I (i σ H Q q)⟩

section
variable {X : Cx} {W : WX} {a b c e : Expr} {es : List Expr} {wa wb wc w : XW} {tw tu : TWt} {pos : Pos}
theorem SW.st (h : SW X W e tw) : ST X W e tw := PW.pt h
/-- truth of data -/
def truD : D → (Bool → Prop) → Prop
  | .non, P => P false
  | .bl b, P => P b
  | .int i, P => P (i != 0)
  | .str y, P => y.length ≤ sizeLine ∧ P ((y.length : Int) != 0)
  | .tup xs, P => P (!xs.isEmpty)
  | .lst xs, P => P (!xs.isEmpty)
  | .rol xs, P => P (!xs.isEmpty)
  | .dic xs, P => P (!xs.isEmpty)
  | .ins _ _, P => False
  | .ty _, P => False
theorem emp_reps {G : Gm} {H : Hp} {vs : List V} {ds : List D} (r : Reps G H vs ds) : vs.isEmpty = ds.isEmpty := by cases r <;> rfl
theorem emp_repK {G : Gm} {H : Hp} {vs : List (Key × V)} {ds : List (Key × D)} (r : RepK G H vs ds) : vs.isEmpty = ds.isEmpty := by cases r <;> rfl
theorem tru_of {G : Gm} {Hs H : Hp} {v : V} {d : D} {P : Bool → Prop} (h : RepB G Hs H v d) (e : Ex Hs H) (q : truD d P) : ∃ k, TruV G.K v H k ∧ P k := by
  cases d <;> simp only [truD] at q
  · obtain rfl := h.nonv; exact ⟨_, rfl, q⟩
  · obtain rfl := h.blv; exact ⟨_, rfl, q⟩
  · obtain rfl := h.intv; exact ⟨_, rfl, q⟩
  · obtain rfl := h.strv; exact ⟨_, ⟨q.1, rfl⟩, q.2⟩
  · obtain ⟨p, vs, rfl, h1, h2, _⟩ := h.tupv e
    exact ⟨_, .inr (.inl ⟨_, h1, rfl⟩), by rw [emp_reps h2]; exact q⟩
  · obtain ⟨p, vs, rfl, h1, h2⟩ := h.lstv e
    exact ⟨_, .inl ⟨_, Evl.sq_of h1, rfl⟩, by rw [emp_reps h2]; exact q⟩
  · obtain ⟨p, vs, rfl, h1, h2⟩ := h.seqLv (ds := _) rfl e
    exact ⟨_, .inl ⟨_, h1, rfl⟩, by rw [emp_reps h2]; exact q⟩
  · obtain ⟨p, vs, rfl, h1, h2⟩ := h.dicv e
    exact ⟨_, .inr (.inr ⟨_, h1, rfl⟩), by rw [emp_repK h2]; exact q⟩
@[simp] def tVal (w : XW) : TWt := fun r P PE => w r (fun l r1 => withD r1 l fun d => truD d fun b => P b r1) PE
theorem st_val (h : SE X W e w) (he : ∀ whole, isTrue e X.env whole = (do let v ← whole; standAt e.pos; holding [v] (truthy v)) := by intro _; rfl) : ST X W e (tVal w) := by
  refine pt_imp (pt_truth h he) fun s H Q q => ?_
  obtain ⟨r, Hs, P, PE, S, w, k, ke⟩ := q
  refine ⟨r, Hs, _, PE, S, w, fun l r1 v Hs1 H1 p o lo n => ?_, ke⟩
  obtain ⟨d, ed, p⟩ := withD_iff p
  obtain ⟨b, tb, p⟩ := tru_of (lo.res o.S ed) o.S.ex p
  exact ⟨b, tb, k _ _ _ _ p o⟩
/-- the value is a bool -/
def isBl : LR → (Bool → Prop) → Prop
  | .val (.bl b), P => P b
  | _, _ => False
@[simp] def tw2 (g : G2) (wa wb : XW) : TWt := fun r P PE => wa r (fun la r1 => wb r1 (fun lb r2 => withD r2 la fun dx => withD r2 lb fun dy => g dx dy fun l => isBl l fun b => P b r2) PE) PE
theorem ret_bl {G : Gm} {Hs H : Hp} {v : V} {l : LR} {Hs' H' : Hp} {P : Bool → Prop} (h : Ret G Hs H v l Hs' H') (q : isBl l P) : ∃ b, v = .bl b ∧ P b ∧ Go0 Hs H Hs' H' ∧ Ex Hs' H' := by
  cases h with
  | val g e r =>
    rename_i d
    cases d <;> simp only [isBl] at q
    cases r
    exact ⟨_, rfl, q, g, e⟩
  | new => simp only [isBl] at q
theorem st_cmp {op : CmpOp} {g : G2} (ho : OpG X (compareOp op) g) (ha : SE X W a wa) (hb : SE X W b wb) (hm : behindInMarks op b = false := by first | exact nomark _ | rfl) : ST X W (.Compare a [op] [b] pos) (tw2 g wa wb) := by
  obtain ⟨rr, h1, h2⟩ := ho
  refine pt_imp (pt_cmpR h1 ha hb hm) fun s H Q q => ?_
  obtain ⟨r, Hs, P, PE, S, w, k, ke⟩ := q
  refine ⟨r, Hs, _, PE, S, w, fun la r1 x Hs1 H1 p1 o1 l1 n1 => ?_, ke⟩
  refine ⟨r1, Hs1, _, PE, o1.S, p1, fun lb r2 y Hs2 H2 p2 o2 l2 n2 => ?_, ke.mono o1⟩
  obtain ⟨dx, ex, p2⟩ := withD_iff p2
  obtain ⟨dy, ey, p2⟩ := withD_iff p2
  refine h2 x y dx dy Hs2 H2 _ _ o2.S.ex ((l1.go o2.g).res o2.S ex) (l2.res o2.S ey) p2 fun l v Hs' H' pl rt => ?_
  obtain ⟨b, rfl, p, g, e⟩ := ret_bl rt pl
  exact ⟨b, rfl, k _ _ _ _ p (o1.trans (o2.trans ⟨o2.S.go0 g e, g.any⟩))⟩
/-- a < b <= c -/
@[simp] def twCh (g g' : G2) (wa wb wc : XW) : TWt := fun r P PE => wa r (fun la r1 => wb r1 (fun lb r2 => withD r2 la fun dx => withD r2 lb fun dy => g dx dy fun l => isBl l fun k =>
  if k = true then wc r2 (fun lc r3 => withD r3 lb fun dy => withD r3 lc fun dz => g' dy dz fun l => isBl l fun b => P b r3) PE else P false r2) PE) PE
theorem st_chain {op op' : CmpOp} {g g' : G2} (ho : OpG X (compareOp op) g) (ho' : OpG X (compareOp op') g') (ha : SE X W a wa) (hb : SE X W b wb) (hc : SE X W c wc)
    (hm : lastMarks [op, op'] [b, c] = false := by rfl) : ST X W (.Compare a [op, op'] [b, c] pos) (twCh g g' wa wb wc) := by
  obtain ⟨rr, h1, h2⟩ := ho
  obtain ⟨rr', h1', h2'⟩ := ho'
  refine pt_imp (pt_chain h1 h1' ha hb hc hm) fun s H Q q => ?_
  obtain ⟨r, Hs, P, PE, S, w, k, ke⟩ := q
  refine ⟨r, Hs, _, PE, S, w, fun la r1 x Hs1 H1 p1 o1 l1 n1 => ?_, ke⟩
  refine ⟨r1, Hs1, _, PE, o1.S, p1, fun lb r2 y Hs2 H2 p2 o2 l2 n2 => ?_, ke.mono o1⟩
  obtain ⟨dx, ex, p2⟩ := withD_iff p2
  obtain ⟨dy, ey, p2⟩ := withD_iff p2
  refine h2 x y dx dy Hs2 H2 _ _ o2.S.ex ((l1.go o2.g).res o2.S ex) (l2.res o2.S ey) p2 fun l v Hs' H' pl rt => ?_
  obtain ⟨b, rfl, p, g, e⟩ := ret_bl rt pl
  have o3 : Out (gm X) r2 s Hs2 H2 r2 Hs' H' := ⟨o2.S.go0 g e, g.any⟩
  have oo := o1.trans (o2.trans o3)
  refine ⟨b, rfl, ?_⟩
  cases b with
  | true =>
    rw [if_pos rfl] at p
    refine iteT ?_
    refine ⟨r2, Hs', _, PE, o3.S, p, fun lc r3 z Hs3 H3 p3 o4 l3 n3 => ?_, ke.mono oo⟩
    obtain ⟨dy', ey', p3⟩ := withD_iff p3
    obtain ⟨dz, ez, p3⟩ := withD_iff p3
    refine h2' y z dy' dz Hs3 H3 _ _ o4.S.ex (((l2.go o3.g).go o4.g).res o4.S ey') (l3.res o4.S ez) p3 fun l v Hs4 H4 pl rt => ?_
    obtain ⟨b, rfl, p, g, e⟩ := ret_bl rt pl
    exact ⟨b, rfl, k _ _ _ _ p (oo.trans (o4.trans ⟨o4.S.go0 g e, g.any⟩))⟩
  | false =>
    rw [if_neg (by simp)] at p
    exact iteF ⟨false, rfl, k _ _ _ _ p oo⟩
@[simp] def twAnd (t u : TWt) : TWt := fun r P PE => t r (fun k r1 => if k = true then u r1 P PE else P false r1) PE
@[simp] def twOr (t u : TWt) : TWt := fun r P PE => t r (fun k r1 => if k = true then P true r1 else u r1 P PE) PE
@[simp] def twNot (t : TWt) : TWt := fun r P PE => t r (fun k r1 => P (!k) r1) PE
theorem sw_and1 (ha : ST X W a tw) : SW X W (.BoolOp .And [a] pos) tw := pw_and1 ha
theorem sw_or1 (ha : ST X W a tw) : SW X W (.BoolOp .Or [a] pos) tw := pw_or1 ha
theorem sw_and {rest : List Expr} (ha : ST X W a tw) (hb : SW X W (.BoolOp .And (b :: rest) pos) tu) : SW X W (.BoolOp .And (a :: b :: rest) pos) (twAnd tw tu) := by
  refine pw_imp (pw_and ha hb) fun s H Q q => ?_
  obtain ⟨r, Hs, P, PE, S, w, k, ke⟩ := q
  refine ⟨r, Hs, _, PE, S, w, fun b r1 Hs1 H1 p o => ?_, ke⟩
  cases b with
  | true =>
    rw [if_pos rfl] at p
    exact iteT ⟨r1, Hs1, P, PE, o.S, p, fun b r2 Hs2 H2 p o2 => k b r2 Hs2 H2 p (o.trans o2), ke.mono o⟩
  | false =>
    rw [if_neg (by simp)] at p
    exact iteF (k _ _ _ _ p o)
theorem sw_or {rest : List Expr} (ha : ST X W a tw) (hb : SW X W (.BoolOp .Or (b :: rest) pos) tu) : SW X W (.BoolOp .Or (a :: b :: rest) pos) (twOr tw tu) := by
  refine pw_imp (pw_or ha hb) fun s H Q q => ?_
  obtain ⟨r, Hs, P, PE, S, w, k, ke⟩ := q
  refine ⟨r, Hs, _, PE, S, w, fun b r1 Hs1 H1 p o => ?_, ke⟩
  cases b with
  | false =>
    rw [if_neg (by simp)] at p
    exact iteF ⟨r1, Hs1, P, PE, o.S, p, fun b r2 Hs2 H2 p o2 => k b r2 Hs2 H2 p (o.trans o2), ke.mono o⟩
  | true =>
    rw [if_pos rfl] at p
    exact iteT (k _ _ _ _ p o)
theorem st_not (ha : ST X W a tw) : ST X W (.UnaryOp .Not a pos) (twNot tw) := by
  refine pt_imp (pt_not ha) fun s H Q q => ?_
  obtain ⟨r, Hs, P, PE, S, w, k, ke⟩ := q
  exact ⟨r, Hs, _, PE, S, w, fun b r1 Hs1 H1 p o => k _ _ _ _ p o, ke⟩
/-! and, or, not as values: all but the last a bool -/
@[simp] def onBl (r : Rho) (l : Late) (k : Bool → Prop) : Prop := match l with
  | .st (.bl b) => k b
  | _ => False
theorem onBl_iff {G : Gm} {r : Rho} {s : St} {Hs H : Hp} {v : V} {l : Late} {k : Bool → Prop} (h : onBl r l k) (lo : LateOk G r s Hs H v l) : ∃ b, v = .bl b ∧ l = .st (.bl b) ∧ k b := by
  unfold onBl at h
  split at h
  · cases lo with
    | st z => cases z; exact ⟨_, rfl, rfl, h⟩
  · exact h.elim
@[simp] def wAnd (wa wb : XW) : XW := fun r P PE => wa r (fun l r1 => onBl r1 l fun k => if k = true then wb r1 P PE else P (.st (.bl false)) r1) PE
@[simp] def wOr (wa wb : XW) : XW := fun r P PE => wa r (fun l r1 => onBl r1 l fun k => if k = true then P (.st (.bl true)) r1 else wb r1 P PE) PE
@[simp] def wNot (wa : XW) : XW := fun r P PE => wa r (fun l r1 => onBl r1 l fun k => P (.st (.bl !k)) r1) PE
theorem se_one {op} (h : SE X W a wa) : SE X W (.BoolOp op [a] pos) wa := pe_one h
theorem new_th {G : Gm} {r r1 : Rho} {s : St} {Hs H Hs1 H1 : Hp} {l : Late} (o : Out G r s Hs H r1 Hs1 H1) (n : NewAt H1 l) : NewAt H l := fun p c e => o.g.th p (n p c e)
theorem se_and {rest : List Expr} (ha : SE X W a wa) (hb : SE X W (.BoolOp .And (b :: rest) pos) wb) : SE X W (.BoolOp .And (a :: b :: rest) pos) (wAnd wa wb) := by
  refine pe_imp (pe_and ha hb) fun s H Q q => ?_
  obtain ⟨r, Hs, P, PE, S, w, k, ke⟩ := q
  refine ⟨r, Hs, _, PE, S, w, fun l r1 v Hs1 H1 p o lo n => ?_, ke⟩
  obtain ⟨b, rfl, rfl, p'⟩ := onBl_iff p lo
  clear p
  have p := p'
  clear p'
  refine ⟨b, rfl, ?_⟩
  cases b with
  | true =>
    rw [if_pos rfl] at p
    exact iteT ⟨r1, Hs1, P, PE, o.S, p, fun l r2 v Hs2 H2 p o2 l2 n2 => k l r2 v Hs2 H2 p (o.trans o2) l2 (new_th o n2), ke.mono o⟩
  | false =>
    rw [if_neg (by simp)] at p
    exact iteF (k _ _ _ _ _ p o (.st (.bl _)) (fun _ _ q => nomatch q))
theorem se_or {rest : List Expr} (ha : SE X W a wa) (hb : SE X W (.BoolOp .Or (b :: rest) pos) wb) : SE X W (.BoolOp .Or (a :: b :: rest) pos) (wOr wa wb) := by
  refine pe_imp (pe_or ha hb) fun s H Q q => ?_
  obtain ⟨r, Hs, P, PE, S, w, k, ke⟩ := q
  refine ⟨r, Hs, _, PE, S, w, fun l r1 v Hs1 H1 p o lo n => ?_, ke⟩
  obtain ⟨b, rfl, rfl, p'⟩ := onBl_iff p lo
  clear p
  have p := p'
  clear p'
  refine ⟨b, rfl, ?_⟩
  cases b with
  | false =>
    rw [if_neg (by simp)] at p
    exact iteF ⟨r1, Hs1, P, PE, o.S, p, fun l r2 v Hs2 H2 p o2 l2 n2 => k l r2 v Hs2 H2 p (o.trans o2) l2 (new_th o n2), ke.mono o⟩
  | true =>
    rw [if_pos rfl] at p
    exact iteT (k _ _ _ _ _ p o (.st (.bl _)) (fun _ _ q => nomatch q))
theorem se_not (ha : SE X W a wa) : SE X W (.UnaryOp .Not a pos) (wNot wa) := by
  refine pe_imp (pe_not ha) fun s H Q q => ?_
  obtain ⟨r, Hs, P, PE, S, w, k, ke⟩ := q
  refine ⟨r, Hs, _, PE, S, w, fun l r1 v Hs1 H1 p o lo n => ?_, ke⟩
  obtain ⟨b, rfl, rfl, p'⟩ := onBl_iff p lo
  clear p
  have p := p'
  exact ⟨b, rfl, k _ _ _ _ _ p o (.st (.bl _)) (fun _ _ q => nomatch q)⟩
/-- a chain as a value -/
@[simp] def wCh (g g' : G2) (wa wb wc : XW) : XW := fun r P PE => twCh g g' wa wb wc r (fun b r1 => P (.st (.bl b)) r1) PE
theorem se_chain {op op' : CmpOp} {g g' : G2} (ho : OpG X (compareOp op) g) (ho' : OpG X (compareOp op') g') (ha : SE X W a wa) (hb : SE X W b wb) (hc : SE X W c wc)
    (hm : lastMarks [op, op'] [b, c] = false := by rfl) : SE X W (.Compare a [op, op'] [b, c] pos) (wCh g g' wa wb wc) := by
  obtain ⟨rr, h1, h2⟩ := ho
  obtain ⟨rr', h1', h2'⟩ := ho'
  refine pe_imp (pe_chain h1 h1' ha hb hc hm) fun s H Q q => ?_
  obtain ⟨r, Hs, P, PE, S, w, k, ke⟩ := q
  refine ⟨r, Hs, _, PE, S, w, fun la r1 x Hs1 H1 p1 o1 l1 n1 => ?_, ke⟩
  refine ⟨r1, Hs1, _, PE, o1.S, p1, fun lb r2 y Hs2 H2 p2 o2 l2 n2 => ?_, ke.mono o1⟩
  obtain ⟨dx, ex, p2⟩ := withD_iff p2
  obtain ⟨dy, ey, p2⟩ := withD_iff p2
  refine h2 x y dx dy Hs2 H2 _ _ o2.S.ex ((l1.go o2.g).res o2.S ex) (l2.res o2.S ey) p2 fun l v Hs' H' pl rt => ?_
  obtain ⟨b, rfl, p, g, e⟩ := ret_bl rt pl
  have o3 : Out (gm X) r2 s Hs2 H2 r2 Hs' H' := ⟨o2.S.go0 g e, g.any⟩
  have oo := o1.trans (o2.trans o3)
  refine ⟨b, rfl, ?_⟩
  cases b with
  | true =>
    rw [if_pos rfl] at p
    refine iteT ?_
    refine ⟨r2, Hs', _, PE, o3.S, p, fun lc r3 z Hs3 H3 p3 o4 l3 n3 => ?_, ke.mono oo⟩
    obtain ⟨dy', ey', p3⟩ := withD_iff p3
    obtain ⟨dz, ez, p3⟩ := withD_iff p3
    refine h2' y z dy' dz Hs3 H3 _ _ o4.S.ex (((l2.go o3.g).go o4.g).res o4.S ey') (l3.res o4.S ez) p3 fun l v Hs4 H4 pl rt => ?_
    obtain ⟨b, rfl, p, g, e⟩ := ret_bl rt pl
    exact k _ _ _ _ _ p (oo.trans (o4.trans ⟨o4.S.go0 g e, g.any⟩)) (.st (.bl _)) (fun _ _ q => nomatch q)
  | false =>
    rw [if_neg (by simp)] at p
    exact iteF (k _ _ _ _ _ p oo (.st (.bl _)) (fun _ _ q => nomatch q))
/-- a if t else b -/
@[simp] def wIf (t : TWt) (wa wb : XW) : XW := fun r P PE => t r (fun k r1 => if k = true then wa r1 P PE else wb r1 P PE) PE
theorem se_if (hc : ST X W c tw) (ha : SE X W a wa) (hb : SE X W b wb) : SE X W (.IfExp c a b pos) (wIf tw wa wb) := by
  refine pe_imp (pe_ifExp hc ha hb) fun s H Q q => ?_
  obtain ⟨r, Hs, P, PE, S, w, k, ke⟩ := q
  refine ⟨r, Hs, _, PE, S, w, fun b r1 Hs1 H1 p o => ?_, ke⟩
  cases b with
  | true =>
    rw [if_pos rfl] at p
    exact iteT ⟨r1, Hs1, P, PE, o.S, p, fun l r2 v Hs2 H2 p o2 l2 n2 => k l r2 v Hs2 H2 p (o.trans o2) l2 (new_th o n2), ke.mono o⟩
  | false =>
    rw [if_neg (by simp)] at p
    exact iteF ⟨r1, Hs1, P, PE, o.S, p, fun l r2 v Hs2 H2 p o2 l2 n2 => k l r2 v Hs2 H2 p (o.trans o2) l2 (new_th o n2), ke.mono o⟩
/-- -a -/
@[simp] def onInt (r : Rho) (l : Late) (k : Int → Prop) : Prop := match l with
  | .st (.int b) => k b
  | _ => False
theorem onInt_iff {G : Gm} {r : Rho} {s : St} {Hs H : Hp} {v : V} {l : Late} {k : Int → Prop} (h : onInt r l k) (lo : LateOk G r s Hs H v l) : ∃ b, v = .int b ∧ l = .st (.int b) ∧ k b := by
  unfold onInt at h
  split at h
  · cases lo with
    | st z => cases z; exact ⟨_, rfl, rfl, h⟩
  · exact h.elim
@[simp] def wNeg (wa : XW) : XW := fun r P PE => wa r (fun l r1 => onInt r1 l fun k => P (.st (.int (-k))) r1) PE
theorem se_neg (ha : SE X W a wa) : SE X W (.UnaryOp .USub a pos) (wNeg wa) := by
  refine pe_imp (pe_un un_neg ha) fun s H Q q => ?_
  obtain ⟨r, Hs, P, PE, S, w, k, ke⟩ := q
  refine ⟨r, Hs, _, PE, S, w, fun l r1 v Hs1 H1 p o lo n => ?_, ke⟩
  obtain ⟨b, rfl, rfl, p'⟩ := onInt_iff p lo
  clear p
  have p := p'
  exact ⟨b, rfl, k _ _ _ _ _ p o (.st (.int _)) (fun _ _ q => nomatch q)⟩

/-! ### argument lists -/
variable {ta : TAw}
@[simp] def waNil : TAw := fun r P _ => P [] r
@[simp] def waCons (w : XW) (t : TAw) : TAw := fun r P PE => w r (fun l r1 => t r1 (fun ls r2 => P (l :: ls) r2) PE) PE
theorem sa_nil : SA X W [] waNil := by
  refine pa_imp pa_nil fun s H Q q => ?_
  obtain ⟨r, Hs, P, PE, S, w, k, ke⟩ := q
  exact k _ _ _ _ _ w (Out.refl S) .nil (fun _ h => nomatch h)
theorem sa_cons (ha : SE X W e wa) (hr : SA X W es ta) (hs : starEach (e :: es) X.env = (false, eval e X.env) :: starEach es X.env := by rfl) : SA X W (e :: es) (waCons wa ta) := by
  refine pa_imp (pa_cons ha hr hs) fun s H Q q => ?_
  obtain ⟨r, Hs, P, PE, S, w, k, ke⟩ := q
  refine ⟨r, Hs, _, PE, S, w, fun l r1 v Hs1 H1 p o lo n => ?_, ke⟩
  refine ⟨r1, Hs1, _, PE, o.S, p, fun ls r2 vs Hs2 H2 p2 o2 los ns => ?_, ke.mono o⟩
  refine k _ _ _ _ _ p2 (o.trans o2) (.cons (lo.go o2.g) (fun a c c' e h => ?_) los) fun l' h => ?_
  · subst e
    have z := ns _ h a c' rfl
    cases lo with
    | nw _ h2 _ =>
      obtain ⟨o', ho'⟩ := h2.isv
      rw [z] at ho'; cases ho'
  · rcases List.mem_cons.mp h with rfl | h
    · exact n
    · exact new_th o (ns l' h)
@[simp] def withDs (r : Rho) (ls : List Late) (k : List D → Prop) : Prop := match ress r ls with
  | some ds => k ds
  | none => False
@[simp] def withFs (r : Rho) (ls : List Late) (k : List D → Rho → Prop) : Prop := match frzs r ls with
  | some (ds, r') => k ds r'
  | none => False
theorem withDs_iff {r : Rho} {l : List Late} {k : List D → Prop} (h : withDs r l k) : ∃ d, ress r l = some d ∧ k d := by
  unfold withDs at h
  split at h
  · exact ⟨_, by assumption, h⟩
  · exact h.elim
theorem withFs_iff {r : Rho} {l : List Late} {k : List D → Rho → Prop} (h : withFs r l k) : ∃ d r', frzs r l = some (d, r') ∧ k d r' := by
  unfold withFs at h
  split at h
  · exact ⟨_, _, by assumption, h⟩
  · exact h.elim
/-! ### displays -/
@[simp] def wTup (t : TAw) : XW := fun r P PE => t r (fun ls r1 => withFs r1 ls fun ds r2 => ds.length ≤ sizeLine ∧ P (.st (.tup ds)) r2) PE
@[simp] def wLst (t : TAw) : XW := fun r P PE => t r (fun ls r1 => withFs r1 ls fun ds r2 => ds.length ≤ sizeLine ∧ ∀ p, P (.nw p (.lst ds)) r2) PE
theorem Out.of {G : Gm} {r r1 r2 : Rho} {s : St} {Hs H Hs1 H1 Hs2 : Hp} (S : StOk G r2 s Hs2 H1) (g : Go (Own r) (Own r2) Hs H Hs2 H1) : Out G r s Hs H r2 Hs2 H1 := ⟨S, g⟩
theorem se_tup {x1} (h : SA X W es ta) : SE X W (.Tuple es x1 pos) (wTup ta) := by
  refine pe_imp (pe_tup h) fun s H Q q => ?_
  obtain ⟨r, Hs, P, PE, S, w, k, ke⟩ := q
  refine ⟨r, Hs, _, PE, S, w, fun ls r1 vs Hs1 H1 p o lo n => ?_, ke⟩
  obtain ⟨ds, r2, ed, hl, p⟩ := withFs_iff p
  obtain ⟨Hs2, S2, rp, g2, _⟩ := lo.frz o.S o.g n ed
  refine ⟨by rw [rp.length]; exact hl, fun q hq => ?_⟩
  have rt := retT (G := gm X) S2.ex hq rp
  exact rt.out (P := P) S2 p fun l r' v Hs' H' p' o' lo' n' => k l r' v Hs' H' p' (Out.trans ⟨S2, g2⟩ o') lo' (fun p c e => g2.th p (n' p c e))
theorem se_lst (h : SA X W es ta) : SE X W (.List es pos) (wLst ta) := by
  refine pe_imp (pe_lst h) fun s H Q q => ?_
  obtain ⟨r, Hs, P, PE, S, w, k, ke⟩ := q
  refine ⟨r, Hs, _, PE, S, w, fun ls r1 vs Hs1 H1 p o lo n => ?_, ke⟩
  obtain ⟨ds, r2, ed, hl, p⟩ := withFs_iff p
  obtain ⟨Hs2, S2, rp, g2, _⟩ := lo.frz o.S o.g n ed
  refine ⟨by rw [rp.length]; exact hl, fun q hq => ?_⟩
  have rt := retL (G := gm X) S2.ex hq rp
  exact rt.out (P := P) S2 p fun l r' v Hs' H' p' o' lo' n' => k l r' v Hs' H' p' (Out.trans ⟨S2, g2⟩ o') lo' (fun p c e => g2.th p (n' p c e))

/-! ### calls of built-ins -/
abbrev GC := List D → (LR → Prop) → Prop
def CaOk (X : Cx) (rr : List V → Hp → VK → Prop) (g : GC) : Prop := ∀ (xs : List V) (ds : List D) (Hs H : Hp) (P : LR → Prop) (Q : VK), Ex Hs H → RepBs (gm X) Hs H xs ds → g ds P →
    (∀ l v Hs' H', P l → Ret (gm X) Hs H v l Hs' H' → Q v H') → rr xs H Q
def CaG (X : Cx) (f : Value) (g : GC) : Prop := ∃ rr, CallR X f rr ∧ CaOk X rr g
@[simp] def wB (g : GC) (t : TAw) : XW := fun r P PE => t r (fun ls r1 => withDs r1 ls fun ds => g ds fun l => l.out P r1) PE
theorem t_wB {rr : List V → Hp → VK → Prop} {g : GC} (ho : CaOk X rr g) {s : St} {H : Hp} {Q : VK} (q : tW (gm X) W (wB g ta) s H Q) : tCB rr (tWA (gm X) W ta) s H Q := by
  obtain ⟨r, Hs, P, PE, S, w, k, ke⟩ := q
  refine ⟨r, Hs, _, PE, S, w, fun ls r1 vs Hs1 H1 p o lo n => ?_, ke⟩
  obtain ⟨ds, ed, p⟩ := withDs_iff p
  exact ho vs ds Hs1 H1 _ _ o.S.ex (lo.res o.S ed) p fun l v Hs' H' pl rt => rt.out o.S pl fun l r' v Hs' H' p' o' lo' n' => k l r' v Hs' H' p' (o.trans o') lo' (new_th o n')
theorem se_callB {id : String} {x : Str} {p : Pos} {g : GC} (ho : CaG X (.builtin id) g) (hg : Gl X x) (hm : X.mg x = none) (hv : bootBuiltins x = some (.builtin id)) (ha : SA X W (e :: es) ta) (hn : x ≠ "__name__" := by decide) (hdb : (x == ("__debug__" : Str)) = false := by decide)
    (he : starEach (e :: es) X.env = (false, eval e X.env) :: starEach es X.env := by rfl) (hpl : (backTo pos (starEach es X.env)).any (·.1) = false := by rfl) : SE X W (.Call (.Name x p) (e :: es) [] pos) (wB g ta) := by
  obtain ⟨rr, h1, h2⟩ := ho
  exact pe_imp (pe_callB h1 hg hm hv ha hn hdb he hpl) fun s H Q q => t_wB h2 q
theorem se_callTy {T : String} {x : Str} {p : Pos} {g : GC} (ho : CaG X (.type T) g) (hg : Gl X x) (hm : X.mg x = none) (hv : bootBuiltins x = some (.type T)) (ha : SA X W (e :: es) ta) (hn : x ≠ "__name__" := by decide) (hdb : (x == ("__debug__" : Str)) = false := by decide)
    (he : starEach (e :: es) X.env = (false, eval e X.env) :: starEach es X.env := by rfl) (hpl : (backTo pos (starEach es X.env)).any (·.1) = false := by rfl) : SE X W (.Call (.Name x p) (e :: es) [] pos) (wB g ta) := by
  obtain ⟨rr, h1, h2⟩ := ho
  exact pe_imp (pe_callTy h1 hg hm hv ha hn hdb he hpl) fun s H Q q => t_wB h2 q

/-! ### subscripts -/
def IxG (X : Cx) (g : G2) : Prop := ∃ rr, IxR X rr ∧ OpOk X rr g
theorem se_ix {g : G2} (ho : IxG X g) (ha : SE X W a wa) (hb : SE X W b wb) (hs : PlainIx b := by exact fun _ _ => rfl) : SE X W (.Subscript a b pos) (w2 g wa wb) := by
  obtain ⟨rr, h1, h2⟩ := ho
  exact pe_imp (pe_ix h1 ha hb hs) fun s H Q q => t_w2 h2 q
/-- lists, tuples, texts by an int -/
def gIx : G2
  | .lst xs, .int i, P => match atI xs i with | some d => P (.val d) | none => False
  | .rol xs, .int i, P => match atI xs i with | some d => P (.val d) | none => False
  | .tup xs, .int i, P => match atI xs i with | some d => P (.val d) | none => False
  | .str z, .int i, P => z.length ≤ sizeLine ∧ match atI z.cps.toList i with | some c => P (.val (.str ⟨#[c]⟩)) | none => False
  | _, _, _ => False
theorem reps_atI {G : Gm} {H : Hp} {vs : List V} {ds : List D} {i : Int} {d : D} (r : Reps G H vs ds) (h : atI ds i = some d) : ∃ v, atI vs i = some v ∧ Rep G H v d := by
  unfold atI at h ⊢
  rw [r.length]
  cases q : ixN ds.length i with
  | none => rw [q] at h; cases h
  | some j =>
    rw [q] at h
    exact r.get (i := j) h
theorem ig_ix : IxG X gIx := by
  refine ⟨_, IxR.or (IxR.or ix_list ix_tup) ix_str, fun x y dx dy Hs H P Q e rx ry q k => ?_⟩
  cases dx <;> cases dy <;> simp only [gIx] at q
  · obtain rfl := rx.strv; obtain rfl := ry.intv
    obtain ⟨hl, q⟩ := q
    split at q
    · rename_i c hc
      exact .inr ⟨_, _, _, rfl, rfl, hl, hc, k _ _ _ _ q (ret0 e (.str _))⟩
    · exact q.elim
  · obtain ⟨p, vs, rfl, hp, r1, _⟩ := rx.tupv e
    obtain rfl := ry.intv
    split at q
    · rename_i d hd
      obtain ⟨v, h1, h2⟩ := reps_atI r1 hd
      exact .inl (.inr ⟨p, vs, _, v, rfl, rfl, hp, h1, k _ _ _ _ q (ret0 e h2)⟩)
    · exact q.elim
  · obtain ⟨p, vs, rfl, hp, r1⟩ := rx.lstv e
    obtain rfl := ry.intv
    split at q
    · rename_i d hd
      obtain ⟨v, h1, h2⟩ := reps_atI r1 hd
      exact .inl (.inl ⟨p, vs, _, v, rfl, rfl, Evl.sq_of hp, h1, k _ _ _ _ q (ret0 e h2)⟩)
    · exact q.elim
  · obtain ⟨p, vs, rfl, hp, r1⟩ := rx.seqLv (ds := _) rfl e
    obtain rfl := ry.intv
    split at q
    · rename_i d hd
      obtain ⟨v, h1, h2⟩ := reps_atI r1 hd
      exact .inl (.inl ⟨p, vs, _, v, rfl, rfl, hp, h1, k _ _ _ _ q (ret0 e h2)⟩)
    · exact q.elim
/-! ### slices a[i:j] -/
abbrev WO := Rho → (Option Int → Rho → Prop) → (Exc → Rho → Prop) → Prop
def tWO (G : Gm) (W : WX) (w : WO) : TO := fun s H Q => ∃ (r : Rho) (Hs : Hp) (P : Option Int → Rho → Prop) (PE : Exc → Rho → Prop), StOk G r s Hs H ∧ w r P PE ∧
  (∀ b r' Hs' H', P b r' → Out G r s Hs H r' Hs' H' → Q b H') ∧ EXC G W PE r s Hs H
def SO (X : Cx) (W : WX) (e : Option Expr) (w : WO) : Prop := PO X e (tWO (gm X) W w)
@[simp] def woN : WO := fun r P _ => P none r
@[simp] def woS (w : XW) : WO := fun r P PE => w r (fun l r1 => onInt r1 l fun k => P (some k) r1) PE
theorem po_imp {e : Option Expr} {t t' : TO} (h : PO X e t) (i : ∀ s H Q, t' s H Q → t s H Q) : PO X e t' := ⟨fun pins s σ H Q I q => h.run pins s σ H Q I (i σ H Q q)⟩
theorem so_none : SO X W none woN := by
  refine po_imp po_none fun s H Q q => ?_
  obtain ⟨r, Hs, P, PE, S, w, k, ke⟩ := q
  exact k _ _ _ _ w (Out.refl S)
theorem so_some (h : SE X W e w) : SO X W (some e) (woS w) := by
  refine po_imp (po_some h) fun s H Q q => ?_
  obtain ⟨r, Hs, P, PE, S, w, k, ke⟩ := q
  refine ⟨r, Hs, _, PE, S, w, fun l r1 v Hs1 H1 p o lo n => ?_, ke⟩
  obtain ⟨b, rfl, rfl, p'⟩ := onInt_iff p lo
  clear p
  have p := p'
  exact ⟨b, rfl, k _ _ _ _ p o⟩
abbrev GSl := D → Option Int → Option Int → (LR → Prop) → Prop
def SlG (X : Cx) (g : GSl) : Prop := ∃ rr, SlR X rr ∧ ∀ (x : V) (dx : D) (lo hi : Option Int) (Hs H : Hp) (P : LR → Prop) (Q : VK), Ex Hs H → RepB (gm X) Hs H x dx → g dx lo hi P →
    (∀ l v Hs' H', P l → Ret (gm X) Hs H v l Hs' H' → Q v H') → rr x lo hi H Q
@[simp] def wSl (g : GSl) (wa : XW) (wl wh : WO) : XW := fun r P PE => wa r (fun la r1 => wl r1 (fun lo r2 => wh r2 (fun hi r3 => withD r3 la fun d => g d lo hi fun l => l.out P r3) PE) PE) PE
theorem se_slice {lo hi : Option Expr} {wl wh : WO} {g : GSl} {p2 : Pos} (ho : SlG X g) (ha : SE X W a wa) (hl : SO X W lo wl) (hh : SO X W hi wh) : SE X W (.Subscript a (.Slice lo hi none p2) pos) (wSl g wa wl wh) := by
  obtain ⟨rr, h1, h2⟩ := ho
  refine pe_imp (pe_slice h1 ha hl hh) fun s H Q q => ?_
  obtain ⟨r, Hs, P, PE, S, w, k, ke⟩ := q
  refine ⟨r, Hs, _, PE, S, w, fun la r1 x Hs1 H1 p1 o1 l1 n1 => ?_, ke⟩
  refine ⟨r1, Hs1, _, PE, o1.S, p1, fun lo r2 Hs2 H2 p2 o2 => ?_, ke.mono o1⟩
  refine ⟨r2, Hs2, _, PE, o2.S, p2, fun hi r3 Hs3 H3 p3 o3 => ?_, ke.mono (o1.trans o2)⟩
  obtain ⟨dx, ex, p3⟩ := withD_iff p3
  have oo := (o1.trans o2).trans o3
  exact h2 x dx lo hi Hs3 H3 _ _ o3.S.ex (((l1.go o2.g).go o3.g).res o3.S ex) p3 fun l v Hs' H' pl rt => rt.out o3.S pl fun l r' v Hs' H' p' o' lo' n' => k l r' v Hs' H' p' (oo.trans o') lo' (new_th oo n')
def cutD (xs : List D) (lo hi : Option Int) : List D := (xs.drop (HT.sIx xs.length 0 lo)).take (HT.sIx xs.length xs.length hi - HT.sIx xs.length 0 lo)
theorem reps_cut {G : Gm} {H : Hp} {vs : List V} {ds : List D} (r : Reps G H vs ds) (lo hi : Option Int) : Reps G H (cutV vs lo hi) (cutD ds lo hi) := by
  unfold cutV cutD
  rw [r.length]
  exact (r.drop _).take _
def gSlL : GSl
  | .lst xs, lo, hi, P => P (.new (.lst (cutD xs lo hi)))
  | .rol xs, lo, hi, P => P (.new (.lst (cutD xs lo hi)))
  | _, _, _, _ => False
theorem sg_list : SlG X gSlL := by
  refine ⟨_, sl_list, fun x dx lo hi Hs H P Q e rx q k => ?_⟩
  cases dx <;> simp only [gSlL] at q
  all_goals
    obtain ⟨p, vs, rfl, hp, r1⟩ := rx.seqLv (ds := _) rfl e
    exact ⟨p, vs, rfl, hp, fun l hl => k _ _ _ _ q (retL e hl (reps_cut r1 lo hi))⟩

/-! ### built-ins by data -/
theorem RepBs.one {G : Gm} {Hs H : Hp} {vs : List V} {d : D} (h : RepBs G Hs H vs [d]) : ∃ v, vs = [v] ∧ RepB G Hs H v d := by
  cases h with
  | cons a b => cases b; exact ⟨_, rfl, a⟩
theorem RepBs.two {G : Gm} {Hs H : Hp} {vs : List V} {d d' : D} (h : RepBs G Hs H vs [d, d']) : ∃ v v', vs = [v, v'] ∧ RepB G Hs H v d ∧ RepB G Hs H v' d' := by
  cases h with
  | cons a b => cases b with
    | cons b c => cases c; exact ⟨_, _, rfl, a, b⟩
def lenD : D → (Int → Prop) → Prop
  | .str z, P => z.length ≤ sizeLine ∧ P z.length
  | .lst xs, P => P xs.length
  | .rol xs, P => P xs.length
  | .tup xs, P => P xs.length
  | .dic xs, P => P xs.length
  | _, _ => False
def gLen : GC
  | [d], P => lenD d fun n => P (.val (.int n))
  | _, _ => False
theorem repK_length {G : Gm} {H : Hp} : ∀ {vs : List (Key × V)} {ds : List (Key × D)}, RepK G H vs ds → vs.length = ds.length
  | _, _, .nil => rfl
  | _, _, .cons _ r => congrArg (· + 1) (repK_length r)
theorem cg_len : CaG X (.builtin "len") gLen := by
  refine ⟨_, CallR.or call_len call_lenD, fun xs ds Hs H P Q e rs q k => ?_⟩
  unfold gLen at q
  split at q
  · rename_i d
    obtain ⟨v, rfl, rx⟩ := rs.one
    cases d <;> simp only [lenD] at q
    · obtain rfl := rx.strv
      exact .inl ⟨_, _, rfl, ⟨q.1, rfl⟩, k _ _ _ _ q.2 (ret0 e (.int _))⟩
    · obtain ⟨p, vs, rfl, hp, r1, _⟩ := rx.tupv e
      exact .inl ⟨_, _, rfl, .inr ⟨_, hp, rfl⟩, by rw [r1.length]; exact k _ _ _ _ q (ret0 e (.int _))⟩
    · obtain ⟨p, vs, rfl, hp, r1⟩ := rx.lstv e
      exact .inl ⟨_, _, rfl, .inl ⟨_, Evl.sq_of hp, rfl⟩, by rw [r1.length]; exact k _ _ _ _ q (ret0 e (.int _))⟩
    · obtain ⟨p, vs, rfl, hp, r1⟩ := rx.seqLv (ds := _) rfl e
      exact .inl ⟨_, _, rfl, .inl ⟨_, hp, rfl⟩, by rw [r1.length]; exact k _ _ _ _ q (ret0 e (.int _))⟩
    · obtain ⟨p, vs, rfl, hp, r1⟩ := rx.dicv e
      exact .inr ⟨_, _, rfl, hp, by rw [repK_length r1]; exact k _ _ _ _ q (ret0 e (.int _))⟩
  · exact q.elim
def gAbs : GC
  | [.int i], P => P (.val (.int (if i < 0 then -i else i)))
  | _, _ => False
theorem cg_abs : CaG X (.builtin "abs") gAbs := by
  refine ⟨_, call_abs, fun xs ds Hs H P Q e rs q k => ?_⟩
  unfold gAbs at q
  split at q
  · obtain ⟨v, rfl, rx⟩ := rs.one
    obtain rfl := rx.intv
    exact ⟨_, rfl, k _ _ _ _ q (ret0 e (.int _))⟩
  · exact q.elim
def gInt : GC
  | [.int i], P => P (.val (.int i))
  | [.bl b], P => P (.val (.int (if b then 1 else 0)))
  | _, _ => False
theorem cg_int : CaG X (.type "int") gInt := by
  refine ⟨_, call_int1, fun xs ds Hs H P Q e rs q k => ?_⟩
  unfold gInt at q
  split at q
  · obtain ⟨v, rfl, rx⟩ := rs.one
    obtain rfl := rx.intv
    exact .inl ⟨_, rfl, k _ _ _ _ q (ret0 e (.int _))⟩
  · obtain ⟨v, rfl, rx⟩ := rs.one
    obtain rfl := rx.blv
    exact .inr ⟨_, rfl, k _ _ _ _ q (ret0 e (.int _))⟩
  · exact q.elim
def intsD : List D → Option (List Int)
  | [] => some []
  | .int i :: ds => (intsD ds).map (i :: ·)
  | _ => none
theorem intsD_eq : ∀ {ds : List D} {ns : List Int}, intsD ds = some ns → ds = ns.map D.int
  | [], _, h => by simp [intsD] at h; subst h; rfl
  | .int i :: ds, ns, h => by
    simp only [intsD, Option.map_eq_some_iff] at h
    obtain ⟨ms, h1, rfl⟩ := h
    rw [List.map_cons, intsD_eq h1]
  | .non :: _, _, h => by simp [intsD] at h
  | .bl _ :: _, _, h => by simp [intsD] at h
  | .str _ :: _, _, h => by simp [intsD] at h
  | .tup _ :: _, _, h => by simp [intsD] at h
  | .lst _ :: _, _, h => by simp [intsD] at h
  | .rol _ :: _, _, h => by simp [intsD] at h
  | .dic _ :: _, _, h => by simp [intsD] at h
  | .ins _ _ :: _, _, h => by simp [intsD] at h
  | .ty _ :: _, _, h => by simp [intsD] at h
theorem intsD_map : ∀ ns : List Int, intsD (ns.map D.int) = some ns
  | [] => rfl
  | n :: ns => by rw [List.map_cons, intsD, intsD_map ns]; rfl
/-- max, min: two ints, or a list of ints that is not empty -/
def gMax : GC
  | [.int i, .int j], P => P (.val (.int (if j > i then j else i)))
  | [d], P => ∃ ds ns, seqL d = some ds ∧ intsD ds = some ns ∧ 0 < ns.length ∧ ∀ m, m ∈ ns → (∀ y, y ∈ ns → y ≤ m) → P (.val (.int m))
  | _, _ => False
theorem cg_max (hc : X.calm = true) : CaG X (.builtin "max") gMax := by
  refine ⟨_, CallR.or (call_max2 hc) (cr_max hc), fun xs ds Hs H P Q e rs q k => ?_⟩
  unfold gMax at q
  split at q
  · obtain ⟨v, v', rfl, rx, ry⟩ := rs.two
    obtain rfl := rx.intv; obtain rfl := ry.intv
    exact .inl ⟨_, _, rfl, k _ _ _ _ q (ret0 e (.int _))⟩
  · obtain ⟨v, rfl, rx⟩ := rs.one
    obtain ⟨ds, ns, h1, h2, h3, q⟩ := q
    obtain rfl := intsD_eq h2
    obtain ⟨p, vs, rfl, hp, r1⟩ := rx.seqLv h1 e
    obtain rfl := r1.ints
    exact .inr ⟨p, ns, rfl, hp, h3, fun m h4 h5 => k _ _ _ _ (q m h4 h5) (ret0 e (.int _))⟩
  · exact q.elim
def gMin : GC
  | [.int i, .int j], P => P (.val (.int (if j < i then j else i)))
  | [d], P => ∃ ds ns, seqL d = some ds ∧ intsD ds = some ns ∧ 0 < ns.length ∧ ∀ m, m ∈ ns → (∀ y, y ∈ ns → m ≤ y) → P (.val (.int m))
  | _, _ => False
theorem cg_min (hc : X.calm = true) : CaG X (.builtin "min") gMin := by
  refine ⟨_, CallR.or (call_min2 hc) (cr_min hc), fun xs ds Hs H P Q e rs q k => ?_⟩
  unfold gMin at q
  split at q
  · obtain ⟨v, v', rfl, rx, ry⟩ := rs.two
    obtain rfl := rx.intv; obtain rfl := ry.intv
    exact .inl ⟨_, _, rfl, k _ _ _ _ q (ret0 e (.int _))⟩
  · obtain ⟨v, rfl, rx⟩ := rs.one
    obtain ⟨ds, ns, h1, h2, h3, q⟩ := q
    obtain rfl := intsD_eq h2
    obtain ⟨p, vs, rfl, hp, r1⟩ := rx.seqLv h1 e
    obtain rfl := r1.ints
    exact .inr ⟨p, ns, rfl, hp, h3, fun m h4 h5 => k _ _ _ _ (q m h4 h5) (ret0 e (.int _))⟩
  · exact q.elim
def gSum : GC
  | [d], P => ∃ ds ns, seqL d = some ds ∧ intsD ds = some ns ∧ P (.val (.int ns.sum))
  | _, _ => False
theorem cg_sum (hc : X.calm = true) : CaG X (.builtin "sum") gSum := by
  refine ⟨_, cr_sum hc, fun xs ds Hs H P Q e rs q k => ?_⟩
  unfold gSum at q
  split at q
  · obtain ⟨v, rfl, rx⟩ := rs.one
    obtain ⟨ds, ns, h1, h2, q⟩ := q
    obtain rfl := intsD_eq h2
    obtain ⟨p, vs, rfl, hp, r1⟩ := rx.seqLv h1 e
    obtain rfl := r1.ints
    exact ⟨p, ns, rfl, hp, k _ _ _ _ q (ret0 e (.int _))⟩
  · exact q.elim
def blsD : List D → Option (List Bool)
  | [] => some []
  | .bl i :: ds => (blsD ds).map (i :: ·)
  | _ => none
theorem blsD_eq : ∀ {ds : List D} {ns : List Bool}, blsD ds = some ns → ds = ns.map D.bl
  | [], _, h => by simp [blsD] at h; subst h; rfl
  | .bl i :: ds, ns, h => by
    simp only [blsD, Option.map_eq_some_iff] at h
    obtain ⟨ms, h1, rfl⟩ := h
    rw [List.map_cons, blsD_eq h1]
  | .non :: _, _, h => by simp [blsD] at h
  | .int _ :: _, _, h => by simp [blsD] at h
  | .str _ :: _, _, h => by simp [blsD] at h
  | .tup _ :: _, _, h => by simp [blsD] at h
  | .lst _ :: _, _, h => by simp [blsD] at h
  | .rol _ :: _, _, h => by simp [blsD] at h
  | .dic _ :: _, _, h => by simp [blsD] at h
  | .ins _ _ :: _, _, h => by simp [blsD] at h
  | .ty _ :: _, _, h => by simp [blsD] at h
theorem blsD_map : ∀ ns : List Bool, blsD (ns.map D.bl) = some ns
  | [] => rfl
  | n :: ns => by rw [List.map_cons, blsD, blsD_map ns]; rfl
def gAll : GC
  | [d], P => ∃ ds bs, seqL d = some ds ∧ blsD ds = some bs ∧ P (.val (.bl (bs.all id)))
  | _, _ => False
theorem cg_all (hc : X.calm = true) : CaG X (.builtin "all") gAll := by
  refine ⟨_, cr_all hc, fun xs ds Hs H P Q e rs q k => ?_⟩
  unfold gAll at q
  split at q
  · obtain ⟨v, rfl, rx⟩ := rs.one
    obtain ⟨ds, ns, h1, h2, q⟩ := q
    obtain rfl := blsD_eq h2
    obtain ⟨p, vs, rfl, hp, r1⟩ := rx.seqLv h1 e
    obtain rfl := r1.bls
    exact ⟨p, ns, rfl, hp, k _ _ _ _ q (ret0 e (.bl _))⟩
  · exact q.elim
def gAny : GC
  | [d], P => ∃ ds bs, seqL d = some ds ∧ blsD ds = some bs ∧ P (.val (.bl (bs.any id)))
  | _, _ => False
theorem cg_any (hc : X.calm = true) : CaG X (.builtin "any") gAny := by
  refine ⟨_, cr_any hc, fun xs ds Hs H P Q e rs q k => ?_⟩
  unfold gAny at q
  split at q
  · obtain ⟨v, rfl, rx⟩ := rs.one
    obtain ⟨ds, ns, h1, h2, q⟩ := q
    obtain rfl := blsD_eq h2
    obtain ⟨p, vs, rfl, hp, r1⟩ := rx.seqLv h1 e
    obtain rfl := r1.bls
    exact ⟨p, ns, rfl, hp, k _ _ _ _ q (ret0 e (.bl _))⟩
  · exact q.elim
/-- list(x), tuple(x) of a list or tuple -/
def seqD : D → Option (List D)
  | .lst xs => some xs
  | .rol xs => some xs
  | .tup xs => some xs
  | _ => none
def gList : GC
  | [d], P => ∃ ds, seqD d = some ds ∧ P (.new (.lst ds))
  | _, _ => False
theorem cg_list : CaG X (.type "list") gList := by
  refine ⟨_, call_list_of, fun xs ds Hs H P Q e rs q k => ?_⟩
  unfold gList at q
  split at q
  · rename_i d
    obtain ⟨v, rfl, rx⟩ := rs.one
    obtain ⟨ds, h1, q⟩ := q
    cases d <;> simp only [seqD] at h1 <;> cases h1
    · obtain ⟨p, vs, rfl, hp, r1, _⟩ := rx.tupv e
      exact ⟨p, vs, rfl, .inr hp, fun l hl => k _ _ _ _ q (retL e hl r1)⟩
    · obtain ⟨p, vs, rfl, hp, r1⟩ := rx.lstv e
      exact ⟨p, vs, rfl, .inl (Evl.sq_of hp), fun l hl => k _ _ _ _ q (retL e hl r1)⟩
    · obtain ⟨p, vs, rfl, hp, r1⟩ := rx.seqLv (ds := _) rfl e
      exact ⟨p, vs, rfl, .inl hp, fun l hl => k _ _ _ _ q (retL e hl r1)⟩
  · exact q.elim
def gTuple : GC
  | [d], P => ∃ ds, seqD d = some ds ∧ P (.val (.tup ds))
  | _, _ => False
theorem cg_tuple : CaG X (.type "tuple") gTuple := by
  refine ⟨_, call_tuple_of, fun xs ds Hs H P Q e rs q k => ?_⟩
  unfold gTuple at q
  split at q
  · rename_i d
    obtain ⟨v, rfl, rx⟩ := rs.one
    obtain ⟨ds, h1, q⟩ := q
    cases d <;> simp only [seqD] at h1 <;> cases h1
    · obtain ⟨p, vs, rfl, hp, r1, r2⟩ := rx.tupv e
      exact ⟨p, vs, rfl, .inr ⟨hp, k _ _ _ _ q (ret0 e r2)⟩⟩
    · obtain ⟨p, vs, rfl, hp, r1⟩ := rx.lstv e
      exact ⟨p, vs, rfl, .inl ⟨Evl.sq_of hp, fun l hl => k _ _ _ _ q (retT e hl r1)⟩⟩
    · obtain ⟨p, vs, rfl, hp, r1⟩ := rx.seqLv (ds := _) rfl e
      exact ⟨p, vs, rfl, .inl ⟨hp, fun l hl => k _ _ _ _ q (retT e hl r1)⟩⟩
  · exact q.elim
end
end Z

/-! Z5: statements, calls of defs by their words, the body of a def. -/
namespace Z
open PySem L2
open Evl (Ex ex_rd ex_l ex_t)

/-! ### a def's word -/
abbrev FSpec := List Sl → (LR → List Cell → Prop) → (Exc → List Cell → Prop) → Prop
/-- what a def hands back: kept data, or a new object that nothing else knows; H0: the heap at its entry -/
inductive RetV (G : Gm) (Hs H H0 : Hp) : V → LR → Prop
  | val {v d} : Rep G Hs v d → RetV G Hs H H0 v (.val d)
  | new {p c} : Hs p = none → CellAt G Hs H p c → H0 p = none → RetV G Hs H H0 (.ref p) (.new c)
inductive ArgsOk (G : Gm) (Hs H : Hp) : List V → List Sl → Prop
  | nil : ArgsOk G Hs H [] []
  | sh {v d vs as} : Rep G Hs v d → ArgsOk G Hs H vs as → ArgsOk G Hs H (v :: vs) (.sh d :: as)
  | own {p c vs as} : Hs p = none → CellAt G Hs H p c → ArgsOk G Hs H vs as → ArgsOk G Hs H (.ref p :: vs) (.own p c :: as)
inductive BackOk (G : Gm) (Hs H : Hp) : List Sl → List Cell → Prop
  | nil : BackOk G Hs H [] []
  | sh {d as cs} : BackOk G Hs H as cs → BackOk G Hs H (.sh d :: as) cs
  | own {p c c' as cs} : Hs p = none → CellAt G Hs H p c' → BackOk G Hs H as cs → BackOk G Hs H (.own p c :: as) (c' :: cs)
def NdOwn (as : List Sl) : Prop := ∀ (i j : Nat) (p : Addr) (c c' : Cell), as[i]? = some (Sl.own p c) → as[j]? = some (Sl.own p c') → i = j
def spF (G : Gm) (f : FSpec) : Sp := fun vs H Q E => ∃ (as : List Sl) (Hs : Hp) (P : LR → List Cell → Prop) (PE : Exc → List Cell → Prop), ArgsOk G Hs H vs as ∧ Ex Hs H ∧ NdOwn as ∧ f as P PE ∧
  (∀ d cs v Hs' H', P d cs → Ex Hs' H' → Go (Own as) (Own as) Hs H Hs' H' → RetV G Hs' H' H v d → BackOk G Hs' H' as cs → Q v H') ∧
  (∀ x cs cls dd Hs' H', PE x cs → Ex Hs' H' → Go (Own as) (Own as) Hs H Hs' H' → ExcOk G Hs' cls dd x → BackOk G Hs' H' as cs → E cls dd H')
theorem ArgsOk.length {G : Gm} {Hs H : Hp} : ∀ {vs as}, ArgsOk G Hs H vs as → vs.length = as.length
  | _, _, .nil => rfl
  | _, _, .sh _ r => congrArg (· + 1) r.length
  | _, _, .own _ _ r => congrArg (· + 1) r.length
theorem spF_len {G : Gm} {n : Nat} {f : FSpec} (hl : ∀ as P PE, f as P PE → as.length = n) {vs H Q E} (h : spF G f vs H Q E) : vs.length = n := by
  obtain ⟨as, Hs, P, PE, h2, _, _, h3, _⟩ := h
  rw [h2.length, hl _ _ _ h3]

theorem own_cons {x : Sl} {as : List Sl} {a : Addr} : Own (x :: as) a ↔ (∃ c, x = .own a c) ∨ Own as a := by
  constructor
  · rintro ⟨i, c, h⟩
    cases i with
    | zero => simp at h; exact .inl ⟨c, h⟩
    | succ i => exact .inr ⟨i, c, by simpa using h⟩
  · rintro (⟨c, rfl⟩ | ⟨i, c, h⟩)
    · exact ⟨0, c, rfl⟩
    · exact ⟨i + 1, c, by simpa using h⟩
theorem own_nil {a : Addr} : ¬ Own [] a := fun ⟨i, c, h⟩ => by simp at h
theorem NdOwn.tail {x : Sl} {as : List Sl} (h : NdOwn (x :: as)) : NdOwn as := fun i j p c c' h1 h2 => by
  have := h (i + 1) (j + 1) p c c' (by simpa using h1) (by simpa using h2)
  omega
theorem NdOwn.head {p : Addr} {c : Cell} {as : List Sl} (h : NdOwn (.own p c :: as)) : ¬ Own as p := fun ⟨i, c', q⟩ => by
  have := h 0 (i + 1) p c c' rfl (by simpa using q)
  omega
theorem NdOwn.cons {x : Sl} {as : List Sl} (h : NdOwn as) (n : ∀ p c, x = .own p c → ¬ Own as p) : NdOwn (x :: as) := fun i j p c c' h1 h2 => by
  cases i with
  | zero =>
    cases j with
    | zero => rfl
    | succ j => simp at h1 h2; exact (n p c h1 ⟨j, c', h2⟩).elim
  | succ i =>
    cases j with
    | zero => simp at h1 h2; exact (n p c' h2 ⟨i, c, h1⟩).elim
    | succ j => simp at h1 h2; rw [h i j p c c' h1 h2]

/-! ### arguments handed over: kept (false), or lent to be changed (true) -/
def pass : List Bool → List Late → Rho → Option (List Sl × Rho)
  | [], [], r => some ([], r)
  | false :: ms, l :: ls, r => match frz r l with
    | some (d, r1) => (pass ms ls r1).map fun x => (.sh d :: x.1, x.2)
    | none => none
  | true :: ms, .sl i :: ls, r => match r[i]? with
    | some (Sl.own p c) => (pass ms ls (r.set i .no)).map fun x => (.own p c :: x.1, x.2)
    | _ => none
  | true :: ms, .nw p c :: ls, r => (pass ms ls r).map fun x => (.own p c :: x.1, x.2)
  | _, _, _ => none
def give : List Late → List Sl → List Cell → Rho → Rho
  | .sl i :: ls, .own p _ :: as, c' :: cs, r => give ls as cs (r.set i (.own p c'))
  | .st _ :: ls, .own _ _ :: as, _ :: cs, r => give ls as cs r
  | .nw _ _ :: ls, .own _ _ :: as, _ :: cs, r => give ls as cs r
  | _ :: ls, .sh _ :: as, cs, r => give ls as cs r
  | _, _, _, r => r
section
variable {G : Gm} {s : St} {H : Hp}
theorem LateOk.sub {r r' : Rho} {Hs : Hp} {v : V} {l : Late} (h : LateOk G r s Hs H v l) (k : ∀ a, Own r' a → Own r a) : LateOk G r' s Hs H v l := by
  cases h with
  | st h => exact .st h
  | sl h => exact .sl h
  | nw h1 h2 h3 => exact .nw h1 h2 fun q => h3 (k _ q)
theorem LatesOk.sub {r r' : Rho} {Hs : Hp} (k : ∀ a, Own r' a → Own r a) : ∀ {vs ls}, LatesOk G r s Hs H vs ls → LatesOk G r' s Hs H vs ls
  | _, _, .nil => .nil
  | _, _, .cons a b c => .cons (a.sub k) b (LatesOk.sub k c)
theorem own_no {r : Rho} {i : Nat} {p : Addr} {c : Cell} (S : ∀ (i j : Nat) (p : Addr) (c c' : Cell), r[i]? = some (Sl.own p c) → r[j]? = some (Sl.own p c') → i = j) (q : r[i]? = some (Sl.own p c)) : ¬ Own (r.set i .no) p := fun ⟨j, c', hj⟩ => by
  by_cases ej : i = j
  · subst ej
    by_cases hl : i < r.length
    · rw [List.getElem?_set_self hl] at hj; cases hj
    · rw [List.getElem?_eq_none (by simpa using hl)] at hj; cases hj
  · rw [List.getElem?_set_ne ej] at hj
    exact ej (S i j p _ _ q hj)
structure PassOk (G : Gm) (s : St) (H0 Hs0 H : Hp) (r0 r r2 : Rho) (Hs Hs2 : Hp) (vs : List V) (ls : List Late) (as : List Sl) : Prop where
  S : StOk G r2 s Hs2 H
  ak : ArgsOk G Hs2 H vs as
  nd : NdOwn as
  dj : ∀ a, Own as a → ¬ Own r2 a
  fr : ∀ a, Own as a → Own r a ∨ ∃ c, Late.nw a c ∈ ls
  sb : ∀ a, Own r2 a → Own r a
  ss : Ex Hs Hs2
  pr : ∀ p, Hs p = none → ¬ Own r p → (∀ c, Late.nw p c ∉ ls) → Hs2 p = none
theorem pass_ok {H0 Hs0 : Hp} {r0 : Rho} : ∀ {ms : List Bool} {ls : List Late} {vs : List V} {r r2 : Rho} {Hs : Hp} {as : List Sl}, StOk G r s Hs H → LatesOk G r s Hs H vs ls → pass ms ls r = some (as, r2) → ∃ Hs2, PassOk G s H0 Hs0 H r0 r r2 Hs Hs2 vs ls as
  | [], [], _, r, r2, Hs, as, S, .nil, e => by
    simp [pass] at e; obtain ⟨rfl, rfl⟩ := e
    exact ⟨Hs, S, .nil, (fun i j p c c' h => by simp at h), (fun a h => (own_nil h).elim), (fun a h => (own_nil h).elim), (fun _ h => h), Ex.refl _, fun _ h _ _ => h⟩
  | false :: ms, l :: ls, _, r, r2, Hs, as, S, .cons (vs := vs) (v := v) a b c, e => by
    simp only [pass] at e
    split at e
    · rename_i d r1 q1
      obtain ⟨⟨as', r2'⟩, q2, q3⟩ := Option.map_eq_some_iff.mp e
      cases q3
      -- freezing once; freshness of the new object against itself
      have fz : ∃ Hs1, StOk G r1 s Hs1 H ∧ Rep G Hs1 v d ∧ Kept H r r1 l Hs Hs1 := by
        cases l with
        | nw p cl =>
          cases a with
          | nw h1 h2 h3 =>
            simp at q1; obtain ⟨rfl, rfl⟩ := q1
            obtain ⟨o, ho⟩ := h2.isv
            exact ⟨upd Hs p o, S.add h1 ho h3, h2.rep (Ex.new h1) (fun u hu => by rw [ho] at hu; cases hu; exact upd_same), fun _ h => h, .inr ⟨p, o, rfl, h1, ho, .inr ⟨_, rfl⟩⟩⟩
        | st d' =>
          obtain ⟨Hs1, x1, x2, _, x4⟩ := a.frz (r0 := r) (H0 := H) (Hs0 := Hs) S Go.refl (fun _ _ q => nomatch q) q1
          exact ⟨Hs1, x1, x2, x4⟩
        | sl i =>
          obtain ⟨Hs1, x1, x2, _, x4⟩ := a.frz (r0 := r) (H0 := H) (Hs0 := Hs) S Go.refl (fun _ _ q => nomatch q) q1
          exact ⟨Hs1, x1, x2, x4⟩
      obtain ⟨Hs1, S1, rp, kp⟩ := fz
      obtain ⟨Hs2, K⟩ := pass_ok (H0 := H0) (Hs0 := Hs0) (r0 := r0) S1 (c.kept kp b) q2
      refine ⟨Hs2, K.S, .sh (rp.mono K.ss) K.ak, K.nd.cons (fun _ _ q => by cases q), fun a h => ?_, fun a h => ?_, fun a h => kp.1 a (K.sb a h), kp.ss.trans K.ss, fun p h1 h2 h3 => ?_⟩
      · rcases own_cons.mp h with ⟨_, q⟩ | h
        · cases q
        · exact K.dj a h
      · rcases own_cons.mp h with ⟨_, q⟩ | h
        · cases q
        · rcases K.fr a h with z | ⟨cc, z⟩
          · exact .inl (kp.1 a z)
          · exact .inr ⟨cc, List.mem_cons_of_mem _ z⟩
      · refine K.pr p ?_ (fun q => h2 (kp.1 p q)) fun cc q => h3 cc (List.mem_cons_of_mem _ q)
        rcases kp.2 with rfl | ⟨p', o, rfl, _, _, ow⟩
        · exact h1
        · rw [upd_ne]
          · exact h1
          · rintro rfl
            rcases ow with ow | ⟨cc, rfl⟩
            · exact h2 ow
            · exact h3 cc (List.mem_cons_self ..)
    · cases e
  | true :: ms, .sl i :: ls, _, r, r2, Hs, as, S, .cons (vs := vs) (v := v) a b c, e => by
    simp only [pass] at e
    split at e
    · rename_i p cl q
      obtain ⟨⟨as', r2'⟩, q2, q3⟩ := Option.map_eq_some_iff.mp e
      cases q3
      cases a with
      | sl hv =>
      have z := S.sl i _ q
      rw [hv] at z
      cases z with
      | own z1 z2 =>
      have hsub : ∀ a, Own (r.set i .no) a → Own r a := fun a => Own.set (by intro p c q; cases q)
      have S1 : StOk G (r.set i .no) s Hs H := S.put (by intro p c q; cases q) .no
      obtain ⟨Hs2, K⟩ := pass_ok (H0 := H0) (Hs0 := Hs0) (r0 := r0) S1 (c.sub hsub) q2
      have np : ¬ Own (r.set i .no) p := own_no S.nd q
      have nl : ∀ cc, Late.nw p cc ∉ ls := fun cc h => by
        have : ∀ {vs ls}, LatesOk G r s Hs H vs ls → Late.nw p cc ∈ ls → ¬ Own r p := by
          intro vs ls h
          induction h with
          | nil => intro q; cases q
          | cons a b c ih =>
            intro q
            rcases List.mem_cons.mp q with q | q
            · subst q; cases a with | nw _ _ h => exact h
            · exact ih q
        exact this c h ⟨i, cl, q⟩
      have hp2 : Hs2 p = none := K.pr p z1 np nl
      have nas : ¬ Own as' p := fun h => by
        rcases K.fr p h with z | ⟨cc, z⟩
        · exact np z
        · exact nl cc z
      refine ⟨Hs2, K.S, .own hp2 (z2.go K.ss fun _ h => h) K.ak, K.nd.cons (fun p' c' e => by cases e; exact nas), fun a h => ?_, fun a h => ?_, fun a h => hsub a (K.sb a h), K.ss, fun p' h1 h2 h3 => K.pr p' h1 (fun q => h2 (hsub p' q)) fun cc q => h3 cc (List.mem_cons_of_mem _ q)⟩
      · rcases own_cons.mp h with ⟨_, e⟩ | h
        · cases e; exact fun q => np (K.sb _ q)
        · exact K.dj a h
      · rcases own_cons.mp h with ⟨_, e⟩ | h
        · cases e; exact .inl ⟨i, cl, q⟩
        · rcases K.fr a h with z | ⟨cc, z⟩
          · exact .inl (hsub a z)
          · exact .inr ⟨cc, List.mem_cons_of_mem _ z⟩
    · cases e
  | true :: ms, .nw p cl :: ls, _, r, r2, Hs, as, S, .cons (vs := vs) (v := v) a b c, e => by
    simp only [pass] at e
    obtain ⟨⟨as', r2'⟩, q2, q3⟩ := Option.map_eq_some_iff.mp e
    cases q3
    cases a with
    | nw h1 h2 h3 =>
    obtain ⟨Hs2, K⟩ := pass_ok (H0 := H0) (Hs0 := Hs0) (r0 := r0) S c q2
    have nl : ∀ cc, Late.nw p cc ∉ ls := fun cc => b p cl cc rfl
    have nas : ¬ Own as' p := fun h => by
      rcases K.fr p h with z | ⟨cc, z⟩
      · exact h3 z
      · exact nl cc z
    refine ⟨Hs2, K.S, .own (K.pr p h1 h3 nl) (h2.go K.ss fun _ h => h) K.ak, K.nd.cons (fun p' c' e => by cases e; exact nas), fun a h => ?_, fun a h => ?_, K.sb, K.ss, fun p' z1 z2 z3 => K.pr p' z1 z2 fun cc q => z3 cc (List.mem_cons_of_mem _ q)⟩
    · rcases own_cons.mp h with ⟨_, e⟩ | h
      · cases e; exact fun q => h3 (K.sb _ q)
      · exact K.dj a h
    · rcases own_cons.mp h with ⟨_, e⟩ | h
      · cases e; exact .inr ⟨_, List.mem_cons_self ..⟩
      · rcases K.fr a h with z | ⟨cc, z⟩
        · exact .inl z
        · exact .inr ⟨cc, List.mem_cons_of_mem _ z⟩
  | [], _ :: _, _, _, _, _, _, _, _, e => by simp [pass] at e
  | false :: _, [], _, _, _, _, _, _, _, e => by simp [pass] at e
  | true :: _, [], _, _, _, _, _, _, _, e => by simp [pass] at e
  | true :: _, .st _ :: _, _, _, _, _, _, _, _, e => by simp [pass] at e
/-- a slot has its own object -/
theorem StOk.putOwn {r : Rho} {Hs : Hp} (S : StOk G r s Hs H) {i : Nat} {p : Addr} {c : Cell} (hs : s[i]? = some (some (.ref p))) (h1 : Hs p = none) (h2 : CellAt G Hs H p c) (n : ¬ Own r p) : StOk G (r.set i (.own p c)) s Hs H := by
  refine ⟨by rw [List.length_set]; exact S.len, S.ex, fun j y q => ?_, fun j k p' c' c'' q1 q2 => ?_⟩
  · by_cases e : i = j
    · subst e
      by_cases hl : i < r.length
      · rw [List.getElem?_set_self hl] at q; cases q; rw [hs]; exact .own h1 h2
      · rw [List.getElem?_eq_none (by simpa using hl)] at q; cases q
    · rw [List.getElem?_set_ne e] at q; exact S.sl j y q
  · by_cases ej : i = j
    · subst ej
      by_cases ek : i = k
      · exact ek
      · exfalso
        by_cases hl : i < r.length
        · rw [List.getElem?_set_self hl] at q1; cases q1
          rw [List.getElem?_set_ne ek] at q2
          exact n ⟨k, _, q2⟩
        · rw [List.getElem?_eq_none (by simpa using hl)] at q1; cases q1
    · rw [List.getElem?_set_ne ej] at q1
      by_cases ek : i = k
      · subst ek
        exfalso
        by_cases hl : i < r.length
        · rw [List.getElem?_set_self hl] at q2; cases q2
          exact n ⟨j, _, q1⟩
        · rw [List.getElem?_eq_none (by simpa using hl)] at q2; cases q2
      · rw [List.getElem?_set_ne ek] at q2
        exact S.nd j k p' c' c'' q1 q2
theorem own_putOwn {r : Rho} {i : Nat} {p a : Addr} {c : Cell} (h : Own (r.set i (.own p c)) a) : a = p ∨ Own r a := by
  obtain ⟨j, c', h⟩ := h
  by_cases e : i = j
  · subst e
    by_cases hl : i < r.length
    · rw [List.getElem?_set_self hl] at h; cases h; exact .inl rfl
    · rw [List.getElem?_eq_none (by simpa using hl)] at h; cases h
  · rw [List.getElem?_set_ne e] at h; exact .inr ⟨j, c', h⟩
theorem give_ok : ∀ {ls : List Late} {as : List Sl} {cs : List Cell} {vs : List V} {r : Rho} {Hs Hs1 H1 Hs2 H2 : Hp} {r1 : Rho}, StOk G r s Hs H → LatesOk G r1 s Hs1 H1 vs ls → ArgsOk G Hs2 H2 vs as → NdOwn as → (∀ a, Own as a → ¬ Own r a) → BackOk G Hs H as cs →
    StOk G (give ls as cs r) s Hs H ∧ ∀ a, Own (give ls as cs r) a → Own r a ∨ Own as a
  | [], [], cs, _, r, _, _, _, _, _, _, S, _, _, _, _, _ => ⟨by cases cs <;> exact S, fun a h => by cases cs <;> exact .inl h⟩
  | [], a :: as, cs, _, r, _, _, _, _, _, _, S, .nil, A, _, _, _ => by cases A
  | l :: ls, [], cs, _, r, _, _, _, _, _, _, S, .cons _ _ _, A, _, _, _ => by cases A
  | l :: ls, .sh d :: as, cs, _, r, _, _, _, _, _, _, S, .cons x1 x2 x3, A, nd, dj, B => by
    have e : give (l :: ls) (.sh d :: as) cs r = give ls as cs r := by cases l <;> cases cs <;> rfl
    rw [e]
    cases A with
    | sh h1 h2 =>
      cases B with
      | sh B =>
        obtain ⟨y1, y2⟩ := give_ok S x3 h2 nd.tail (fun a h => dj a (own_cons.mpr (.inr h))) B
        exact ⟨y1, fun a h => (y2 a h).imp id fun z => own_cons.mpr (.inr z)⟩
  | l :: ls, .no :: as, cs, _, r, _, _, _, _, _, _, S, .cons _ _ _, A, _, _, _ => by cases A
  | l :: ls, .own p c :: as, cs, _, r, Hs, _, _, _, _, _, S, .cons x1 x2 x3, A, nd, dj, B => by
    cases A with
    | own h0 h1 h2 =>
      cases B with
      | own b1 b2 B =>
        rename_i c' cs'
        cases l with
        | sl i =>
          show StOk G (give ls as cs' (r.set i (.own p c'))) s Hs H ∧ _
          cases x1 with
          | sl x1 =>
          have np : ¬ Own r p := dj p (own_cons.mpr (.inl ⟨_, rfl⟩))
          have S1 := S.putOwn (i := i) x1 b1 b2 np
          obtain ⟨y1, y2⟩ := give_ok S1 x3 h2 nd.tail (fun a h q => by
            rcases own_putOwn q with rfl | q
            · exact nd.head h
            · exact dj a (own_cons.mpr (.inr h)) q) B
          refine ⟨y1, fun a h => ?_⟩
          rcases y2 a h with z | z
          · rcases own_putOwn z with rfl | z
            · exact .inr (own_cons.mpr (.inl ⟨_, rfl⟩))
            · exact .inl z
          · exact .inr (own_cons.mpr (.inr z))
        | st d =>
          show StOk G (give ls as cs' r) s Hs H ∧ _
          obtain ⟨y1, y2⟩ := give_ok S x3 h2 nd.tail (fun a h => dj a (own_cons.mpr (.inr h))) B
          exact ⟨y1, fun a h => (y2 a h).imp id fun z => own_cons.mpr (.inr z)⟩
        | nw q c0 =>
          show StOk G (give ls as cs' r) s Hs H ∧ _
          obtain ⟨y1, y2⟩ := give_ok S x3 h2 nd.tail (fun a h => dj a (own_cons.mpr (.inr h))) B
          exact ⟨y1, fun a h => (y2 a h).imp id fun z => own_cons.mpr (.inr z)⟩
end
end Z

/-! Z6: a call of a def, statements, the body of a def. -/
namespace Z
open PySem L2
open PyProof.Rows (envOfC)
open Evl (Ex ex_rd ex_l ex_t)

section
variable {G : Gm} {r r' : Rho} {s s' : St} {Hs H Hs' H' : Hp}
theorem StOk.other {O O' : Addr → Prop} (S : StOk G r s Hs H) (g : Go O O' Hs H Hs' H') (e : Ex Hs' H') (n : ∀ a, Own r a → ¬ O a) : StOk G r s Hs' H' := by
  refine ⟨S.len, e, fun i x q => ?_, S.nd⟩
  have z := S.sl i x q
  revert z
  generalize s[i]? = w
  intro z
  cases z with
  | no => exact .no
  | sh h => exact .sh (h.mono g.ss)
  | own h1 h2 =>
    have no := n _ ⟨i, _, q⟩
    obtain ⟨o, ho⟩ := h2.isv
    exact .own (g.fr _ o ho h1 no) (h2.go g.ss fun o q => g.kp _ o q no)
end

/-- a def of the module under a name -/
structure DefOk (P : Program) (w : World) (K : PySem.W.Frag) (mg : Str → Option Value) (base : Heap) (k : Nat) (x : Str) (f : FSpec) : Prop where
  ex : ∃ (fa : Addr), FnR P w K mg base (L2.CX P w) k fa (spF ⟨K, mg⟩ f) ∧ mg x = some (.ref fa) ∧ PySem.W.keepIn K (.ref fa) = true
theorem DefOk.mono {P : Program} {w : World} {K : PySem.W.Frag} {mg : Str → Option Value} {base : Heap} {j k : Nat} {x : Str} {f : FSpec} (h : DefOk P w K mg base j x f) (hk : j ≤ k) : DefOk P w K mg base k x f :=
  let ⟨fa, a, b, c⟩ := h.ex; ⟨fa, a.mono hk, b, c⟩
theorem DefOk.imp {P : Program} {w : World} {K : PySem.W.Frag} {mg : Str → Option Value} {base : Heap} {k : Nat} {x : Str} {f g : FSpec} (h : DefOk P w K mg base k x f) (i : ∀ as Q QE, g as Q QE → f as Q QE) : DefOk P w K mg base k x g :=
  let ⟨fa, a, b, c⟩ := h.ex; ⟨fa, a.imp fun vs H Q E ⟨as, Hs, P', PE, h1, h2, h3, h4, h5⟩ => ⟨as, Hs, P', PE, h1, h2, h3, i _ _ _ h4, h5⟩, b, c⟩
@[simp] def withP (ms : List Bool) (ls : List Late) (r : Rho) (k : List Sl → Rho → Prop) : Prop := match pass ms ls r with
  | some (as, r') => k as r'
  | none => False
theorem withP_iff {ms : List Bool} {ls : List Late} {r : Rho} {k : List Sl → Rho → Prop} (h : withP ms ls r k) : ∃ as r', pass ms ls r = some (as, r') ∧ k as r' := by
  unfold withP at h
  split at h
  · exact ⟨_, _, by assumption, h⟩
  · exact h.elim
@[simp] def wCall (f : FSpec) (ms : List Bool) (t : TAw) : XW := fun r P PE => t r (fun ls r1 => withP ms ls r1 fun as r2 => f as (fun d cs => d.out P (give ls as cs r2)) (fun x cs => PE x (give ls as cs r2))) PE
section
variable {X : Cx} {W : WX} {e : Expr} {es : List Expr} {ta : TAw} {pos p : Pos} {x : Str} {k j : Nat} {f : FSpec}
theorem own_has {G : Gm} {Hs H : Hp} : ∀ {vs : List V} {as : List Sl} {p : Addr}, ArgsOk G Hs H vs as → Own as p → H p = none → False
  | _, _, _, .nil, h, _ => own_nil h
  | _, _, _, .sh _ b, h, e => by
    rcases own_cons.mp h with ⟨_, q⟩ | h
    · cases q
    · exact own_has b h e
  | _, _, _, .own _ a b, h, e => by
    rcases own_cons.mp h with ⟨_, q⟩ | h
    · cases q
      obtain ⟨o, ho⟩ := a.isv
      rw [e] at ho; cases ho
    · exact own_has b h e
/-- the heart of a call: from the arguments handed over to the def's promise -/
theorem call_core {r r1 : Rho} {s : St} {Hs H Hs1 H1 : Hp} {ms : List Bool} {ls : List Late} {vs : List V} {P : Late → Rho → Prop} {PE : Exc → Rho → Prop} {Q : VK} {E : XK}
    (o : Out (gm X) r s Hs H r1 Hs1 H1) (lo : LatesOk (gm X) r1 s Hs1 H1 vs ls) (nw : ∀ l ∈ ls, NewAt H l)
    (q : withP ms ls r1 fun as r2 => f as (fun d cs => d.out P (give ls as cs r2)) (fun x cs => PE x (give ls as cs r2)))
    (k : ∀ l r' v Hs' H', P l r' → Out (gm X) r s Hs H r' Hs' H' → LateOk (gm X) r' s Hs' H' v l → NewAt H l → Q v H')
    (ke : ∀ x r' cls d Hs' H', PE x r' → Out (gm X) r s Hs H r' Hs' H' → ExcOk (gm X) Hs' cls d x → E cls d H') : spF (gm X) f vs H1 Q E := by
  obtain ⟨as, r2, ep, q⟩ := withP_iff q
  obtain ⟨Hs2, K⟩ := pass_ok (H0 := H) (Hs0 := Hs) (r0 := r) o.S lo ep
  -- what the handing over changed
  have g2 : Go (Own r) (fun a => Own r2 a ∨ Own as a) Hs H Hs2 H1 := by
    refine ⟨o.g.ss.trans K.ss, o.g.kp, fun a u h1 h2 h3 => ?_, fun a h => ?_, o.g.th⟩
    · refine K.pr a (o.g.fr a u h1 h2 h3) (fun z => ?_) (fun c z => ?_)
      · rcases o.g.ow a z with z | z
        · exact h3 z
        · rw [h1] at z; cases z
      · have := nw _ z a c rfl
        rw [h1] at this; cases this
    · rcases h with h | h
      · exact o.g.ow a (K.sb a h)
      · rcases K.fr a h with z | ⟨c, z⟩
        · exact o.g.ow a z
        · exact .inr (nw _ z a c rfl)
  have fin : ∀ {cs : List Cell} {Hs' H' : Hp}, Ex Hs' H' → Go (Own as) (Own as) Hs2 H1 Hs' H' → BackOk (gm X) Hs' H' as cs → Out (gm X) r s Hs H (give ls as cs r2) Hs' H' := by
    intro cs Hs' H' ex g bk
    have S3 : StOk (gm X) r2 s Hs' H' := K.S.other g ex fun a h1 h2 => K.dj a h2 h1
    obtain ⟨S4, ow⟩ := give_ok S3 lo K.ak K.nd K.dj bk
    exact ⟨S4, g2.trans ⟨g.ss, fun a u h n => g.kp a u h fun z => n (.inr z), fun a u h h2 n => g.fr a u h h2 fun z => n (.inr z), fun a h => .inl (ow a h), g.th⟩⟩
  refine ⟨as, Hs2, _, _, K.ak, K.S.ex, K.nd, q, fun d cs v Hs' H' pd ex g rp bk => ?_, fun x cs cls dd Hs' H' px ex g eo bk => ?_⟩
  · cases rp with
    | val rp => exact k _ _ _ _ _ pd (fin ex g bk) (.st rp) (fun _ _ q => nomatch q)
    | new z1 z2 z3 =>
      refine k _ _ _ _ _ (pd _) (fin ex g bk) (.nw z1 z2 fun ow => ?_) (fun p c e => by cases e; exact o.g.th _ z3)
      have S3 : StOk (gm X) r2 s Hs' H' := K.S.other g ex fun a h1 h2 => K.dj a h2 h1
      rcases (give_ok S3 lo K.ak K.nd K.dj bk).2 _ ow with h | h
      · exact K.S.notOwn z3 h
      · exact own_has K.ak h z3
  · exact ke _ _ _ _ _ _ px (fin ex g bk) eo
theorem run_fnRS {pins : List (Addr × Obj)} {σ : St} {H : Hp} {s : Shared} {CX : CXT} {k : Nat} {f : Addr} {sp : Sp} {E : XK} {Q : VK} {us : List Value} {vs : List V} (F : FnR X.prog X.w X.K X.mg X.base CX k f sp) (hr : Room k X.A) (hx : PassesAt CX X σ E) (I : Inv X pins σ H s) (r : Vals vs us) (h : sp vs H Q E) :
    wpAny (model X.prog X.w) X.A (call (.ref f) us) (EP X pins σ Q) X.xe s := by
  refine wpAny_call (codeAny_mono (F X.A X.stack s H us vs Q E hr I.env0 r h) fun r s' hq => ?_)
  cases r with
  | error e => exact hx pins H s e s' I hq
  | ok fl =>
    cases fl with
    | ret u => exact I.after hq
    | next => exact False.elim hq
    | brk => exact False.elim hq
    | cont => exact False.elim hq
theorem pe_callR {CX : CXT} {k : Nat} {f : Addr} {sp : Sp} {E : St → XK} {t : TA} (F : FnR X.prog X.w X.K X.mg X.base CX k f sp) (hr : Room k X.A) (hg : Gl X x) (hm : X.mg x = some (.ref f)) (hk : PySem.W.keepIn X.K (.ref f) = true) (hx : ∀ σ, PassesAt CX X σ (E σ))
    (ha : PA X (e :: es) t) (hdb : (x == ("__debug__" : Str)) = false := by decide) (he : starEach (e :: es) X.env = (false, eval e X.env) :: starEach es X.env := by rfl) (hpl : (backTo pos (starEach es X.env)).any (·.1) = false := by rfl) :
    PE X (.Call (.Name x p) (e :: es) [] pos) (tCallS sp E t) := by
  refine ⟨fun pins s σ H Q I h => ?_⟩
  refine wpAny_Call_Name_kw (ld_glob I hg hm ?_ hdb)
  refine PySem.W.callWith_K (h₀ := X.base) I.ok.mod.kin hk (thn (ha.run pos pins s σ H _ I h) fun us s1 ⟨vs, H1, I1, r, q⟩ => ⟨I1.kIn, ?_⟩) he hpl
  exact run_fnRS F hr (hx σ) I1 r q
theorem pe_callR0 {CX : CXT} {k : Nat} {f : Addr} {sp : Sp} {E : St → XK} (F : FnR X.prog X.w X.K X.mg X.base CX k f sp) (hr : Room k X.A) (hg : Gl X x) (hm : X.mg x = some (.ref f)) (hk : PySem.W.keepIn X.K (.ref f) = true) (hx : ∀ σ, PassesAt CX X σ (E σ))
    (hdb : (x == ("__debug__" : Str)) = false := by decide) : PE X (.Call (.Name x p) [] [] pos) (tCallS sp E tNil) := by
  refine ⟨fun pins s σ H Q I h => ?_⟩
  refine wpAny_Call_Name_kw (ld_glob I hg hm ?_ hdb)
  refine PySem.W.callWith_K0 (K := X.K) I.kIn hk ?_
  exact run_fnRS F hr (hx σ) I .nil h
theorem se_call (F : DefOk X.prog X.w X.K X.mg X.base k x f) (hr : Room j X.A) (hk : k ≤ j) (hg : Gl X x) (tk : Takes X W) (ms : List Bool) (ha : SA X W (e :: es) ta) (hdb : (x == ("__debug__" : Str)) = false := by decide)
    (he : starEach (e :: es) X.env = (false, eval e X.env) :: starEach es X.env := by rfl) (hpl : (backTo pos (starEach es X.env)).any (·.1) = false := by rfl) : SE X W (.Call (.Name x p) (e :: es) [] pos) (wCall f ms ta) := by
  obtain ⟨fa, F1, F2, F3⟩ := F.ex
  refine pe_imp (pe_callR F1 (hr.mono hk) hg F2 F3 (fun σ => passAt tk σ) ha hdb he hpl) fun s H Q q => ?_
  obtain ⟨r, Hs, P, PE, S, w, kk, ke⟩ := q
  refine ⟨r, Hs, _, PE, S, w, fun ls r1 vs Hs1 H1 p o lo nw => ?_, ke⟩
  exact call_core o lo nw p kk ke
theorem se_call0 (F : DefOk X.prog X.w X.K X.mg X.base k x f) (hr : Room j X.A) (hk : k ≤ j) (hg : Gl X x) (tk : Takes X W) (hdb : (x == ("__debug__" : Str)) = false := by decide) : SE X W (.Call (.Name x p) [] [] pos) (wCall f [] waNil) := by
  obtain ⟨fa, F1, F2, F3⟩ := F.ex
  refine pe_imp (pe_callR0 F1 (hr.mono hk) hg F2 F3 (fun σ => passAt tk σ) hdb) fun s H Q q => ?_
  obtain ⟨r, Hs, P, PE, S, w, kk, ke⟩ := q
  show spF (gm X) f [] H Q _
  have w' : withP [] [] r fun as r2 => f as (fun d cs => d.out P (give [] as cs r2)) (fun x cs => PE x (give [] as cs r2)) := w
  exact call_core (Out.refl S) .nil (fun _ h => nomatch h) w' kk ke
end

/-! ### statements -/
structure Fl where
  nx : Rho → Prop
  rt : LR → Rho → Prop
  bk : Rho → Prop
  ct : Rho → Prop
  ex : Exc → Rho → Prop
abbrev WS := Rho → Fl → Prop
structure OutS (G : Gm) (r : Rho) (Hs H : Hp) (r' : Rho) (s' : St) (Hs' H' : Hp) : Prop where
  S : StOk G r' s' Hs' H'
  g : Go (Own r) (Own r') Hs H Hs' H'
theorem OutS.refl {G : Gm} {r : Rho} {s : St} {Hs H : Hp} (S : StOk G r s Hs H) : OutS G r Hs H r s Hs H := ⟨S, Go.refl⟩
theorem OutS.trans {G : Gm} {r r1 r2 : Rho} {s1 s2 : St} {Hs H Hs1 H1 Hs2 H2 : Hp} (a : OutS G r Hs H r1 s1 Hs1 H1) (b : OutS G r1 Hs1 H1 r2 s2 Hs2 H2) : OutS G r Hs H r2 s2 Hs2 H2 := ⟨b.S, a.g.trans b.g⟩
theorem Out.outS {G : Gm} {r r1 : Rho} {s : St} {Hs H Hs1 H1 : Hp} (a : Out G r s Hs H r1 Hs1 H1) : OutS G r Hs H r1 s Hs1 H1 := ⟨a.S, a.g⟩
/-- a value handed back -/
inductive RetS (G : Gm) (r : Rho) (H : Hp) (r' : Rho) (Hs' H' : Hp) : V → LR → Prop
  | val {v d} : Rep G Hs' v d → RetS G r H r' Hs' H' v (.val d)
  | new {p c} : Hs' p = none → CellAt G Hs' H' p c → ¬ Own r' p → Own r p ∨ H p = none → RetS G r H r' Hs' H' (.ref p) (.new c)
theorem RetS.back {G : Gm} {r r1 r2 : Rho} {s1 : St} {Hs H Hs1 H1 Hs2 H2 : Hp} {v : V} {l : LR} (h : RetS G r1 H1 r2 Hs2 H2 v l) (o : OutS G r Hs H r1 s1 Hs1 H1) : RetS G r H r2 Hs2 H2 v l := by
  cases h with
  | val h => exact .val h
  | new a b c d =>
    refine .new a b c ?_
    rcases d with d | d
    · exact o.g.ow _ d
    · exact .inr (o.g.th _ d)
/-- what the ends want -/
structure Ket (G : Gm) (W : WX) (D : Ends) (F : Fl) (r : Rho) (Hs H : Hp) : Prop where
  nx : ∀ r' s' Hs' H', F.nx r' → OutS G r Hs H r' s' Hs' H' → D.nx s' H'
  rt : ∀ d r' s' v Hs' H', F.rt d r' → OutS G r Hs H r' s' Hs' H' → RetS G r H r' Hs' H' v d → D.rt v H'
  bk : ∀ r' s' Hs' H', F.bk r' → OutS G r Hs H r' s' Hs' H' → D.bk s' H'
  ct : ∀ r' s' Hs' H', F.ct r' → OutS G r Hs H r' s' Hs' H' → D.ct s' H'
  ex : ∀ x r' s' cls d Hs' H', F.ex x r' → OutS G r Hs H r' s' Hs' H' → ExcOk G Hs' cls d x → W cls d s' H'
theorem Ket.mono {G : Gm} {W : WX} {D : Ends} {F : Fl} {r r1 : Rho} {s1 : St} {Hs H Hs1 H1 : Hp} (k : Ket G W D F r Hs H) (o : OutS G r Hs H r1 s1 Hs1 H1) : Ket G W D F r1 Hs1 H1 :=
  ⟨fun r' s' Hs' H' h o' => k.nx r' s' Hs' H' h (o.trans o'), fun d r' s' v Hs' H' h o' rp => k.rt d r' s' v Hs' H' h (o.trans o') (rp.back o), fun r' s' Hs' H' h o' => k.bk r' s' Hs' H' h (o.trans o'),
   fun r' s' Hs' H' h o' => k.ct r' s' Hs' H' h (o.trans o'), fun x r' s' cls d Hs' H' h o' e => k.ex x r' s' cls d Hs' H' h (o.trans o') e⟩
def tWS (G : Gm) (W : WX) (w : WS) : TS := fun D s H => ∃ (r : Rho) (Hs : Hp) (F : Fl), StOk G r s Hs H ∧ w r F ∧ Ket G W D F r Hs H
def SS (X : Cx) (W : WX) (st : Stmt) (w : WS) : Prop := PS X st (tWS (gm X) W w)
def SSs (X : Cx) (W : WX) (st : List Stmt) (w : WS) : Prop := PSs X st (tWS (gm X) W w)
theorem ps_imp {X : Cx} {st : Stmt} {t t' : TS} (h : PS X st t) (i : ∀ D s H, t' D s H → t D s H) : PS X st t' := ⟨fun pins s σ H D I q => h.run pins s σ H D I (i D σ H q)⟩
theorem pss_imp {X : Cx} {st : List Stmt} {t t' : TS} (h : PSs X st t) (i : ∀ D s H, t' D s H → t D s H) : PSs X st t' := ⟨fun pins s σ H D I q => h.run pins s σ H D I (i D σ H q)⟩
/-- an expression within a statement -/
theorem tw_run {G : Gm} {W : WX} {w : XW} {F : Fl} {D : Ends} {r : Rho} {s : St} {Hs H : Hp} {P : Late → Rho → Prop} {Q : VK} (S : StOk G r s Hs H) (q : w r P F.ex) (k : Ket G W D F r Hs H)
    (h : ∀ l r' v Hs' H', P l r' → Out G r s Hs H r' Hs' H' → LateOk G r' s Hs' H' v l → NewAt H l → Q v H') : tW G W w s H Q :=
  ⟨r, Hs, P, F.ex, S, q, h, fun x r' cls d Hs' H' p o e => k.ex x r' s cls d Hs' H' p o.outS e⟩
theorem twt_run {G : Gm} {W : WX} {w : TWt} {F : Fl} {D : Ends} {r : Rho} {s : St} {Hs H : Hp} {P : Bool → Rho → Prop} {Q : Bool → Hp → Prop} (S : StOk G r s Hs H) (q : w r P F.ex) (k : Ket G W D F r Hs H)
    (h : ∀ l r' Hs' H', P l r' → Out G r s Hs H r' Hs' H' → Q l H') : tWT G W w s H Q :=
  ⟨r, Hs, P, F.ex, S, q, h, fun x r' cls d Hs' H' p o e => k.ex x r' s cls d Hs' H' p o.outS e⟩
section
variable {G : Gm} {r : Rho} {s : St} {Hs H : Hp}
theorem get_set {α : Type} {l : List α} {i : Nat} {x y : α} (h : (l.set i x)[i]? = some y) : y = x ∧ i < l.length := by
  by_cases hl : i < l.length
  · rw [List.getElem?_set_self hl] at h; cases h; exact ⟨rfl, hl⟩
  · rw [List.getElem?_eq_none (by simpa using hl)] at h; cases h
/-- a name is stored: kept data -/
theorem StOk.setSh (S : StOk G r s Hs H) {i : Nat} {v : V} {d : D} (h : Rep G Hs v d) : StOk G (r.set i (.sh d)) (s.set i (some v)) Hs H := by
  refine ⟨by rw [List.length_set, List.length_set]; exact S.len, S.ex, fun j y q => ?_, fun j k p c c' q1 q2 => ?_⟩
  · by_cases e : i = j
    · subst e
      obtain ⟨rfl, hl⟩ := get_set q
      rw [List.getElem?_set_self (by rw [← S.len]; exact hl)]
      exact .sh h
    · rw [List.getElem?_set_ne e] at q ⊢; exact S.sl j y q
  · have get : ∀ j c, (r.set i (.sh d))[j]? = some (Sl.own p c) → r[j]? = some (Sl.own p c) := fun j c q => by
      by_cases e : i = j
      · subst e; obtain ⟨z, _⟩ := get_set q; cases z
      · rw [List.getElem?_set_ne e] at q; exact q
    exact S.nd j k p c c' (get j c q1) (get k c' q2)
/-- .. its own object -/
theorem StOk.setOwn (S : StOk G r s Hs H) {i : Nat} {p : Addr} {c : Cell} (h1 : Hs p = none) (h2 : CellAt G Hs H p c) (n : ¬ Own r p) : StOk G (r.set i (.own p c)) (s.set i (some (.ref p))) Hs H := by
  refine ⟨by rw [List.length_set, List.length_set]; exact S.len, S.ex, fun j y q => ?_, fun j k p' c' c'' q1 q2 => ?_⟩
  · by_cases e : i = j
    · subst e
      obtain ⟨rfl, hl⟩ := get_set q
      rw [List.getElem?_set_self (by rw [← S.len]; exact hl)]
      exact .own h1 h2
    · rw [List.getElem?_set_ne e] at q ⊢; exact S.sl j y q
  · by_cases ej : i = j
    · subst ej
      by_cases ek : i = k
      · exact ek
      · obtain ⟨z, _⟩ := get_set q1
        cases z
        rw [List.getElem?_set_ne ek] at q2
        exact (n ⟨k, _, q2⟩).elim
    · rw [List.getElem?_set_ne ej] at q1
      by_cases ek : i = k
      · subst ek
        obtain ⟨z, _⟩ := get_set q2
        cases z
        exact (n ⟨j, _, q1⟩).elim
      · rw [List.getElem?_set_ne ek] at q2
        exact S.nd j k p' c' c'' q1 q2
theorem Go.sub' {O O1 O2 : Addr → Prop} {Hs1 H1 : Hp} (a : Go O O1 Hs H Hs1 H1) (h : ∀ x, O2 x → O1 x ∨ H x = none) : Go O O2 Hs H Hs1 H1 :=
  ⟨a.ss, a.kp, a.fr, fun x q => (h x q).elim (a.ow x) .inr, a.th⟩
end
@[simp] def put (r : Rho) (i : Nat) (l : Late) (k : Rho → Prop) : Prop := match l with
  | .nw p c => k (r.set i (.own p c))
  | l => withF r l fun d r' => k (r'.set i (.sh d))
theorem put_ok {G : Gm} {r r1 : Rho} {s : St} {Hs H Hs1 H1 : Hp} {v : V} {l : Late} {i : Nat} {k : Rho → Prop} (o : Out G r s Hs H r1 Hs1 H1) (lo : LateOk G r1 s Hs1 H1 v l) (n : NewAt H l) (q : put r1 i l k) :
    ∃ r' Hs', k r' ∧ OutS G r Hs H r' (s.set i (some v)) Hs' H1 := by
  cases l with
  | nw p c =>
    cases lo with
    | nw h1 h2 h3 =>
      exact ⟨_, Hs1, q, o.S.setOwn h1 h2 h3, o.g.sub' fun x h => (own_putOwn h).elim (fun e => by subst e; exact .inr (n _ _ rfl)) .inl⟩
  | st d =>
    have q : withF r1 (.st d) fun d r' => k (r'.set i (.sh d)) := q
    obtain ⟨d', r', e, q⟩ := withF_iff q
    obtain ⟨Hs', S', rp, g, _⟩ := lo.frz o.S o.g n e
    exact ⟨_, Hs', q, S'.setSh rp, g.sub fun x => Own.set (by intro p c q; cases q)⟩
  | sl j =>
    have q : withF r1 (.sl j) fun d r' => k (r'.set i (.sh d)) := q
    obtain ⟨d', r', e, q⟩ := withF_iff q
    obtain ⟨Hs', S', rp, g, _⟩ := lo.frz o.S o.g n e
    exact ⟨_, Hs', q, S'.setSh rp, g.sub fun x => Own.set (by intro p c q; cases q)⟩
section
variable {X : Cx} {W : WX} {e c : Expr} {w : XW} {tw : TWt} {pos pos' : Pos} {st : Stmt} {rest sa sb : List Stmt} {ws wt wa wb : WS}
@[simp] def wNext : WS := fun r F => F.nx r
@[simp] def wSeq (t u : WS) : WS := fun r F => t r { F with nx := fun r' => u r' F }
theorem ss_nil : SSs X W [] wNext := by
  refine pss_imp pss_nil fun D s H q => ?_
  obtain ⟨r, Hs, F, S, w, k⟩ := q
  exact k.nx _ _ _ _ w (OutS.refl S)
theorem ss_cons (h1 : SS X W st wt) (h2 : SSs X W rest ws) : SSs X W (st :: rest) (wSeq wt ws) := by
  refine pss_imp (pss_cons h1 h2) fun D s H q => ?_
  obtain ⟨r, Hs, F, S, w, k⟩ := q
  exact ⟨r, Hs, _, S, w, fun r' s' Hs' H' h o => ⟨r', Hs', F, o.S, h, k.mono o⟩, k.rt, k.bk, k.ct, k.ex⟩
theorem ss_one (h1 : SS X W st wt) : SSs X W [st] wt := pss_imp (pss_one h1) fun D s H q => q
@[simp] def wBrk : WS := fun r F => F.bk r
@[simp] def wCnt : WS := fun r F => F.ct r
theorem ss_pass : SS X W (.Pass pos) wNext := by
  refine ps_imp ps_pass fun D s H q => ?_
  obtain ⟨r, Hs, F, S, w, k⟩ := q
  exact k.nx _ _ _ _ w (OutS.refl S)
theorem ss_break : SS X W (.Break pos) wBrk := by
  refine ps_imp ps_break fun D s H q => ?_
  obtain ⟨r, Hs, F, S, w, k⟩ := q
  exact k.bk _ _ _ _ w (OutS.refl S)
theorem ss_cont : SS X W (.Continue pos) wCnt := by
  refine ps_imp ps_continue fun D s H q => ?_
  obtain ⟨r, Hs, F, S, w, k⟩ := q
  exact k.ct _ _ _ _ w (OutS.refl S)
@[simp] def wAsg (i : Nat) (w : XW) : WS := fun r F => w r (fun l r1 => put r1 i l F.nx) F.ex
theorem ss_asg {i : Nat} {x : Str} (hN : X.N.Nodup) (he : SE X W e w) (hi : X.N[i]? = some x := by rfl) (hx : Loc X.env.scope x := by first | exact Or.inl rfl | exact Or.inr rfl) (hf : X.fn x = true ∨ X.env.scope.names.lookup x = some .local := by first | exact .inl rfl | exact .inr rfl)
    (hs : swapsWithSole [.Name x pos'] e pos.line X.env = pure false := by rfl) (hw : swappedStores [.Name x pos'] e X.env = pure none := by rfl)
    (h1 : (assignEach [.Name x pos'] X.env).map (·.2) = [assign (.Name x pos') X.env] := by rfl) : SS X W (.Assign [.Name x pos'] e pos) (wAsg i w) := by
  refine ps_imp (ps_asg he (pg_name hN hi hx hf) hs hw h1) fun D s H q => ?_
  obtain ⟨r, Hs, F, S, w, k⟩ := q
  refine tw_run S w k fun l r1 v Hs1 H1 p o lo n => ?_
  obtain ⟨r', Hs', q, o'⟩ := put_ok o lo n p
  exact k.nx _ _ _ _ q o'
@[simp] def wDrop (w : XW) : WS := fun r F => w r (fun _ r1 => F.nx r1) F.ex
theorem ss_expr (he : SE X W e w) (hs : swapsWith e none pos.line X.env = pure false := by rfl) : SS X W (.Expr e pos) (wDrop w) := by
  refine ps_imp (ps_expr he hs) fun D s H q => ?_
  obtain ⟨r, Hs, F, S, w, k⟩ := q
  exact tw_run S w k fun l r1 v Hs1 H1 p o lo n => k.nx _ _ _ _ p o.outS
/-- handed back: a slot's own object is given away -/
@[simp] def withR (r : Rho) (l : Late) (k : LR → Rho → Prop) : Prop := match l with
  | .st d => k (.val d) r
  | .nw _ c => k (.new c) r
  | .sl i => match r[i]? with
    | some (Sl.sh d) => k (.val d) r
    | some (Sl.own _ c) => k (.new c) (r.set i .no)
    | _ => False
@[simp] def wRet (w : XW) : WS := fun r F => w r (fun l r1 => withR r1 l F.rt) F.ex
theorem ss_ret (he : SE X W e w) : SS X W (.Return (some e) pos) (wRet w) := by
  refine ps_imp (ps_ret he) fun D s H q => ?_
  obtain ⟨r, Hs, F, S, w, k⟩ := q
  refine tw_run S w k fun l r1 v Hs1 H1 p o lo n => ?_
  cases lo with
  | st rp => exact k.rt _ _ _ _ _ _ p o.outS (.val rp)
  | nw h1 h2 h3 => exact k.rt _ _ _ _ _ _ p o.outS (.new h1 h2 h3 (.inr (n _ _ rfl)))
  | sl hv =>
    rename_i i
    simp only [withR] at p
    split at p
    · rename_i d q
      have z := o.S.sl i _ q
      rw [hv] at z
      cases z with
      | sh rp => exact k.rt _ _ _ _ _ _ p o.outS (.val rp)
    · rename_i a c q
      have z := o.S.sl i _ q
      rw [hv] at z
      cases z with
      | own z1 z2 =>
        have hsub : ∀ x, Own (r1.set i .no) x → Own r1 x := fun a => Own.set (by intro p c q; cases q)
        exact k.rt _ _ _ _ _ _ p ⟨o.S.put (x := .no) (by intro p c q; cases q) .no, o.g.sub hsub⟩ (.new z1 z2 (own_no o.S.nd q) (o.g.ow _ ⟨i, c, q⟩))
    · exact p.elim
@[simp] def wRetN : WS := fun r F => F.rt (.val .non) r
theorem ss_retN : SS X W (.Return none pos) wRetN := by
  refine ps_imp ps_retN fun D s H q => ?_
  obtain ⟨r, Hs, F, S, w, k⟩ := q
  exact k.rt _ _ _ _ _ _ w (OutS.refl S) (.val .non)
@[simp] def wIfS (t : TWt) (a b : WS) : WS := fun r F => t r (fun k r1 => if k = true then a r1 F else b r1 F) F.ex
theorem ss_if (hc : ST X W c tw) (ha : SSs X W sa wa) (hb : SSs X W sb wb) : SS X W (.If c sa sb pos) (wIfS tw wa wb) := by
  refine ps_imp (ps_if hc ha hb) fun D s H q => ?_
  obtain ⟨r, Hs, F, S, w, k⟩ := q
  refine twt_run S w k fun b r1 Hs1 H1 p o => ?_
  cases b with
  | true =>
    rw [if_pos rfl] at p
    exact iteT ⟨r1, Hs1, F, o.S, p, k.mono o.outS⟩
  | false =>
    rw [if_neg (by simp)] at p
    exact iteF ⟨r1, Hs1, F, o.S, p, k.mono o.outS⟩
/-- while: by an invariant with a measure -/
@[simp] def wWhile (t : TWt) (b : WS) : WS := fun r F => ∃ I : Nat → Rho → Prop, (∃ m, I m r) ∧ ∀ m r, I m r → t r (fun k r1 => if k = true then b r1 { F with nx := fun r2 => ∃ m', m' < m ∧ I m' r2, ct := fun r2 => ∃ m', m' < m ∧ I m' r2, bk := F.nx } else F.nx r1) F.ex
theorem ss_while (hp : PassesOwn (model X.prog X.w) X.A X.env X.xe) (hc : ST X W c tw) (hb : SSs X W sb wb) : SS X W (.While c sb [] pos) (wWhile tw wb) := by
  refine ps_imp (ps_while hp hc hb) fun D s H q => ?_
  obtain ⟨r, Hs, F, S, ⟨I, ⟨m0, i0⟩, turn⟩, k⟩ := q
  refine ⟨fun m s' H' => ∃ r' Hs', I m r' ∧ OutS (gm X) r Hs H r' s' Hs' H', ⟨m0, r, Hs, i0, OutS.refl S⟩, fun m s' H' ⟨r', Hs', im, o⟩ => ?_⟩
  have k' := k.mono o
  refine twt_run o.S (turn m r' im) k' fun b r1 Hs1 H1 p o1 => ?_
  cases b with
  | true =>
    rw [if_pos rfl] at p
    refine iteT ⟨fun s2 H2 => ∃ r2 Hs2, (∃ m', m' < m ∧ I m' r2) ∧ OutS (gm X) r Hs H r2 s2 Hs2 H2, fun s2 H2 ⟨r2, Hs2, ⟨m', hm, i'⟩, o2⟩ => ⟨m', hm, r2, Hs2, i', o2⟩, r1, Hs1, _, o1.S, p, ?_⟩
    have o01 := o.trans o1.outS
    exact ⟨fun r2 s2 Hs2 H2 h o2 => ⟨r2, Hs2, h, o01.trans o2⟩, (k.mono o01).rt, (k.mono o01).nx, fun r2 s2 Hs2 H2 h o2 => ⟨r2, Hs2, h, o01.trans o2⟩, (k.mono o01).ex⟩
  | false =>
    rw [if_neg (by simp)] at p
    exact iteF (k'.nx _ _ _ _ p o1.outS)
/-- a, b = e1, e2 -/
@[simp] def wPar (i j : Nat) (t : TAw) : WS := fun r F => t r (fun ls r1 => match ls with
  | [la, .st d] => put r1 i la fun r2 => F.nx (r2.set j (.sh d))
  | [la, .nw q c] => put r1 i la fun r2 => F.nx (r2.set j (.own q c))
  | _ => False) F.ex
theorem put_ok2 {G : Gm} {r r1 : Rho} {s : St} {Hs H Hs1 H1 : Hp} {v v2 : V} {l : Late} {i j : Nat} {x : Sl} {k : Rho → Prop} (o : Out G r s Hs H r1 Hs1 H1) (lo : LateOk G r1 s Hs1 H1 v l) (n : NewAt H l) (q : put r1 i l fun r2 => k (r2.set j x))
    (h2 : (∃ d, x = .sh d ∧ Rep G Hs1 v2 d) ∨ ∃ p c, x = .own p c ∧ v2 = .ref p ∧ Hs1 p = none ∧ CellAt G Hs1 H1 p c ∧ ¬ Own r1 p ∧ H p = none ∧ ∀ c', l ≠ .nw p c') :
    ∃ r' Hs', k r' ∧ OutS G r Hs H r' ((s.set i (some v)).set j (some v2)) Hs' H1 := by
  have fin : ∀ (r2 : Rho) (Hs2 : Hp), k (r2.set j x) → StOk G r2 (s.set i (some v)) Hs2 H1 → Go (Own r) (Own r2) Hs H Hs2 H1 → Ex Hs1 Hs2 →
      (∀ p c, x = .own p c → Hs2 p = none ∧ ¬ Own r2 p) → ∃ r' Hs', k r' ∧ OutS G r Hs H r' ((s.set i (some v)).set j (some v2)) Hs' H1 := by
    intro r2 Hs2 kq S2 g2 e2 no
    rcases h2 with ⟨d, rfl, rp⟩ | ⟨p, c, rfl, rfl, h1, h2, h3, h4, _⟩
    · exact ⟨_, Hs2, kq, S2.setSh (rp.mono e2), g2.sub fun x => Own.set (by intro p c q; cases q)⟩
    · obtain ⟨z1, z2⟩ := no p c rfl
      exact ⟨_, Hs2, kq, S2.setOwn z1 (h2.go e2 fun _ h => h) z2, g2.sub' fun x h => (own_putOwn h).elim (fun e => by subst e; exact .inr h4) .inl⟩
  cases l with
  | nw p c =>
    cases lo with
    | nw h1 h2' h3 =>
      refine fin _ Hs1 q (o.S.setOwn h1 h2' h3) (o.g.sub' fun x h => (own_putOwn h).elim (fun e => by subst e; exact .inr (n _ _ rfl)) .inl) (Ex.refl _) fun p' c' e => ?_
      subst e
      rcases h2 with ⟨d, e, _⟩ | ⟨p2, c2, e, rfl, z1, z2, z3, z4, z5⟩
      · cases e
      · cases e
        exact ⟨z1, fun h => (own_putOwn h).elim (fun e => by subst e; exact z5 _ rfl) z3⟩
  | st d =>
    have q : withF r1 (.st d) fun d r' => k ((r'.set i (.sh d)).set j x) := q
    obtain ⟨d', r', e, q⟩ := withF_iff q
    simp only [frz, Option.some.injEq, Prod.mk.injEq] at e
    obtain ⟨rfl, rfl⟩ := e
    cases lo with
    | st rp =>
      refine fin _ Hs1 q (o.S.setSh rp) (o.g.sub fun x => Own.set (by intro p c q; cases q)) (Ex.refl _) fun p' c' e => ?_
      subst e
      rcases h2 with ⟨d, e, _⟩ | ⟨p2, c2, e, rfl, z1, z2, z3, z4, z5⟩
      · cases e
      · cases e
        exact ⟨z1, fun h => z3 (Own.set (by intro p c q; cases q) h)⟩
  | sl m =>
    have q : withF r1 (.sl m) fun d r' => k ((r'.set i (.sh d)).set j x) := q
    obtain ⟨d', r', e, q⟩ := withF_iff q
    obtain ⟨Hs', S', rp, g, kp⟩ := lo.frz o.S o.g n e
    refine fin _ Hs' q (S'.setSh rp) (g.sub fun x => Own.set (by intro p c q; cases q)) kp.ss fun p' c' e => ?_
    subst e
    rcases h2 with ⟨d, e, _⟩ | ⟨p2, c2, e, rfl, z1, z2, z3, z4, z5⟩
    · cases e
    · cases e
      refine ⟨?_, fun h => z3 (kp.1 _ (Own.set (by intro p c q; cases q) h))⟩
      rcases kp.2 with rfl | ⟨p3, o3, rfl, _, _, ow⟩
      · exact z1
      · rw [upd_ne]
        · exact z1
        · rintro rfl
          rcases ow with ow | ⟨c, e⟩
          · exact z3 ow
          · cases e
theorem ss_par {i j : Nat} {x y : Str} {a b : Expr} {ta : TAw} {px py pt : Pos} {kt k2 pt2} (hc : X.calm = true) (hN : X.N.Nodup) (ha : SA X W [a, b] ta) (hi : X.N[i]? = some x := by rfl) (hj : X.N[j]? = some y := by rfl) (hij : i ≠ j := by decide)
    (hx : X.env.scope.names.lookup x = some .local := by rfl) (hy : X.env.scope.names.lookup y = some .local := by rfl)
    (hw : swappedStores [.Tuple [.Name x px, .Name y py] kt pt] (.Tuple [a, b] k2 pt2) X.env = pure (some [x, y]) := by rfl)
    (hs : swapsWithSole [.Tuple [.Name x px, .Name y py] kt pt] (.Tuple [a, b] k2 pt2) pos.line X.env = pure false := by rfl) :
    SS X W (.Assign [.Tuple [.Name x px, .Name y py] kt pt] (.Tuple [a, b] k2 pt2) pos) (wPar i j ta) := by
  refine ps_imp (ps_par hc hN hi hj hij hx hy ha hw hs) fun D s H q => ?_
  obtain ⟨r, Hs, F, S, w, k⟩ := q
  refine ⟨r, Hs, _, F.ex, S, w, fun ls r1 vs Hs1 H1 p o lo n => ?_, fun x r' cls d Hs' H' p o e => k.ex x r' s cls d Hs' H' p o.outS e⟩
  split at p
  · cases lo with
    | cons l1 n1 lo => cases lo with
      | cons l2 n2 lo => cases lo with
        | nil =>
          rename_i v1 v2
          cases l2 with
          | st rp =>
            obtain ⟨r', Hs', q, o'⟩ := put_ok2 (v2 := v2) o l1 (n _ (List.mem_cons_self ..)) p (.inl ⟨_, rfl, rp⟩)
            exact ⟨_, _, rfl, k.nx _ _ _ _ q o'⟩
  · cases lo with
    | cons l1 n1 lo => cases lo with
      | cons l2 n2 lo => cases lo with
        | nil =>
          cases l2 with
          | nw z1 z2 z3 =>
            obtain ⟨r', Hs', q, o'⟩ := put_ok2 o l1 (n _ (List.mem_cons_self ..)) p (.inr ⟨_, _, rfl, rfl, z1, z2, z3, n _ (List.mem_cons_of_mem _ (List.mem_cons_self ..)) _ _ rfl, fun c' e => n1 _ _ _ e (List.mem_cons_self ..)⟩)
            exact ⟨_, _, rfl, k.nx _ _ _ _ q o'⟩
  · exact p.elim
end

/-! ### the body of a def -/
/-- the lent objects handed back -/
def withBk : List Sl → Rho → (List Cell → Prop) → Prop
  | [], _, k => k []
  | .own p _ :: as, .own q c' :: r, k => p = q ∧ withBk as r fun cs => k (c' :: cs)
  | .sh _ :: as, _ :: r, k => withBk as r k
  | _, _, _ => False
theorem withBk_iff {G : Gm} {Hs H Hs0 H0 : Hp} : ∀ {as : List Sl} {r : Rho} {s : St} {vs : List V} {k : List Cell → Prop}, (∀ (i : Nat) (x : Sl), r[i]? = some x → SlOk G Hs H x s[i]?) → ArgsOk G Hs0 H0 vs as → withBk as r k →
    ∃ cs, k cs ∧ BackOk G Hs H as cs ∧ ∀ a, Own as a → Own r a
  | [], _, _, _, _, _, .nil, h => ⟨[], h, .nil, fun a h => (own_nil h).elim⟩
  | .own p c :: as, [], _, _, _, _, _, h => h.elim
  | .own p c :: as, .no :: r, _, _, _, _, _, h => h.elim
  | .own p c :: as, .sh _ :: r, _, _, _, _, _, h => h.elim
  | .own p c :: as, .own q c' :: r, s, _, k, S, .own _ _ A, h => by
    obtain ⟨rfl, h⟩ : p = q ∧ withBk as r fun cs => k (c' :: cs) := h
    obtain ⟨cs, h1, h2, h3⟩ := withBk_iff (s := s.drop 1) (fun i x h => by
      have := S (i + 1) x (by simpa using h)
      rw [List.getElem?_drop, Nat.add_comm]; exact this) A h
    have z := S 0 _ rfl
    revert z
    generalize s[0]? = w
    intro z
    cases z with
    | own z1 z2 =>
      refine ⟨_, h1, .own z1 z2 h2, fun a h => ?_⟩
      rcases own_cons.mp h with ⟨c2, e2⟩ | h
      · cases e2; exact own_cons.mpr (.inl ⟨_, rfl⟩)
      · exact own_cons.mpr (.inr (h3 a h))
  | .sh d :: as, [], _, _, _, _, _, h => h.elim
  | .sh d :: as, x :: r, s, _, k, S, .sh _ A, h => by
    have h : withBk as r k := by cases x <;> exact h
    obtain ⟨cs, h1, h2, h3⟩ := withBk_iff (s := s.drop 1) (fun i x h => by
      have := S (i + 1) x (by simpa using h)
      rw [List.getElem?_drop, Nat.add_comm]; exact this) A h
    refine ⟨_, h1, .sh h2, fun a h => ?_⟩
    rcases own_cons.mp h with ⟨c2, e2⟩ | h
    · cases e2
    · exact own_cons.mpr (.inr (h3 a h))
/-- what a body's word is to give: the def's word at its ends -/
@[simp] def bodyFl (as : List Sl) (P : LR → List Cell → Prop) (PE : Exc → List Cell → Prop) : Fl :=
  ⟨fun r => withBk as r fun cs => P (.val .non) cs, fun d r => withBk as r fun cs => P d cs, fun _ => False, fun _ => False, fun x r => withBk as r fun cs => PE x cs⟩
def rho0 (N : Nat) (as : List Sl) : Rho := as ++ List.replicate (N - as.length) .no
theorem own_rho0 {N : Nat} {as : List Sl} {a : Addr} : Own (rho0 N as) a ↔ Own as a := by
  constructor
  · rintro ⟨i, c, h⟩
    unfold rho0 at h
    by_cases hi : i < as.length
    · rw [List.getElem?_append_left hi] at h; exact ⟨i, c, h⟩
    · rw [List.getElem?_append_right (by omega)] at h
      rw [List.getElem?_replicate] at h
      split at h <;> cases h
  · rintro ⟨i, c, h⟩
    refine ⟨i, c, ?_⟩
    unfold rho0
    rw [List.getElem?_append_left (List.getElem?_eq_some_iff.mp h).1]; exact h
theorem argsOk_get {G : Gm} {Hs H : Hp} : ∀ {vs : List V} {as : List Sl} {i : Nat} {x : Sl}, ArgsOk G Hs H vs as → as[i]? = some x → SlOk G Hs H x ((vs.map some)[i]?)
  | _, _, _, _, .nil, h => by simp at h
  | _, _, 0, _, .sh a b, h => by simp at h; subst h; exact .sh a
  | _, _, 0, _, .own a b c, h => by simp at h; subst h; exact .own a b
  | _, _, i + 1, x, .sh a b, h => by
    have := argsOk_get (i := i) (x := x) b (by simpa using h)
    simpa using this
  | _, _, i + 1, x, .own a b c, h => by
    have := argsOk_get (i := i) (x := x) c (by simpa using h)
    simpa using this
theorem start_ok {G : Gm} {Hs H : Hp} {vs : List V} {as : List Sl} {N : List Str} (A : ArgsOk G Hs H vs as) (e : Ex Hs H) (nd : NdOwn as) : StOk G (rho0 N.length as) (L2.start N vs) Hs H := by
  refine ⟨?_, e, fun i x q => ?_, fun i j p c c' h1 h2 => ?_⟩
  · unfold rho0 L2.start
    rw [List.length_append, List.length_append, List.length_map, List.length_replicate, List.length_replicate, A.length]
  · unfold rho0 at q
    unfold L2.start
    by_cases hi : i < as.length
    · rw [List.getElem?_append_left hi] at q
      rw [List.getElem?_append_left (by rw [List.length_map, A.length]; exact hi)]
      exact argsOk_get A q
    · rw [List.getElem?_append_right (by omega), List.getElem?_replicate] at q
      split at q
      · cases q; exact .no
      · cases q
  · have get : ∀ i c, (rho0 N.length as)[i]? = some (Sl.own p c) → as[i]? = some (Sl.own p c) := fun i c h => by
      unfold rho0 at h
      by_cases hi : i < as.length
      · rw [List.getElem?_append_left hi] at h; exact h
      · rw [List.getElem?_append_right (by omega), List.getElem?_replicate] at h
        split at h <;> cases h
    exact nd i j p c c' (get i c h1) (get j c' h2)
section
variable {P : Program} {w : World} {K : PySem.W.Frag} {mg : Str → Option Value} {base : Heap}
/-- THE RULE for a def: its body has a word, and the word gives the def's promise -/
theorem body_ok {t : TS} {qual : Str} {sc : Scope} {body : List Stmt} {fa : Addr} {N : List Str} {f : FSpec} {cdv : Value} {A : Around} {outer : List Env} {s : Shared} {H0 : Hp} {E0 : XK} {wb : WS}
    (hw : ∀ (as : List Sl) (Q : LR → List Cell → Prop) (QE : Exc → List Cell → Prop), f as Q QE → wb (rho0 N.length as) (bodyFl as Q QE)) {vs : List V} {H : Hp} {Q : VK} {E : XK} (h : spF ⟨K, mg⟩ f vs H Q E) :
    tWS ⟨K, mg⟩ (fun cls d _ H => E cls d H) wb { nx := fun _ H' => Q .non H', rt := Q } (L2.start N vs) H := by
  obtain ⟨as, Hs, P', PE, A', ex, nd, q, kq, ke⟩ := h
  have ow : ∀ {r' : Rho} {s' : St} {Hs' H' : Hp}, OutS ⟨K, mg⟩ (rho0 N.length as) Hs H r' s' Hs' H' → Go (Own as) (Own as) Hs H Hs' H' := fun o =>
    ⟨o.g.ss, fun a u h n => o.g.kp a u h fun z => n (own_rho0.mp z), fun a u h h2 n => o.g.fr a u h h2 fun z => n (own_rho0.mp z), fun a h => .inl h, o.g.th⟩
  refine ⟨rho0 N.length as, Hs, bodyFl as P' PE, start_ok A' ex nd, hw as P' PE q, ?_, ?_, ?_, ?_, ?_⟩
  · intro r' s' Hs' H' h o
    obtain ⟨cs, h, bk, _⟩ := withBk_iff o.S.sl A' h
    exact kq _ _ _ _ _ h o.S.ex (ow o) (.val .non) bk
  · intro d r' s' v Hs' H' h o rp
    obtain ⟨cs, h, bk, bo⟩ := withBk_iff o.S.sl A' h
    refine kq _ _ _ _ _ h o.S.ex (ow o) ?_ bk
    cases rp with
    | val rp => exact .val rp
    | new z1 z2 z3 z4 =>
      refine .new z1 z2 ?_
      rcases z4 with z4 | z4
      · exact absurd (bo _ (own_rho0.mp z4)) z3
      · exact z4
  · intro _ _ _ _ h _; exact h.elim
  · intro _ _ _ _ h _; exact h.elim
  · intro x r' s' cls d Hs' H' h o e
    obtain ⟨cs, h, bk, _⟩ := withBk_iff o.S.sl A' h
    exact ke _ _ _ _ _ _ h o.S.ex (ow o) e bk
theorem def_ok {x qual : Str} {st : Stmt} {fa : Addr} {fd : FuncData} {N ps : List Str} {k : Nat} {f : FSpec} (F : Fun K x qual st fa fd) (S : FnScope N ps (defScope st)) (wb : WS) (hl : ∀ as Q QE, f as Q QE → as.length = ps.length)
    (hbody : ∀ (cdv : Value) (A : Around) (outer : List Env) (s : Shared) (H : Hp) (E : XK), Room k (A.deeper (envOfC qual (defScope st) s.heap.objs.size fa cdv)) →
      SSs (cxOf (L2.CX P w) P w K mg base N qual (defScope st) fa cdv A outer s H E) (fun cls d _ H => E cls d H) (defBody st) wb)
    (hw : ∀ (as : List Sl) (Q : LR → List Cell → Prop) (QE : Exc → List Cell → Prop), f as Q QE → wb (rho0 N.length as) (bodyFl as Q QE)) : FnOk P w K mg base (L2.CX P w) (k + 1) fa fd ps (spF ⟨K, mg⟩ f) :=
  F.okX S (fun vs H Q E h => spF_len hl h) fun cdv A outer s H vs Q E hr h => ⟨_, hbody cdv A outer s H E hr, body_ok (K := K) (mg := mg) (qual := qual) (sc := defScope st) (body := defBody st) (fa := fa) (cdv := cdv) (A := A) (outer := outer) (s := s) (H0 := H) (E0 := E) (t := fun _ _ _ => True) hw h⟩
theorem defR {fa : Addr} {fd : FuncData} {ps : List Str} {k : Nat} {x : Str} {f : FSpec} (F : FnOk P w K mg base (L2.CX P w) k fa fd ps (spF ⟨K, mg⟩ f)) (b : Binds K fd ps []) (hm : mg x = some (.ref fa)) (kp : PySem.W.keepIn K (.ref fa) = true) : DefOk P w K mg base k x f :=
  ⟨fa, (F.raw b .nil).imp fun vs H Q E h => by rw [List.append_nil]; exact h, hm, kp⟩
end
end Z

/-! Z7: targets, what is walked, for, comprehensions. -/
namespace Z
open PySem L2
open PyProof.Rows (envOfC)
open Evl (Ex ex_rd ex_l ex_t)

/-! ### targets -/
abbrev WG := D → Rho → (Rho → Prop) → Prop
def Within (is : List Nat) (s s' : St) : Prop := ∀ vs : List Nat, (∀ i ∈ is, i ∈ vs) → wipe s' vs = wipe s vs
theorem wipe_get (s : St) (j : Nat) : ∀ vs : List Nat, (wipe s vs)[j]? = if j ∈ vs ∧ j < s.length then some none else s[j]?
  | [] => by simp [wipe]
  | v :: vs => by
    unfold wipe
    by_cases e : v = j
    · subst e
      by_cases hl : v < s.length
      · rw [List.getElem?_set_self (by rw [wipe_length]; exact hl), if_pos ⟨List.mem_cons_self .., hl⟩]
      · rw [List.getElem?_eq_none (by rw [List.length_set, wipe_length]; omega), if_neg (fun h => hl h.2), List.getElem?_eq_none (by omega)]
    · rw [List.getElem?_set_ne e, wipe_get s j vs]
      by_cases h : j ∈ vs ∧ j < s.length
      · rw [if_pos h, if_pos ⟨List.mem_cons_of_mem _ h.1, h.2⟩]
      · rw [if_neg h, if_neg]
        intro z
        refine h ⟨?_, z.2⟩
        rcases List.mem_cons.mp z.1 with q | q
        · exact absurd q.symm e
        · exact q
theorem within_set {s : St} {i : Nat} {x : Option V} : Within [i] s (s.set i x) := fun vs h => by
  have hi : i ∈ vs := h i (List.mem_cons_self ..)
  refine List.ext_getElem? fun j => ?_
  rw [wipe_get, wipe_get, List.length_set]
  by_cases hj : j ∈ vs ∧ j < s.length
  · rw [if_pos hj, if_pos hj]
  · rw [if_neg hj, if_neg hj]
    by_cases e : i = j
    · subst e
      have : ¬ i < s.length := fun z => hj ⟨hi, z⟩
      rw [List.getElem?_eq_none (by rw [List.length_set]; omega), List.getElem?_eq_none (by omega)]
    · rw [List.getElem?_set_ne e]
def tWG (G : Gm) (is : List Nat) (g : WG) : TG := fun v s H Q => ∃ (r : Rho) (Hs : Hp) (d : D) (P : Rho → Prop), StOk G r s Hs H ∧ Rep G Hs v d ∧ g d r P ∧ ∀ r' s', P r' → StOk G r' s' Hs H → (∀ a, Own r' a → Own r a) → Within is s s' → Q s' H
def tWGs (G : Gm) (is : List Nat) (g : List D → Rho → (Rho → Prop) → Prop) : TGs := fun vs s H Q => ∃ (r : Rho) (Hs : Hp) (ds : List D) (P : Rho → Prop), StOk G r s Hs H ∧ Reps G Hs vs ds ∧ g ds r P ∧ ∀ r' s', P r' → StOk G r' s' Hs H → (∀ a, Own r' a → Own r a) → Within is s s' → Q s' H
def SG (X : Cx) (tg : Expr) (is : List Nat) (g : WG) : Prop := PG X tg (tWG (gm X) is g)
def SGs (X : Cx) (tg : List Expr) (is : List Nat) (g : List D → Rho → (Rho → Prop) → Prop) : Prop := PGs X tg (tWGs (gm X) is g)
section
variable {X : Cx} {W : WX} {pos : Pos}
theorem pg_imp {e : Expr} {t t' : TG} (h : PG X e t) (i : ∀ v s H Q, t' v s H Q → t v s H Q) : PG X e t' := ⟨fun pins s σ H v u Q I r q => h.run pins s σ H v u Q I r (i v σ H Q q)⟩
theorem pgs_imp {e : List Expr} {t t' : TGs} (h : PGs X e t) (i : ∀ v s H Q, t' v s H Q → t v s H Q) : PGs X e t' := ⟨fun pins s σ H v u Q I r q => h.run pins s σ H v u Q I r (i v σ H Q q)⟩
@[simp] def gN (i : Nat) : WG := fun d r P => P (r.set i (.sh d))
theorem sg_name {i : Nat} {x : Str} (hN : X.N.Nodup) (hi : X.N[i]? = some x := by rfl) (hx : Loc X.env.scope x := by first | exact Or.inl rfl | exact Or.inr rfl) (hf : X.fn x = true ∨ X.env.scope.names.lookup x = some .local := by first | exact .inl rfl | exact .inr rfl) : SG X (.Name x pos) [i] (gN i) := by
  refine pg_imp (pg_name hN hi hx hf) fun v s H Q q => ?_
  obtain ⟨r, Hs, d, P, S, rp, q, k⟩ := q
  exact k _ _ q (S.setSh rp) (fun a => Own.set (by intro p c q; cases q)) within_set
@[simp] def gsNil : List D → Rho → (Rho → Prop) → Prop := fun ds r P => match ds with
  | [] => P r
  | _ => False
@[simp] def gsCons (g : WG) (gs : List D → Rho → (Rho → Prop) → Prop) : List D → Rho → (Rho → Prop) → Prop := fun ds r P => match ds with
  | d :: ds => g d r fun r1 => gs ds r1 P
  | _ => False
theorem sgs_nil : SGs X [] [] gsNil := by
  refine pgs_imp pgs_nil fun v s H Q q => ?_
  obtain ⟨r, Hs, d, P, S, rp, q, k⟩ := q
  cases rp with
  | nil => exact ⟨rfl, k _ _ q S (fun _ h => h) (fun _ _ => rfl)⟩
  | cons _ _ => exact q.elim
theorem sgs_cons {e : Expr} {es : List Expr} {is js : List Nat} {g : WG} {gs : List D → Rho → (Rho → Prop) → Prop} (h1 : SG X e is g) (h2 : SGs X es js gs) (hs : (assignEach (e :: es) X.env).map (·.2) = assign e X.env :: (assignEach es X.env).map (·.2) := by rfl) : SGs X (e :: es) (is ++ js) (gsCons g gs) := by
  refine pgs_imp (pgs_cons h1 h2 hs) fun v s H Q q => ?_
  obtain ⟨r, Hs, d, P, S, rp, q, k⟩ := q
  cases rp with
  | nil => exact q.elim
  | cons a b => exact ⟨_, _, rfl, r, Hs, _, _, S, a, q, fun r1 s1 p S1 o1 w1 => ⟨r1, Hs, _, P, S1, b, p, fun r2 s2 p2 S2 o2 w2 => k _ _ p2 S2 (fun a h => o1 a (o2 a h)) fun vs h => (w2 vs fun i hi => h i (List.mem_append_right _ hi)).trans (w1 vs fun i hi => h i (List.mem_append_left _ hi))⟩⟩
@[simp] def gT (gs : List D → Rho → (Rho → Prop) → Prop) : WG := fun d r P => match d with
  | .tup ds => gs ds r P
  | _ => False
def lenGs (n : Nat) (gs : List D → Rho → (Rho → Prop) → Prop) : Prop := ∀ ds r P, gs ds r P → ds.length = n
theorem lenGs_nil : lenGs 0 gsNil := fun ds r P h => by cases ds with | nil => rfl | cons => exact h.elim
/-- every target asks for one state -/
def One (g : WG) : Prop := ∀ d r P, g d r P → ∃ r', P r'
theorem one_gN {i : Nat} : One (gN i) := fun d r P h => ⟨_, h⟩
theorem lenGs_c {n : Nat} {g : WG} {gs : List D → Rho → (Rho → Prop) → Prop} (h : lenGs n gs) (ne : One g) : lenGs (n + 1) (gsCons g gs) := fun ds r P q => by
  cases ds with
  | nil => exact q.elim
  | cons d ds =>
    obtain ⟨r', q'⟩ := ne _ _ _ q
    rw [List.length_cons, h _ _ _ q']
theorem sg_tup {es : List Expr} {k n : Nat} {gs : List D → Rho → (Rho → Prop) → Prop} {is : List Nat} (hc : X.calm = true) (h : SGs X es is gs) (hl : lenGs n gs) (hn : (assignEach es X.env).length = n := by rfl) (hst : (assignEach es X.env).findIdx? (·.1) = none := by rfl) : SG X (.Tuple es k pos) is (gT gs) := by
  refine pg_imp (pg_tup hc h hn hst) fun v s H Q q => ?_
  obtain ⟨r, Hs, d, P, S, rp, q, kk⟩ := q
  cases d <;> simp only [gT] at q
  cases rp with
  | tup h1 h2 => exact ⟨_, _, rfl, ex_t S.ex h1, by rw [h2.length]; exact hl _ _ _ q, r, Hs, _, P, S, h2, q, kk⟩

/-! ### what is walked: the items, and what is to stay -/
abbrev WI := Rho → (List D → (Rho → Prop) → Rho → Prop) → (Exc → Rho → Prop) → Prop
def WalkOk (G : Gm) (J : It) (items : List D) (still : Rho → Prop) (r1 : Rho) (Hs1 H1 : Hp) : Prop := ∃ (GG : Hp → Prop) (Y : Nat → Hp → V → Hp → Prop), Walk J items.length GG Y ∧
  ∀ r' s' Hs' H', still r' → StOk G r' s' Hs' H' → Go (Own r1) (Own r') Hs1 H1 Hs' H' → GG H' ∧ ∀ i x H'' d, items[i]? = some d → Y i H' x H'' → ∃ Hs'', Ret G Hs' H' x (.val d) Hs'' H''
def tWI (G : Gm) (W : WX) (w : WI) : TI := fun s H R => ∃ (r : Rho) (Hs : Hp) (P : List D → (Rho → Prop) → Rho → Prop) (PE : Exc → Rho → Prop), StOk G r s Hs H ∧ w r P PE ∧
  (∀ items still r1 Hs1 H1 J, P items still r1 → Out G r s Hs H r1 Hs1 H1 → WalkOk G J items still r1 Hs1 H1 → R J H1) ∧ EXC G W PE r s Hs H
def SI (X : Cx) (W : WX) (tg e : Expr) (w : WI) : Prop := PI X tg e (tWI (gm X) W w)
theorem pi_imp {tg e : Expr} {t t' : TI} (h : PI X tg e t) (i : ∀ s H R, t' s H R → t s H R) : PI X tg e t' := ⟨fun pins s σ H R I q => h.run pins s σ H R I (i σ H R q)⟩
/-- a list, a tuple or a text -/
def iSeq (K : PySem.W.Frag) (te : TE) : TI := fun σ H R => te σ H fun x H1 => (∃ a, x = .ref a ∧ (∃ xs, SqL K H1 a xs) ∧ R (Itl K a) H1) ∨ (∃ a, x = .ref a ∧ (∃ xs, SqT K H1 a xs) ∧ R (Itt K a) H1) ∨ ∃ z, x = .str z ∧ R (Its z) H1
theorem pi_seq {tg e : Expr} {te : TE} (he : PE X e te) : PI X tg e (iSeq X.K te) := by
  refine ⟨fun pins s σ H R I h => ?_⟩
  refine thn (he.run pins s σ H _ I h) fun v s1 ⟨y, H1, I1, r1, q⟩ => ?_
  rcases q with ⟨a, rfl, ⟨xs, hq⟩, q⟩ | ⟨a, rfl, ⟨xs, hq⟩, q⟩ | ⟨x, rfl, q⟩
  · cases r1
    obtain ⟨its, rv, p, hz⟩ := I1.list hq
    refine wpAny_pyIter_list p.isList ?_
    exact pi_one (tk := s1.toks) I1 _ (turn_list a _) ⟨_, Heap.get?_push_size _ rfl, rfl, rfl⟩ q
  · cases r1
    obtain ⟨its, rv, p, hz⟩ := I1.tuple hq
    refine wpAny_pyIter_tuple (show s1.heap.IsTuple a its.toArray from p) ?_
    exact pi_one (tk := s1.toks) I1 _ (turn_tuple a _) ⟨_, Heap.get?_push_size _ rfl, rfl, rfl⟩ q
  · obtain ⟨t, rfl⟩ := r1
    cases ha : x.cps.all (· < 128)
    · exact wpAny_pyIter_wide ha (pi_one (tk := s1.toks) I1 _ (turn_str _ x t "str_iterator" (.inr rfl)) ⟨_, Heap.get?_push_size _ rfl, rfl, rfl⟩ q)
    · exact wpAny_pyIter_ascii ha (pi_one (tk := s1.toks) I1 _ (turn_str _ x t "str_ascii_iterator" (.inl rfl)) ⟨_, Heap.get?_push_size _ rfl, rfl, rfl⟩ q)
@[simp] def stillOf (r1 : Rho) (l : Late) : Rho → Prop := match l with
  | .sl j => fun r' => r'[j]? = r1[j]?
  | _ => fun _ => True
def strD (z : Str) : List D := z.cps.toList.map fun c => .str ⟨#[c]⟩
@[simp] def itemsD : D → Option (List D)
  | .lst xs => some xs
  | .rol xs => some xs
  | .tup xs => some xs
  | .str z => some (strD z)
  | _ => none
@[simp] def wiSeq (w : XW) : WI := fun r P PE => w r (fun l r1 => withD r1 l fun d => match itemsD d with
  | some ds => P ds (stillOf r1 l) r1
  | none => False) PE
theorem walkL {K : PySem.W.Frag} {a : Addr} {n : Nat} : Walk (Itl K a) n (fun H => ∃ xs, xs.length = n ∧ SqL K H a xs) (fun i H x H' => H' = H ∧ ∀ xs, SqL K H a xs → xs[i]? = some x) :=
  ⟨fun i H hi ⟨xs, e, q⟩ => ⟨xs, xs[i]'(by omega), q, by simp [show i < xs.length by omega]⟩, fun _ ⟨xs, e, q⟩ => ⟨xs, q, by omega⟩, fun _ _ _ _ _ _ y => ⟨y.1, y.2⟩⟩
theorem keptL {G : Gm} {a : Addr} {vs : List V} {ds : List D} {still : Rho → Prop} {r1 : Rho} {Hs1 H1 : Hp} (h1 : SqL G.K Hs1 a vs) (h2 : Reps G Hs1 vs ds) : WalkOk G (Itl G.K a) ds still r1 Hs1 H1 := by
  refine ⟨fun H => ∃ xs, xs.length = ds.length ∧ SqL G.K H a xs, fun i H x H' => H' = H ∧ ∀ xs, SqL G.K H a xs → xs[i]? = some x, walkL, fun r' s' Hs' H' _ S' g => ⟨⟨vs, h2.length, ex_l S'.ex (ex_l g.ss h1)⟩, fun i x H'' d hd y => ?_⟩⟩
  obtain ⟨rfl, y⟩ := y
  obtain ⟨v', e1, e2⟩ := (h2.mono g.ss).get hd
  have := y _ (ex_l S'.ex (ex_l g.ss h1))
  rw [e1] at this; cases this
  exact ⟨_, ret0 S'.ex e2⟩
theorem keptT {G : Gm} {a : Addr} {vs : List V} {ds : List D} {still : Rho → Prop} {r1 : Rho} {Hs1 H1 : Hp} (h1 : SqT G.K Hs1 a vs) (h2 : Reps G Hs1 vs ds) : WalkOk G (Itt G.K a) ds still r1 Hs1 H1 := by
  have wk : Walk (Itt G.K a) ds.length (fun H => SqT G.K H a vs) (YAt vs) := by rw [← h2.length]; exact walk_tup
  refine ⟨_, _, wk, fun r' s' Hs' H' _ S' g => ⟨ex_t S'.ex (ex_t g.ss h1), fun i x H'' d hd y => ?_⟩⟩
  obtain ⟨rfl, y⟩ := y
  obtain ⟨v', e1, e2⟩ := (h2.mono g.ss).get hd
  rw [e1] at y; cases y
  exact ⟨_, ret0 S'.ex e2⟩
theorem keptS {G : Gm} {z : Str} {still : Rho → Prop} {r1 : Rho} {Hs1 H1 : Hp} : WalkOk G (Its z) (strD z) still r1 Hs1 H1 := by
  have e : (strD z).length = z.cps.size := by unfold strD; rw [List.length_map, Array.length_toList]
  have wk : Walk (Its z) (strD z).length (fun _ => True) (fun i H v H' => H' = H ∧ ∃ c, z.cps[i]? = some c ∧ v = .str ⟨#[c]⟩) := by rw [e]; exact walk_str
  refine ⟨_, _, wk, fun r' s' Hs' H' _ S' g => ⟨trivial, fun i x H'' d hd y => ?_⟩⟩
  obtain ⟨rfl, c, hc, rfl⟩ := y
  unfold strD at hd
  rw [List.getElem?_map, Array.getElem?_toList, hc] at hd
  cases hd
  exact ⟨_, ret0 S'.ex (.str _)⟩
theorem newL {G : Gm} {a : Addr} {vs : List V} {ds : List D} {still : Rho → Prop} {r1 : Rho} {Hs1 H1 : Hp} (h1 : H1 a = some (.lst vs)) (h2 : Reps G Hs1 vs ds) (h3 : ¬ Own r1 a) : WalkOk G (Itl G.K a) ds still r1 Hs1 H1 := by
  refine ⟨fun H => ∃ xs, xs.length = ds.length ∧ SqL G.K H a xs, fun i H x H' => H' = H ∧ ∀ xs, SqL G.K H a xs → xs[i]? = some x, walkL, fun r' s' Hs' H' _ S' g => ?_⟩
  have h6 := g.kp _ _ h1 h3
  refine ⟨⟨_, h2.length, Evl.sq_of h6⟩, fun i x H'' d hd y => ?_⟩
  obtain ⟨rfl, y⟩ := y
  obtain ⟨v', e1, e2⟩ := (h2.mono g.ss).get hd
  have := y _ (Evl.sq_of h6)
  rw [e1] at this; cases this
  exact ⟨_, ret0 S'.ex e2⟩
theorem ownL {G : Gm} {a : Addr} {ds : List D} {r1 : Rho} {Hs1 H1 : Hp} {j : Nat} (q : r1[j]? = some (Sl.own a (.lst ds))) : WalkOk G (Itl G.K a) ds (fun r' => r'[j]? = r1[j]?) r1 Hs1 H1 := by
  refine ⟨fun H => ∃ xs, xs.length = ds.length ∧ SqL G.K H a xs, fun i H x H' => H' = H ∧ ∀ xs, SqL G.K H a xs → xs[i]? = some x, walkL, fun r' s' Hs' H' st S' g => ?_⟩
  have st : r'[j]? = some (Sl.own a (.lst ds)) := Eq.trans st q
  have z' := S'.sl j _ st
  revert z'
  generalize s'[j]? = w
  intro z'
  cases z' with
  | own y1 y2 =>
    cases y2 with
    | lst h6 h7 =>
      refine ⟨⟨_, h7.length, Evl.sq_of h6⟩, fun i x H'' d hd y => ?_⟩
      obtain ⟨rfl, y⟩ := y
      obtain ⟨v', e1, e2⟩ := h7.get hd
      have := y _ (Evl.sq_of h6)
      rw [e1] at this; cases this
      exact ⟨_, ret0 S'.ex e2⟩
/-- a late list: where it stands -/
theorem late_list {G : Gm} {r1 : Rho} {s : St} {Hs1 H1 : Hp} {v : V} {l : Late} {d : D} {ds : List D} (lo : LateOk G r1 s Hs1 H1 v l) (S : StOk G r1 s Hs1 H1) (ed : res r1 l = some d) (hd : seqL d = some ds) :
    ∃ a, v = .ref a ∧ (∃ xs, SqL G.K H1 a xs) ∧ WalkOk G (Itl G.K a) ds (stillOf r1 l) r1 Hs1 H1 := by
  have rp0 : ∀ {v : V} {still : Rho → Prop}, Rep G Hs1 v d → ∃ a, v = .ref a ∧ (∃ xs, SqL G.K H1 a xs) ∧ WalkOk G (Itl G.K a) ds still r1 Hs1 H1 := by
    intro v still rp
    cases rp with
    | lst h1 h2 => cases hd; exact ⟨_, rfl, ⟨_, Evl.sq_of (S.ex _ _ h1)⟩, keptL (Evl.sq_of h1) h2⟩
    | rol h1 h2 => cases hd; exact ⟨_, rfl, ⟨_, ex_l S.ex h1⟩, keptL h1 h2⟩
    | non => cases hd
    | bl b => cases hd
    | int b => cases hd
    | str b => cases hd
    | ty b => cases hd
    | tup _ _ => cases hd
    | dic _ _ => cases hd
    | ins _ _ _ => cases hd
  cases lo with
  | st rp =>
    simp only [res, Option.some.injEq] at ed
    subst ed
    exact rp0 rp
  | nw h1 h2 h3 =>
    simp only [res, Option.some.injEq] at ed
    subst ed
    cases h2 with
    | lst h4 h5 => cases hd; exact ⟨_, rfl, ⟨_, Evl.sq_of h4⟩, newL h4 h5 h3⟩
    | dic _ _ => cases hd
    | ins _ _ _ => cases hd
  | sl hv =>
    rename_i j
    simp only [res] at ed
    split at ed
    · rename_i d' q
      cases ed
      have z := S.sl j _ q
      rw [hv] at z
      cases z with
      | sh rp => exact rp0 rp
    · rename_i a c q
      cases ed
      have z := S.sl j _ q
      rw [hv] at z
      cases z with
      | own z1 z2 =>
        cases z2 with
        | lst h4 h5 => cases hd; exact ⟨_, rfl, ⟨_, Evl.sq_of h4⟩, ownL q⟩
        | dic _ _ => cases hd
        | ins _ _ _ => cases hd
    · cases ed
theorem se_seq {tg e : Expr} {w : XW} (he : SE X W e w) : SI X W tg e (wiSeq w) := by
  refine pi_imp (pi_seq he) fun s H R q => ?_
  obtain ⟨r, Hs, P, PE, S, w, k, ke⟩ := q
  refine ⟨r, Hs, _, PE, S, w, fun l r1 v Hs1 H1 p o lo n => ?_, ke⟩
  obtain ⟨d, ed, p⟩ := withD_iff p
  have rb := lo.res o.S ed
  cases hi : seqL d with
  | some ds =>
    obtain ⟨a, rfl, h1, h2⟩ := late_list lo o.S ed hi
    have e : itemsD d = some ds := by cases d <;> simp only [seqL] at hi <;> first | exact hi | cases hi
    rw [e] at p
    exact .inl ⟨a, rfl, h1, k _ _ _ _ _ _ p o h2⟩
  | none =>
    cases d with
    | str z =>
      obtain rfl := rb.strv
      exact .inr (.inr ⟨_, rfl, k _ _ _ _ _ _ p o keptS⟩)
    | tup ds =>
      rcases rb.inv with rb | ⟨_, c, _, e, _⟩
      · cases rb with
        | tup h1 h2 => exact .inr (.inl ⟨_, rfl, ⟨_, ex_t o.S.ex h1⟩, k _ _ _ _ _ _ p o (keptT h1 h2)⟩)
      · cases c <;> cases e
    | lst _ => cases hi
    | rol _ => cases hi
    | non => exact p.elim
    | bl _ => exact p.elim
    | int _ => exact p.elim
    | dic _ => exact p.elim
    | ins _ _ => exact p.elim
    | ty _ => exact p.elim
/-- range(n), range(a, b) -/
def rngD (lo : Int) (n : Nat) : List D := (List.range n).map fun (i : Nat) => D.int (lo + ((i : Nat) : Int))
theorem rngD_len (lo : Int) (n : Nat) : (rngD lo n).length = n := by unfold rngD; rw [List.length_map, List.length_range]
theorem walk_rng {G : Gm} {lo : Int} {n : Nat} {r1 : Rho} {Hs1 H1 : Hp} : WalkOk G (Itr lo n) (rngD lo n) (fun _ => True) r1 Hs1 H1 := by
  have wk : Walk (Itr lo n) (rngD lo n).length (fun _ => True) (YFn fun i => .int (lo + i)) := by rw [rngD_len]; exact walk_range
  refine ⟨_, _, wk, fun r' s' Hs' H' _ S' g => ⟨trivial, fun i x H'' d hd y => ?_⟩⟩
  obtain ⟨rfl, rfl⟩ := y
  unfold rngD at hd
  rw [List.getElem?_map] at hd
  obtain ⟨j, h1, h2⟩ := Option.map_eq_some_iff.mp hd
  rw [List.getElem?_range (by have := (List.getElem?_eq_some_iff.mp h1).1; simpa using this)] at h1
  cases h1
  subst h2
  exact ⟨_, ret0 S'.ex (.int _)⟩
@[simp] def wiR1 (t : TAw) : WI := fun r P PE => t r (fun ls r1 => match ls with
  | [.st (.int n)] => (-(2 ^ 62) ≤ n ∧ n < 2 ^ 62) ∧ P (rngD 0 n.toNat) (fun _ => True) r1
  | _ => False) PE
@[simp] def wiR2 (t : TAw) : WI := fun r P PE => t r (fun ls r1 => match ls with
  | [.st (.int a), .st (.int b)] => (-(2 ^ 62) ≤ a ∧ a < 2 ^ 62 ∧ -(2 ^ 62) ≤ b ∧ b < 2 ^ 62) ∧ P (rngD a (b - a).toNat) (fun _ => True) r1
  | _ => False) PE
theorem si_range1 {tg a : Expr} {ta : TAw} {p : Pos} (hg : Gl X "range") (hm : X.mg "range" = none) (ha : SA X W [a] ta) (hs : starEach [a] X.env = [(false, eval a X.env)] := by rfl) : SI X W tg (.Call (.Name "range" p) [a] [] pos) (wiR1 ta) := by
  refine pi_imp (pi_range1 hg hm ha hs) fun s H R q => ?_
  obtain ⟨r, Hs, P, PE, S, w, k, ke⟩ := q
  refine ⟨r, Hs, _, PE, S, w, fun ls r1 vs Hs1 H1 p o lo n => ?_, ke⟩
  split at p
  · cases lo with
    | cons l1 n1 lo => cases lo with
      | nil => cases l1 with
        | st rp => cases rp; exact ⟨_, rfl, p.1.1, p.1.2, k _ _ _ _ _ _ p.2 o walk_rng⟩
  · exact p.elim
theorem si_range2 {tg a b : Expr} {ta : TAw} {p : Pos} (hg : Gl X "range") (hm : X.mg "range" = none) (ha : SA X W [a, b] ta) (hs : starEach [a, b] X.env = [(false, eval a X.env), (false, eval b X.env)] := by rfl) (hs2 : starEach [b] X.env = [(false, eval b X.env)] := by rfl) :
    SI X W tg (.Call (.Name "range" p) [a, b] [] pos) (wiR2 ta) := by
  refine pi_imp (pi_range2 hg hm ha hs hs2) fun s H R q => ?_
  obtain ⟨r, Hs, P, PE, S, w, k, ke⟩ := q
  refine ⟨r, Hs, _, PE, S, w, fun ls r1 vs Hs1 H1 p o lo n => ?_, ke⟩
  split at p
  · cases lo with
    | cons l1 n1 lo => cases lo with
      | cons l2 n2 lo => cases lo with
        | nil => cases l1 with
          | st rp => cases rp; cases l2 with
            | st rp => cases rp; exact ⟨_, _, rfl, p.1, k _ _ _ _ _ _ p.2 o walk_rng⟩
  · exact p.elim

/-! ### for -/
def forW (g : WG) (b : WS) (still : Rho → Prop) : List D → Rho → Fl → Prop
  | [], r, F => F.nx r
  | d :: ds, r, F => g d r fun r1 => b r1 { F with nx := fun r2 => still r2 ∧ forW g b still ds r2 F, ct := fun r2 => still r2 ∧ forW g b still ds r2 F, bk := F.nx }
@[simp] def wFor (it : WI) (g : WG) (b : WS) : WS := fun r F => it r (fun items still r1 => still r1 ∧ forW g b still items r1 F) F.ex
theorem ss_for {tg iter : Expr} {body : List Stmt} {it : WI} {is : List Nat} {g : WG} {b : WS} (hp : PassesOwn (model X.prog X.w) X.A X.env X.xe) (hc : X.calm = true) (hi : SI X W tg iter it) (hg : SG X tg is g) (hb : SSs X W body b) (hs : ∀ x, foldedSetIterable iter X.env x = pure x := by intro _; rfl) : SS X W (.For tg iter body [] pos) (wFor it g b) := by
  refine ps_imp (ps_for hp hc hi hg hb hs) fun D s H q => ?_
  obtain ⟨r, Hs, F, S, w, k⟩ := q
  refine ⟨r, Hs, _, F.ex, S, w, fun items still r1 Hs1 H1 J p o wk => ?_, fun x r' cls d Hs' H' p o e => k.ex x r' s cls d Hs' H' p o.outS e⟩
  obtain ⟨GG, Y, wk, st⟩ := wk
  have k1 := k.mono o.outS
  refine for_it wk (D := D) (fun i s' H' => ∃ r' Hs', still r' ∧ forW g b still (items.drop i) r' F ∧ OutS (gm X) r1 Hs1 H1 r' s' Hs' H') ⟨r1, Hs1, p.1, p.2, OutS.refl o.S⟩
    (fun i s' H' _ ⟨r', Hs', h1, _, o'⟩ => (st r' s' Hs' H' h1 o'.S o'.g).1) (fun i x s' H' H'' hi ⟨r', Hs', h1, h2, o'⟩ y => ?_) (fun s' H' ⟨r', Hs', h1, h2, o'⟩ => ?_)
  · have e : items.drop i = items[i] :: items.drop (i + 1) := (List.drop_eq_getElem_cons hi)
    rw [e] at h2
    obtain ⟨Hs2, rt⟩ := (st r' s' Hs' H' h1 o'.S o'.g).2 i x H'' items[i] (by simp [hi]) y
    cases rt with
    | val g0 ex rp =>
      have S2 := o'.S.go0 g0 ex
      refine ⟨r', Hs2, _, _, S2, rp, h2, fun r3 s3 p3 S3 ow _ => ⟨r3, Hs2, _, S3, p3, ?_⟩⟩
      have o3 : OutS (gm X) r1 Hs1 H1 r3 s3 Hs2 H'' := ⟨S3, o'.g.trans (g0.any.sub ow)⟩
      have k3 := k1.mono o3
      exact ⟨fun r4 s4 Hs4 H4 h o4 => ⟨r4, Hs4, h.1, h.2, o3.trans o4⟩, k3.rt, k3.nx, fun r4 s4 Hs4 H4 h o4 => ⟨r4, Hs4, h.1, h.2, o3.trans o4⟩, k3.ex⟩
  · rw [List.drop_length] at h2
    exact k1.nx _ _ _ _ h2 o'
end
end Z

/-! Z8: comprehensions of one for; methods and stores on owned lists. -/
namespace Z
open PySem L2
open PyProof.Rows (envOfC)
open Evl (Ex ex_rd ex_l ex_t)

/-- nothing is let out -/
abbrev W0 : WX := fun _ _ _ _ => False
def wipeR (r : Rho) : List Nat → Rho
  | [] => r
  | v :: vs => (wipeR r vs).set v .no
@[simp] def restO : Option Sl → Sl
  | some (.sh d) => .sh d
  | _ => .no
def restR (r1 r2 : Rho) : List Nat → Rho
  | [] => r2
  | v :: vs => (restR r1 r2 vs).set v (restO r1[v]?)
section
variable {G : Gm} {r r1 r2 : Rho} {s : St} {Hs H Hs' H' : Hp}
theorem StOk.setNo (S : StOk G r s Hs H) {i : Nat} {o : Option V} : StOk G (r.set i .no) (s.set i o) Hs H := by
  refine ⟨by rw [List.length_set, List.length_set]; exact S.len, S.ex, fun j y q => ?_, fun j k p c c' q1 q2 => ?_⟩
  · by_cases e : i = j
    · subst e; obtain ⟨rfl, hl⟩ := get_set q; exact .no
    · rw [List.getElem?_set_ne e] at q ⊢; exact S.sl j y q
  · have get : ∀ j c, (r.set i .no)[j]? = some (Sl.own p c) → r[j]? = some (Sl.own p c) := fun j c q => by
      by_cases e : i = j
      · subst e; obtain ⟨z, _⟩ := get_set q; cases z
      · rw [List.getElem?_set_ne e] at q; exact q
    exact S.nd j k p c c' (get j c q1) (get k c' q2)
theorem StOk.wipe (S : StOk G r s Hs H) : ∀ vs : List Nat, StOk G (wipeR r vs) (L2.wipe s vs) Hs H
  | [] => S
  | v :: vs => (StOk.wipe S vs).setNo
theorem own_wipe {a : Addr} : ∀ {vs : List Nat}, Own (wipeR r vs) a → Own r a
  | [], h => h
  | v :: vs, h => own_wipe (Own.set (by intro p c q; cases q) h)
theorem restR_len : ∀ vs : List Nat, (restR r1 r2 vs).length = r2.length
  | [] => rfl
  | v :: vs => by unfold restR; rw [List.length_set, restR_len vs]
theorem restR_get {i : Nat} {x : Sl} : ∀ {vs : List Nat}, (restR r1 r2 vs)[i]? = some x → (i ∈ vs ∧ x = restO r1[i]?) ∨ (i ∉ vs ∧ r2[i]? = some x)
  | [], h => .inr ⟨by simp, h⟩
  | v :: vs, h => by
    unfold restR at h
    by_cases e : v = i
    · subst e
      obtain ⟨rfl, _⟩ := get_set h
      exact .inl ⟨List.mem_cons_self .., rfl⟩
    · rw [List.getElem?_set_ne e] at h
      rcases restR_get h with z | z
      · exact .inl ⟨List.mem_cons_of_mem _ z.1, z.2⟩
      · exact .inr ⟨fun q => (List.mem_cons.mp q).elim (fun q => e q.symm) z.1, z.2⟩
theorem restO_own {o : Option Sl} {p : Addr} {c : Cell} : restO o ≠ .own p c := by
  cases o with
  | none => intro h; cases h
  | some x => cases x <;> intro h <;> cases h
theorem own_rest {vs : List Nat} {a : Addr} (h : Own (restR r1 r2 vs) a) : Own r2 a := by
  obtain ⟨i, c, h⟩ := h
  rcases restR_get h with z | z
  · exact absurd z.2.symm restO_own
  · exact ⟨i, c, z.2⟩
theorem StOk.rest (S1 : StOk G r1 s Hs H) (ss : Ex Hs Hs') {vs : List Nat} (S2 : StOk G r2 (L2.wipe s vs) Hs' H') : StOk G (restR r1 r2 vs) s Hs' H' := by
  refine ⟨by rw [restR_len, S2.len, wipe_length], S2.ex, fun i x q => ?_, fun i j p c c' q1 q2 => ?_⟩
  · rcases restR_get q with ⟨_, rfl⟩ | ⟨hv, q⟩
    · cases h : r1[i]? with
      | none => exact .no
      | some y =>
        cases y with
        | no => exact .no
        | own _ _ => exact .no
        | sh d =>
          have z := S1.sl i _ h
          revert z
          generalize s[i]? = w
          intro z
          cases z with
          | sh z => exact .sh (z.mono ss)
    · have z := S2.sl i x q
      rw [wipe_get, if_neg (fun h => hv h.1)] at z
      exact z
  · rcases restR_get q1 with z | z
    · exact absurd z.2.symm restO_own
    · rcases restR_get q2 with z' | z'
      · exact absurd z'.2.symm restO_own
      · exact S2.nd i j p c c' z.2 z'.2
/-- a foreign object changes -/
theorem StOk.upd (S : StOk G r s Hs H) {a : Addr} {o : HO} (h1 : Hs a = none) (h2 : ¬ Own r a) : StOk G r s Hs (L2.upd H a o) := by
  refine ⟨S.len, fun b u q => ?_, fun i x q => ?_, S.nd⟩
  · rw [upd_ne (ne_of_none q h1)]; exact S.ex b u q
  · have z := S.sl i x q
    revert z
    generalize s[i]? = w
    intro z
    cases z with
    | no => exact .no
    | sh h => exact .sh h
    | own y1 y2 =>
      refine .own y1 (y2.go (Ex.refl _) fun u hu => ?_)
      rw [upd_ne]
      · exact hu
      · rintro rfl; exact h2 ⟨i, _, q⟩
end
/-- the turns of a comprehension; nothing is raised in it -/
def lcW (g : WG) (t : TWt) (we : XW) (still : Rho → Prop) (vs : List Nat) : List D → List D → Rho → (List D → Rho → Prop) → Prop
  | [], acc, r, P => P acc r
  | d :: ds, acc, r, P => g d r fun r1 => t r1 (fun k r2 => if k = true then we r2 (fun l r3 => withF r3 l fun e r4 => still (wipeR r4 vs) ∧ lcW g t we still vs ds (acc ++ [e]) (wipeR r4 vs) P) (fun _ _ => False)
    else still (wipeR r2 vs) ∧ lcW g t we still vs ds acc (wipeR r2 vs) P) (fun _ _ => False)
@[simp] def wLc (it : WI) (g : WG) (t : TWt) (we : XW) (vs : List Nat) : XW := fun r P PE => it r (fun items still r1 => items.length ≤ sizeLine ∧ still (wipeR r1 vs) ∧ lcW g t we still vs items [] (wipeR r1 vs) fun acc r2 => ∀ p, P (.nw p (.lst acc)) (restR r1 r2 vs)) PE
def STs (X : Cx) (W : WX) (es : List Expr) (w : TWt) : Prop := PTs X es (tWT (gm X) W w)
theorem pts_imp {X : Cx} {e : List Expr} {t t' : TT} (h : PTs X e t) (i : ∀ s H Q, t' s H Q → t s H Q) : PTs X e t' := ⟨fun pins s σ H Q I q => h.run pins s σ H Q I (i σ H Q q)⟩
section
variable {X : Cx} {W : WX} {pos : Pos}
@[simp] def twYes : TWt := fun r P _ => P true r
theorem sts_nil : STs X W [] twYes := by
  refine pts_imp pts_nil fun s H Q q => ?_
  obtain ⟨r, Hs, P, PE, S, w, k, ke⟩ := q
  exact k _ _ _ _ w (Out.refl S)
theorem sts_one {c : Expr} {t : TWt} (h : ST X W c t) : STs X W [c] t := pts_one h
theorem wipe_wipe (s : St) (vs : List Nat) : L2.wipe (L2.wipe s vs) vs = L2.wipe s vs := by
  refine List.ext_getElem? fun j => ?_
  rw [wipe_get, wipe_get, wipe_length]
  by_cases h : j ∈ vs ∧ j < s.length
  · rw [if_pos h, if_pos h]
  · rw [if_neg h, if_neg h]
/-- the reading of a comprehension from its word -/
theorem t_lc {it : WI} {is : List Nat} {g : WG} {t : TWt} {we : XW} {vs : List Nat} (hv : ∀ i ∈ is, i ∈ vs) {s : St} {H : Hp} {Q : VK} (q : tW (gm X) W (wLc it g t we vs) s H Q) :
    tLc (tWI (gm X) W it) (tWG (gm X) is g) (tWT (gm X) W0 t) (tW (gm X) W0 we) vs s H Q := by
  obtain ⟨r, Hs, P, PE, S, w, k, ke⟩ := q
  refine ⟨r, Hs, _, PE, S, w, fun items still r1 Hs1 H1 J p o wk => ?_, ke⟩
  obtain ⟨GG, Y, wk, st⟩ := wk
  obtain ⟨hsz, hst, p⟩ := p
  intro Dl hD
  have hDs : Hs1 Dl = none := Evl.fresh_back o.S.ex hD
  have nD : ¬ Own (wipeR r1 vs) Dl := fun h => o.S.notOwn hD (own_wipe h)
  -- the invariant
  let Inv : Nat → Hp → Prop := fun i H' => ∃ (r' : Rho) (Hs' : Hp) (acc : List D) (va : List V), still r' ∧ lcW g t we still vs (items.drop i) acc r' (fun acc r2 => ∀ p, P (.nw p (.lst acc)) (restR r1 r2 vs)) ∧
    StOk (gm X) r' (L2.wipe s vs) Hs' H' ∧ Go (fun a => Own (wipeR r1 vs) a ∨ a = Dl) (fun a => Own r' a ∨ a = Dl) Hs1 (L2.upd H1 Dl (.lst [])) Hs' H' ∧ H' Dl = some (.lst va) ∧ Reps (gm X) Hs' va acc ∧ acc.length ≤ i ∧ Hs' Dl = none ∧ ¬ Own r' Dl
  have goR : ∀ {r' : Rho} {Hs' H' : Hp}, Go (fun a => Own (wipeR r1 vs) a ∨ a = Dl) (fun a => Own r' a ∨ a = Dl) Hs1 (L2.upd H1 Dl (.lst [])) Hs' H' → Hs' Dl = none → ¬ Own r' Dl → Go (Own r1) (Own r') Hs1 H1 Hs' H' := fun {r' Hs' H'} g h1 h2 => by
    refine ⟨g.ss, fun a u h n => ?_, fun a u h hs n => ?_, fun a h => ?_, fun a h => ?_⟩
    · have ne : a ≠ Dl := ne_of_none h hD
      exact g.kp a u (by rw [upd_ne ne]; exact h) fun z => z.elim (fun z => n (own_wipe z)) ne
    · have ne : a ≠ Dl := ne_of_none h hD
      exact g.fr a u (by rw [upd_ne ne]; exact h) hs fun z => z.elim (fun z => n (own_wipe z)) ne
    · have ne : a ≠ Dl := fun e => h2 (e ▸ h)
      rcases g.ow a (.inl h) with (z | z) | z
      · exact .inl (own_wipe z)
      · exact absurd z ne
      · rw [upd_ne ne] at z; exact .inr z
    · have ne : a ≠ Dl := fun e => by
        have := g.th a h
        rw [e, upd_same] at this; cases this
      have := g.th a h
      rwa [upd_ne ne] at this
  refine lc_it (D := Dl) wk Inv ⟨_, Hs1, [], [], hst, p, (o.S.wipe vs).upd hDs nD, Go.refl, upd_same, .nil, Nat.le_refl _, hDs, nD⟩
    (fun i H' _ ⟨r', Hs', acc, va, y1, y2, y3, y4, y5, y6, y7, y8, y9⟩ => (st r' _ Hs' H' y1 y3 (goR y4 y8 y9)).1) ?_ ?_
  · intro i x H' H'' hi ⟨r', Hs', acc, va, y1, y2, y3, y4, y5, y6, y7, y8, y9⟩ y
    rw [List.drop_eq_getElem_cons hi] at y2
    obtain ⟨Hs2, rt⟩ := (st r' _ Hs' H' y1 y3 (goR y4 y8 y9)).2 i x H'' items[i] (by simp [hi]) y
    cases rt with
    | val g0 ex rp =>
      have S2 := y3.go0 g0 ex
      refine ⟨r', Hs2, _, _, S2, rp, y2, fun r3 s3 p3 S3 ow wi => ?_⟩
      have e3 : L2.wipe s3 vs = L2.wipe s vs := (wi vs hv).trans (wipe_wipe s vs)
      refine ⟨e3.trans (wipe_wipe s vs).symm ▸ (wipe_wipe s vs).symm ▸ rfl, ?_⟩
      -- from here on: Go from (Hs', H') with the list apart
      have d2 : H'' Dl = some (.lst va) := g0.kp _ _ y5 fun q => q
      have d3 : Hs2 Dl = none := g0.fr _ _ y5 y8 fun q => q
      have n3 : ¬ Own r3 Dl := fun h => y9 (ow _ h)
      refine ⟨r3, Hs2, _, _, S3, p3, fun b r4 Hs4 H4 p4 o4 => ?_, fun x r' cls d Hs' H' p _ _ => p⟩
      have d4 : H4 Dl = some (.lst va) := o4.g.kp _ _ d2 n3
      have d4s : Hs4 Dl = none := o4.g.fr _ _ d2 d3 n3
      have n4 : ¬ Own r4 Dl := fun h => (o4.g.ow _ h).elim n3 fun z => by rw [d2] at z; cases z
      have g4 : Go (Own r') (Own r4) Hs' H' Hs4 H4 := (g0.any.sub ow).trans o4.g
      -- a turn's end
      have fin : ∀ {r5 : Rho} {Hs5 H5 : Hp} {acc' : List D} {va' : List V} {s5 : St}, StOk (gm X) r5 s5 Hs5 H5 → L2.wipe s5 vs = L2.wipe s vs → Go (Own r') (Own r5) Hs' H' Hs5 H5 → H5 Dl = some (.lst va) → Hs5 Dl = none → ¬ Own r5 Dl → Reps (gm X) Hs5 va' acc' → acc'.length ≤ i + 1 →
          still (wipeR r5 vs) → lcW g t we still vs (items.drop (i + 1)) acc' (wipeR r5 vs) (fun acc r2 => ∀ p, P (.nw p (.lst acc)) (restR r1 r2 vs)) → Inv (i + 1) (L2.upd H5 Dl (.lst va')) := by
        intro r5 Hs5 H5 acc' va' s5 S5 e5 g5 z1 z2 z3 z4 z5 z6 z7
        have S6 : StOk (gm X) (wipeR r5 vs) (L2.wipe s vs) Hs5 H5 := e5 ▸ S5.wipe vs
        have n6 : ¬ Own (wipeR r5 vs) Dl := fun h => z3 (own_wipe h)
        refine ⟨_, Hs5, acc', va', z6, z7, S6.upd z2 n6, y4.trans ⟨g5.ss, fun a u h n => ?_, fun a u h hs n => ?_, fun a h => ?_, fun a h => ?_⟩, upd_same, z4, z5, z2, n6⟩
        · rw [upd_ne (fun e => n (.inr e))]; exact g5.kp a u h fun z => n (.inl z)
        · exact g5.fr a u h hs fun z => n (.inl z)
        · rcases h with h | h
          · exact (g5.ow a (own_wipe h)).imp .inl id
          · exact .inl (.inr h)
        · by_cases e : a = Dl
          · subst e; rw [upd_same] at h; cases h
          · rw [upd_ne e] at h; exact g5.th a h
      cases b with
      | true =>
        rw [if_pos rfl] at p4
        refine iteT ⟨r4, Hs4, _, _, o4.S, p4, fun l r5 v Hs5 H5 p5 o5 l5 n5 => ?_, fun x r' cls d Hs' H' p _ _ => p⟩
        obtain ⟨e, r6, ez, z1, z2⟩ := withF_iff p5
        obtain ⟨Hs6, S6, rp6, g6, kp6⟩ := l5.frz o5.S o5.g n5 ez
        have d5 : H5 Dl = some (.lst va) := o5.g.kp _ _ d4 n4
        have d6 : Hs6 Dl = none := g6.fr _ _ d4 d4s n4
        have n6 : ¬ Own r6 Dl := fun h => (g6.ow _ h).elim n4 fun z => by rw [d4] at z; cases z
        have ss6 : Ex Hs' Hs6 := g4.ss.trans g6.ss
        refine ⟨va, d5, ?_, fin S6 e3 (g4.trans g6) d5 d6 n6 ((y6.mono ss6).append (.cons rp6 .nil)) (by rw [List.length_append]; simp; omega) z1 z2⟩
        rw [y6.length]
        omega
      | false =>
        rw [if_neg (by simp)] at p4
        refine iteF ?_
        have z := fin (va' := va) o4.S e3 g4 d4 d4s n4 (y6.mono g4.ss) (by omega) p4.1 p4.2
        have e : L2.upd H4 Dl (.lst va) = H4 := by
          funext a
          by_cases h : a = Dl
          · subst h; rw [upd_same, d4]
          · rw [upd_ne h]
        rwa [e] at z
  · intro H' ⟨r', Hs', acc, va, y1, y2, y3, y4, y5, y6, y7, y8, y9⟩
    rw [List.drop_length] at y2
    have g := goR y4 y8 y9
    refine k _ _ _ _ _ (y2 Dl) (o.trans ⟨o.S.rest g.ss y3, g.sub fun a => own_rest⟩) (.nw y8 (.lst y5 y6) fun h => y9 (own_rest h)) fun p c e => ?_
    cases e
    exact o.g.th _ hD
theorem se_lc {elt tg iter : Expr} {ifs : List Expr} {scope : Scope} {own : List (Str × Nat)} {it : WI} {is : List Nat} {g : WG} {t : TWt} {we : XW} (hc : X.calm = true) (hN : X.N.Nodup) (hi : SI X W tg iter it) (ok : BlkOk X.N X.env.scope scope own)
    (hg : ∀ (s : Shared) (H : Hp) (C : Addr) (cl : List (Str × Addr)) (fp : List Addr), SG (X.blk s H scope (compEnvC scope cl C X.env) fp) tg is g) (ht : ∀ (s : Shared) (H : Hp) (C : Addr) (cl : List (Str × Addr)) (fp : List Addr), STs (X.blk s H scope (compEnvC scope cl C X.env) fp) W0 ifs t)
    (he : ∀ (s : Shared) (H : Hp) (C : Addr) (cl : List (Str × Addr)) (fp : List Addr), SE (X.blk s H scope (compEnvC scope cl C X.env) fp) W0 elt we) (hv : ∀ i ∈ is, i ∈ own.map (·.2)) (hs : ∀ x, foldedSetIterable iter X.env x = pure x := by intro _; rfl) :
    SE X W (.ListComp elt [⟨tg, iter, ifs, 0⟩] scope pos) (wLc it g t we (own.map (·.2))) :=
  pe_imp (pe_lc (g := tWG (gm X) is g) (tt := tWT (gm X) W0 t) (te := tW (gm X) W0 we) hc hN hi ok hg ht he hs) fun s H Q q => t_lc hv q
/-- name = [..] -/
theorem ss_setLc {i : Nat} {y : Str} {py spos : Pos} {elt tg iter : Expr} {ifs : List Expr} {scope : Scope} {own : List (Str × Nat)} {it : WI} {is : List Nat} {g : WG} {t : TWt} {we : XW} (hc : X.calm = true) (hN : X.N.Nodup) (hi : SI X W tg iter it) (ok : BlkOk X.N X.env.scope scope own)
    (hg : ∀ (s : Shared) (H : Hp) (C : Addr) (cl : List (Str × Addr)) (fp : List Addr), SG (X.blk s H scope (compEnvC scope cl C X.env) fp) tg is g) (ht : ∀ (s : Shared) (H : Hp) (C : Addr) (cl : List (Str × Addr)) (fp : List Addr), STs (X.blk s H scope (compEnvC scope cl C X.env) fp) W0 ifs t)
    (he : ∀ (s : Shared) (H : Hp) (C : Addr) (cl : List (Str × Addr)) (fp : List Addr), SE (X.blk s H scope (compEnvC scope cl C X.env) fp) W0 elt we) (hv : ∀ i ∈ is, i ∈ own.map (·.2)) (hy : X.N[i]? = some y := by rfl) (hyl : X.env.scope.names.lookup y = some .local := by rfl)
    (hsw : swapsWith (.ListComp elt [⟨tg, iter, ifs, 0⟩] scope pos) (some (.Name y py)) spos.line X.env = pure true := by exact sw_true rfl rfl rfl (by decide +kernel)) (hs : ∀ x, foldedSetIterable iter X.env x = pure x := by intro _; rfl) :
    SS X W (.Assign [.Name y py] (.ListComp elt [⟨tg, iter, ifs, 0⟩] scope pos) spos) (wAsg i (wLc it g t we (own.map (·.2)))) := by
  refine ps_imp (ps_setLc (g := tWG (gm X) is g) (tt := tWT (gm X) W0 t) (te := tW (gm X) W0 we) hc hN hy hyl hsw hi ok hg ht he hs) fun D s H q => ?_
  obtain ⟨r, Hs, F, S, w, k⟩ := q
  refine t_lc hv (tw_run S w k fun l r1 v Hs1 H1 p o lo n => ?_)
  obtain ⟨r', Hs', q, o'⟩ := put_ok o lo n p
  exact k.nx _ _ _ _ q o'

/-! ### methods that change an owned list -/
/-- g: from the list and the arguments (kept), the result and the list behind -/
abbrev GM := List D → List D → (D → List D → Prop) → Prop
def MuOk (X : Cx) (rr : V → List V → Hp → VK → Prop) (g : GM) : Prop := ∀ (p : Addr) (vs xs : List V) (ds es : List D) (Hs H : Hp) (P : D → List D → Prop) (Q : VK), Ex Hs H → H p = some (.lst vs) → Reps (gm X) Hs vs ds → Reps (gm X) Hs xs es → g ds es P →
  (∀ d ds' v vs', P d ds' → Rep (gm X) Hs v d → Reps (gm X) Hs vs' ds' → Q v (L2.upd H p (.lst vs'))) → rr (.ref p) xs H Q
/-- x.m(..), x a slot with its own list -/
@[simp] def wMu (i : Nat) (g : GM) (t : TAw) : XW := fun r P PE => match r[i]? with
  | some (Sl.own _ (.lst _)) => t r (fun ls r1 => withFs r1 ls fun es r2 => match r2[i]? with
    | some (Sl.own p (.lst ds)) => g ds es fun d ds' => P (.st d) (r2.set i (.own p (.lst ds')))
    | _ => False) PE
  | _ => False
theorem mu_core {r r2 : Rho} {s : St} {Hs H Hs2 H2 : Hp} {i : Nat} {p : Addr} {v : V} {ds es : List D} {xs : List V} {rr : V → List V → Hp → VK → Prop} {g : GM} {P : Late → Rho → Prop} {Q : VK} (ho : MuOk X rr g) (o : Out (gm X) r s Hs H r2 Hs2 H2) (hv : s[i]? = some (some v)) (e : r2[i]? = some (Sl.own p (.lst ds))) (rx : Reps (gm X) Hs2 xs es)
    (q : g ds es fun d ds' => P (.st d) (r2.set i (.own p (.lst ds')))) (k : ∀ l r' v Hs' H', P l r' → Out (gm X) r s Hs H r' Hs' H' → LateOk (gm X) r' s Hs' H' v l → NewAt H l → Q v H') : rr v xs H2 Q := by
  have z := o.S.sl i _ e
  rw [hv] at z
  cases z with
  | own y1 y2 =>
    cases y2 with
    | lst h1 h2 =>
      refine ho p _ xs ds es Hs2 H2 _ _ o.S.ex h1 h2 rx q fun d ds' v vs' pd rd rs => ?_
      have np := own_no o.S.nd e
      have S1 : StOk (gm X) (r2.set i .no) s Hs2 (L2.upd H2 p (.lst vs')) := (o.S.put (x := .no) (by intro p c q; cases q) .no).upd y1 np
      have S2 := S1.putOwn (i := i) (p := p) (c := .lst ds') hv y1 (.lst upd_same rs) np
      rw [List.set_set] at S2
      refine k _ _ _ _ _ pd (o.trans ⟨S2, Ex.refl _, fun a u h n => ?_, fun a u _ h _ => h, fun a h => ?_, fun a h => ?_⟩) (.st rd) (fun _ _ q => nomatch q)
      · rw [upd_ne (fun e' => n ⟨i, _, e' ▸ e⟩)]; exact h
      · rcases own_putOwn h with rfl | h
        · exact .inl ⟨i, _, e⟩
        · exact .inl h
      · by_cases e' : a = p
        · subst e'; rw [upd_same] at h; cases h
        · rwa [upd_ne e'] at h
theorem tyL {K : PySem.W.Frag} {H : Hp} {p : Addr} {vs : List V} (h : H p = some (.lst vs)) : tyV K "list" (.ref p) H := .inl ⟨rfl, _, Evl.sq_of h⟩
theorem se_mu {x name : Str} {px apos cpos : Pos} {id : String} {e : Expr} {es : List Expr} {ta : TAw} {rr : V → List V → Hp → VK → Prop} {g : GM} (i : Nat) (ho : MuOk X rr g) (slot : Slot "list" name id) (hty : typeOf (.builtin id) = pure (.type "method_descriptor")) (hm : MtR X id rr) (ha : SA X W (e :: es) ta)
    (hN : X.N[i]? = some x := by rfl) (hv : Vis X.env.scope x := by first | exact Or.inl rfl | exact Or.inr (Or.inl rfl) | exact Or.inr (Or.inr rfl)) (hd : (x == ("__debug__" : Str)) = false := by decide) (hcd : (x == ("__classdict__" : Str)) = false := by decide)
    (hbase : attributeBase (.Name x px) name X.env (eval (.Name x px) X.env) = eval (.Name x px) X.env := by rfl)
    (hfew : ((backTo cpos (starEach (e :: es) X.env)).all (fun x => !x.1) && (backToKw cpos (keywordEach [] X.env)).all (fun x => x.1.isSome)
      && decide ((e :: es).length + ([] : List Keyword).length + (if ([] : List Keyword).isEmpty then 0 else 1) < 30)) = true := by rfl)
    (hline : (apos.endLine == cpos.line) = true := by rfl) (hs : starEach (e :: es) X.env = (false, eval e X.env) :: starEach es X.env := by rfl) (hplain : (backTo cpos (starEach es X.env)).any (·.1) = false := by rfl) :
    SE X W (.Call (.Attribute (.Name x px) name apos) (e :: es) [] cpos) (wMu i g ta) := by
  refine pe_imp (pe_bm PySem.F.plainAttrs_list slot hty hm (pe_var hN hv hd hcd) ha hbase hfew hline hs hplain) fun s H Q q => ?_
  obtain ⟨r, Hs, P, PE, S, w, k, ke⟩ := q
  simp only [wMu] at w
  split at w
  · rename_i p0 c0 e0
    have z := S.sl i _ e0
    revert z
    generalize hv : s[i]? = o
    intro z
    cases z with
    | own y1 y2 =>
    refine ⟨_, hv, ?_, r, Hs, _, PE, S, w, fun ls r1 vs Hs1 H1 p o lo n => ?_, ke⟩
    · cases y2 with
      | lst h1 _ => exact tyL h1
    · obtain ⟨es', r2, ez, p⟩ := withFs_iff p
      obtain ⟨Hs2, S2, rx, g2, _⟩ := lo.frz o.S o.g n ez
      split at p
      · rename_i p' ds e'
        exact mu_core ho ⟨S2, g2⟩ hv e' rx p k
      · exact p.elim
  · exact w.elim
end
end Z

/-! Z9: append, pop, a[i] = e on owned lists; list(range(..)); a def with one star parameter. -/
namespace Z
open PySem L2
open PyProof.Rows (envOfC)
open Evl (Ex ex_rd ex_l ex_t)
section
variable {X : Cx} {W : WX} {pos : Pos}
def gApp : GM := fun ds es P => match es with
  | [e] => ds.length < sizeLine ∧ P .non (ds ++ [e])
  | _ => False
theorem mu_app : MuOk X rAppend gApp := by
  intro p vs xs ds es Hs H P Q e hp r1 r2 q k
  unfold gApp at q
  split at q
  · cases r2 with
    | cons a b => cases b; exact ⟨p, vs, _, rfl, rfl, hp, by rw [r1.length]; exact q.1, k _ _ _ _ q.2 .non (r1.append (.cons a .nil))⟩
  · exact q.elim
theorem se_app {x : Str} {px apos cpos : Pos} {e : Expr} {ta : TAw} (i : Nat) (ha : SA X W [e] ta)
    (hN : X.N[i]? = some x := by rfl) (hv : Vis X.env.scope x := by first | exact Or.inl rfl | exact Or.inr (Or.inl rfl) | exact Or.inr (Or.inr rfl)) (hd : (x == ("__debug__" : Str)) = false := by decide) (hcd : (x == ("__classdict__" : Str)) = false := by decide)
    (hbase : attributeBase (.Name x px) "append" X.env (eval (.Name x px) X.env) = eval (.Name x px) X.env := by rfl)
    (hfew : ((backTo cpos (starEach [e] X.env)).all (fun x => !x.1) && (backToKw cpos (keywordEach [] X.env)).all (fun x => x.1.isSome)
      && decide (([e] : List Expr).length + ([] : List Keyword).length + (if ([] : List Keyword).isEmpty then 0 else 1) < 30)) = true := by rfl)
    (hline : (apos.endLine == cpos.line) = true := by rfl) (hs : starEach [e] X.env = (false, eval e X.env) :: starEach [] X.env := by rfl) :
    SE X W (.Call (.Attribute (.Name x px) "append" apos) [e] [] cpos) (wMu i gApp ta) :=
  se_mu i mu_app PySem.F.slot_list_append PySem.F.type_list_append mt_append ha hN hv hd hcd hbase hfew hline hs rfl
def gPopAt : GM := fun ds es P => match es with
  | [.int i] => -(2 ^ 63) ≤ i ∧ i < 2 ^ 63 ∧ match seqIndex? i ds.length with
    | some k => match ds[k]? with
      | some d => P d (ds.eraseIdx k)
      | none => False
    | none => False
  | _ => False
theorem mu_popAt : MuOk X rPopAt gPopAt := by
  intro p vs xs ds es Hs H P Q e hp r1 r2 q k
  unfold gPopAt at q
  split at q
  · cases r2 with
    | cons a b =>
      cases b; cases a
      obtain ⟨q1, q2, q⟩ := q
      split at q
      · rename_i k' hk
        split at q
        · rename_i d hd
          obtain ⟨v, hv, rv⟩ := r1.get hd
          exact ⟨p, vs, _, k', v, rfl, rfl, hp, q1, q2, by rw [r1.length]; exact hk, hv, k _ _ _ _ q rv (r1.eraseIdx k')⟩
        · exact q.elim
      · exact q.elim
  · exact q.elim
theorem se_popAt {x : Str} {px apos cpos : Pos} {e : Expr} {ta : TAw} (i : Nat) (ha : SA X W [e] ta)
    (hN : X.N[i]? = some x := by rfl) (hv : Vis X.env.scope x := by first | exact Or.inl rfl | exact Or.inr (Or.inl rfl) | exact Or.inr (Or.inr rfl)) (hd : (x == ("__debug__" : Str)) = false := by decide) (hcd : (x == ("__classdict__" : Str)) = false := by decide)
    (hbase : attributeBase (.Name x px) "pop" X.env (eval (.Name x px) X.env) = eval (.Name x px) X.env := by rfl)
    (hfew : ((backTo cpos (starEach [e] X.env)).all (fun x => !x.1) && (backToKw cpos (keywordEach [] X.env)).all (fun x => x.1.isSome)
      && decide (([e] : List Expr).length + ([] : List Keyword).length + (if ([] : List Keyword).isEmpty then 0 else 1) < 30)) = true := by rfl)
    (hline : (apos.endLine == cpos.line) = true := by rfl) (hs : starEach [e] X.env = (false, eval e X.env) :: starEach [] X.env := by rfl) :
    SE X W (.Call (.Attribute (.Name x px) "pop" apos) [e] [] cpos) (wMu i gPopAt ta) :=
  se_mu i mu_popAt PySem.F.slot_list_pop PySem.F.type_list_pop mt_popAt ha hN hv hd hcd hbase hfew hline hs rfl

/-! ### x[e] = v, x a slot with its own list -/
@[simp] def wSetL (j : Nat) (wi we : XW) : WS := fun r F => we r (fun l r1 => match r1[j]? with
  | some (Sl.own _ _) => wi r1 (fun li r2 => onInt r2 li fun k => withF r2 l fun d r3 => match r3[j]? with
    | some (Sl.own p (.lst ds)) => match ixN ds.length k with
      | some m => F.nx (r3.set j (.own p (.lst (ds.set m d))))
      | none => False
    | _ => False) F.ex
  | _ => False) F.ex
theorem own_upd {G : Gm} {r : Rho} {s : St} {Hs H : Hp} {i : Nat} {p : Addr} {v : V} {ds ds' : List D} {vs' : List V} (S : StOk G r s Hs H) (hv : s[i]? = some (some v)) (e : r[i]? = some (Sl.own p (.lst ds))) (rs : Reps G Hs vs' ds') :
    v = .ref p ∧ (∃ vs, H p = some (.lst vs) ∧ Reps G Hs vs ds) ∧ Out G r s Hs H (r.set i (.own p (.lst ds'))) Hs (L2.upd H p (.lst vs')) := by
  have z := S.sl i _ e
  rw [hv] at z
  cases z with
  | own y1 y2 =>
    cases y2 with
    | lst h1 h2 =>
      have np := own_no S.nd e
      have S1 : StOk G (r.set i .no) s Hs (L2.upd H p (.lst vs')) := (S.put (x := .no) (by intro p c q; cases q) .no).upd y1 np
      have S2 := S1.putOwn (i := i) (p := p) (c := .lst ds') hv y1 (.lst upd_same rs) np
      rw [List.set_set] at S2
      refine ⟨rfl, ⟨_, h1, h2⟩, S2, Ex.refl _, fun a u h n => ?_, fun a u _ h _ => h, fun a h => ?_, fun a h => ?_⟩
      · rw [upd_ne (fun e' => n ⟨i, _, e' ▸ e⟩)]; exact h
      · rcases own_putOwn h with rfl | h
        · exact .inl ⟨i, _, e⟩
        · exact .inl h
      · by_cases e' : a = p
        · subst e'; rw [upd_same] at h; cases h
        · rwa [upd_ne e'] at h
theorem ixN_lt {n : Nat} {k : Int} {m : Nat} (h : ixN n k = some m) : m < n := (ixN_seq h).2.1
theorem ss_setL {x : Str} {px pos' : Pos} {ei e : Expr} {wi we : XW} (j : Nat) (he : SE X W e we) (hi : SE X W ei wi) (hN : X.N[j]? = some x := by rfl) (hv : Vis X.env.scope x := by first | exact Or.inl rfl | exact Or.inr (Or.inl rfl) | exact Or.inr (Or.inr rfl))
    (hd : (x == ("__debug__" : Str)) = false := by decide) (hcd : (x == ("__classdict__" : Str)) = false := by decide) (hs : swapsWithSole [.Subscript (.Name x px) ei pos'] e pos.line X.env = pure false := by rfl) (hw : swappedStores [.Subscript (.Name x px) ei pos'] e X.env = pure none := by rfl)
    (h1 : (assignEach [.Subscript (.Name x px) ei pos'] X.env).map (·.2) = [assign (.Subscript (.Name x px) ei pos') X.env] := by rfl)
    (hra : ∀ v, assign (.Subscript (.Name x px) ei pos') X.env v = (do
      let ov ← holding [v] (eval (.Name x px) X.env)
      let iv ← holding [v, ov] (eval ei X.env)
      standAt pos'
      holding [v, ov, iv] (setItem ov iv v)
      release [v, ov, iv] []) := by intro _; rfl) :
    SS X W (.Assign [.Subscript (.Name x px) ei pos'] e pos) (wSetL j wi we) := by
  refine ps_imp (ps_asg he (pg_sub (pe_var hN hv hd hcd) hi set_list hra) hs hw h1) fun D s H q => ?_
  obtain ⟨r, Hs, F, S, w, k⟩ := q
  refine tw_run S w k fun l r1 v Hs1 H1 p o lo n => ?_
  split at p
  · rename_i a0 c0 e0
    have hex : s[j]? = some (some (.ref a0)) := by
      have z := o.S.sl j _ e0
      revert z
      generalize s[j]? = w
      intro z
      cases z; rfl
    refine ⟨_, hex, ?_⟩
    refine tw_run o.S p (k.mono o.outS) fun li r2 vi Hs2 H2 p2 o2 l2 n2 => ?_
    obtain ⟨kk, rfl, rfl, p3⟩ := onInt_iff p2 l2
    obtain ⟨d, r3, ez, p4⟩ := withF_iff p3
    have oo := o.trans o2
    obtain ⟨Hs3, S3, rp, g3, _⟩ := (lo.go o2.g).frz o2.S oo.g n ez
    split at p4
    · rename_i p' ds e'
      split at p4
      · rename_i m hm
        have z := own_upd (vs' := []) (ds' := []) S3 hex e' .nil
        obtain ⟨e1, ⟨vs, h1, h2⟩, _⟩ := z
        cases e1
        have z2 := own_upd S3 hex e' (h2.set rp m)
        refine ⟨a0, vs, kk, m, rfl, rfl, h1, by rw [h2.length]; exact hm, ?_⟩
        exact k.nx _ _ _ _ p4 (Out.outS (Out.trans ⟨S3, g3⟩ z2.2.2))
      · exact p4.elim
    · exact p4.elim
  · exact p.elim

/-! ### list(range(..)) -/
theorem reps_rg {G : Gm} {H : Hp} (a b : Int) : Reps G H (rgV a b) (rngD a (b - a).toNat) := by
  unfold rgV rngD
  have : ∀ l : List Nat, Reps G H (l.map fun i => V.int (a + (i : Nat))) (l.map fun (i : Nat) => D.int (a + ((i : Nat) : Int))) := by
    intro l
    induction l with
    | nil => exact .nil
    | cons x l ih => exact .cons (.int _) ih
  exact this _
@[simp] def wLstR1 (wa : XW) : XW := fun r P PE => wa r (fun l r1 => onInt r1 l fun n => RgOk 0 n ∧ ∀ p, P (.nw p (.lst (rngD 0 n.toNat))) r1) PE
@[simp] def wLstR2 (wa wb : XW) : XW := fun r P PE => wa r (fun la r1 => wb r1 (fun lb r2 => onInt r2 la fun a => onInt r2 lb fun b => RgOk a b ∧ ∀ p, P (.nw p (.lst (rngD a (b - a).toNat))) r2) PE) PE
theorem se_listR1 {p p2 pos2 : Pos} {a : Expr} {wa : XW} (hc : X.calm = true) (hg : Gl X "list") (hm : X.mg "list" = none) (hg2 : Gl X "range") (hm2 : X.mg "range" = none) (ha : SE X W a wa) (na : starEach [a] X.env = (false, eval a X.env) :: starEach [] X.env := by rfl)
    (nb : starEach [Expr.Call (.Name "range" p2) [a] [] pos2] X.env = (false, eval (.Call (.Name "range" p2) [a] [] pos2) X.env) :: starEach [] X.env := by rfl) : SE X W (.Call (.Name "list" p) [.Call (.Name "range" p2) [a] [] pos2] [] pos) (wLstR1 wa) := by
  refine pe_imp (pe_listRg hc hg hm (prg_1 hg2 hm2 ha na) nb) fun s H Q q => ?_
  obtain ⟨r, Hs, P, PE, S, w, k, ke⟩ := q
  refine ⟨r, Hs, _, PE, S, w, fun l r1 v Hs1 H1 p o lo n => ?_, ke⟩
  obtain ⟨b, rfl, rfl, p'⟩ := onInt_iff p lo
  refine ⟨b, rfl, p'.1, fun q hq => ?_⟩
  have e : (b - 0).toNat = b.toNat := by rw [Int.sub_zero]
  have rp : Reps (gm X) Hs1 (rgV 0 b) (rngD 0 b.toNat) := by
    have := reps_rg (G := gm X) (H := Hs1) 0 b
    rwa [e] at this
  exact (retL (G := gm X) o.S.ex hq rp).out (P := P) o.S p'.2 fun l r' v Hs' H' p' o' lo' n' => k l r' v Hs' H' p' (o.trans o') lo' (new_th o n')
theorem se_listR2 {p p2 pos2 : Pos} {a b : Expr} {wa wb : XW} (hc : X.calm = true) (hg : Gl X "list") (hm : X.mg "list" = none) (hg2 : Gl X "range") (hm2 : X.mg "range" = none) (ha : SE X W a wa) (hb : SE X W b wb) (na : starEach [a, b] X.env = (false, eval a X.env) :: starEach [b] X.env := by rfl)
    (na2 : starEach [b] X.env = (false, eval b X.env) :: starEach [] X.env := by rfl) (hp2 : (backTo pos2 (starEach [b] X.env)).any (·.1) = false := by rfl)
    (nb : starEach [Expr.Call (.Name "range" p2) [a, b] [] pos2] X.env = (false, eval (.Call (.Name "range" p2) [a, b] [] pos2) X.env) :: starEach [] X.env := by rfl) : SE X W (.Call (.Name "list" p) [.Call (.Name "range" p2) [a, b] [] pos2] [] pos) (wLstR2 wa wb) := by
  refine pe_imp (pe_listRg hc hg hm (prg_2 hg2 hm2 ha hb na na2 hp2) nb) fun s H Q q => ?_
  obtain ⟨r, Hs, P, PE, S, w, k, ke⟩ := q
  refine ⟨r, Hs, _, PE, S, w, fun l r1 v Hs1 H1 p o lo n => ?_, ke⟩
  refine ⟨r1, Hs1, _, PE, o.S, p, fun l2 r2 v2 Hs2 H2 p2 o2 lo2 n2 => ?_, ke.mono o⟩
  obtain ⟨a', rfl, rfl, p'⟩ := onInt_iff p2 (lo.go o2.g)
  obtain ⟨b', rfl, rfl, p''⟩ := onInt_iff p' lo2
  refine ⟨a', b', rfl, rfl, p''.1, fun q hq => ?_⟩
  have oo := o.trans o2
  exact (retL (G := gm X) oo.S.ex hq (reps_rg (G := gm X) (H := Hs2) a' b')).out (P := P) oo.S p''.2 fun l r' v Hs' H' p' o' lo' n' => k l r' v Hs' H' p' (oo.trans o') lo' (new_th oo n')
end

/-! ### def f( *xs) -/
def starF (f : FSpec) : FSpec := fun as Q QE => ∃ ds : List D, as = ds.map Sl.sh ∧ ds.length ≤ sizeLine ∧ f [.sh (.tup ds)] Q QE
theorem args_sh {G : Gm} {Hs H : Hp} : ∀ {vs : List V} {ds : List D}, ArgsOk G Hs H vs (ds.map Sl.sh) → Reps G Hs vs ds
  | _, [], .nil => .nil
  | _, d :: ds, .sh a b => .cons a (args_sh b)
theorem back_sh {G : Gm} {Hs H : Hp} : ∀ {ds : List D}, BackOk G Hs H (ds.map Sl.sh) []
  | [] => .nil
  | d :: ds => .sh back_sh
theorem back_nil {G : Gm} {Hs H : Hp} {d : D} {cs : List Cell} (h : BackOk G Hs H [.sh d] cs) : cs = [] := by
  cases h with
  | sh h => cases h; rfl
theorem noOwn_sh {ds : List D} {a : Addr} : ¬ Own (ds.map Sl.sh) a := fun ⟨i, c, h⟩ => by
  rw [List.getElem?_map] at h
  obtain ⟨d, _, e⟩ := Option.map_eq_some_iff.mp h
  cases e
section
variable {P : Program} {w : World} {K : PySem.W.Frag} {mg : Str → Option Value} {base : Heap}
theorem star_ok {x qual pv : Str} {st : Stmt} {fa : Addr} {fd : FuncData} {N : List Str} {k : Nat} {f : FSpec} (F : Fun K x qual st fa fd) (S : FnScope N [pv] (defScope st)) (wb : WS)
    (hb : ∀ (kV doc pm : Value) (an : Option Addr) (cdv ct : Value) (us rest : List Value), us.length = ([] : List Str).length → bindArgs (PySem.W.fnOf x qual (defArgs st) (defBody st) (defScope st) .none kV doc pm an cdv ct) ⟨us ++ rest, []⟩ = (newTuple rest >>= fun t => pure (([] : List Str).zip us ++ [(pv, t)])))
    (hbody : ∀ (cdv : Value) (A : Around) (outer : List Env) (s : Shared) (H : Hp) (E : XK), Room k (A.deeper (envOfC qual (defScope st) s.heap.objs.size fa cdv)) →
      SSs (cxOf (L2.CX P w) P w K mg base N qual (defScope st) fa cdv A outer s H E) (fun cls d _ H => E cls d H) (defBody st) wb)
    (hw : ∀ (as : List Sl) (Q : LR → List Cell → Prop) (QE : Exc → List Cell → Prop), f as Q QE → wb (rho0 N.length as) (bodyFl as Q QE)) (hm : mg x = some (.ref fa)) : DefOk P w K mg base (k + 1) x (starF f) := by
  obtain ⟨oc, od, kV, doc, pm, an, cdv, ct, osl, rfl, lk, hcd⟩ := F.ex
  refine ⟨fa, (StX.fn_star (k := k) (N := N) (ps := []) (pv := pv) (sp := spF ⟨K, mg⟩ f) lk hcd S StX.cxUp (hb kV doc pm an cdv ct) (fun A outer s H vs Q E hr h => ⟨_, hbody cdv A outer s H E hr, body_ok (K := K) (mg := mg) (qual := qual) (sc := defScope st) (body := defBody st) (fa := fa) (cdv := cdv) (A := A) (outer := outer) (s := s) (H0 := H) (E0 := E) (t := fun _ _ _ => True) hw h⟩)).imp fun vs H Q E h => ?_, hm, F.kp⟩
  obtain ⟨as, Hs, P', PE, A', ex, nd, ⟨ds, rfl, hl, q⟩, kq, ke⟩ := h
  have rp := args_sh A'
  refine ⟨[], vs, rfl, rfl, by rw [rp.length]; exact hl, fun p hp => ?_⟩
  have hs : Hs p = none := Evl.fresh_back ex hp
  have g0 : Go0 Hs H (upd Hs p (.tup vs)) (upd H p (.tup vs)) := Go0.new2 ex hp
  have gg : ∀ {Hs' H' : Hp}, Go (Own [Sl.sh (.tup ds)]) (Own [Sl.sh (.tup ds)]) (upd Hs p (.tup vs)) (upd H p (.tup vs)) Hs' H' → Go (Own (ds.map Sl.sh)) (Own (ds.map Sl.sh)) Hs H Hs' H' := fun {Hs' H'} g => by
    have no1 : ∀ a, ¬ Own [Sl.sh (.tup ds)] a := fun a => noOwn_sh (ds := [.tup ds])
    have g' : Go0 (upd Hs p (.tup vs)) (upd H p (.tup vs)) Hs' H' := ⟨g.ss, fun a u h _ => g.kp a u h (no1 a), fun a u h h2 _ => g.fr a u h h2 (no1 a), fun _ q => q.elim, g.th⟩
    exact Go0.any (Go.trans g0 g')
  refine ⟨[.sh (.tup ds)], upd Hs p (.tup vs), P', PE, .sh (.tup (Evl.st_of upd_same) (rp.mono (Evl.Ex.new hs))) .nil, ex_new2 ex, fun i j p c c' h _ => ((noOwn_sh (ds := [.tup ds])) ⟨i, c, h⟩).elim, q, fun d cs v Hs' H' pd ex' g rv bk => ?_, fun x cs cls dd Hs' H' px ex' g eo bk => ?_⟩
  · obtain rfl := back_nil bk
    refine kq _ _ _ _ _ pd ex' (gg g) ?_ back_sh
    cases rv with
    | val rv => exact .val rv
    | new z1 z2 z3 => exact .new z1 z2 (g0.th _ z3)
  · obtain rfl := back_nil bk
    exact ke _ _ _ _ _ _ px ex' (gg g) eo back_sh
end
end Z

/-! Z10: isinstance, slices of anything, in, targets of an assignment, code that is never reached. -/
namespace Z
open PySem L2
open PyProof.Rows (envOfC)
open Evl (Ex ex_rd ex_l ex_t)
section
variable {X : Cx} {W : WX} {pos : Pos}
@[simp] def wNever : WS := fun _ _ => False
theorem ss_never {st : Stmt} : SS X W st wNever := by
  refine ps_imp ps_never fun D s H q => ?_
  obtain ⟨r, Hs, F, S, w, k⟩ := q
  exact w
/-- a built-in class as a value -/
theorem se_ty {x : Str} {n : String} {pos : Pos} (hg : Gl X x) (hm : X.mg x = none) (hv : bootBuiltins x = some (.type n)) (hn : x ≠ "__name__" := by decide) (hd : (x == ("__debug__" : Str)) = false := by decide) : SE X W (.Name x pos) (wC (.ty n)) :=
  se_c (pe_bltn (v := .ty n) hg hm hv rfl hn hd) fun _ => .ty n
def tyName : D → Option String
  | .non => some "NoneType"
  | .bl _ => some "bool"
  | .int _ => some "int"
  | .str _ => some "str"
  | .tup _ => some "tuple"
  | .lst _ => some "list"
  | .rol _ => some "list"
  | .dic _ => some "dict"
  | _ => none
def gIsi : GC
  | [d, .ty n], P => match tyName d with
    | some t => match kitB t n with
      | some b => P (.val (.bl b))
      | none => False
    | none => False
  | _, _ => False
theorem tyx_rd {K : PySem.W.Frag} {H : Hp} {a : Addr} {xs : List V} (h : SqL K H a xs) : TyX K H (.ref a) (.type "list") := by
  rcases h with (h | ⟨o, h⟩) | ⟨o, its, n, h, c, _⟩
  · exact .base (.lst h)
  · exact .base (.frz h)
  · exact .kList h c
theorem tyx_rt {K : PySem.W.Frag} {H : Hp} {a : Addr} {xs : List V} (h : SqT K H a xs) : TyX K H (.ref a) (.type "tuple") := by
  rcases h with (h | ⟨o, h⟩) | ⟨o, its, n, h, c, _⟩
  · exact .base (.tup h)
  · exact .fTuple h
  · exact .kTuple h c
theorem tyx_of {G : Gm} {Hs H : Hp} {v : V} {d : D} {t : String} (h : RepB G Hs H v d) (e : Ex Hs H) (q : tyName d = some t) : TyX G.K H v (.type t) := by
  cases d with
  | non => cases q; obtain rfl := h.nonv; exact .base .non
  | bl b => cases q; obtain rfl := h.blv; exact .base (.bl _)
  | int b => cases q; obtain rfl := h.intv; exact .base (.int _)
  | str b => cases q; obtain rfl := h.strv; exact .base (.str _)
  | tup ds => cases q; obtain ⟨p, vs, rfl, h1, _⟩ := h.tupv e; exact tyx_rt h1
  | lst ds => cases q; obtain ⟨p, vs, rfl, h1, _⟩ := h.seqLv (ds := ds) rfl e; exact tyx_rd h1
  | rol ds => cases q; obtain ⟨p, vs, rfl, h1, _⟩ := h.seqLv (ds := ds) rfl e; exact tyx_rd h1
  | dic ds => cases q; obtain ⟨p, vs, rfl, h1, _⟩ := h.dicv e; exact .base (.dK h1)
  | ins _ _ => cases q
  | ty _ => cases q
theorem RepB.tyv {G : Gm} {Hs H : Hp} {v : V} {n : String} (h : RepB G Hs H v (.ty n)) : v = .ty n := by
  rcases h.inv with h | ⟨p, c, _, e, _⟩
  · cases h; rfl
  · cases c <;> cases e
theorem cg_isi : CaG X (.builtin "isinstance") gIsi := by
  refine ⟨_, call_isi, fun xs ds Hs H P Q e rs q k => ?_⟩
  unfold gIsi at q
  split at q
  · rename_i d n
    obtain ⟨v, v', rfl, rx, ry⟩ := rs.two
    obtain rfl := ry.tyv
    split at q
    · rename_i t ht
      split at q
      · rename_i b hb
        exact ⟨v, _, _, _, b, rfl, .ty n, tyx_of rx e ht, kit_ty hb, k _ _ _ _ q (ret0 e (.bl _))⟩
      · exact q.elim
    · exact q.elim
  · exact q.elim
/-! ### slices of lists, tuples, texts -/
def gSlA : GSl
  | .lst xs, lo, hi, P => P (.new (.lst (cutD xs lo hi)))
  | .rol xs, lo, hi, P => P (.new (.lst (cutD xs lo hi)))
  | .tup xs, lo, hi, P => P (.val (.tup (cutD xs lo hi)))
  | .str z, lo, hi, P => z.length ≤ sizeLine ∧ P (.val (.str (cutS z lo hi)))
  | _, _, _, _ => False
theorem cutD_whole {xs : List D} {lo hi : Option Int} (h : HT.sIx xs.length 0 lo = 0 ∧ HT.sIx xs.length xs.length hi = xs.length) : cutD xs lo hi = xs := by
  unfold cutD
  rw [h.1, h.2, List.drop_zero, Nat.sub_zero, List.take_length]
theorem sg_any : SlG X gSlA := by
  refine ⟨_, SlR.or (SlR.or sl_list sl_tupA) sl_str, fun x dx lo hi Hs H P Q e rx q k => ?_⟩
  cases dx <;> simp only [gSlA] at q
  · obtain rfl := rx.strv
    exact .inr ⟨_, rfl, q.1, k _ _ _ _ q.2 (ret0 e (.str _))⟩
  · obtain ⟨p, vs, rfl, hp, r1, r2⟩ := rx.tupv e
    refine .inl (.inr ⟨p, vs, rfl, hp, ?_, ?_⟩)
    · intro h
      rw [r1.length] at h
      rw [cutD_whole h] at q
      exact k _ _ _ _ q (ret0 e r2)
    · intro h l hl
      exact k _ _ _ _ q (retT e hl (reps_cut r1 lo hi))
  · obtain ⟨p, vs, rfl, hp, r1⟩ := rx.seqLv (ds := _) rfl e
    exact .inl (.inl ⟨p, vs, rfl, hp, fun l hl => k _ _ _ _ q (retL e hl (reps_cut r1 lo hi))⟩)
  · obtain ⟨p, vs, rfl, hp, r1⟩ := rx.seqLv (ds := _) rfl e
    exact .inl (.inl ⟨p, vs, rfl, hp, fun l hl => k _ _ _ _ q (retL e hl (reps_cut r1 lo hi))⟩)
/-! ### in, not in -/
def flatD : D → Bool
  | .non => true
  | .bl _ => true
  | .int _ => true
  | .str _ => true
  | _ => false
def eqF : D → D → Bool
  | .non, .non => true
  | .bl a, .bl b => a == b
  | .bl a, .int b => (if a then 1 else 0) == b
  | .int a, .bl b => a == (if b then 1 else 0)
  | .int a, .int b => a == b
  | .str a, .str b => a == b
  | _, _ => false
def inD (x : D) (xs : List D) : Bool := xs.any fun y => eqF y x
/-- x in a list or tuple: flat things; one sign in a text -/
def gIn : G2 := fun x y P => (flatD x = true ∧ ∃ ds, seqD y = some ds ∧ ds.all flatD = true ∧ P (.val (.bl (inD x ds)))) ∨ ∃ c z, x = .str ⟨#[c]⟩ ∧ y = .str z ∧ P (.val (.bl (decide (c ∈ z.cps.toList))))
def gNin : G2 := fun x y P => (flatD x = true ∧ ∃ ds, seqD y = some ds ∧ ds.all flatD = true ∧ P (.val (.bl (!inD x ds)))) ∨ ∃ c z, x = .str ⟨#[c]⟩ ∧ y = .str z ∧ P (.val (.bl (!decide (c ∈ z.cps.toList))))
theorem flat_rep {G : Gm} {H : Hp} {v : V} {d : D} (h : Rep G H v d) (f : flatD d = true) : flatV v = true := by
  cases h <;> first | rfl | cases f
theorem flats_rep {G : Gm} {H : Hp} : ∀ {vs : List V} {ds : List D}, Reps G H vs ds → ds.all flatD = true → vs.all flatV = true
  | _, _, .nil, _ => rfl
  | _, _, .cons a b, f => by
    rw [List.all_cons, Bool.and_eq_true] at f ⊢
    exact ⟨flat_rep a f.1, flats_rep b f.2⟩
theorem eqF_rep {G : Gm} {H : Hp} {v w : V} {d e : D} (h : Rep G H v d) (h' : Rep G H w e) (f : flatD d = true) (f' : flatD e = true) : eqV v w = eqF d e := by
  cases h <;> first | (cases f; done) | (cases h' <;> first | (cases f'; done) | rfl)
theorem inD_rep {G : Gm} {H : Hp} {v : V} {d : D} (h : Rep G H v d) (f : flatD d = true) : ∀ {vs : List V} {ds : List D}, Reps G H vs ds → ds.all flatD = true → inV v vs = inD d ds
  | _, _, .nil, _ => rfl
  | _, _, .cons a b, f' => by
    rw [List.all_cons, Bool.and_eq_true] at f'
    have := inD_rep h f b f'.2
    unfold inV inD at this ⊢
    rw [List.any_cons, List.any_cons, this, eqF_rep a h f'.1 f]
theorem RepB.flat {G : Gm} {Hs H : Hp} {v : V} {d : D} (h : RepB G Hs H v d) (f : flatD d = true) : Rep G Hs v d := by
  rcases h.inv with h | ⟨p, c, _, e, _⟩
  · exact h
  · subst e; cases c <;> cases f
theorem og_in : OpG X (compareOp .In) gIn := by
  refine ⟨_, OpR.or op_in_seq op_in_sign, fun x y dx dy Hs H P Q e rx ry q k => ?_⟩
  rcases q with ⟨fx, ds, h1, h2, q⟩ | ⟨c, z, rfl, rfl, q⟩
  · have rf := rx.flat fx
    refine .inl ?_
    cases dy <;> simp only [seqD] at h1 <;> cases h1
    · obtain ⟨p, vs, rfl, hp, r1, _⟩ := ry.tupv e
      exact ⟨p, vs, rfl, .inr hp, flat_rep rf fx, flats_rep r1 h2, k _ _ _ _ q (by rw [if_neg (by decide), inD_rep rf fx r1 h2]; exact ret0 e (.bl _))⟩
    · obtain ⟨p, vs, rfl, hp, r1⟩ := ry.lstv e
      exact ⟨p, vs, rfl, .inl (Evl.sq_of hp), flat_rep rf fx, flats_rep r1 h2, k _ _ _ _ q (by rw [if_neg (by decide), inD_rep rf fx r1 h2]; exact ret0 e (.bl _))⟩
    · obtain ⟨p, vs, rfl, hp, r1⟩ := ry.seqLv (ds := _) rfl e
      exact ⟨p, vs, rfl, .inl hp, flat_rep rf fx, flats_rep r1 h2, k _ _ _ _ q (by rw [if_neg (by decide), inD_rep rf fx r1 h2]; exact ret0 e (.bl _))⟩
  · obtain rfl := ry.strv; obtain rfl := rx.strv
    exact .inr ⟨c, _, rfl, rfl, k _ _ _ _ q (ret0 e (.bl _))⟩
theorem og_nin : OpG X (compareOp .NotIn) gNin := by
  refine ⟨_, OpR.or op_notIn_seq op_notIn_sign, fun x y dx dy Hs H P Q e rx ry q k => ?_⟩
  rcases q with ⟨fx, ds, h1, h2, q⟩ | ⟨c, z, rfl, rfl, q⟩
  · have rf := rx.flat fx
    refine .inl ?_
    cases dy <;> simp only [seqD] at h1 <;> cases h1
    · obtain ⟨p, vs, rfl, hp, r1, _⟩ := ry.tupv e
      exact ⟨p, vs, rfl, .inr hp, flat_rep rf fx, flats_rep r1 h2, k _ _ _ _ q (by rw [if_pos rfl, inD_rep rf fx r1 h2]; exact ret0 e (.bl _))⟩
    · obtain ⟨p, vs, rfl, hp, r1⟩ := ry.lstv e
      exact ⟨p, vs, rfl, .inl (Evl.sq_of hp), flat_rep rf fx, flats_rep r1 h2, k _ _ _ _ q (by rw [if_pos rfl, inD_rep rf fx r1 h2]; exact ret0 e (.bl _))⟩
    · obtain ⟨p, vs, rfl, hp, r1⟩ := ry.seqLv (ds := _) rfl e
      exact ⟨p, vs, rfl, .inl hp, flat_rep rf fx, flats_rep r1 h2, k _ _ _ _ q (by rw [if_pos rfl, inD_rep rf fx r1 h2]; exact ret0 e (.bl _))⟩
  · obtain rfl := ry.strv; obtain rfl := rx.strv
    exact .inr ⟨c, _, rfl, rfl, k _ _ _ _ q (ret0 e (.bl _))⟩
/-! ### a, b = e -/
@[simp] def wAsgG (g : WG) (w : XW) : WS := fun r F => w r (fun l r1 => withF r1 l fun d r2 => g d r2 F.nx) F.ex
theorem ss_asgG {tg e : Expr} {w : XW} {is : List Nat} {g : WG} (he : SE X W e w) (hg : SG X tg is g) (hs : swapsWithSole [tg] e pos.line X.env = pure false := by rfl) (hw : swappedStores [tg] e X.env = pure none := by rfl)
    (h1 : (assignEach [tg] X.env).map (·.2) = [assign tg X.env] := by rfl) : SS X W (.Assign [tg] e pos) (wAsgG g w) := by
  refine ps_imp (ps_asg he hg hs hw h1) fun D s H q => ?_
  obtain ⟨r, Hs, F, S, w, k⟩ := q
  refine tw_run S w k fun l r1 v Hs1 H1 p o lo n => ?_
  obtain ⟨d, r2, ez, p⟩ := withF_iff p
  obtain ⟨Hs2, S2, rp, g2, _⟩ := lo.frz o.S o.g n ez
  exact ⟨r2, Hs2, d, _, S2, rp, p, fun r3 s3 p3 S3 ow _ => k.nx _ _ _ _ p3 ⟨S3, g2.sub ow⟩⟩
end
end Z

/-! ZR: the laws' reels: their words, their promises. -/
namespace Z
open PySem L2
open PyProof.Rows (envOfC)

def Reel (c : Cell) : Prop := ∃ a b e : Int, c = .lst [.int a, .int b, .int e]
def sp_spin : FSpec := fun as P _ => ∃ p rl t, as = [.own p rl, .sh (.int t)] ∧ Reel rl ∧ 0 < t ∧ t.natAbs.log2 < 9000 ∧ ∀ k rl', Reel rl' → 0 ≤ k → k < t → P (.val (.int k)) [rl']
def sp_pick : FSpec := fun as P _ => ∃ p rl d ds, as = [.own p rl, .sh d] ∧ Reel rl ∧ itemsD d = some ds ∧ ds ≠ [] ∧ ds.length ≤ 1000 ∧ ∀ x rl', Reel rl' → x ∈ ds → P (.val x) [rl']
def sp_reel : FSpec := fun as P _ => ∃ (ns : List Int) (at' : Int), as = [.sh (.rol (ns.map D.int)), .sh (.int at')] ∧ 0 ≤ at' ∧ at' ≤ 1000 ∧ ∀ rl, Reel rl → P (.new rl) []
def wSpin : WS := (wSeq (wIfS (tw2 gGt (w2 gIx (wVar 0) (wC (.int 0))) (wC (.int 0))) (wSeq (wAsg 2 (w2 gMod (wB gInt (waCons (w2 gIx (wVar 0) (wC (.int 0))) waNil)) (wVar 1)))
  (wSeq (wSetL 0 (wC (.int 0)) (w2 gDiv (w2 gIx (wVar 0) (wC (.int 0))) (wVar 1)))
  (wRet (wVar 2)))) wNext)
  (wSeq (wSetL 0 (wC (.int 2)) (w2 gAdd (w2 gIx (wVar 0) (wC (.int 2))) (wC (.int 1))))
  (wSeq (wAsg 3 (w2 gMod (wB gInt (waCons (w2 gAdd (w2 gIx (wVar 0) (wC (.int 1))) (w2 gMul (wC (.int 1000303)) (w2 gIx (wVar 0) (wC (.int 2))))) waNil)) (wC (.int 2305843009213693951))))
  (wSeq (wAsg 4 (w2 gAdd (w2 gMul (w2 gMod (wB gInt (waCons (w2 gMul (wVar 3) (wVar 3)) waNil)) (wC (.int 2305843009213693921))) (wVar 3)) (w2 gMul (wC (.int 9323)) (w2 gIx (wVar 0) (wC (.int 2))))))
  (wSeq (wAsg 4 (w2 gMod (wB gInt (waCons (wVar 4) waNil)) (wC (.int 2305843009213693907))))
  (wRet (w2 gMod (wB gInt (waCons (w2 gDiv (wVar 4) (wC (.int 4096))) waNil)) (wVar 1))))))))
theorem ixN0 {n : Nat} : ixN (n + 1) 0 = some 0 := by unfold ixN; rw [if_pos (by omega), if_pos (by omega)]; rfl
theorem atI_cons0 {α : Type} {x : α} {xs : List α} : atI (x :: xs) 0 = some x := by unfold atI; rw [List.length_cons, ixN0]; rfl
theorem atI_ofNat {α : Type} {xs : List α} {n : Nat} : atI xs (OfNat.ofNat n : Int) = xs[n]? := by
  unfold atI ixN
  have h0 : (0 : Int) ≤ (OfNat.ofNat n : Int) := Int.natCast_nonneg n
  rw [if_pos h0]
  by_cases h : n < xs.length
  · rw [if_pos (show (OfNat.ofNat n : Int) < (xs.length : Int) from Int.ofNat_lt.mpr h)]
    rfl
  · rw [if_neg (show ¬ (OfNat.ofNat n : Int) < (xs.length : Int) from fun z => h (Int.ofNat_lt.mp z)), List.getElem?_eq_none (by omega)]
    rfl
theorem atI_nat {α : Type} {xs : List α} {n : Nat} : atI xs (n : Int) = xs[n]? := atI_ofNat
theorem mul64 {i j : Int} (h : -(2 ^ 64) < i ∧ i < 2 ^ 64) : CMul i j ∨ CMulW i j := .inl (.inl h)
theorem mul64r {i j : Int} (h : -(2 ^ 64) < j ∧ j < 2 ^ 64) : CMul i j ∨ CMulW i j := .inl (.inr h)
theorem spin_w {as Q QE} (h : sp_spin as Q QE) : wSpin (rho0 5 as) (bodyFl as Q QE) := by
  obtain ⟨p, rl, t, rfl, ⟨a, b, e, rfl⟩, ht, hl, k⟩ := h
  refine ite2 (fun h => ?_) (fun h => ?_)
  · refine ⟨ht, ?_⟩
    refine ⟨⟨ht, hl⟩, ?_⟩
    refine ⟨rfl, ?_⟩
    exact k _ _ ⟨_, _, _, rfl⟩ (Int.emod_nonneg _ (by omega)) (Int.emod_lt_of_pos _ ht)
  · refine ⟨mul64 (by decide), ?_⟩
    refine ⟨by decide, ?_⟩
    have h1 : ∀ x : Int, 0 ≤ x % 2305843009213693951 ∧ x % 2305843009213693951 < 2305843009213693951 := fun x => ⟨Int.emod_nonneg _ (by decide), Int.emod_lt_of_pos _ (by decide)⟩
    refine ⟨mul64 (by have := h1 (b + 1000303 * (e + 1)); omega), ?_⟩
    refine ⟨by decide, ?_⟩
    refine ⟨mul64 (by have := Int.emod_nonneg ((b + 1000303 * (e + 1)) % 2305843009213693951 * ((b + 1000303 * (e + 1)) % 2305843009213693951)) (b := 2305843009213693921) (by decide); have := Int.emod_lt_of_pos ((b + 1000303 * (e + 1)) % 2305843009213693951 * ((b + 1000303 * (e + 1)) % 2305843009213693951)) (b := 2305843009213693921) (by decide); omega), ?_⟩
    refine ⟨mul64 (by decide), ?_⟩
    refine ⟨by decide, ?_⟩
    refine ⟨⟨by decide, by decide⟩, ?_⟩
    refine ⟨ht, ?_⟩
    refine ⟨rfl, ?_⟩
    exact k _ _ ⟨_, _, _, rfl⟩ (Int.emod_nonneg _ (by omega)) (Int.emod_lt_of_pos _ ht)
theorem atI_lt {α : Type} {xs : List α} {k : Int} (h0 : 0 ≤ k) (h : k < (xs.length : Int)) : ∃ x, atI xs k = some x ∧ x ∈ xs := by
  obtain ⟨n, rfl⟩ := Int.eq_ofNat_of_zero_le h0
  have hn : n < xs.length := by omega
  exact ⟨xs[n], by rw [atI_nat, List.getElem?_eq_getElem hn], List.getElem_mem hn⟩
theorem log2_small {n : Nat} (h : n ≤ 1000) : ((n : Int)).natAbs.log2 < 9000 := by
  show n.log2 < 9000
  by_cases h0 : n = 0
  · subst h0; decide
  · have := (Nat.log2_lt h0).mpr (show n < 2 ^ 9000 from Nat.lt_of_le_of_lt h (Nat.lt_of_lt_of_le (show 1000 < 2 ^ 10 by decide) (Nat.pow_le_pow_right (by decide) (by decide))))
    exact this
def wPick : WS := (wRet (w2 gIx (wVar 1) (wCall sp_spin [true, false] (waCons (wVar 0) (waCons (wB gLen (waCons (wVar 1) waNil)) waNil)))))
theorem pick_w {as Q QE} (h : sp_pick as Q QE) : wPick (rho0 2 as) (bodyFl as Q QE) := by
  obtain ⟨p, rl, d, ds, rfl, hr, hi, hne, hl, k⟩ := h
  have pos : 0 < ds.length := List.length_pos_iff.mpr hne
  cases d with
  | lst xs | rol xs | tup xs =>
    cases hi
    refine ⟨_, _, _, rfl, hr, by omega, log2_small hl, fun j rl' hr' h0 h1 => ?_⟩
    obtain ⟨x, e, hx⟩ := atI_lt h0 h1
    show match atI ds j with | some d => _ | none => False
    rw [e]
    refine ⟨rfl, ?_⟩
    exact k _ _ hr' hx
  | str z =>
    cases hi
    have lz : (strD z).length = z.cps.toList.length := by unfold strD; rw [List.length_map]
    have lz2 : z.length = z.cps.toList.length := by first | rfl | (unfold Str.length; simp)
    have sm : z.length ≤ sizeLine := by rw [lz2, ← lz]; exact Nat.le_trans hl (by decide)
    refine ⟨sm, ?_⟩
    refine ⟨_, _, _, rfl, hr, by omega, log2_small (by omega), fun j rl' hr' h0 h1 => ?_⟩
    refine ⟨sm, ?_⟩
    obtain ⟨x, e, hx⟩ := atI_lt (xs := z.cps.toList) h0 (by omega)
    show match atI z.cps.toList j with | some c => _ | none => False
    rw [e]
    refine ⟨rfl, ?_⟩
    exact k _ _ hr' (List.mem_map.mpr ⟨x, hx, rfl⟩)
  | _ => cases hi
def wReel : WS := (wSeq (wAsg 2 (wIf (tw2 gLt (wVar 1) (wB gLen (waCons (wVar 0) waNil))) (w2 gIx (wVar 0) (wVar 1)) (w2 gAdd (w2 gMul (wC (.int 59)) (wVar 1)) (wC (.int 13)))))
  (wSeq (wAsg 3 (w2 gMod (wB gInt (waCons (wB gAbs (waCons (wVar 2) waNil)) waNil)) (w2 gPow (w2 gPow (wC (.int 10)) (wC (.int 58))) (wC (.int 10)))))
  (wSeq (wAsg 4 (w2 gAdd (w2 gAdd (w2 gAdd (w2 gMul (w2 gMod (wB gInt (waCons (wVar 3) waNil)) (wC (.int 2147483477))) (wC (.int 50021))) (w2 gMul (wC (.int 4007)) (wVar 1))) (w2 gMul (wC (.int 29)) (wB gInt (waCons (w2 gLt (wVar 2) (wC (.int 0))) waNil)))) (wC (.int 61))))
  (wRet (wLst (waCons (wB gMax (waCons (wC (.int 0)) (waCons (w2 gSub (wVar 3) (w2 gPow (wC (.int 10)) (wC (.int 18)))) waNil))) (waCons (w2 gMod (wB gInt (waCons (wVar 4) waNil)) (wC (.int 2147483423))) (waCons (wC (.int 0)) waNil))))))))
theorem cpow_small {i j : Int} (h : 0 ≤ j ∧ (Builtin.Int.intBits i : Int) * j ≤ 2 ^ 27) : CPowB i j := h
theorem reel_w {as Q QE} (h : sp_reel as Q QE) : wReel (rho0 5 as) (bodyFl as Q QE) := by
  obtain ⟨ns, a, rfl, h0, h1, k⟩ := h
  have rest : ∀ c : Int, (wSeq (wAsg 3 (w2 gMod (wB gInt (waCons (wB gAbs (waCons (wVar 2) waNil)) waNil)) (w2 gPow (w2 gPow (wC (.int 10)) (wC (.int 58))) (wC (.int 10)))))
  (wSeq (wAsg 4 (w2 gAdd (w2 gAdd (w2 gAdd (w2 gMul (w2 gMod (wB gInt (waCons (wVar 3) waNil)) (wC (.int 2147483477))) (wC (.int 50021))) (w2 gMul (wC (.int 4007)) (wVar 1))) (w2 gMul (wC (.int 29)) (wB gInt (waCons (w2 gLt (wVar 2) (wC (.int 0))) waNil)))) (wC (.int 61))))
  (wRet (wLst (waCons (wB gMax (waCons (wC (.int 0)) (waCons (w2 gSub (wVar 3) (w2 gPow (wC (.int 10)) (wC (.int 18)))) waNil))) (waCons (w2 gMod (wB gInt (waCons (wVar 4) waNil)) (wC (.int 2147483423))) (waCons (wC (.int 0)) waNil))))))) [.sh (.rol (ns.map D.int)), .sh (.int a), .sh (.int c), .no, .no] (bodyFl [.sh (.rol (ns.map D.int)), .sh (.int a)] Q QE) := fun c => by
    refine ⟨cpow_small (by decide +kernel), ?_⟩
    refine ⟨cpow_small (by decide +kernel), ?_⟩
    refine ⟨by decide +kernel, ?_⟩
    refine ⟨by decide, ?_⟩
    refine ⟨mul64r (by decide), ?_⟩
    refine ⟨mul64 (by decide), ?_⟩
    refine ⟨mul64 (by decide), ?_⟩
    refine ⟨cpow_small (by decide +kernel), ?_⟩
    refine ⟨by decide, ?_⟩
    refine ⟨(show (3 : Nat) ≤ sizeLine from by decide), fun p => ?_⟩
    exact k _ ⟨_, _, _, rfl⟩
  refine ite2 (fun h => ?_) (fun h => ?_)
  · obtain ⟨x, e, hx⟩ := atI_lt (xs := ns.map D.int) h0 (of_decide_eq_true h)
    show match atI (ns.map D.int) a with | some d => _ | none => False
    rw [e]
    obtain ⟨c, _, rfl⟩ := List.mem_map.mp hx
    exact rest c
  · refine ⟨mul64 (by decide), ?_⟩
    exact rest _
end Z

/-! ZE: the ends: the law's promise under every top, no exception leaves. -/
namespace Z
open PySem L2
theorem iteD {p A B : Prop} [Decidable p] (hp : p) (h : A) : if decide p = true then A else B := by rw [if_pos (decide_eq_true hp)]; exact h
theorem iteN {p A B : Prop} [Decidable p] (hp : ¬ p) (h : B) : if decide p = true then A else B := by rw [if_neg (fun e => hp (of_decide_eq_true e))]; exact h
theorem ite2d {p A B : Prop} [Decidable p] (h1 : p → A) (h2 : ¬ p → B) : if decide p = true then A else B := by
  by_cases hp : p
  · exact iteD hp (h1 hp)
  · exact iteN hp (h2 hp)
theorem iteDn {p A B : Prop} [Decidable p] (hp : p) (h : B) : if (!decide p) = true then A else B := by rw [decide_eq_true hp]; exact h
theorem iteNn {p A B : Prop} [Decidable p] (hp : ¬ p) (h : A) : if (!decide p) = true then A else B := by rw [decide_eq_false hp]; exact h
theorem ite2n {p A B : Prop} [Decidable p] (h1 : ¬ p → A) (h2 : p → B) : if (!decide p) = true then A else B := by
  by_cases hp : p
  · exact iteDn hp (h2 hp)
  · exact iteNn hp (h1 hp)
theorem iteNo {A B : Prop} (h : B) : if false = true then A else B := by rw [if_neg (by decide)]; exact h
theorem yesQ (Q : LR → List Cell → Prop) {p : Prop} [Decidable p] {cs} (hp : p) (h : Q (.val (.bl true)) cs) : Q (.val (.bl (decide p))) cs := by rw [decide_eq_true hp]; exact h
theorem noQ (Q : LR → List Cell → Prop) {p : Prop} [Decidable p] {cs} (hp : ¬ p) (h : Q (.val (.bl false)) cs) : Q (.val (.bl (decide p))) cs := by rw [decide_eq_false hp]; exact h
theorem intQ (Q : LR → List Cell → Prop) {i j : Int} {cs} (e : i = j) (h : Q (.val (.int j)) cs) : Q (.val (.int i)) cs := by rw [e]; exact h
open PyProof.Rows (envOfC)
/-- a cut: here the state is written anew -/
structure Norm (r : Rho) (k : Rho → Prop) : Prop where
  h : k r
@[simp] def wCut (t u : WS) : WS := fun r F => t r { F with nx := fun r' => Norm r' fun r'' => u r'' F }
theorem ss_cut {X : Cx} {W : WX} {st : Stmt} {rest : List Stmt} {wt ws : WS} (h1 : SS X W st wt) (h2 : SSs X W rest ws) : SSs X W (st :: rest) (wCut wt ws) := by
  refine pss_imp (pss_cons h1 h2) fun D s H q => ?_
  obtain ⟨r, Hs, F, S, w, k⟩ := q
  exact ⟨r, Hs, _, S, w, fun r' s' Hs' H' h o => ⟨r', Hs', F, o.S, h.h, k.mono o⟩, k.rt, k.bk, k.ct, k.ex⟩
theorem nm1 {k : Rho → Prop} {a0 : Sl} (h : k [a0]) : Norm [a0] k := ⟨h⟩
theorem nm2 {k : Rho → Prop} {a0 a1 : Sl} (h : k [a0, a1]) : Norm [a0, a1] k := ⟨h⟩
theorem nm3 {k : Rho → Prop} {a0 a1 a2 : Sl} (h : k [a0, a1, a2]) : Norm [a0, a1, a2] k := ⟨h⟩
theorem nm4 {k : Rho → Prop} {a0 a1 a2 a3 : Sl} (h : k [a0, a1, a2, a3]) : Norm [a0, a1, a2, a3] k := ⟨h⟩
theorem nm5 {k : Rho → Prop} {a0 a1 a2 a3 a4 : Sl} (h : k [a0, a1, a2, a3, a4]) : Norm [a0, a1, a2, a3, a4] k := ⟨h⟩
theorem nm6 {k : Rho → Prop} {a0 a1 a2 a3 a4 a5 : Sl} (h : k [a0, a1, a2, a3, a4, a5]) : Norm [a0, a1, a2, a3, a4, a5] k := ⟨h⟩
theorem nm7 {k : Rho → Prop} {a0 a1 a2 a3 a4 a5 a6 : Sl} (h : k [a0, a1, a2, a3, a4, a5, a6]) : Norm [a0, a1, a2, a3, a4, a5, a6] k := ⟨h⟩
theorem nm8 {k : Rho → Prop} {a0 a1 a2 a3 a4 a5 a6 a7 : Sl} (h : k [a0, a1, a2, a3, a4, a5, a6, a7]) : Norm [a0, a1, a2, a3, a4, a5, a6, a7] k := ⟨h⟩
theorem nm9 {k : Rho → Prop} {a0 a1 a2 a3 a4 a5 a6 a7 a8 : Sl} (h : k [a0, a1, a2, a3, a4, a5, a6, a7, a8]) : Norm [a0, a1, a2, a3, a4, a5, a6, a7, a8] k := ⟨h⟩
theorem nm10 {k : Rho → Prop} {a0 a1 a2 a3 a4 a5 a6 a7 a8 a9 : Sl} (h : k [a0, a1, a2, a3, a4, a5, a6, a7, a8, a9]) : Norm [a0, a1, a2, a3, a4, a5, a6, a7, a8, a9] k := ⟨h⟩
theorem nm11 {k : Rho → Prop} {a0 a1 a2 a3 a4 a5 a6 a7 a8 a9 a10 : Sl} (h : k [a0, a1, a2, a3, a4, a5, a6, a7, a8, a9, a10]) : Norm [a0, a1, a2, a3, a4, a5, a6, a7, a8, a9, a10] k := ⟨h⟩
theorem nm12 {k : Rho → Prop} {a0 a1 a2 a3 a4 a5 a6 a7 a8 a9 a10 a11 : Sl} (h : k [a0, a1, a2, a3, a4, a5, a6, a7, a8, a9, a10, a11]) : Norm [a0, a1, a2, a3, a4, a5, a6, a7, a8, a9, a10, a11] k := ⟨h⟩
theorem nm13 {k : Rho → Prop} {a0 a1 a2 a3 a4 a5 a6 a7 a8 a9 a10 a11 a12 : Sl} (h : k [a0, a1, a2, a3, a4, a5, a6, a7, a8, a9, a10, a11, a12]) : Norm [a0, a1, a2, a3, a4, a5, a6, a7, a8, a9, a10, a11, a12] k := ⟨h⟩
theorem nm14 {k : Rho → Prop} {a0 a1 a2 a3 a4 a5 a6 a7 a8 a9 a10 a11 a12 a13 : Sl} (h : k [a0, a1, a2, a3, a4, a5, a6, a7, a8, a9, a10, a11, a12, a13]) : Norm [a0, a1, a2, a3, a4, a5, a6, a7, a8, a9, a10, a11, a12, a13] k := ⟨h⟩
theorem nm15 {k : Rho → Prop} {a0 a1 a2 a3 a4 a5 a6 a7 a8 a9 a10 a11 a12 a13 a14 : Sl} (h : k [a0, a1, a2, a3, a4, a5, a6, a7, a8, a9, a10, a11, a12, a13, a14]) : Norm [a0, a1, a2, a3, a4, a5, a6, a7, a8, a9, a10, a11, a12, a13, a14] k := ⟨h⟩
theorem nm16 {k : Rho → Prop} {a0 a1 a2 a3 a4 a5 a6 a7 a8 a9 a10 a11 a12 a13 a14 a15 : Sl} (h : k [a0, a1, a2, a3, a4, a5, a6, a7, a8, a9, a10, a11, a12, a13, a14, a15]) : Norm [a0, a1, a2, a3, a4, a5, a6, a7, a8, a9, a10, a11, a12, a13, a14, a15] k := ⟨h⟩
theorem nm17 {k : Rho → Prop} {a0 a1 a2 a3 a4 a5 a6 a7 a8 a9 a10 a11 a12 a13 a14 a15 a16 : Sl} (h : k [a0, a1, a2, a3, a4, a5, a6, a7, a8, a9, a10, a11, a12, a13, a14, a15, a16]) : Norm [a0, a1, a2, a3, a4, a5, a6, a7, a8, a9, a10, a11, a12, a13, a14, a15, a16] k := ⟨h⟩
theorem nm18 {k : Rho → Prop} {a0 a1 a2 a3 a4 a5 a6 a7 a8 a9 a10 a11 a12 a13 a14 a15 a16 a17 : Sl} (h : k [a0, a1, a2, a3, a4, a5, a6, a7, a8, a9, a10, a11, a12, a13, a14, a15, a16, a17]) : Norm [a0, a1, a2, a3, a4, a5, a6, a7, a8, a9, a10, a11, a12, a13, a14, a15, a16, a17] k := ⟨h⟩
theorem nm19 {k : Rho → Prop} {a0 a1 a2 a3 a4 a5 a6 a7 a8 a9 a10 a11 a12 a13 a14 a15 a16 a17 a18 : Sl} (h : k [a0, a1, a2, a3, a4, a5, a6, a7, a8, a9, a10, a11, a12, a13, a14, a15, a16, a17, a18]) : Norm [a0, a1, a2, a3, a4, a5, a6, a7, a8, a9, a10, a11, a12, a13, a14, a15, a16, a17, a18] k := ⟨h⟩
theorem nm20 {k : Rho → Prop} {a0 a1 a2 a3 a4 a5 a6 a7 a8 a9 a10 a11 a12 a13 a14 a15 a16 a17 a18 a19 : Sl} (h : k [a0, a1, a2, a3, a4, a5, a6, a7, a8, a9, a10, a11, a12, a13, a14, a15, a16, a17, a18, a19]) : Norm [a0, a1, a2, a3, a4, a5, a6, a7, a8, a9, a10, a11, a12, a13, a14, a15, a16, a17, a18, a19] k := ⟨h⟩
theorem nm21 {k : Rho → Prop} {a0 a1 a2 a3 a4 a5 a6 a7 a8 a9 a10 a11 a12 a13 a14 a15 a16 a17 a18 a19 a20 : Sl} (h : k [a0, a1, a2, a3, a4, a5, a6, a7, a8, a9, a10, a11, a12, a13, a14, a15, a16, a17, a18, a19, a20]) : Norm [a0, a1, a2, a3, a4, a5, a6, a7, a8, a9, a10, a11, a12, a13, a14, a15, a16, a17, a18, a19, a20] k := ⟨h⟩
theorem nm22 {k : Rho → Prop} {a0 a1 a2 a3 a4 a5 a6 a7 a8 a9 a10 a11 a12 a13 a14 a15 a16 a17 a18 a19 a20 a21 : Sl} (h : k [a0, a1, a2, a3, a4, a5, a6, a7, a8, a9, a10, a11, a12, a13, a14, a15, a16, a17, a18, a19, a20, a21]) : Norm [a0, a1, a2, a3, a4, a5, a6, a7, a8, a9, a10, a11, a12, a13, a14, a15, a16, a17, a18, a19, a20, a21] k := ⟨h⟩
theorem nm23 {k : Rho → Prop} {a0 a1 a2 a3 a4 a5 a6 a7 a8 a9 a10 a11 a12 a13 a14 a15 a16 a17 a18 a19 a20 a21 a22 : Sl} (h : k [a0, a1, a2, a3, a4, a5, a6, a7, a8, a9, a10, a11, a12, a13, a14, a15, a16, a17, a18, a19, a20, a21, a22]) : Norm [a0, a1, a2, a3, a4, a5, a6, a7, a8, a9, a10, a11, a12, a13, a14, a15, a16, a17, a18, a19, a20, a21, a22] k := ⟨h⟩
theorem nm24 {k : Rho → Prop} {a0 a1 a2 a3 a4 a5 a6 a7 a8 a9 a10 a11 a12 a13 a14 a15 a16 a17 a18 a19 a20 a21 a22 a23 : Sl} (h : k [a0, a1, a2, a3, a4, a5, a6, a7, a8, a9, a10, a11, a12, a13, a14, a15, a16, a17, a18, a19, a20, a21, a22, a23]) : Norm [a0, a1, a2, a3, a4, a5, a6, a7, a8, a9, a10, a11, a12, a13, a14, a15, a16, a17, a18, a19, a20, a21, a22, a23] k := ⟨h⟩
theorem nm25 {k : Rho → Prop} {a0 a1 a2 a3 a4 a5 a6 a7 a8 a9 a10 a11 a12 a13 a14 a15 a16 a17 a18 a19 a20 a21 a22 a23 a24 : Sl} (h : k [a0, a1, a2, a3, a4, a5, a6, a7, a8, a9, a10, a11, a12, a13, a14, a15, a16, a17, a18, a19, a20, a21, a22, a23, a24]) : Norm [a0, a1, a2, a3, a4, a5, a6, a7, a8, a9, a10, a11, a12, a13, a14, a15, a16, a17, a18, a19, a20, a21, a22, a23, a24] k := ⟨h⟩
theorem nm26 {k : Rho → Prop} {a0 a1 a2 a3 a4 a5 a6 a7 a8 a9 a10 a11 a12 a13 a14 a15 a16 a17 a18 a19 a20 a21 a22 a23 a24 a25 : Sl} (h : k [a0, a1, a2, a3, a4, a5, a6, a7, a8, a9, a10, a11, a12, a13, a14, a15, a16, a17, a18, a19, a20, a21, a22, a23, a24, a25]) : Norm [a0, a1, a2, a3, a4, a5, a6, a7, a8, a9, a10, a11, a12, a13, a14, a15, a16, a17, a18, a19, a20, a21, a22, a23, a24, a25] k := ⟨h⟩
theorem nm27 {k : Rho → Prop} {a0 a1 a2 a3 a4 a5 a6 a7 a8 a9 a10 a11 a12 a13 a14 a15 a16 a17 a18 a19 a20 a21 a22 a23 a24 a25 a26 : Sl} (h : k [a0, a1, a2, a3, a4, a5, a6, a7, a8, a9, a10, a11, a12, a13, a14, a15, a16, a17, a18, a19, a20, a21, a22, a23, a24, a25, a26]) : Norm [a0, a1, a2, a3, a4, a5, a6, a7, a8, a9, a10, a11, a12, a13, a14, a15, a16, a17, a18, a19, a20, a21, a22, a23, a24, a25, a26] k := ⟨h⟩
theorem nm28 {k : Rho → Prop} {a0 a1 a2 a3 a4 a5 a6 a7 a8 a9 a10 a11 a12 a13 a14 a15 a16 a17 a18 a19 a20 a21 a22 a23 a24 a25 a26 a27 : Sl} (h : k [a0, a1, a2, a3, a4, a5, a6, a7, a8, a9, a10, a11, a12, a13, a14, a15, a16, a17, a18, a19, a20, a21, a22, a23, a24, a25, a26, a27]) : Norm [a0, a1, a2, a3, a4, a5, a6, a7, a8, a9, a10, a11, a12, a13, a14, a15, a16, a17, a18, a19, a20, a21, a22, a23, a24, a25, a26, a27] k := ⟨h⟩
theorem nm29 {k : Rho → Prop} {a0 a1 a2 a3 a4 a5 a6 a7 a8 a9 a10 a11 a12 a13 a14 a15 a16 a17 a18 a19 a20 a21 a22 a23 a24 a25 a26 a27 a28 : Sl} (h : k [a0, a1, a2, a3, a4, a5, a6, a7, a8, a9, a10, a11, a12, a13, a14, a15, a16, a17, a18, a19, a20, a21, a22, a23, a24, a25, a26, a27, a28]) : Norm [a0, a1, a2, a3, a4, a5, a6, a7, a8, a9, a10, a11, a12, a13, a14, a15, a16, a17, a18, a19, a20, a21, a22, a23, a24, a25, a26, a27, a28] k := ⟨h⟩
theorem nm30 {k : Rho → Prop} {a0 a1 a2 a3 a4 a5 a6 a7 a8 a9 a10 a11 a12 a13 a14 a15 a16 a17 a18 a19 a20 a21 a22 a23 a24 a25 a26 a27 a28 a29 : Sl} (h : k [a0, a1, a2, a3, a4, a5, a6, a7, a8, a9, a10, a11, a12, a13, a14, a15, a16, a17, a18, a19, a20, a21, a22, a23, a24, a25, a26, a27, a28, a29]) : Norm [a0, a1, a2, a3, a4, a5, a6, a7, a8, a9, a10, a11, a12, a13, a14, a15, a16, a17, a18, a19, a20, a21, a22, a23, a24, a25, a26, a27, a28, a29] k := ⟨h⟩
/-- a comprehension whose state stays -/
theorem lc_map {g : WG} {t : TWt} {we : XW} {still : Rho → Prop} {vs : List Nat} {r : Rho} {P : List D → Rho → Prop} (f : D → Option D) : ∀ (ds acc : List D),
    (∀ d acc ds', d ∈ ds → (match f d with | some e => lcW g t we still vs ds' (acc ++ [e]) r P | none => lcW g t we still vs ds' acc r P) → lcW g t we still vs (d :: ds') acc r P) →
    P (acc ++ ds.filterMap f) r → lcW g t we still vs ds acc r P
  | [], acc, _, h => by rw [List.filterMap_nil, List.append_nil] at h; exact h
  | d :: ds, acc, st, h => by
    refine st d acc ds (List.mem_cons_self ..) ?_
    cases e : f d with
    | some x =>
      refine lc_map f ds (acc ++ [x]) (fun d acc ds' hd => st d acc ds' (List.mem_cons_of_mem _ hd)) ?_
      rw [List.filterMap_cons_some e] at h
      rw [List.append_assoc]
      exact h
    | none =>
      refine lc_map f ds acc (fun d acc ds' hd => st d acc ds' (List.mem_cons_of_mem _ hd)) ?_
      rw [List.filterMap_cons_none e] at h
      exact h
/-- a loop whose state stays -/
theorem for_fix {g : WG} {b : WS} {still : Rho → Prop} {r : Rho} {F : Fl} : ∀ (ds : List D), (∀ d ds', d ∈ ds → forW g b still ds' r F → forW g b still (d :: ds') r F) → F.nx r → forW g b still ds r F
  | [], _, h => h
  | d :: ds, st, h => st d ds (List.mem_cons_self ..) (for_fix ds (fun d ds' hd => st d ds' (List.mem_cons_of_mem _ hd)) h)
theorem for_inv {g : WG} {b : WS} {still : Rho → Prop} {F : Fl} (I : Rho → Prop) : ∀ (ds : List D) (r : Rho), I r → (∀ d ds' r, d ∈ ds → I r → (∀ r', I r' → forW g b still ds' r' F) → forW g b still (d :: ds') r F) → (∀ r, I r → F.nx r) → forW g b still ds r F
  | [], r, i, _, h => h r i
  | d :: ds, r, i, st, h => st d ds r (List.mem_cons_self ..) i fun r' i' => for_inv I ds r' i' (fun d ds' r hd => st d ds' r (List.mem_cons_of_mem _ hd)) h
theorem mem_rngD {lo : Int} {n : Nat} {d : D} (h : d ∈ rngD lo n) : ∃ i : Int, d = .int i ∧ lo ≤ i ∧ i < lo + n := by
  unfold rngD at h
  obtain ⟨i, hi, rfl⟩ := List.mem_map.mp h
  have := List.mem_range.mp hi
  exact ⟨_, rfl, by omega, by omega⟩
theorem fm_rng {lo : Int} {n : Nat} {f : D → Option D} {g : Nat → D} (h : ∀ i : Nat, f (.int (lo + (i : Int))) = some (g i)) : (rngD lo n).filterMap f = (List.range n).map g := by
  unfold rngD
  rw [List.filterMap_map, show (f ∘ fun (i : Nat) => D.int (lo + (i : Int))) = fun i => some (g i) from funext h]
  exact congrFun List.filterMap_eq_map' _
/-- the law: one read-only list of numbers; True is its answer -/
def sp_law : FSpec := fun as P _ => ∃ ns : List Int, as = [.sh (.rol (ns.map D.int))] ∧ ns.length ≤ 63 ∧ P (.val (.bl true)) []
def spLaw (K : PySem.W.Frag) : Sp := fun vs H Q E => ∀ mg, spF ⟨K, mg⟩ sp_law vs H Q E
theorem law_sp (K : PySem.W.Frag) (H : Hp) (a : Addr) (ns : List Int) (hl : ns.length ≤ 63) (hS : SqL K H a (ns.map V.int)) : spLaw K [.ref a] H (fun v _ => v = .bl true) fun _ _ _ => False := by
  intro mg
  refine ⟨[.sh (.rol (ns.map D.int))], H, fun d cs => d = .val (.bl true), fun _ _ => False, .sh (.rol hS (reps_ints ns)) .nil, (fun _ _ q => q), ?_, ⟨ns, rfl, hl, rfl⟩, ?_, ?_⟩
  · intro i j p c c' h
    cases i with
    | zero => simp at h
    | succ i => simp at h
  · rintro d cs v Hs' H' rfl e g r b
    cases r with
    | val r => cases r; rfl
  · intro x cs cls dd Hs' H' h
    exact h.elim
theorem law_fn {P : Program} {w : World} {K : PySem.W.Frag} {mg : Str → Option Value} {base : Heap} {CX : CXT} {k : Nat} {fa : Addr} {fd : FuncData} {ps : List Str} (F : FnOk P w K mg base CX k fa fd ps (spF ⟨K, mg⟩ sp_law)) : FnOk P w K mg base CX k fa fd ps (spLaw K) :=
  F.imp fun _ _ _ _ h => h mg
theorem walk {l : PySem.W.OpenLaw} {q : Program} {k : Nat} {loose : List Str} {XP : (Str → Option Value) → Heap → Prop} {YP : World → Heap → Prop} {d : DefRec} {K : Params → PySem.W.Frag} (hn : l.most = some 63) (hdf : d.params.defaults = []) (hr : Room k callerA)
    (hY : ∀ (w : World) (h : Heap), YP w h → (K w.params).In h)
    (F : ∀ (w : World) (mg : Str → Option Value) (fa : Addr) (h : Heap), (K w.params).In h → h.Ns mainGlobals mg → mg d.name = some (.ref fa) →
      ∃ fd : FuncData, (∀ (s : Shared) (u : Value), BindsTo s fd ⟨[u], []⟩ [("script", u)]) ∧ ∀ base : Heap, (K w.params).In base → base.Ns mainGlobals mg → FnOk l.prog w (K w.params) mg base (L2.CX l.prog w) k fa fd ["script"] (spLaw (K w.params))) :
    PySem.W.WalkO q loose XP YP l.row.toRowW d [] (fun f vs => PySem.call f vs) :=
  L2.walk_of (n := 63) (k := k) (x := "script") (CX := fun w => L2.CX l.prog w) (sp := fun w => spLaw (K w.params)) hn (by decide) hdf hr hY F (fun w H a ns hl _ hS => law_sp (K w.params) H a ns hl hS) fun w H s e s' h => by
    obtain ⟨a, B, H', cls, dd, _, _, _, _, _, _, _, h⟩ := h
    exact h
end Z

/-! ZF: plain data and its equality; a few drawn out of a list; a loop by the items that are left. -/
namespace Z
open PySem L2
open PyProof.Rows (envOfC)
theorem for_rel {g : WG} {b : WS} {still : Rho → Prop} {F : Fl} (I : List D → Rho → Prop) : ∀ (ds : List D) (r : Rho), I ds r → (∀ d ds' r, I (d :: ds') r → (∀ r', I ds' r' → forW g b still ds' r' F) → forW g b still (d :: ds') r F) → (∀ r, I [] r → F.nx r) → forW g b still ds r F
  | [], r, i, _, h => h r i
  | d :: ds, r, i, st, h => st d ds r i fun r' i' => for_rel I ds r' i' st h
theorem lc_rel {g : WG} {t : TWt} {we : XW} {still : Rho → Prop} {vs : List Nat} {P : List D → Rho → Prop} (I : List D → List D → Rho → Prop) : ∀ (ds acc : List D) (r : Rho), I ds acc r →
    (∀ d ds' acc r, I (d :: ds') acc r → (∀ acc' r', I ds' acc' r' → lcW g t we still vs ds' acc' r' P) → lcW g t we still vs (d :: ds') acc r P) → (∀ acc r, I [] acc r → P acc r) → lcW g t we still vs ds acc r P
  | [], acc, r, i, _, h => h acc r i
  | d :: ds, acc, r, i, st, h => st d ds acc r i fun acc' r' i' => lc_rel I ds acc' r' i' st h
def rngI (lo : Int) (n : Nat) : List Int := (List.range n).map fun (i : Nat) => lo + (i : Int)
theorem rngD_eq (lo : Int) (n : Nat) : rngD lo n = (rngI lo n).map D.int := by unfold rngD rngI; rw [List.map_map]; rfl
theorem mem_rngI {lo : Int} {n : Nat} {i : Int} (h : i ∈ rngI lo n) : lo ≤ i ∧ i < lo + n := by
  unfold rngI at h
  obtain ⟨k, hk, rfl⟩ := List.mem_map.mp h
  have := List.mem_range.mp hk
  exact ⟨by omega, by omega⟩
/-- a comprehension that keeps some of the items -/
theorem lc_keep {α : Type} {φ : α → D} {g : WG} {t : TWt} {we : XW} {still : Rho → Prop} {vs : List Nat} {r : Rho} {P : List D → Rho → Prop} (b : α → Bool) : ∀ (ns : List α) (acc : List D),
    (∀ i acc ds', i ∈ ns → (b i = true → lcW g t we still vs ds' (acc ++ [φ i]) r P) → (b i = false → lcW g t we still vs ds' acc r P) → lcW g t we still vs (φ i :: ds') acc r P) →
    P (acc ++ (ns.filter b).map φ) r → lcW g t we still vs (ns.map φ) acc r P
  | [], acc, _, h => by rw [List.filter_nil, List.map_nil, List.append_nil] at h; exact h
  | i :: ns, acc, st, h => by
    refine st i acc (ns.map φ) (List.mem_cons_self ..) (fun e => ?_) (fun e => ?_)
    · refine lc_keep b ns _ (fun i acc ds' hd => st i acc ds' (List.mem_cons_of_mem _ hd)) ?_
      rw [List.filter_cons_of_pos e] at h
      rw [List.append_assoc]
      exact h
    · refine lc_keep b ns _ (fun i acc ds' hd => st i acc ds' (List.mem_cons_of_mem _ hd)) ?_
      rw [List.filter_cons_of_neg (by rw [e]; decide)] at h
      exact h
/-- a comprehension that makes one of each -/
theorem lc_each {α : Type} {φ ψ : α → D} {g : WG} {t : TWt} {we : XW} {still : Rho → Prop} {vs : List Nat} {r : Rho} {P : List D → Rho → Prop} : ∀ (ns : List α) (acc : List D),
    (∀ i acc ds', i ∈ ns → lcW g t we still vs ds' (acc ++ [ψ i]) r P → lcW g t we still vs (φ i :: ds') acc r P) →
    P (acc ++ ns.map ψ) r → lcW g t we still vs (ns.map φ) acc r P
  | [], acc, _, h => by rw [List.map_nil, List.append_nil] at h; exact h
  | i :: ns, acc, st, h => by
    refine st i acc (ns.map φ) (List.mem_cons_self ..) (lc_each ns _ (fun i acc ds' hd => st i acc ds' (List.mem_cons_of_mem _ hd)) ?_)
    rw [List.append_assoc]
    exact h
/-- whole numbers, text, None, and tuples and lists of them -/
def pl : Nat → D → Bool
  | _, .non => true
  | _, .int _ => true
  | _, .str z => PyData.strOk z
  | n + 1, .tup xs => xs.all (pl n)
  | n + 1, .lst xs => xs.all (pl n)
  | _, _ => false
theorem pls_ok {n : Nat} (ih : ∀ d, pl n d = true → (py d).canLay0 = true ∧ (py d).depth ≤ n) : ∀ xs : List D, xs.all (pl n) = true → PyData.canLayAll0 (pys xs) = true ∧ PyData.depthAll (pys xs) ≤ n
  | [], _ => ⟨rfl, Nat.zero_le _⟩
  | x :: xs, h => by
    rw [List.all_cons, Bool.and_eq_true] at h
    obtain ⟨a, b⟩ := ih x h.1
    obtain ⟨c, d⟩ := pls_ok ih xs h.2
    refine ⟨?_, ?_⟩
    · show (PyData.canLay0 (py x) && PyData.canLayAll0 (pys xs)) = true
      rw [a, c]; rfl
    · show max (PyData.depth (py x)) (PyData.depthAll (pys xs)) ≤ n
      omega
theorem pl_ok : ∀ (n : Nat) (d : D), pl n d = true → (py d).canLay0 = true ∧ (py d).depth ≤ n
  | _, .non, _ => ⟨rfl, Nat.zero_le _⟩
  | _, .int _, _ => ⟨rfl, Nat.zero_le _⟩
  | n, .str z, h => by cases n <;> exact ⟨h, Nat.zero_le _⟩
  | n + 1, .tup xs, h => by
    obtain ⟨a, b⟩ := pls_ok (pl_ok n) xs h
    exact ⟨a, Nat.succ_le_succ b⟩
  | n + 1, .lst xs, h => by
    obtain ⟨a, b⟩ := pls_ok (pl_ok n) xs h
    exact ⟨a, Nat.succ_le_succ b⟩
  | 0, .tup xs, h => nomatch h
  | 0, .lst xs, h => nomatch h
  | n, .bl _, h => by cases n <;> cases h
  | n, .rol _, h => by cases n <;> cases h
  | n, .dic _, h => by cases n <;> cases h
  | n, .ins _ _, h => by cases n <;> cases h
  | n, .ty _, h => by cases n <;> cases h
theorem pl_okEq {n : Nat} {d : D} (h : pl n d = true) (hn : n ≤ 64) : okEq d = true := by
  obtain ⟨a, b⟩ := pl_ok n d h
  show (PyData.canLay0 (py d) && decide (PyData.depth (py d) ≤ 64)) = true
  rw [a, decide_eq_true (Nat.le_trans b hn)]; rfl
theorem pls_eq {n m : Nat} (ih : ∀ d e, pl n d = true → pl m e = true → ((py d).eqv (py e) = true ↔ d = e)) : ∀ xs ys : List D, xs.all (pl n) = true → ys.all (pl m) = true → (PyData.eqvAll (pys xs) (pys ys) = true ↔ xs = ys)
  | [], [], _, _ => ⟨fun _ => rfl, fun _ => rfl⟩
  | [], y :: ys, _, _ => ⟨fun h => Bool.noConfusion h, fun h => by cases h⟩
  | x :: xs, [], _, _ => ⟨fun h => Bool.noConfusion h, fun h => by cases h⟩
  | x :: xs, y :: ys, h1, h2 => by
    rw [List.all_cons, Bool.and_eq_true] at h1 h2
    show (PyData.eqv (py x) (py y) && PyData.eqvAll (pys xs) (pys ys)) = true ↔ _
    rw [Bool.and_eq_true, ih x y h1.1 h2.1, pls_eq ih xs ys h1.2 h2.2]
    constructor
    · rintro ⟨rfl, rfl⟩; rfl
    · intro h; cases h; exact ⟨rfl, rfl⟩
theorem pl_eq : ∀ (n : Nat) (d e : D) (m : Nat), pl n d = true → pl m e = true → ((py d).eqv (py e) = true ↔ d = e) := by
  intro n
  induction n with
  | zero =>
    intro d e m h1 h2
    cases d <;> first | (exact Bool.noConfusion h1) | skip
    all_goals (cases e <;> first | (cases m <;> exact Bool.noConfusion h2) | skip)
    all_goals first
      | exact ⟨fun _ => rfl, fun _ => rfl⟩
      | exact ⟨fun h => Bool.noConfusion h, fun h => by cases h⟩
      | exact ⟨fun h => congrArg D.int (eq_of_beq h), fun h => by obtain h := D.int.inj h; subst h; exact beq_self_eq_true _⟩
      | exact ⟨fun h => congrArg D.str (eq_of_beq h), fun h => by obtain h := D.str.inj h; subst h; exact beq_self_eq_true _⟩
  | succ n ih =>
    intro d e m h1 h2
    cases d <;> first | (exact Bool.noConfusion h1) | skip
    all_goals (cases e <;> first | (cases m <;> exact Bool.noConfusion h2) | skip)
    all_goals first
      | exact ⟨fun _ => rfl, fun _ => rfl⟩
      | exact ⟨fun h => Bool.noConfusion h, fun h => by cases h⟩
      | exact ⟨fun h => congrArg D.int (eq_of_beq h), fun h => by obtain h := D.int.inj h; subst h; exact beq_self_eq_true _⟩
      | exact ⟨fun h => congrArg D.str (eq_of_beq h), fun h => by obtain h := D.str.inj h; subst h; exact beq_self_eq_true _⟩
      | (cases m with
         | zero => exact Bool.noConfusion h2
         | succ m =>
           have := pls_eq (n := n) (m := m) (fun d e a b => ih d e m a b) _ _ h1 h2
           exact ⟨fun h => by rw [this.mp h], fun h => this.mpr (by injection h)⟩)
theorem pl_eqD {n m : Nat} {d e : D} (h1 : pl n d = true) (h2 : pl m e = true) : eqD d e = true ↔ d = e := pl_eq n d e m h1 h2
theorem pl_int (n : Nat) (i : Int) : pl n (.int i) = true := by cases n <;> rfl
theorem pl_ints (n : Nat) (ns : List Int) : (ns.map D.int).all (pl n) = true := List.all_eq_true.mpr fun d hd => by
  obtain ⟨i, _, rfl⟩ := List.mem_map.mp hd
  exact pl_int n i
/-- equality of plain data, as the words ask it -/
theorem iteEqD {n m : Nat} {d e : D} {A B : Prop} (h1 : pl n d = true) (h2 : pl m e = true) (hy : d = e → A) (hno : d ≠ e → B) : if eqD d e = true then A else B := by
  by_cases h : d = e
  · rw [if_pos ((pl_eqD h1 h2).mpr h)]; exact hy h
  · rw [if_neg fun z => h ((pl_eqD h1 h2).mp z)]; exact hno h
theorem iteNeD {n m : Nat} {d e : D} {A B : Prop} (h1 : pl n d = true) (h2 : pl m e = true) (hy : d ≠ e → A) (hno : d = e → B) : if (!eqD d e) = true then A else B := by
  by_cases h : d = e
  · rw [(pl_eqD h1 h2).mpr h]; exact hno h
  · rw [Bool.eq_false_iff.mpr fun z => h ((pl_eqD h1 h2).mp z)]; exact hy h
/-! a few of a list's items -/
def sp_few : FSpec := fun as P _ => ∃ p rl items ds, ∃ m : Int, as = [.own p rl, .sh items, .sh (.int m)] ∧ Reel rl ∧ seqD items = some ds ∧ ds.all (pl 8) = true ∧ ds.length ≤ 1000 ∧ ∀ rl' fs rest, Reel rl' → (fs ++ rest).Perm ds → (rest = [] ∨ m ≤ (fs.length : Int)) → P (.new (.lst fs)) [rl']
def wFew : WS := (wSeq (wPar 3 4 (waCons (wB gList (waCons (wVar 1) waNil)) (waCons (wLst waNil) waNil)))
  (wSeq (wWhile (twAnd (tw2 gNe (wVar 3) (wLst waNil)) (tw2 gLt (wB gLen (waCons (wVar 4) waNil)) (wVar 2))) (wDrop (wMu 4 gApp (waCons (wMu 3 gPopAt (waCons (wCall sp_spin [true, false] (waCons (wVar 0) (waCons (wB gLen (waCons (wVar 3) waNil)) waNil))) waNil)) waNil))))
  (wRet (wVar 4))))
theorem perm_erase {α : Type} : ∀ (l : List α) (k : Nat) (x : α), l[k]? = some x → (x :: l.eraseIdx k).Perm l
  | [], _, _, h => nomatch h
  | a :: l, 0, x, h => by
    cases h
    exact List.Perm.refl _
  | a :: l, k + 1, x, h => by
    have := perm_erase l k x (by simpa using h)
    rw [List.eraseIdx_cons_succ]
    exact (List.Perm.swap a x _).trans (this.cons a)
theorem few_w {as Q QE} (h : sp_few as Q QE) : wFew (rho0 5 as) (bodyFl as Q QE) := by
  obtain ⟨p, rl, items, ds, m, rfl, hr, hi, hp, hl, k⟩ := h
  refine ⟨ds, hi, ?_⟩
  intro p3
  refine ⟨show (0 : Nat) ≤ sizeLine from by decide, fun p4 => ?_⟩
  refine ⟨fun c r => ∃ rl left found, left.length = c ∧ Reel rl ∧ (found ++ left).Perm ds ∧ r = [.own p rl, .sh items, .sh (.int m), .own p3 (.lst left), .own p4 (.lst found)], ⟨_, rl, ds, [], rfl, hr, List.Perm.refl _, rfl⟩, ?_⟩
  rintro c r ⟨rl, left, found, rfl, hr, hperm, rfl⟩
  refine ⟨show (0 : Nat) ≤ sizeLine from by decide, fun p5 => ?_⟩
  have hlen : found.length + left.length = ds.length := by rw [← hperm.length_eq, List.length_append]
  have plL : left.all (pl 8) = true := List.all_eq_true.mpr fun x hx => List.all_eq_true.mp hp x (hperm.subset (List.mem_append_right _ hx))
  refine ⟨pl_okEq (n := 9) (d := .lst left) plL (by decide), pl_okEq (n := 1) (d := .lst []) rfl (by decide), ?_⟩
  refine iteNeD (n := 9) (m := 1) (d := .lst left) (e := .lst []) plL rfl (fun h0 => ?_) (fun h0 => ?_)
  · refine ite2d (fun h1 => ?_) (fun h1 => ?_)
    · have h0 : left ≠ [] := fun e => h0 (by rw [e])
      have pos := List.length_pos_iff.mpr h0
      refine ⟨_, _, _, rfl, hr, by omega, log2_small (by omega), fun j rl hr j0 j1 => ?_⟩
      obtain ⟨n, rfl⟩ := Int.eq_ofNat_of_zero_le j0
      have hn : n < left.length := by omega
      refine ⟨by omega, by omega, ?_⟩
      have e1 : seqIndex? (n : Int) left.length = some n := by
        unfold seqIndex?
        simp [show ¬ (n : Int) < 0 by omega, hn]
      rw [e1]
      show match left[n]? with | some d => _ | none => False
      rw [List.getElem?_eq_getElem hn]
      refine ⟨Nat.lt_of_le_of_lt (show found.length ≤ 1000 by omega) (by decide), ?_⟩
      refine ⟨(left.eraseIdx n).length, by rw [List.length_eraseIdx_of_lt hn]; omega, rl, left.eraseIdx n, found ++ [left[n]], rfl, hr, ?_, rfl⟩
      rw [List.append_assoc]
      exact ((perm_erase left n _ (List.getElem?_eq_getElem hn)).append_left found).trans hperm
    · refine ⟨rfl, ?_⟩
      exact k _ _ _ hr hperm (.inr (by omega))
  · refine ⟨rfl, ?_⟩
    exact k _ _ left hr hperm (.inl (by cases h0; rfl))
end Z

/-! ZG: text (repr, ord, str, join, upper), dict displays. -/
namespace Z
open PySem L2
open PyProof.Rows (envOfC)
section
variable {X : Cx} {W : WX} {a b e o : Expr} {es : List Expr} {wa wb w : XW} {pos : Pos}
theorem call_repr_bl : CallR X (.builtin "repr") (fun xs H Q => ∃ b, xs = [.bl b] ∧ Q (.str (if b then "True" else "False")) H) := by
  intro pins s σ H xs us Q I r h
  obtain ⟨i, rfl, q⟩ := h
  obtain ⟨u, rfl, rfl⟩ := vals1 r
  exact PySem.P.repr_of_bool ⟨.str _, H, I.tok _, ⟨_, rfl⟩, q⟩
def gRepr : GC
  | [.bl b], P => P (.val (.str (if b then "True" else "False")))
  | [.int i], P => i.natAbs.log2 < 1920 ∧ P (.val (.str (toString i)))
  | _, _ => False
theorem cg_repr : CaG X (.builtin "repr") gRepr := by
  refine ⟨_, CallR.or call_repr_bl SkE.call_repr_int, fun xs ds Hs H P Q e rs q k => ?_⟩
  unfold gRepr at q
  split at q
  · obtain ⟨v, rfl, rx⟩ := rs.one
    obtain rfl := rx.blv
    exact .inl ⟨_, rfl, k _ _ _ _ q (ret0 e (.str _))⟩
  · obtain ⟨v, rfl, rx⟩ := rs.one
    obtain rfl := rx.intv
    exact .inr ⟨_, rfl, q.1, k _ _ _ _ q.2 (ret0 e (.str _))⟩
  · exact q.elim
def gOrd : GC
  | [.str z], P => z.length = 1 ∧ P (.val (.int (z.cps.getD 0 0 : Nat)))
  | _, _ => False
theorem cg_ord : CaG X (.builtin "ord") gOrd := by
  refine ⟨_, call_ord, fun xs ds Hs H P Q e rs q k => ?_⟩
  unfold gOrd at q
  split at q
  · obtain ⟨v, rfl, rx⟩ := rs.one
    obtain rfl := rx.strv
    exact ⟨_, rfl, q.1, k _ _ _ _ q.2 (ret0 e (.int _))⟩
  · exact q.elim
def gStr : GC
  | [.int i], P => i.natAbs.log2 < 1920 ∧ P (.val (.str (toString i)))
  | [.str z], P => P (.val (.str z))
  | _, _ => False
theorem cg_str : CaG X (.type "str") gStr := by
  refine ⟨_, CallR.or call_str_int SkE.call_str_str, fun xs ds Hs H P Q e rs q k => ?_⟩
  unfold gStr at q
  split at q
  · obtain ⟨v, rfl, rx⟩ := rs.one
    obtain rfl := rx.intv
    exact .inl ⟨_, rfl, q.1, k _ _ _ _ q.2 (ret0 e (.str _))⟩
  · obtain ⟨v, rfl, rx⟩ := rs.one
    obtain rfl := rx.strv
    exact .inr ⟨_, rfl, k _ _ _ _ q (ret0 e (.str _))⟩
  · exact q.elim
/-! text methods -/
@[simp] def onStr (r : Rho) (l : Late) (k : Str → Prop) : Prop := withD r l fun d => match d with
  | .str z => k z
  | _ => False
theorem onStr_iff {r : Rho} {l : Late} {k : Str → Prop} (h : onStr r l k) : ∃ z, res r l = some (.str z) ∧ k z := by
  obtain ⟨d, ed, h⟩ := withD_iff h
  cases d <;> first | exact h.elim | exact ⟨_, ed, h⟩
@[simp] def wUpper (w : XW) : XW := fun r P PE => w r (fun l r1 => onStr r1 l fun z => z.length ≤ 5592405 ∧ P (.st (.str (Txt.upper z))) r1) PE
theorem se_upper {apos : Pos} (ho : SE X W o w) (hbase : attributeBase o "upper" X.env (eval o X.env) = eval o X.env := by rfl) (hline : (apos.endLine == pos.line) = true := by rfl) : SE X W (.Call (.Attribute o "upper" apos) [] [] pos) (wUpper w) := by
  refine pe_imp (pe_upper ho hbase hline) fun s H Q q => ?_
  obtain ⟨r, Hs, P, PE, S, w, k, ke⟩ := q
  refine ⟨r, Hs, _, PE, S, w, fun l r1 v Hs1 H1 p o lo n => ?_, ke⟩
  obtain ⟨z, ez, hl, p⟩ := onStr_iff p
  obtain rfl := (lo.res o.S ez).strv
  exact ⟨⟨_, rfl⟩, _, rfl, rfl, hl, k _ _ _ _ _ p o (.st (.str _)) (fun _ _ q => nomatch q)⟩
def strsD : List D → Option (List Str)
  | [] => some []
  | .str z :: ds => (strsD ds).map (z :: ·)
  | _ => none
theorem strsD_eq : ∀ {ds : List D} {zs : List Str}, strsD ds = some zs → ds = zs.map D.str
  | [], _, h => by simp [strsD] at h; subst h; rfl
  | .str z :: ds, zs, h => by
    simp only [strsD, Option.map_eq_some_iff] at h
    obtain ⟨a, h1, rfl⟩ := h
    rw [strsD_eq h1]; rfl
  | .non :: _, _, h => by simp [strsD] at h
  | .bl _ :: _, _, h => by simp [strsD] at h
  | .int _ :: _, _, h => by simp [strsD] at h
  | .tup _ :: _, _, h => by simp [strsD] at h
  | .lst _ :: _, _, h => by simp [strsD] at h
  | .rol _ :: _, _, h => by simp [strsD] at h
  | .dic _ :: _, _, h => by simp [strsD] at h
  | .ins _ _ :: _, _, h => by simp [strsD] at h
  | .ty _ :: _, _, h => by simp [strsD] at h
theorem strsD_map : ∀ zs : List Str, strsD (zs.map D.str) = some zs
  | [] => rfl
  | z :: zs => by simp [strsD, strsD_map zs]
theorem reps_strs {G : Gm} {H : Hp} : ∀ {zs : List Str} {vs : List V}, Reps G H vs (zs.map D.str) → vs = zs.map V.str
  | [], _, .nil => rfl
  | z :: zs, _, .cons a r => by
    cases a
    rw [reps_strs r]; rfl
@[simp] def wJoin (wa wb : XW) : XW := fun r P PE => wa r (fun la r1 => onStr r1 la fun z => wb r1 (fun lb r2 => withD r2 lb fun d => ∃ ds zs, seqL d = some ds ∧ strsD ds = some zs ∧ (zs.map (·.length)).sum + zs.length * z.length ≤ 16777216 ∧ P (.st (.str (Txt.join z zs))) r2) PE) PE
theorem se_join {apos : Pos} (ho : SE X W o wa) (he : SE X W e wb) (hs : starEach [e] X.env = [(false, eval e X.env)] := by rfl) (hbase : attributeBase o "join" X.env (eval o X.env) = eval o X.env := by rfl) (hline : (apos.endLine == pos.line) = true := by rfl) :
    SE X W (.Call (.Attribute o "join" apos) [e] [] pos) (wJoin wa wb) := by
  refine pe_imp (pe_join ho he hs hbase hline) fun s H Q q => ?_
  obtain ⟨r, Hs, P, PE, S, w, k, ke⟩ := q
  refine ⟨r, Hs, _, PE, S, w, fun l r1 v Hs1 H1 p o lo n => ?_, ke⟩
  obtain ⟨z, ez, p⟩ := onStr_iff p
  obtain rfl := (lo.res o.S ez).strv
  refine ⟨⟨_, rfl⟩, r1, Hs1, _, PE, o.S, p, fun l2 r2 v2 Hs2 H2 p2 o2 lo2 n2 => ?_, ke.mono o⟩
  obtain ⟨d, ed, ds, zs, e1, e2, hl, p2⟩ := withD_iff p2
  obtain ⟨q, vs, rfl, hs, rp⟩ := (lo2.res o2.S ed).seqLv e1 o2.S.ex
  rw [strsD_eq e2] at rp
  rw [reps_strs rp] at hs
  exact ⟨_, _, zs, rfl, rfl, .inl hs, hl, k _ _ _ _ _ p2 (o.trans o2) (.st (.str _)) (fun _ _ q => nomatch q)⟩
/-! dict displays -/
theorem Go.addOff {O O' : Addr → Prop} {Hs H Hs' H' : Hp} {p : Addr} {o o' : HO} (hp : H p = none) (g : Go O O' Hs (L2.upd H p o) Hs' H') (n : ¬ O' p) : Go O O' Hs H Hs' (L2.upd H' p o') := by
  refine ⟨g.ss, fun a u h q => ?_, fun a u h hs q => ?_, fun a h => ?_, fun a h => ?_⟩
  · have ne : a ≠ p := ne_of_none h hp
    rw [upd_ne ne]
    exact g.kp a u (by rw [upd_ne ne]; exact h) q
  · have ne : a ≠ p := ne_of_none h hp
    exact g.fr a u (by rw [upd_ne ne]; exact h) hs q
  · have ne : a ≠ p := fun e => n (e ▸ h)
    rcases g.ow a h with z | z
    · exact .inl z
    · rw [upd_ne ne] at z; exact .inr z
  · by_cases e : a = p
    · subst e; exact hp
    · rw [upd_ne e] at h
      have := g.th a h
      rwa [upd_ne e] at this
@[simp] def wDic0 : XW := fun r P _ => ∀ p, P (.nw p (.dic [])) r
theorem se_dic0 : SE X W (.Dict [] [] pos) wDic0 := by
  refine pe_imp pe_dnewK fun s H Q q => ?_
  obtain ⟨r, Hs, P, PE, S, w, k, ke⟩ := q
  intro p hp
  have rt := retK (G := gm X) S.ex hp .nil
  exact rt.out (P := P) S (w) k
def keyD : D → Option Key
  | .int i => some (.inl i)
  | .str z => some (.inr z)
  | _ => none
@[simp] def wDic1 (wk wv : XW) : XW := fun r P PE => wk r (fun l r1 => withD r1 l fun dk => ∃ k, keyD dk = some k ∧ wv r1 (fun l2 r2 => withF r2 l2 fun d r3 => ∀ p, P (.nw p (.dic [(k, d)])) r3) PE) PE
theorem se_dic1 {k v : Expr} {wk wv : XW} (hk : SE X W k wk) (hv : SE X W v wv) : SE X W (.Dict [some k] [v] pos) (wDic1 wk wv) := by
  refine pe_imp (pe_disp (pps_cons hk hv pps_nil) rfl rfl (by simp) (show 1 ≤ 15 by decide)) fun s H Q q => ?_
  obtain ⟨r, Hs, P, PE, S, w, kq, ke⟩ := q
  intro p hp
  have hs : Hs p = none := Evl.fresh_back S.ex hp
  have nO : ¬ Own r p := S.notOwn hp
  have o0 : Out (gm X) r s Hs H r Hs (L2.upd H p (.dK [])) := ⟨S.upd hs nO, (Go0.new S.ex hp).any⟩
  refine ⟨r, Hs, _, PE, o0.S, w, fun l r1 v1 Hs1 H1 p1 o1 l1 n1 => ?_, ke.mono o0⟩
  obtain ⟨dk, ek, key, hkey, p1⟩ := withD_iff p1
  refine ⟨r1, Hs1, _, PE, o1.S, p1, fun l2 r2 v2 Hs2 H2 p2 o2 lo2 n2 => ?_, (ke.mono o0).mono o1⟩
  obtain ⟨d, r3, ed, p2⟩ := withF_iff p2
  have ev : v1 = kV key := by
    have rb := l1.res o1.S ek
    cases dk <;> simp only [keyD, Option.some.injEq, reduceCtorEq] at hkey
    · subst hkey; exact rb.intv
    · subst hkey; exact rb.strv
  obtain ⟨Hs3, S3, rp, g3, _⟩ := lo2.frz o2.S (o1.trans o2).g (new_th o1 n2) ed
  have d2 : H2 p = some (.dK []) := g3.kp p _ upd_same nO
  have d3 : Hs3 p = none := g3.fr p _ upd_same hs nO
  have n3 : ¬ Own r3 p := fun h => (g3.ow p h).elim nO fun z => by rw [upd_same] at z; cases z
  refine ⟨d2, [(key, v2)], by rw [ev]; rfl, (show 1 ≤ 15 by decide), ?_⟩
  refine kq _ _ _ _ _ (p2 p) ⟨S3.upd d3 n3, g3.addOff hp n3⟩ (.nw d3 (.dic upd_same (.cons rp .nil)) n3) fun q c e => ?_
  cases e
  exact hp
end
end Z

/-! S01: what the defs of this law promise. -/
namespace K01
open PySem L2 Z
/-- text of at most n signs, each one a sign -/
def okS (n : Nat) (z : Str) : Prop := z.length ≤ n ∧ PyData.strOk z = true
def okV : D → Prop
  | .str z => okS 1000 z
  | d => (tyName d).isSome = true
def low (c : Nat) : Bool := decide (97 ≤ c) && decide (c ≤ 122)
def nameB (z : Str) : Bool := decide (1 ≤ z.length) && decide (z.length ≤ 8) && z.cps.toList.all low
def isNm : D → Bool
  | .str z => nameB z
  | _ => false
def isIn : D → Bool
  | .int i => decide (-1000000000000 < i) && decide (i < 1000000000000)
  | _ => false
def isName (z : Str) : Prop := z.length ≤ 8 ∧ 1 ≤ z.length ∧ z.cps.toList.all low = true
def sp_is_name : FSpec := fun as P _ => ∃ d, as = [.sh d] ∧ okV d ∧ P (.val (.bl (isNm d))) []
def sp_is_integer : FSpec := fun as P _ => ∃ d, as = [.sh d] ∧ (tyName d).isSome = true ∧ P (.val (.bl (isIn d))) []
def sp_law_name : FSpec := fun as P _ => ∃ p rl, as = [.own p rl] ∧ Reel rl ∧ ∀ z rl', Reel rl' → isName z → P (.val (.str z)) [rl']
def sp_law_near : FSpec := fun as P _ => ∃ p rl z, as = [.own p rl, .sh (.str z)] ∧ Reel rl ∧ isName z ∧ ∀ d rl', Reel rl' → okV d → P (.val d) [rl']
def sp_law_cell_right : FSpec := fun as P _ => ∃ p rl, as = [.own p rl] ∧ Reel rl ∧ ∀ rl', P (.val (.bl true)) [rl']
end K01

namespace K01
open PySem L2 Z
open PyProof.Rows (envOfC)
def top (i : Nat) : Stmt := PySem.Challenge.pw_overrounds_k01_names_and_integers.main.body.getD i (.Pass ⟨0, 0, 0, 0⟩)
/-- what the top has left -/
structure Txt (K : PySem.W.Frag) (mg : Str → Option Value) : Prop where
  n_abs : mg "abs" = none
  n_all : mg "all" = none
  n_bool : mg "bool" = none
  n_int : mg "int" = none
  n_isinstance : mg "isinstance" = none
  n_len : mg "len" = none
  n_max : mg "max" = none
  n_min : mg "min" = none
  n_ord : mg "ord" = none
  n_range : mg "range" = none
  n_repr : mg "repr" = none
  n_str : mg "str" = none
  c_LETTERS : ∃ t, mg "LETTERS" = some (.str "abcdefghijklmnopqrstuvwxyz" t)
  c_LIMIT : ∃ t, mg "LIMIT" = some (.int (1000000000000) t)
  c_MAX_NAME : ∃ t, mg "MAX_NAME" = some (.int (8) t)
section
variable {P : Program} {w : World} {K : PySem.W.Frag} {mg : Str → Option Value} {base : Heap}
abbrev s_is_name : Stmt := top 4
abbrev n_is_name : List Str := ["value", "letter"]
theorem sc_is_name : FnScope n_is_name ["value"] (defScope s_is_name) := ⟨rfl, rfl, rfl, by decide +kernel, rfl, by decide +kernel, by decide +kernel⟩
def w_is_name : WS := (wSeq (wIfS (twOr (twNot (tVal (wB gIsi (waCons (wVar 0) (waCons (wC (.ty "str")) waNil))))) (twNot (twCh gLe gLe (wC (.int 1)) (wB gLen (waCons (wVar 0) waNil)) (wC (.int (8)))))) (wRet (wC (.bl false))) wNext)
  (wRet (wB gAll (waCons (wLc (wiSeq (wVar 0)) (gN 1) twYes (w2 gIn (wVar 1) (wC (.str "abcdefghijklmnopqrstuvwxyz"))) [1]) waNil))))
theorem b_is_name (T : Txt K mg)  {cdv : Value} {A : Around} {outer : List PySem.Env} {s : Shared} {H : Hp} {E : XK} {fa : Addr} (hr : Room 0 (A.deeper (envOfC "is_name" (defScope s_is_name) s.heap.objs.size fa cdv))) :
    SSs (cxOf (L2.CX P w) P w K mg base n_is_name "is_name" (defScope s_is_name) fa cdv A outer s H E) (fun cls d _ H => E cls d H) (defBody s_is_name) w_is_name := by
  have tk : Takes (cxOf (L2.CX P w) P w K mg base n_is_name "is_name" (defScope s_is_name) fa cdv A outer s H E) (fun cls d _ H => E cls d H) := takes_of rfl rfl rfl rfl
  have own := passes_of (X := cxOf (L2.CX P w) P w K mg base n_is_name "is_name" (defScope s_is_name) fa cdv A outer s H E) rfl
  exact (ss_cons (ss_if (SW.st (sw_or (st_not (st_val (se_callB cg_isi (by rfl) T.n_isinstance (by decide +kernel) (sa_cons (se_var 0) (sa_cons (se_ty (by rfl) T.n_str (by decide +kernel)) sa_nil))))) (sw_or1 (st_not (st_chain og_le og_le se_int (se_callB cg_len (by rfl) T.n_len (by decide +kernel) (sa_cons (se_var 0) sa_nil)) (se_gint (by rfl) (T.c_MAX_NAME).choose_spec)))))) (ss_one (ss_ret se_bl)) ss_nil)
      (ss_one (ss_ret (se_callB (cg_all rfl) (by rfl) T.n_all (by decide +kernel) (sa_cons (se_lc (own := [("letter", 1)]) rfl sc_is_name.nd (se_seq (se_var 0)) (blkOk_by (N := n_is_name) (sc := defScope s_is_name) (own := [("letter", 1)]) (by decide +kernel)) (fun _ _ _ _ _ => (sg_name (i := 1) sc_is_name.nd)) (fun _ _ _ _ _ => sts_nil) (fun _ _ _ _ _ => (se_cmp og_in (se_var 1) (se_gstr (by rfl) (T.c_LETTERS).choose_spec))) (by decide)) sa_nil)))))
abbrev s__law_spin : Stmt := top 8
abbrev n__law_spin : List Str := ["reel", "total", "found", "one", "two"]
theorem sc__law_spin : FnScope n__law_spin ["reel", "total"] (defScope s__law_spin) := ⟨rfl, rfl, rfl, by decide +kernel, rfl, by decide +kernel, by decide +kernel⟩
def w__law_spin : WS := (wSeq (wIfS (tw2 gGt (w2 gIx (wVar 0) (wC (.int 0))) (wC (.int 0))) (wSeq (wAsg 2 (w2 gMod (wB gInt (waCons (w2 gIx (wVar 0) (wC (.int 0))) waNil)) (wVar 1)))
  (wSeq (wSetL 0 (wC (.int 0)) (w2 gDiv (w2 gIx (wVar 0) (wC (.int 0))) (wVar 1)))
  (wRet (wVar 2)))) wNext)
  (wSeq (wSetL 0 (wC (.int 2)) (w2 gAdd (w2 gIx (wVar 0) (wC (.int 2))) (wC (.int 1))))
  (wSeq (wAsg 3 (w2 gMod (wB gInt (waCons (w2 gAdd (w2 gIx (wVar 0) (wC (.int 1))) (w2 gMul (wC (.int 1000303)) (w2 gIx (wVar 0) (wC (.int 2))))) waNil)) (wC (.int 2305843009213693951))))
  (wSeq (wAsg 4 (w2 gAdd (w2 gMul (w2 gMod (wB gInt (waCons (w2 gMul (wVar 3) (wVar 3)) waNil)) (wC (.int 2305843009213693921))) (wVar 3)) (w2 gMul (wC (.int 9323)) (w2 gIx (wVar 0) (wC (.int 2))))))
  (wSeq (wAsg 4 (w2 gMod (wB gInt (waCons (wVar 4) waNil)) (wC (.int 2305843009213693907))))
  (wRet (w2 gMod (wB gInt (waCons (w2 gDiv (wVar 4) (wC (.int 4096))) waNil)) (wVar 1))))))))
theorem b__law_spin (T : Txt K mg)  {cdv : Value} {A : Around} {outer : List PySem.Env} {s : Shared} {H : Hp} {E : XK} {fa : Addr} (hr : Room 0 (A.deeper (envOfC "_law_spin" (defScope s__law_spin) s.heap.objs.size fa cdv))) :
    SSs (cxOf (L2.CX P w) P w K mg base n__law_spin "_law_spin" (defScope s__law_spin) fa cdv A outer s H E) (fun cls d _ H => E cls d H) (defBody s__law_spin) w__law_spin := by
  have tk : Takes (cxOf (L2.CX P w) P w K mg base n__law_spin "_law_spin" (defScope s__law_spin) fa cdv A outer s H E) (fun cls d _ H => E cls d H) := takes_of rfl rfl rfl rfl
  have own := passes_of (X := cxOf (L2.CX P w) P w K mg base n__law_spin "_law_spin" (defScope s__law_spin) fa cdv A outer s H E) rfl
  exact (ss_cons (ss_if (st_cmp og_gt (se_ix ig_ix (se_var 0) se_int) se_int) (ss_cons (ss_asg (i := 2) sc__law_spin.nd (se_bin og_mod (se_callTy cg_int (by rfl) T.n_int (by decide +kernel) (sa_cons (se_ix ig_ix (se_var 0) se_int) sa_nil)) (se_var 1)))
      (ss_cons (ss_setL 0 (se_bin og_div (se_ix ig_ix (se_var 0) se_int) (se_var 1)) se_int)
      (ss_one (ss_ret (se_var 2))))) ss_nil)
      (ss_cons (ss_setL 0 (se_bin og_add (se_ix ig_ix (se_var 0) se_int) se_int) se_int)
      (ss_cons (ss_asg (i := 3) sc__law_spin.nd (se_bin og_mod (se_callTy cg_int (by rfl) T.n_int (by decide +kernel) (sa_cons (se_bin og_add (se_ix ig_ix (se_var 0) se_int) (se_bin og_mul se_int (se_ix ig_ix (se_var 0) se_int))) sa_nil)) se_int))
      (ss_cons (ss_asg (i := 4) sc__law_spin.nd (se_bin og_add (se_bin og_mul (se_bin og_mod (se_callTy cg_int (by rfl) T.n_int (by decide +kernel) (sa_cons (se_bin og_mul (se_var 3) (se_var 3)) sa_nil)) se_int) (se_var 3)) (se_bin og_mul se_int (se_ix ig_ix (se_var 0) se_int))))
      (ss_cons (ss_asg (i := 4) sc__law_spin.nd (se_bin og_mod (se_callTy cg_int (by rfl) T.n_int (by decide +kernel) (sa_cons (se_var 4) sa_nil)) se_int))
      (ss_one (ss_ret (se_bin og_mod (se_callTy cg_int (by rfl) T.n_int (by decide +kernel) (sa_cons (se_bin og_div (se_var 4) se_int) sa_nil)) (se_var 1)))))))))
abbrev s__law_pick : Stmt := top 9
abbrev n__law_pick : List Str := ["reel", "items"]
theorem sc__law_pick : FnScope n__law_pick ["reel", "items"] (defScope s__law_pick) := ⟨rfl, rfl, rfl, by decide +kernel, rfl, by decide +kernel, by decide +kernel⟩
def w__law_pick : WS := (wRet (w2 gIx (wVar 1) (wCall sp_spin [true, false] (waCons (wVar 0) (waCons (wB gLen (waCons (wVar 1) waNil)) waNil)))))
theorem b__law_pick (T : Txt K mg) (d__law_spin : DefOk P w K mg base 1 "_law_spin" sp_spin) {cdv : Value} {A : Around} {outer : List PySem.Env} {s : Shared} {H : Hp} {E : XK} {fa : Addr} (hr : Room 1 (A.deeper (envOfC "_law_pick" (defScope s__law_pick) s.heap.objs.size fa cdv))) :
    SSs (cxOf (L2.CX P w) P w K mg base n__law_pick "_law_pick" (defScope s__law_pick) fa cdv A outer s H E) (fun cls d _ H => E cls d H) (defBody s__law_pick) w__law_pick := by
  have tk : Takes (cxOf (L2.CX P w) P w K mg base n__law_pick "_law_pick" (defScope s__law_pick) fa cdv A outer s H E) (fun cls d _ H => E cls d H) := takes_of rfl rfl rfl rfl
  have own := passes_of (X := cxOf (L2.CX P w) P w K mg base n__law_pick "_law_pick" (defScope s__law_pick) fa cdv A outer s H E) rfl
  exact (ss_one (ss_ret (se_ix ig_ix (se_var 1) (se_call d__law_spin hr (by decide) (by rfl) tk [true, false] (sa_cons (se_var 0) (sa_cons (se_callB cg_len (by rfl) T.n_len (by decide +kernel) (sa_cons (se_var 1) sa_nil)) sa_nil))))))
abbrev s__law_name : Stmt := top 10
abbrev n__law_name : List Str := ["reel", "letters", "turn"]
theorem sc__law_name : FnScope n__law_name ["reel"] (defScope s__law_name) := ⟨rfl, rfl, rfl, by decide +kernel, rfl, by decide +kernel, by decide +kernel⟩
def w__law_name : WS := (wCut (wAsg 1 (wC (.str "abcdefghijklmnopqrstuvwxyz")))
  (wRet (wJoin (wC (.str "")) (wLc (wiR1 (waCons (wCall sp_pick [true, false] (waCons (wVar 0) (waCons (wLst (waCons (wC (.int 1)) (waCons (wC (.int 1)) (waCons (wC (.int 2)) (waCons (wC (.int 3)) (waCons (wC (.int 7)) (waCons (wC (.int 8)) waNil))))))) waNil))) waNil)) (gN 2) twYes (wCall sp_pick [true, false] (waCons (wVar 0) (waCons (wVar 1) waNil))) [2]))))
theorem b__law_name (T : Txt K mg) (d__law_pick : DefOk P w K mg base 2 "_law_pick" sp_pick) {cdv : Value} {A : Around} {outer : List PySem.Env} {s : Shared} {H : Hp} {E : XK} {fa : Addr} (hr : Room 2 (A.deeper (envOfC "_law_name" (defScope s__law_name) s.heap.objs.size fa cdv))) :
    SSs (cxOf (L2.CX P w) P w K mg base n__law_name "_law_name" (defScope s__law_name) fa cdv A outer s H E) (fun cls d _ H => E cls d H) (defBody s__law_name) w__law_name := by
  have tk : Takes (cxOf (L2.CX P w) P w K mg base n__law_name "_law_name" (defScope s__law_name) fa cdv A outer s H E) (fun cls d _ H => E cls d H) := takes_of rfl rfl rfl rfl
  have own := passes_of (X := cxOf (L2.CX P w) P w K mg base n__law_name "_law_name" (defScope s__law_name) fa cdv A outer s H E) rfl
  exact (ss_cut (ss_asg (i := 1) sc__law_name.nd se_str)
      (ss_one (ss_ret (se_join se_str (se_lc (own := [("turn", 2)]) rfl sc__law_name.nd (si_range1 (by rfl) T.n_range (sa_cons (se_call d__law_pick hr (by decide) (by rfl) tk [true, false] (sa_cons (se_var 0) (sa_cons (se_lst (sa_cons se_int (sa_cons se_int (sa_cons se_int (sa_cons se_int (sa_cons se_int (sa_cons se_int sa_nil))))))) sa_nil))) sa_nil)) (blkOk_by (N := n__law_name) (sc := defScope s__law_name) (own := [("turn", 2)]) (by decide +kernel)) (fun _ _ _ _ _ => (sg_name (i := 2) sc__law_name.nd)) (fun _ _ _ _ _ => sts_nil) (fun _ _ _ _ _ => (se_call d__law_pick hr (by decide) (by rfl) takes0 [true, false] (sa_cons (se_var 0) (sa_cons (se_var 1) sa_nil)))) (by decide))))))
abbrev s_is_integer : Stmt := top 5
abbrev n_is_integer : List Str := ["value"]
theorem sc_is_integer : FnScope n_is_integer ["value"] (defScope s_is_integer) := ⟨rfl, rfl, rfl, by decide +kernel, rfl, by decide +kernel, by decide +kernel⟩
def w_is_integer : WS := (wRet (wAnd (wB gIsi (waCons (wVar 0) (waCons (wC (.ty "int")) waNil))) (wAnd (wNot (wB gIsi (waCons (wVar 0) (waCons (wC (.ty "bool")) waNil)))) (wCh gLt gLt (wNeg (wC (.int (1000000000000)))) (wVar 0) (wC (.int (1000000000000)))))))
theorem b_is_integer (T : Txt K mg)  {cdv : Value} {A : Around} {outer : List PySem.Env} {s : Shared} {H : Hp} {E : XK} {fa : Addr} (hr : Room 0 (A.deeper (envOfC "is_integer" (defScope s_is_integer) s.heap.objs.size fa cdv))) :
    SSs (cxOf (L2.CX P w) P w K mg base n_is_integer "is_integer" (defScope s_is_integer) fa cdv A outer s H E) (fun cls d _ H => E cls d H) (defBody s_is_integer) w_is_integer := by
  have tk : Takes (cxOf (L2.CX P w) P w K mg base n_is_integer "is_integer" (defScope s_is_integer) fa cdv A outer s H E) (fun cls d _ H => E cls d H) := takes_of rfl rfl rfl rfl
  have own := passes_of (X := cxOf (L2.CX P w) P w K mg base n_is_integer "is_integer" (defScope s_is_integer) fa cdv A outer s H E) rfl
  exact (ss_one (ss_ret (se_and (se_callB cg_isi (by rfl) T.n_isinstance (by decide +kernel) (sa_cons (se_var 0) (sa_cons (se_ty (by rfl) T.n_int (by decide +kernel)) sa_nil))) (se_and (se_not (se_callB cg_isi (by rfl) T.n_isinstance (by decide +kernel) (sa_cons (se_var 0) (sa_cons (se_ty (by rfl) T.n_bool (by decide +kernel)) sa_nil)))) (se_one (se_chain og_lt og_lt (se_neg (se_gint (by rfl) (T.c_LIMIT).choose_spec)) (se_var 0) (se_gint (by rfl) (T.c_LIMIT).choose_spec)))))))
abbrev s__law_near : Stmt := top 12
abbrev n__law_near : List Str := ["reel", "name", "at", "sign", "odd"]
theorem sc__law_near : FnScope n__law_near ["reel", "name"] (defScope s__law_near) := ⟨rfl, rfl, rfl, by decide +kernel, rfl, by decide +kernel, by decide +kernel⟩
def w__law_near : WS := (wCut (wAsg 2 (wCall sp_spin [true, false] (waCons (wVar 0) (waCons (w2 gAdd (wB gLen (waCons (wVar 1) waNil)) (wC (.int 1))) waNil))))
  (wCut (wAsg 3 (wCall sp_pick [true, false] (waCons (wVar 0) (waCons (wLst (waCons (wC (.str "A")) (waCons (wC (.str "Z")) (waCons (wC (.str "{")) (waCons (wC (.str "`")) (waCons (wC (.str " ")) (waCons (wC (.str "-")) (waCons (wC (.str "_")) (waCons (wC (.str "0")) (waCons (wC (.str "a")) (waCons (wC (.str "z")) (waCons (wC (.str "")) (waCons (wC (.str "\n")) (waCons (wC (.str ".")) waNil)))))))))))))) waNil))))
  (wCut (wAsg 4 (wLst (waCons (w2 gAdd (w2 gAdd (wSl gSlA (wVar 1) woN (woS (wVar 2))) (wVar 3)) (wSl gSlA (wVar 1) (woS (wVar 2)) woN)) (waCons (wUpper (wVar 1)) (waCons (w2 gAdd (wVar 1) (wVar 1)) (waCons (wTup (waCons (wVar 1) waNil)) (waCons (wLst (waCons (wVar 1) waNil)) (waCons (wC .non) (waCons (wB gLen (waCons (wVar 1) waNil)) (waCons (wC (.str "")) (waCons (wSl gSlA (wVar 1) (woS (wC (.int 1))) woN) waNil)))))))))))
  (wRet (wCall sp_pick [true, false] (waCons (wVar 0) (waCons (w2 gAdd (wVar 4) (wLst (waCons (w2 gAdd (wVar 1) (wC (.str "aaaaaaaa"))) (waCons (wDic1 (wVar 1) (wVar 1)) (waCons (w2 gAdd (wVar 1) (wC (.str "\n"))) (waCons (w2 gAdd (wC (.str "\n")) (wVar 1)) (waCons (wC (.bl true)) (waCons (w2 gAdd (wSl gSlA (wVar 1) woN (woS (wNeg (wC (.int 1))))) (wC (.str "1"))) waNil)))))))) waNil)))))))
theorem b__law_near (T : Txt K mg) (d__law_spin : DefOk P w K mg base 1 "_law_spin" sp_spin) (d__law_pick : DefOk P w K mg base 2 "_law_pick" sp_pick) {cdv : Value} {A : Around} {outer : List PySem.Env} {s : Shared} {H : Hp} {E : XK} {fa : Addr} (hr : Room 2 (A.deeper (envOfC "_law_near" (defScope s__law_near) s.heap.objs.size fa cdv))) :
    SSs (cxOf (L2.CX P w) P w K mg base n__law_near "_law_near" (defScope s__law_near) fa cdv A outer s H E) (fun cls d _ H => E cls d H) (defBody s__law_near) w__law_near := by
  have tk : Takes (cxOf (L2.CX P w) P w K mg base n__law_near "_law_near" (defScope s__law_near) fa cdv A outer s H E) (fun cls d _ H => E cls d H) := takes_of rfl rfl rfl rfl
  have own := passes_of (X := cxOf (L2.CX P w) P w K mg base n__law_near "_law_near" (defScope s__law_near) fa cdv A outer s H E) rfl
  exact (ss_cut (ss_asg (i := 2) sc__law_near.nd (se_call d__law_spin hr (by decide) (by rfl) tk [true, false] (sa_cons (se_var 0) (sa_cons (se_bin og_add (se_callB cg_len (by rfl) T.n_len (by decide +kernel) (sa_cons (se_var 1) sa_nil)) se_int) sa_nil))))
      (ss_cut (ss_asg (i := 3) sc__law_near.nd (se_call d__law_pick hr (by decide) (by rfl) tk [true, false] (sa_cons (se_var 0) (sa_cons (se_lst (sa_cons se_str (sa_cons se_str (sa_cons se_str (sa_cons se_str (sa_cons se_str (sa_cons se_str (sa_cons se_str (sa_cons se_str (sa_cons se_str (sa_cons se_str (sa_cons se_str (sa_cons se_str (sa_cons se_str sa_nil)))))))))))))) sa_nil))))
      (ss_cut (ss_asg (i := 4) sc__law_near.nd (se_lst (sa_cons (se_bin og_add (se_bin og_add (se_slice sg_any (se_var 1) so_none (so_some (se_var 2))) (se_var 3)) (se_slice sg_any (se_var 1) (so_some (se_var 2)) so_none)) (sa_cons (se_upper (se_var 1)) (sa_cons (se_bin og_add (se_var 1) (se_var 1)) (sa_cons (se_tup (sa_cons (se_var 1) sa_nil)) (sa_cons (se_lst (sa_cons (se_var 1) sa_nil)) (sa_cons se_non (sa_cons (se_callB cg_len (by rfl) T.n_len (by decide +kernel) (sa_cons (se_var 1) sa_nil)) (sa_cons se_str (sa_cons (se_slice sg_any (se_var 1) (so_some se_int) so_none) sa_nil)))))))))))
      (ss_one (ss_ret (se_call d__law_pick hr (by decide) (by rfl) tk [true, false] (sa_cons (se_var 0) (sa_cons (se_bin og_add (se_var 4) (se_lst (sa_cons (se_bin og_add (se_var 1) se_str) (sa_cons (se_dic1 (se_var 1) (se_var 1)) (sa_cons (se_bin og_add (se_var 1) se_str) (sa_cons (se_bin og_add se_str (se_var 1)) (sa_cons se_bl (sa_cons (se_bin og_add (se_slice sg_any (se_var 1) so_none (so_some (se_neg se_int))) se_str) sa_nil)))))))) sa_nil))))))))
abbrev s__law_is_name : Stmt := top 11
abbrev n__law_is_name : List Str := ["value", "sign"]
theorem sc__law_is_name : FnScope n__law_is_name ["value"] (defScope s__law_is_name) := ⟨rfl, rfl, rfl, by decide +kernel, rfl, by decide +kernel, by decide +kernel⟩
def w__law_is_name : WS := (wSeq (wIfS (twOr (twNot (tVal (wB gIsi (waCons (wVar 0) (waCons (wC (.ty "str")) waNil))))) (twNot (twCh gLe gLe (wC (.int 1)) (wB gLen (waCons (wVar 0) waNil)) (wC (.int 8))))) (wRet (wC (.bl false))) wNext)
  (wRet (w2 gEq (wLc (wiSeq (wVar 0)) (gN 1) (twNot (twCh gLe gLe (wC (.int 97)) (wB gOrd (waCons (wVar 1) waNil)) (wC (.int 122)))) (wVar 1) [1]) (wLst waNil))))
theorem b__law_is_name (T : Txt K mg)  {cdv : Value} {A : Around} {outer : List PySem.Env} {s : Shared} {H : Hp} {E : XK} {fa : Addr} (hr : Room 0 (A.deeper (envOfC "_law_is_name" (defScope s__law_is_name) s.heap.objs.size fa cdv))) :
    SSs (cxOf (L2.CX P w) P w K mg base n__law_is_name "_law_is_name" (defScope s__law_is_name) fa cdv A outer s H E) (fun cls d _ H => E cls d H) (defBody s__law_is_name) w__law_is_name := by
  have tk : Takes (cxOf (L2.CX P w) P w K mg base n__law_is_name "_law_is_name" (defScope s__law_is_name) fa cdv A outer s H E) (fun cls d _ H => E cls d H) := takes_of rfl rfl rfl rfl
  have own := passes_of (X := cxOf (L2.CX P w) P w K mg base n__law_is_name "_law_is_name" (defScope s__law_is_name) fa cdv A outer s H E) rfl
  exact (ss_cons (ss_if (SW.st (sw_or (st_not (st_val (se_callB cg_isi (by rfl) T.n_isinstance (by decide +kernel) (sa_cons (se_var 0) (sa_cons (se_ty (by rfl) T.n_str (by decide +kernel)) sa_nil))))) (sw_or1 (st_not (st_chain og_le og_le se_int (se_callB cg_len (by rfl) T.n_len (by decide +kernel) (sa_cons (se_var 0) sa_nil)) se_int))))) (ss_one (ss_ret se_bl)) ss_nil)
      (ss_one (ss_ret (se_cmp (og_eq hr.units) (se_lc (own := [("sign", 1)]) rfl sc__law_is_name.nd (se_seq (se_var 0)) (blkOk_by (N := n__law_is_name) (sc := defScope s__law_is_name) (own := [("sign", 1)]) (by decide +kernel)) (fun _ _ _ _ _ => (sg_name (i := 1) sc__law_is_name.nd)) (fun _ _ _ _ _ => (sts_one (st_not (st_chain og_le og_le se_int (se_callB cg_ord (by rfl) T.n_ord (by decide +kernel) (sa_cons (se_var 1) sa_nil)) se_int)))) (fun _ _ _ _ _ => (se_var 1)) (by decide)) (se_lst sa_nil)))))
abbrev s__law_cell_right : Stmt := top 13
abbrev n__law_cell_right : List Str := ["reel", "name", "turn", "value", "many", "odd"]
theorem sc__law_cell_right : FnScope n__law_cell_right ["reel"] (defScope s__law_cell_right) := ⟨rfl, rfl, rfl, by decide +kernel, rfl, by decide +kernel, by decide +kernel⟩
def w__law_cell_right : WS := (wCut (wAsg 1 (wCall sp_law_name [true] (waCons (wVar 0) waNil)))
  (wCut (wFor (wiR1 (waCons (wC (.int 10)) waNil)) (gN 2) (wCut (wAsg 3 (wIf (tw2 gGt (wVar 2) (wC (.int 0))) (wCall sp_law_near [true, false] (waCons (wVar 0) (waCons (wVar 1) waNil))) (wVar 1)))
  (wIfS (tw2 gNe (wB gRepr (waCons (wCall sp_is_name [false] (waCons (wVar 3) waNil)) waNil)) (wB gRepr (waCons (wCall sp_is_name [false] (waCons (wVar 3) waNil)) waNil))) (wRet (wC (.bl false))) wNext)))
  (wCut (wAsg 4 (w2 gMul (wCall sp_spin [true, false] (waCons (wVar 0) (waCons (w2 gPow (wC (.int 10)) (wC (.int 12))) waNil))) (wCall sp_pick [true, false] (waCons (wVar 0) (waCons (wLst (waCons (wC (.int 1)) (waCons (wNeg (wC (.int 1))) (waCons (wC (.int 10)) (waCons (wNeg (wC (.int 10))) (waCons (w2 gPow (wC (.int 10)) (wC (.int 6))) waNil)))))) waNil)))))
  (wCut (wFor (wiSeq (wLst (waCons (wVar 4) (waCons (w2 gAdd (wVar 4) (wC (.int 1))) (waCons (wNeg (wVar 4)) waNil))))) (gN 3) (wIfS (tw2 gNe (wB gRepr (waCons (wCall sp_is_integer [false] (waCons (wVar 3) waNil)) waNil)) (wB gRepr (waCons (w2 gLe (wB gLen (waCons (wB gStr (waCons (wB gAbs (waCons (wVar 3) waNil)) waNil)) waNil)) (wC (.int 12))) waNil))) (wRet (wC (.bl false))) wNext))
  (wCut (wAsg 5 (wCall sp_pick [true, false] (waCons (wVar 0) (waCons (wLst (waCons (wC (.bl true)) (waCons (wC (.bl false)) (waCons (wC .non) (waCons (wB gStr (waCons (wVar 4) waNil)) (waCons (wTup (waCons (wVar 4) waNil)) (waCons (wLst (waCons (wVar 4) waNil)) (waCons wDic0 (waCons (wDic1 (wVar 4) (wVar 4)) (waCons (wC (.str "")) (waCons (wTup waNil) waNil))))))))))) waNil))))
  (wRet (w2 gIs (wCall sp_is_integer [false] (waCons (wVar 5) waNil)) (wC (.bl false)))))))))
theorem b__law_cell_right (T : Txt K mg) (d__law_name : DefOk P w K mg base 3 "_law_name" sp_law_name) (d__law_pick : DefOk P w K mg base 2 "_law_pick" sp_pick) (d__law_spin : DefOk P w K mg base 1 "_law_spin" sp_spin) (d_is_integer : DefOk P w K mg base 1 "is_integer" sp_is_integer) (d__law_near : DefOk P w K mg base 3 "_law_near" sp_law_near) (d_is_name : DefOk P w K mg base 1 "is_name" sp_is_name) (d__law_is_name : DefOk P w K mg base 1 "_law_is_name" sp_is_name) {cdv : Value} {A : Around} {outer : List PySem.Env} {s : Shared} {H : Hp} {E : XK} {fa : Addr} (hr : Room 3 (A.deeper (envOfC "_law_cell_right" (defScope s__law_cell_right) s.heap.objs.size fa cdv))) :
    SSs (cxOf (L2.CX P w) P w K mg base n__law_cell_right "_law_cell_right" (defScope s__law_cell_right) fa cdv A outer s H E) (fun cls d _ H => E cls d H) (defBody s__law_cell_right) w__law_cell_right := by
  have tk : Takes (cxOf (L2.CX P w) P w K mg base n__law_cell_right "_law_cell_right" (defScope s__law_cell_right) fa cdv A outer s H E) (fun cls d _ H => E cls d H) := takes_of rfl rfl rfl rfl
  have own := passes_of (X := cxOf (L2.CX P w) P w K mg base n__law_cell_right "_law_cell_right" (defScope s__law_cell_right) fa cdv A outer s H E) rfl
  exact (ss_cut (ss_asg (i := 1) sc__law_cell_right.nd (se_call d__law_name hr (by decide) (by rfl) tk [true] (sa_cons (se_var 0) sa_nil)))
      (ss_cut (ss_for own rfl (si_range1 (by rfl) T.n_range (sa_cons se_int sa_nil)) (sg_name (i := 2) sc__law_cell_right.nd) (ss_cut (ss_asg (i := 3) sc__law_cell_right.nd (se_if (st_cmp og_gt (se_var 2) se_int) (se_call d__law_near hr (by decide) (by rfl) tk [true, false] (sa_cons (se_var 0) (sa_cons (se_var 1) sa_nil))) (se_var 1)))
      (ss_one (ss_if (st_cmp (og_ne hr.units) (se_callB cg_repr (by rfl) T.n_repr (by decide +kernel) (sa_cons (se_call d_is_name hr (by decide) (by rfl) tk [false] (sa_cons (se_var 3) sa_nil)) sa_nil)) (se_callB cg_repr (by rfl) T.n_repr (by decide +kernel) (sa_cons (se_call d__law_is_name hr (by decide) (by rfl) tk [false] (sa_cons (se_var 3) sa_nil)) sa_nil))) (ss_one (ss_ret se_bl)) ss_nil))))
      (ss_cut (ss_asg (i := 4) sc__law_cell_right.nd (se_bin og_mul (se_call d__law_spin hr (by decide) (by rfl) tk [true, false] (sa_cons (se_var 0) (sa_cons (se_bin og_pow se_int se_int) sa_nil))) (se_call d__law_pick hr (by decide) (by rfl) tk [true, false] (sa_cons (se_var 0) (sa_cons (se_lst (sa_cons se_int (sa_cons (se_neg se_int) (sa_cons se_int (sa_cons (se_neg se_int) (sa_cons (se_bin og_pow se_int se_int) sa_nil)))))) sa_nil)))))
      (ss_cut (ss_for own rfl (se_seq (se_lst (sa_cons (se_var 4) (sa_cons (se_bin og_add (se_var 4) se_int) (sa_cons (se_neg (se_var 4)) sa_nil))))) (sg_name (i := 3) sc__law_cell_right.nd) (ss_one (ss_if (st_cmp (og_ne hr.units) (se_callB cg_repr (by rfl) T.n_repr (by decide +kernel) (sa_cons (se_call d_is_integer hr (by decide) (by rfl) tk [false] (sa_cons (se_var 3) sa_nil)) sa_nil)) (se_callB cg_repr (by rfl) T.n_repr (by decide +kernel) (sa_cons (se_cmp og_le (se_callB cg_len (by rfl) T.n_len (by decide +kernel) (sa_cons (se_callTy cg_str (by rfl) T.n_str (by decide +kernel) (sa_cons (se_callB cg_abs (by rfl) T.n_abs (by decide +kernel) (sa_cons (se_var 3) sa_nil)) sa_nil)) sa_nil)) se_int) sa_nil))) (ss_one (ss_ret se_bl)) ss_nil)))
      (ss_cut (ss_asg (i := 5) sc__law_cell_right.nd (se_call d__law_pick hr (by decide) (by rfl) tk [true, false] (sa_cons (se_var 0) (sa_cons (se_lst (sa_cons se_bl (sa_cons se_bl (sa_cons se_non (sa_cons (se_callTy cg_str (by rfl) T.n_str (by decide +kernel) (sa_cons (se_var 4) sa_nil)) (sa_cons (se_tup (sa_cons (se_var 4) sa_nil)) (sa_cons (se_lst (sa_cons (se_var 4) sa_nil)) (sa_cons se_dic0 (sa_cons (se_dic1 (se_var 4) (se_var 4)) (sa_cons se_str (sa_cons (se_tup sa_nil) sa_nil))))))))))) sa_nil))))
      (ss_one (ss_ret (se_cmp og_is (se_call d_is_integer hr (by decide) (by rfl) tk [false] (sa_cons (se_var 5) sa_nil)) se_bl))))))))
abbrev s__law_reel : Stmt := top 7
abbrev n__law_reel : List Str := ["script", "at", "cell", "great", "mixed"]
theorem sc__law_reel : FnScope n__law_reel ["script", "at"] (defScope s__law_reel) := ⟨rfl, rfl, rfl, by decide +kernel, rfl, by decide +kernel, by decide +kernel⟩
def w__law_reel : WS := (wSeq (wAsg 2 (wIf (tw2 gLt (wVar 1) (wB gLen (waCons (wVar 0) waNil))) (w2 gIx (wVar 0) (wVar 1)) (w2 gAdd (w2 gMul (wC (.int 59)) (wVar 1)) (wC (.int 13)))))
  (wSeq (wAsg 3 (w2 gMod (wB gInt (waCons (wB gAbs (waCons (wVar 2) waNil)) waNil)) (w2 gPow (w2 gPow (wC (.int 10)) (wC (.int 58))) (wC (.int 10)))))
  (wSeq (wAsg 4 (w2 gAdd (w2 gAdd (w2 gAdd (w2 gMul (w2 gMod (wB gInt (waCons (wVar 3) waNil)) (wC (.int 2147483477))) (wC (.int 50021))) (w2 gMul (wC (.int 4007)) (wVar 1))) (w2 gMul (wC (.int 29)) (wB gInt (waCons (w2 gLt (wVar 2) (wC (.int 0))) waNil)))) (wC (.int 61))))
  (wRet (wLst (waCons (wB gMax (waCons (wC (.int 0)) (waCons (w2 gSub (wVar 3) (w2 gPow (wC (.int 10)) (wC (.int 18)))) waNil))) (waCons (w2 gMod (wB gInt (waCons (wVar 4) waNil)) (wC (.int 2147483423))) (waCons (wC (.int 0)) waNil))))))))
theorem b__law_reel (T : Txt K mg)  {cdv : Value} {A : Around} {outer : List PySem.Env} {s : Shared} {H : Hp} {E : XK} {fa : Addr} (hr : Room 0 (A.deeper (envOfC "_law_reel" (defScope s__law_reel) s.heap.objs.size fa cdv))) :
    SSs (cxOf (L2.CX P w) P w K mg base n__law_reel "_law_reel" (defScope s__law_reel) fa cdv A outer s H E) (fun cls d _ H => E cls d H) (defBody s__law_reel) w__law_reel := by
  have tk : Takes (cxOf (L2.CX P w) P w K mg base n__law_reel "_law_reel" (defScope s__law_reel) fa cdv A outer s H E) (fun cls d _ H => E cls d H) := takes_of rfl rfl rfl rfl
  have own := passes_of (X := cxOf (L2.CX P w) P w K mg base n__law_reel "_law_reel" (defScope s__law_reel) fa cdv A outer s H E) rfl
  exact (ss_cons (ss_asg (i := 2) sc__law_reel.nd (se_if (st_cmp og_lt (se_var 1) (se_callB cg_len (by rfl) T.n_len (by decide +kernel) (sa_cons (se_var 0) sa_nil))) (se_ix ig_ix (se_var 0) (se_var 1)) (se_bin og_add (se_bin og_mul se_int (se_var 1)) se_int)))
      (ss_cons (ss_asg (i := 3) sc__law_reel.nd (se_bin og_mod (se_callTy cg_int (by rfl) T.n_int (by decide +kernel) (sa_cons (se_callB cg_abs (by rfl) T.n_abs (by decide +kernel) (sa_cons (se_var 2) sa_nil)) sa_nil)) (se_bin og_pow (se_bin og_pow se_int se_int) se_int)))
      (ss_cons (ss_asg (i := 4) sc__law_reel.nd (se_bin og_add (se_bin og_add (se_bin og_add (se_bin og_mul (se_bin og_mod (se_callTy cg_int (by rfl) T.n_int (by decide +kernel) (sa_cons (se_var 3) sa_nil)) se_int) se_int) (se_bin og_mul se_int (se_var 1))) (se_bin og_mul se_int (se_callTy cg_int (by rfl) T.n_int (by decide +kernel) (sa_cons (se_cmp og_lt (se_var 2) se_int) sa_nil)))) se_int))
      (ss_one (ss_ret (se_lst (sa_cons (se_callB (cg_max rfl) (by rfl) T.n_max (by decide +kernel) (sa_cons se_int (sa_cons (se_bin og_sub (se_var 3) (se_bin og_pow se_int se_int)) sa_nil))) (sa_cons (se_bin og_mod (se_callTy cg_int (by rfl) T.n_int (by decide +kernel) (sa_cons (se_var 4) sa_nil)) se_int) (sa_cons se_int sa_nil)))))))))
abbrev s_law : Stmt := top 14
abbrev n_law : List Str := ["script", "at", "told", "value"]
theorem sc_law : FnScope n_law ["script"] (defScope s_law) := ⟨rfl, rfl, rfl, by decide +kernel, rfl, by decide +kernel, by decide +kernel⟩
def w_law : WS := (wCut (wFor (wiR1 (waCons (wB gMax (waCons (wC (.int 1)) (waCons (wB gMin (waCons (wC (.int 8)) (waCons (wB gLen (waCons (wVar 0) waNil)) waNil))) waNil))) waNil)) (gN 1) (wIfS (twNot (tVal (wCall sp_law_cell_right [true] (waCons (wCall sp_reel [false, false] (waCons (wVar 0) (waCons (wVar 1) waNil))) waNil)))) (wRet (wC (.bl false))) wNext))
  (wCut (wAsg 2 (wLc (wiSeq (wLst (waCons (wC (.str "a")) (waCons (wC (.str "abcdefgh")) (waCons (wC (.str "abcdefghi")) (waCons (wC (.str "")) (waCons (wC (.str "A")) (waCons (wC (.str "a1")) (waCons (wC (.str "a b")) (waCons (wC (.str "item\n")) waNil)))))))))) (gN 3) twYes (wCall sp_is_name [false] (waCons (wVar 3) waNil)) [3]))
  (wCut (wAsg 2 (w2 gAdd (wVar 2) (wLst (waCons (wCall sp_is_integer [false] (waCons (w2 gSub (w2 gPow (wC (.int 10)) (wC (.int 12))) (wC (.int 1))) waNil)) (waCons (wCall sp_is_integer [false] (waCons (w2 gPow (wC (.int 10)) (wC (.int 12))) waNil)) (waCons (wCall sp_is_integer [false] (waCons (w2 gSub (wC (.int 1)) (w2 gPow (wC (.int 10)) (wC (.int 12)))) waNil)) (waCons (wCall sp_is_integer [false] (waCons (wNeg (w2 gPow (wC (.int 10)) (wC (.int 12)))) waNil)) waNil)))))))
  (wRet (w2 gEq (wVar 2) (wLst (waCons (wC (.bl true)) (waCons (wC (.bl true)) (waCons (wC (.bl false)) (waCons (wC (.bl false)) (waCons (wC (.bl false)) (waCons (wC (.bl false)) (waCons (wC (.bl false)) (waCons (wC (.bl false)) (waCons (wC (.bl true)) (waCons (wC (.bl false)) (waCons (wC (.bl true)) (waCons (wC (.bl false)) waNil))))))))))))))))))
theorem b_law (T : Txt K mg) (d_is_name : DefOk P w K mg base 1 "is_name" sp_is_name) (d__law_cell_right : DefOk P w K mg base 4 "_law_cell_right" sp_law_cell_right) (d_is_integer : DefOk P w K mg base 1 "is_integer" sp_is_integer) (d__law_reel : DefOk P w K mg base 1 "_law_reel" sp_reel) {cdv : Value} {A : Around} {outer : List PySem.Env} {s : Shared} {H : Hp} {E : XK} {fa : Addr} (hr : Room 4 (A.deeper (envOfC "law" (defScope s_law) s.heap.objs.size fa cdv))) :
    SSs (cxOf (L2.CX P w) P w K mg base n_law "law" (defScope s_law) fa cdv A outer s H E) (fun cls d _ H => E cls d H) (defBody s_law) w_law := by
  have tk : Takes (cxOf (L2.CX P w) P w K mg base n_law "law" (defScope s_law) fa cdv A outer s H E) (fun cls d _ H => E cls d H) := takes_of rfl rfl rfl rfl
  have own := passes_of (X := cxOf (L2.CX P w) P w K mg base n_law "law" (defScope s_law) fa cdv A outer s H E) rfl
  exact (ss_cut (ss_for own rfl (si_range1 (by rfl) T.n_range (sa_cons (se_callB (cg_max rfl) (by rfl) T.n_max (by decide +kernel) (sa_cons se_int (sa_cons (se_callB (cg_min rfl) (by rfl) T.n_min (by decide +kernel) (sa_cons se_int (sa_cons (se_callB cg_len (by rfl) T.n_len (by decide +kernel) (sa_cons (se_var 0) sa_nil)) sa_nil))) sa_nil))) sa_nil)) (sg_name (i := 1) sc_law.nd) (ss_one (ss_if (st_not (st_val (se_call d__law_cell_right hr (by decide) (by rfl) tk [true] (sa_cons (se_call d__law_reel hr (by decide) (by rfl) tk [false, false] (sa_cons (se_var 0) (sa_cons (se_var 1) sa_nil))) sa_nil)))) (ss_one (ss_ret se_bl)) ss_nil)))
      (ss_cut (ss_setLc (own := [("value", 3)]) (i := 2) rfl sc_law.nd (se_seq (se_lst (sa_cons se_str (sa_cons se_str (sa_cons se_str (sa_cons se_str (sa_cons se_str (sa_cons se_str (sa_cons se_str (sa_cons se_str sa_nil)))))))))) (blkOk_by (N := n_law) (sc := defScope s_law) (own := [("value", 3)]) (by decide +kernel)) (fun _ _ _ _ _ => (sg_name (i := 3) sc_law.nd)) (fun _ _ _ _ _ => sts_nil) (fun _ _ _ _ _ => (se_call d_is_name hr (by decide) (by rfl) takes0 [false] (sa_cons (se_var 3) sa_nil))) (by decide))
      (ss_cut (ss_asg (i := 2) sc_law.nd (se_bin og_add (se_var 2) (se_lst (sa_cons (se_call d_is_integer hr (by decide) (by rfl) tk [false] (sa_cons (se_bin og_sub (se_bin og_pow se_int se_int) se_int) sa_nil)) (sa_cons (se_call d_is_integer hr (by decide) (by rfl) tk [false] (sa_cons (se_bin og_pow se_int se_int) sa_nil)) (sa_cons (se_call d_is_integer hr (by decide) (by rfl) tk [false] (sa_cons (se_bin og_sub se_int (se_bin og_pow se_int se_int)) sa_nil)) (sa_cons (se_call d_is_integer hr (by decide) (by rfl) tk [false] (sa_cons (se_neg (se_bin og_pow se_int se_int)) sa_nil)) sa_nil)))))))
      (ss_one (ss_ret (se_cmp (og_eq hr.units) (se_var 2) (se_lst (sa_cons se_bl (sa_cons se_bl (sa_cons se_bl (sa_cons se_bl (sa_cons se_bl (sa_cons se_bl (sa_cons se_bl (sa_cons se_bl (sa_cons se_bl (sa_cons se_bl (sa_cons se_bl (sa_cons se_bl sa_nil)))))))))))))))))))
end
end K01

namespace K01
open PySem L2 Z
theorem sz {n : Nat} (h : n ≤ 1000) : n ≤ sizeLine := Nat.le_trans h (by decide)
theorem p_is_integer {as Q QE} (h : sp_is_integer as Q QE) : w_is_integer (rho0 1 as) (bodyFl as Q QE) := by
  obtain ⟨d, rfl, ht, k⟩ := h
  cases d with
  | int i =>
    refine ite2d (fun h1 => ?_) (fun h1 => ?_)
    · have e : isIn (.int i) = decide (i < 1000000000000) := by show (decide _ && decide _) = _; rw [decide_eq_true h1, Bool.true_and]
      rw [e] at k
      exact k
    · have e : isIn (.int i) = false := by show (decide _ && decide _) = _; rw [decide_eq_false h1, Bool.false_and]
      rw [e] at k
      exact k
  | ins _ _ => cases ht
  | ty _ => cases ht
  | _ => exact k
def chars (z : Str) : List D := z.cps.toList.map fun c => .str ⟨#[c]⟩
theorem okS_chars {n : Nat} {z : Str} (h : okS n z) : ∀ c ∈ z.cps.toList, c < 1114112 := fun c hc => by
  have := Array.all_eq_true'.mp h.2 c (Array.mem_toList_iff.mp hc)
  exact of_decide_eq_true this
theorem letters_low (c : Nat) : decide (c ∈ ("abcdefghijklmnopqrstuvwxyz" : Str).cps.toList) = low c := by
  have e : ("abcdefghijklmnopqrstuvwxyz" : Str).cps.toList = List.range' 97 26 := by decide +kernel
  rw [e]
  unfold low
  by_cases h1 : 97 ≤ c
  · by_cases h2 : c ≤ 122
    · rw [decide_eq_true h1, decide_eq_true h2, decide_eq_true (List.mem_range'_1.mpr ⟨h1, by omega⟩)]; rfl
    · rw [decide_eq_false h2, Bool.and_false, decide_eq_false (fun z => h2 (by have := List.mem_range'_1.mp z; omega))]
  · rw [decide_eq_false h1, Bool.false_and, decide_eq_false (fun z => h1 (List.mem_range'_1.mp z).1)]
theorem p_is_name {as Q QE} (h : sp_is_name as Q QE) : w_is_name (rho0 2 as) (bodyFl as Q QE) := by
  obtain ⟨d, rfl, ht, k⟩ := h
  cases d with
  | str z =>
    have k : Q (.val (.bl (nameB z))) [] := k
    have ln : ((z.length : Nat) : Int) = z.cps.toList.length := by rfl
    refine ⟨sz ht.1, ?_⟩
    have no : ∀ {b : Bool}, b = false → (b && z.cps.toList.all low) = false := fun h => by rw [h]; rfl
    refine ite2d (fun h1 => ?_) (fun h1 => ?_)
    · refine ite2n (fun h2 => ?_) (fun h2 => ?_)
      · have e : nameB z = false := no (by rw [decide_eq_false (show ¬ z.length ≤ 8 by omega), Bool.and_false])
        rw [e] at k; exact k
      · have ll : (strD z).length = z.length := by unfold strD; rw [List.length_map]; rfl
        refine ⟨by rw [ll]; exact sz ht.1, trivial, ?_⟩
        unfold strD
        refine lc_each (ψ := fun c => D.bl (decide (c ∈ ("abcdefghijklmnopqrstuvwxyz" : Str).cps.toList))) _ _ (fun c acc ds' hc h => ?_) ?_
        · refine .inr ⟨c, _, rfl, rfl, ?_⟩
          exact ⟨trivial, h⟩
        rw [List.nil_append]
        intro p
        refine ⟨_, z.cps.toList.map low, rfl, ?_, ?_⟩
        · rw [show (z.cps.toList.map fun c => D.bl (decide (c ∈ ("abcdefghijklmnopqrstuvwxyz" : Str).cps.toList))) = (z.cps.toList.map low).map D.bl from by rw [List.map_map]; exact List.map_congr_left fun c _ => by rw [letters_low]; rfl]
          exact blsD_map _
        · have e : nameB z = (z.cps.toList.map low).all id := by
            unfold nameB
            rw [decide_eq_true (show 1 ≤ z.length by omega), decide_eq_true (show z.length ≤ 8 by omega), List.all_map]; rfl
          rw [e] at k
          exact k
    · have e : nameB z = false := no (by rw [decide_eq_false (show ¬ 1 ≤ z.length by omega), Bool.false_and])
      rw [e] at k; exact k
  | ins _ _ => cases ht
  | ty _ => cases ht
  | _ => exact k
theorem p_law_is_name {as Q QE} (h : sp_is_name as Q QE) : w__law_is_name (rho0 2 as) (bodyFl as Q QE) := by
  obtain ⟨d, rfl, ht, k⟩ := h
  cases d with
  | str z =>
    have k : Q (.val (.bl (nameB z))) [] := k
    refine ⟨sz ht.1, ?_⟩
    have no : ∀ {b : Bool}, b = false → (b && z.cps.toList.all low) = false := fun h => by rw [h]; rfl
    refine ite2d (fun h1 => ?_) (fun h1 => ?_)
    · refine ite2n (fun h2 => ?_) (fun h2 => ?_)
      · have e : nameB z = false := no (by rw [decide_eq_false (show ¬ z.length ≤ 8 by omega), Bool.and_false])
        rw [e] at k; exact k
      · have ll : (strD z).length = z.length := by unfold strD; rw [List.length_map]; rfl
        refine ⟨by rw [ll]; exact sz ht.1, trivial, ?_⟩
        unfold strD
        refine lc_keep (fun c => !low c) _ _ (fun c acc ds' hc hy hn => ?_) ?_
        · refine ⟨rfl, ?_⟩
          have hy : decide ((97 : Int) ≤ c) = false ∨ decide ((c : Int) ≤ 122) = false → _ := fun z => hy (by
            unfold low
            rcases z with z | z
            · rw [show decide (97 ≤ c) = false from decide_eq_false fun y => of_decide_eq_false z (by omega), Bool.false_and]; rfl
            · rw [show decide (c ≤ 122) = false from decide_eq_false fun y => of_decide_eq_false z (by omega), Bool.and_false]; rfl)
          refine ite2d (fun h3 => ?_) (fun h3 => ?_)
          · refine ite2n (fun h4 => ?_) (fun h4 => ?_)
            · exact ⟨trivial, hy (.inr (decide_eq_false h4))⟩
            · refine ⟨trivial, hn ?_⟩
              have h3 : (97 : Int) ≤ (c : Int) := h3
              have h4 : (c : Int) ≤ 122 := h4
              unfold low
              rw [decide_eq_true (show 97 ≤ c by omega), decide_eq_true (show c ≤ 122 by omega)]; rfl
          · exact ⟨trivial, hy (.inl (decide_eq_false h3))⟩
        rw [List.nil_append]
        intro p
        refine ⟨show (0 : Nat) ≤ sizeLine from by decide, fun p2 => ?_⟩
        have pz : pl 1 (.lst ((z.cps.toList.filter fun c => !low c).map fun c => D.str ⟨#[c]⟩)) = true := by
          refine List.all_eq_true.mpr fun d hd => ?_
          obtain ⟨c, hc, rfl⟩ := List.mem_map.mp hd
          have := okS_chars ht c (List.mem_filter.mp hc).1
          show PyData.strOk ⟨#[c]⟩ = true
          unfold PyData.strOk
          simp [this]
        refine ⟨pl_okEq pz (by decide), by decide, ?_⟩
        have e : eqD (.lst ((z.cps.toList.filter fun c => !low c).map fun c => D.str ⟨#[c]⟩)) (.lst []) = nameB z := by
          unfold nameB
          rw [decide_eq_true (show 1 ≤ z.length by omega), decide_eq_true (show z.length ≤ 8 by omega)]
          show _ = z.cps.toList.all low
          rw [Bool.eq_iff_iff, pl_eqD (n := 1) (m := 1) pz rfl]
          constructor
          · intro h
            refine List.all_eq_true.mpr fun c hc => ?_
            by_cases hl : low c = true
            · exact hl
            · have : c ∈ z.cps.toList.filter fun c => !low c := List.mem_filter.mpr ⟨hc, by rw [Bool.eq_false_iff.mpr hl]; rfl⟩
              have h := D.lst.inj h
              rw [List.map_eq_nil_iff.mp h] at this
              exact (List.not_mem_nil this).elim
          · intro h
            have : z.cps.toList.filter (fun c => !low c) = [] := List.filter_eq_nil_iff.mpr fun c hc => by rw [List.all_eq_true.mp h c hc]; decide
            rw [this]; rfl
        rw [← e] at k
        exact k
    · have e : nameB z = false := no (by rw [decide_eq_false (show ¬ 1 ≤ z.length by omega), Bool.false_and])
      rw [e] at k; exact k
  | ins _ _ => cases ht
  | ty _ => cases ht
  | _ => exact k
end K01

namespace K01
open PySem L2 Z
theorem len_app (a b : Str) : (a ++ b).length = a.length + b.length := Array.size_append
theorem okS_app {n m : Nat} {a b : Str} (h1 : okS n a) (h2 : okS m b) : okS (n + m) (a ++ b) := by
  refine ⟨by rw [len_app]; have := h1.1; have := h2.1; omega, ?_⟩
  show (a.cps ++ b.cps).all _ = true
  rw [Array.all_append]
  exact Bool.and_eq_true_iff.mpr ⟨h1.2, h2.2⟩
theorem okS_list {n : Nat} {z : Str} : okS n z ↔ z.cps.toList.length ≤ n ∧ ∀ c ∈ z.cps.toList, c < 1114112 := by
  constructor
  · intro h; exact ⟨h.1, okS_chars h⟩
  · intro h
    refine ⟨h.1, ?_⟩
    show z.cps.all _ = true
    rw [← Array.all_toList]
    exact List.all_eq_true.mpr fun c hc => decide_eq_true (h.2 c hc)
theorem okS_cut {n : Nat} {z : Str} (h : okS n z) (lo hi : Option Int) : okS n (cutS z lo hi) := by
  rw [okS_list] at h ⊢
  unfold cutS
  refine ⟨?_, fun c hc => h.2 c (List.mem_of_mem_drop (List.mem_of_mem_take hc))⟩
  show (List.take _ (List.drop _ z.cps.toList)).length ≤ n
  rw [List.length_take, List.length_drop]
  have := h.1
  omega
theorem up_low : ∀ c < 123, 97 ≤ c → Unicode.upperOf c = [c - 32] := by decide +kernel
theorem upper_list {z : Str} (h : z.cps.toList.all low = true) : (Txt.upper z).cps.toList = z.cps.toList.map fun c => c - 32 := by
  have hl : ∀ c ∈ z.cps.toList, Unicode.upperOf c = [c - 32] := fun c hc => by
    have := List.all_eq_true.mp h c hc
    unfold low at this
    rw [Bool.and_eq_true, decide_eq_true_iff, decide_eq_true_iff] at this
    exact up_low c (by omega) this.1
  have e : (z.cps.mapIdx fun i c => (Unicode.upperOf c).toArray) = z.cps.map fun c => #[c - 32] := by
    apply Array.ext
    · simp
    · intro i h1 h2
      simp only [Array.getElem_mapIdx, Array.getElem_map]
      rw [hl _ (Array.mem_toList_iff.mpr (Array.getElem_mem _))]
  show ((z.cps.mapIdx fun i c => (Unicode.upperOf c).toArray).flatten).toList = _
  rw [e]
  rw [Array.toList_flatten, Array.toList_map]
  generalize z.cps.toList = l
  induction l with
  | nil => rfl
  | cons a l ih => show (a - 32) :: _ = _; rw [List.map_cons, ← ih]; rfl
theorem name_ok {z : Str} (h : isName z) : okS 8 z := by
  rw [okS_list]
  refine ⟨h.1, fun c hc => ?_⟩
  have := List.all_eq_true.mp h.2.2 c hc
  unfold low at this
  rw [Bool.and_eq_true, decide_eq_true_iff, decide_eq_true_iff] at this
  omega
theorem okS_le {n m : Nat} {z : Str} (h : okS n z) (l : n ≤ m) : okS m z := ⟨Nat.le_trans h.1 l, h.2⟩
theorem upper_ok {z : Str} (h : isName z) : okS 8 (Txt.upper z) := by
  rw [okS_list, upper_list h.2.2]
  have := okS_list.mp (name_ok h)
  refine ⟨by rw [List.length_map]; exact this.1, fun c hc => ?_⟩
  obtain ⟨x, hx, rfl⟩ := List.mem_map.mp hc
  have := this.2 x hx
  omega
theorem p_law_near {as Q QE} (h : sp_law_near as Q QE) : w__law_near (rho0 5 as) (bodyFl as Q QE) := by
  obtain ⟨p, rl, z, rfl, hr, hz, k⟩ := h
  have o8 := name_ok hz
  refine ⟨sz (Nat.le_trans hz.1 (by decide)), ?_⟩
  refine ⟨_, _, _, rfl, hr, by have := hz.1; omega, by
    exact log2_small (n := z.length + 1) (by have := hz.1; omega), fun a rl hr a0 a1 => ?_⟩
  refine nm5 ?_
  refine ⟨show (13 : Nat) ≤ sizeLine from by decide, fun p1 => ?_⟩
  refine ⟨_, _, _, _, rfl, hr, rfl, List.cons_ne_nil _ _, (by decide : 13 ≤ 1000), fun x rl hr hx => ?_⟩
  obtain ⟨y, rfl, hy⟩ : ∃ y, x = .str y ∧ okS 1 y := by
    simp only [List.mem_cons, List.not_mem_nil, or_false] at hx
    rcases hx with rfl | rfl | rfl | rfl | rfl | rfl | rfl | rfl | rfl | rfl | rfl | rfl | rfl <;> exact ⟨_, rfl, by decide +kernel, by decide +kernel⟩
  refine nm5 ?_
  have s8 : ∀ {w : Str} {n}, okS n w → n ≤ 1000 → w.length ≤ sizeLine := fun h l => sz (Nat.le_trans h.1 l)
  have s2 : ∀ {w v : Str} {n m}, okS n w → okS m v → n + m ≤ 1000 → w.length + v.length ≤ sizeLine := fun h h2 l => sz (by have := h.1; have := h2.1; omega)
  have c1 := okS_cut o8 none (some a)
  have c2 := okS_cut o8 (some a) none
  have c3 := okS_cut o8 (some 1) none
  have c4 := okS_cut o8 none (some (-1))
  refine ⟨s8 o8 (by decide), ?_⟩
  refine ⟨s2 c1 hy (by decide), ?_⟩
  refine ⟨s8 o8 (by decide), ?_⟩
  refine ⟨s2 (okS_app c1 hy) c2 (by decide), ?_⟩
  refine ⟨Nat.le_trans o8.1 (by decide), ?_⟩
  refine ⟨s2 o8 o8 (by decide), ?_⟩
  refine ⟨show (1 : Nat) ≤ sizeLine from by decide, ?_⟩
  refine ⟨show (1 : Nat) ≤ sizeLine from by decide, fun p2 => ?_⟩
  refine ⟨s8 o8 (by decide), ?_⟩
  refine ⟨s8 o8 (by decide), ?_⟩
  refine ⟨show (9 : Nat) ≤ sizeLine from by decide, fun p3 => ?_⟩
  refine nm5 ?_
  have t8 : okS 8 "aaaaaaaa" := ⟨by decide +kernel, by decide +kernel⟩
  have tn : okS 1 "\n" := ⟨by decide +kernel, by decide +kernel⟩
  have t1 : okS 1 "1" := ⟨by decide +kernel, by decide +kernel⟩
  have t0 : okS 1 "" := ⟨by decide +kernel, by decide +kernel⟩
  refine ⟨s2 o8 t8 (by decide), ?_⟩
  refine ⟨_, rfl, fun p4 => ?_⟩
  refine ⟨s2 o8 tn (by decide), ?_⟩
  refine ⟨s2 tn o8 (by decide), ?_⟩
  refine ⟨s8 o8 (by decide), ?_⟩
  refine ⟨s2 c4 t1 (by decide), ?_⟩
  refine ⟨show (6 : Nat) ≤ sizeLine from by decide, fun p5 => ?_⟩
  refine ⟨show (9 + 6 : Nat) ≤ sizeLine from by decide, fun p6 => ?_⟩
  refine ⟨_, _, _, _, rfl, hr, rfl, List.cons_ne_nil _ _, (by decide : 15 ≤ 1000), fun x rl hr hx => ?_⟩
  refine ⟨rfl, ?_⟩
  refine k _ _ hr ?_
  simp only [List.mem_append, List.mem_cons, List.not_mem_nil, or_false] at hx
  have le : ∀ {n w}, okS n w → n ≤ 1000 → okV (.str w) := fun h l => okS_le h l
  rcases hx with (rfl | rfl | rfl | rfl | rfl | rfl | rfl | rfl | rfl) | rfl | rfl | rfl | rfl | rfl | rfl
  · exact le (okS_app (okS_app c1 hy) c2) (by decide)
  · exact le (upper_ok hz) (by decide)
  · exact le (okS_app o8 o8) (by decide)
  · rfl
  · rfl
  · rfl
  · rfl
  · exact le t0 (by decide)
  · exact le c3 (by decide)
  · exact le (okS_app o8 t8) (by decide)
  · rfl
  · exact le (okS_app o8 tn) (by decide)
  · exact le (okS_app tn o8) (by decide)
  · rfl
  · exact le (okS_app c4 t1) (by decide)
theorem joinL_nil : ∀ cs : List Nat, TL.joinL [] (cs.map fun c => [c]) = cs
  | [] => rfl
  | [c] => rfl
  | c :: d :: r => by
    show [c] ++ ([] ++ TL.joinL [] ((d :: r).map fun c => [c])) = _
    rw [joinL_nil (d :: r)]; rfl
theorem join_list (cs : List Nat) : (Txt.join "" (cs.map fun c => (⟨#[c]⟩ : Str))).cps.toList = cs := by
  rw [show Txt.join "" (cs.map fun c => (⟨#[c]⟩ : Str)) = Str.join "" (cs.map fun c => (⟨#[c]⟩ : Str)) from PySem.StrLaws.glued_eq_join _ _]
  rw [show (Str.join "" (cs.map fun c => (⟨#[c]⟩ : Str))).cps.toList = _ from TL.tl_join "" _, List.map_map]
  exact joinL_nil cs
theorem p_law_name {as Q QE} (h : sp_law_name as Q QE) : w__law_name (rho0 3 as) (bodyFl as Q QE) := by
  obtain ⟨p, rl, rfl, hr, k⟩ := h
  refine nm3 ?_
  refine ⟨show (6 : Nat) ≤ sizeLine from by decide, fun p1 => ?_⟩
  refine ⟨_, _, _, _, rfl, hr, rfl, List.cons_ne_nil _ _, (by decide : 6 ≤ 1000), fun x rl hr hx => ?_⟩
  obtain ⟨n, rfl, hn⟩ : ∃ n : Nat, x = .int (n : Int) ∧ 1 ≤ n ∧ n ≤ 8 := by
    simp at hx
    rcases hx with rfl | rfl | rfl | rfl | rfl
    · exact ⟨1, rfl, by decide, by decide⟩
    · exact ⟨2, rfl, by decide, by decide⟩
    · exact ⟨3, rfl, by decide, by decide⟩
    · exact ⟨7, rfl, by decide, by decide⟩
    · exact ⟨8, rfl, by decide, by decide⟩
  refine ⟨⟨by omega, by omega⟩, ?_⟩
  refine ⟨by rw [rngD_len]; exact sz (by omega), trivial, ?_⟩
  refine lc_rel (fun ds acc r => ∃ rl cs, acc = cs.map (fun c => D.str ⟨#[c]⟩) ∧ cs.all low = true ∧ cs.length + ds.length = n ∧ Reel rl ∧ r = [.own p rl, .sh (.str "abcdefghijklmnopqrstuvwxyz"), .no]) _ _ _ ⟨rl, [], rfl, rfl, by rw [rngD_len, List.length_nil]; omega, hr, rfl⟩ ?_ ?_
  · rintro d ds acc r ⟨rl, cs, rfl, hc, hl, hr, rfl⟩ go
    refine ⟨_, _, _, strD "abcdefghijklmnopqrstuvwxyz", rfl, hr, rfl, ?_, ?_, fun x rl hr hx => ?_⟩
    · intro e; have : (strD "abcdefghijklmnopqrstuvwxyz").length = 0 := by rw [e]; rfl
      exact absurd this (by decide +kernel)
    · decide +kernel
    obtain ⟨c, hc2, rfl⟩ := List.mem_map.mp hx
    have lc : low c = true := by rw [← letters_low]; exact decide_eq_true hc2
    refine ⟨trivial, go _ _ ⟨rl, cs ++ [c], by rw [List.map_append]; rfl, by rw [List.all_append, hc]; simp [lc], by rw [List.length_append, List.length_singleton]; rw [List.length_cons] at hl; omega, hr, rfl⟩⟩
  rintro acc r ⟨rl, cs, rfl, hc, hl, hr, rfl⟩
  intro p2
  have hl : cs.length = n := by rw [List.length_nil] at hl; omega
  refine ⟨_, cs.map fun c => (⟨#[c]⟩ : Str), rfl, ?_, ?_, ?_⟩
  · rw [show (cs.map fun c => D.str ⟨#[c]⟩) = (cs.map fun c => (⟨#[c]⟩ : Str)).map D.str from by rw [List.map_map]; rfl]
    exact strsD_map _
  · rw [List.map_map, show ((fun (x : Str) => x.length) ∘ fun c => (⟨#[c]⟩ : Str)) = fun _ => 1 from rfl, List.length_map]
    have e : ∀ l : List Nat, (l.map fun _ => 1).sum = l.length := fun l => by
      induction l with
      | nil => rfl
      | cons a l ih => rw [List.map_cons, List.sum_cons, ih, List.length_cons]; omega
    rw [e, show ("" : Str).length = 0 from by decide +kernel]
    omega
  refine ⟨rfl, ?_⟩
  refine k _ _ hr ⟨?_, ?_, ?_⟩
  · show (Txt.join "" (cs.map fun c => (⟨#[c]⟩ : Str))).cps.toList.length ≤ 8
    rw [join_list]; omega
  · show 1 ≤ (Txt.join "" (cs.map fun c => (⟨#[c]⟩ : Str))).cps.toList.length
    rw [join_list]; omega
  · rw [join_list]; exact hc
end K01

namespace K01
open PySem L2 Z
theorem num_len (n : Nat) : ((toString ((n : Nat) : Int) : String) : Str).length ≤ 12 ↔ n < 10 ^ 12 := by
  rw [PySem.ofString_length]
  show (Nat.repr n).length ≤ 12 ↔ _
  exact Nat.length_repr_le_iff (by decide)
theorem num_sz (n : Nat) (h : n < 10 ^ 31) : ((toString ((n : Nat) : Int) : String) : Str).length ≤ sizeLine := by
  rw [PySem.ofString_length]
  show (Nat.repr n).length ≤ _
  exact Nat.le_trans ((Nat.length_repr_le_iff (by decide)).mpr h) (by decide)
theorem num_szI (i : Int) (h : -(2 ^ 100) < i ∧ i < 2 ^ 100) : ((toString (if i < 0 then -i else i) : String) : Str).length ≤ sizeLine := by
  obtain ⟨n, hn⟩ := Int.eq_ofNat_of_zero_le (show 0 ≤ (if i < 0 then -i else i) by split <;> omega)
  rw [hn]
  refine num_sz n (Nat.lt_of_lt_of_le (show n < 2 ^ 100 by split at hn <;> omega) (by decide +kernel))
theorem log_of_lt {n k : Nat} (h : n < 2 ^ 100) : n.log2 < 1920 := by
  by_cases h0 : n = 0
  · subst h0; decide
  · exact (Nat.log2_lt h0).mpr (Nat.lt_of_lt_of_le h (Nat.pow_le_pow_right (by decide) (by decide)))
theorem int_row {i : Int} (h : -(2 ^ 100) < i ∧ i < 2 ^ 100) : isIn (.int i) = decide ((((toString (if i < 0 then -i else i) : String) : Str).length : Int) ≤ 12) := by
  obtain ⟨n, hn⟩ := Int.eq_ofNat_of_zero_le (show 0 ≤ (if i < 0 then -i else i) by split <;> omega)
  rw [hn]
  have key := num_len n
  show (decide (-1000000000000 < i) && decide (i < 1000000000000)) = decide ((((toString ((n : Nat) : Int) : String) : Str).length : Int) ≤ 12)
  have e12 : (10 : Nat) ^ 12 = 1000000000000 := by decide
  rw [e12] at key
  rw [Bool.eq_iff_iff, Bool.and_eq_true, decide_eq_true_iff, decide_eq_true_iff, decide_eq_true_iff]
  split at hn <;> omega
theorem reprs {a b : Bool} (h : a = b) : (if a then ("True" : Str) else "False") = (if b then ("True" : Str) else "False") := by rw [h]
theorem repr_pl (b : Bool) : pl 0 (.str (if b then "True" else "False")) = true := by cases b <;> decide +kernel
theorem p_law_cell_right {as Q QE} (h : sp_law_cell_right as Q QE) : w__law_cell_right (rho0 6 as) (bodyFl as Q QE) := by
  obtain ⟨p, rl, rfl, hr, k⟩ := h
  refine ⟨p, rl, rfl, hr, fun z rl hr hz => ?_⟩
  refine nm6 ?_
  refine ⟨⟨by decide, by decide⟩, ?_⟩
  refine ⟨trivial, ?_⟩
  refine for_inv (fun r => ∃ rl x y, Reel rl ∧ r = [.own p rl, .sh (.str z), x, y, .no, .no]) _ _ ⟨rl, _, _, hr, rfl⟩ ?_ ?_
  · rintro d ds' r hd ⟨rl, x, y, hr, rfl⟩ go
    obtain ⟨i, rfl, i0, i1⟩ := mem_rngD hd
    refine ite2d (fun h => ?_) (fun h => ?_)
    · refine ⟨p, rl, z, rfl, hr, hz, fun d rl hr hd => ?_⟩
      refine nm6 ?_
      refine ⟨_, rfl, hd, ?_⟩
      refine ⟨_, rfl, hd, ?_⟩
      refine ⟨pl_okEq (repr_pl _) (by decide), pl_okEq (repr_pl _) (by decide), ?_⟩
      refine iteNeD (repr_pl _) (repr_pl _) (fun h => absurd rfl h) (fun _ => ?_)
      exact ⟨trivial, go _ ⟨rl, _, _, hr, rfl⟩⟩
    · refine nm6 ?_
      have hd : okV (.str z) := okS_le (name_ok hz) (by decide)
      refine ⟨_, rfl, hd, ?_⟩
      refine ⟨_, rfl, hd, ?_⟩
      refine ⟨pl_okEq (repr_pl _) (by decide), pl_okEq (repr_pl _) (by decide), ?_⟩
      refine iteNeD (repr_pl _) (repr_pl _) (fun h => absurd rfl h) (fun _ => ?_)
      exact ⟨trivial, go _ ⟨rl, _, _, hr, rfl⟩⟩
  rintro r ⟨rl, x, y, hr, rfl⟩
  refine nm6 ?_
  refine ⟨cpow_small (by decide +kernel), ?_⟩
  refine ⟨_, _, _, rfl, hr, by decide, by decide +kernel, fun m0 rl hr m1 m2 => ?_⟩
  refine ⟨cpow_small (by decide +kernel), ?_⟩
  refine ⟨show (5 : Nat) ≤ sizeLine from by decide, fun p2 => ?_⟩
  refine ⟨_, _, _, _, rfl, hr, rfl, List.cons_ne_nil _ _, (by decide : 5 ≤ 1000), fun x rl hr hx => ?_⟩
  obtain ⟨f, rfl, hf⟩ : ∃ f : Int, x = .int f ∧ -10 ≤ f ∧ f ≤ 1000000 := by
    simp at hx
    rcases hx with rfl | rfl | rfl | rfl | rfl <;> exact ⟨_, rfl, by decide, by decide⟩
  refine ⟨mul64r (by omega), ?_⟩
  have m2 : m0 < 1000000000000 := m2
  have hm : -10000000000000 ≤ m0 * f ∧ m0 * f ≤ 1000000000000000000 := by
    have a := Int.mul_le_mul_of_nonneg_left hf.1 m1
    have b := Int.mul_le_mul_of_nonneg_left hf.2 m1
    omega
  generalize m0 * f = many at hm ⊢
  refine nm6 ?_
  refine ⟨show (3 : Nat) ≤ sizeLine from by decide, fun p3 => ?_⟩
  refine ⟨trivial, ?_⟩
  refine for_inv (fun r => ∃ y, r = [.own p rl, .sh (.str z), _, y, .sh (.int many), .no]) _ _ ⟨_, rfl⟩ ?_ ?_
  · rintro d ds' r hd ⟨y, rfl⟩ go
    obtain ⟨i, rfl, hi⟩ : ∃ i : Int, d = .int i ∧ -(2 ^ 90) < i ∧ i < 2 ^ 90 := by
      simp only [List.mem_cons, List.not_mem_nil, or_false] at hd
      rcases hd with rfl | rfl | rfl <;> exact ⟨_, rfl, by omega, by omega⟩
    refine ⟨_, rfl, rfl, ?_⟩
    refine ⟨log_of_lt (k := 0) (by split <;> omega), ?_⟩
    have er := int_row (i := i) ⟨by omega, by omega⟩
    refine ⟨num_szI i ⟨by omega, by omega⟩, ?_⟩
    refine ⟨pl_okEq (repr_pl _) (by decide), pl_okEq (repr_pl _) (by decide), ?_⟩
    refine iteNeD (repr_pl _) (repr_pl _) (fun h => absurd (congrArg D.str (reprs er)) h) (fun _ => ?_)
    exact ⟨trivial, go _ ⟨_, rfl⟩⟩
  rintro r ⟨y, rfl⟩
  refine nm6 ?_
  refine ⟨log_of_lt (k := 0) (by omega), ?_⟩
  refine ⟨show (1 : Nat) ≤ sizeLine from by decide, ?_⟩
  refine ⟨show (1 : Nat) ≤ sizeLine from by decide, fun p4 => ?_⟩
  intro p5
  refine ⟨_, rfl, fun p6 => ?_⟩
  refine ⟨show (0 : Nat) ≤ sizeLine from by decide, ?_⟩
  refine ⟨show (10 : Nat) ≤ sizeLine from by decide, fun p7 => ?_⟩
  refine ⟨_, _, _, _, rfl, hr, rfl, List.cons_ne_nil _ _, (by decide : 10 ≤ 1000), fun x rl hr hx => ?_⟩
  refine nm6 ?_
  have hx : (tyName x).isSome = true ∧ isIn x = false := by
    simp only [List.mem_cons, List.not_mem_nil, or_false] at hx
    rcases hx with rfl | rfl | rfl | rfl | rfl | rfl | rfl | rfl | rfl | rfl <;> exact ⟨rfl, rfl⟩
  refine ⟨_, rfl, hx.1, ?_⟩
  rw [hx.2]
  exact ⟨rfl, k _⟩
theorem p_law {as Q QE} (h : sp_law as Q QE) : w_law (rho0 4 as) (bodyFl as Q QE) := by
  obtain ⟨ns, rfl, hl, k⟩ := h
  refine ⟨⟨by split <;> split <;> omega, by split <;> split <;> omega⟩, ?_⟩
  refine ⟨trivial, ?_⟩
  refine for_inv (fun r => ∃ x, r = [.sh (.rol (ns.map D.int)), x, .no, .no]) _ _ ⟨_, rfl⟩ ?_ ?_
  · rintro d ds' r hd ⟨x, rfl⟩ h
    obtain ⟨i, rfl, i0, i1⟩ := mem_rngD hd
    have i2 : i ≤ 1000 := by
      have : ∀ a : Int, (if (if a < 8 then a else 8) > 1 then (if a < 8 then a else 8) else 1) ≤ 8 := fun a => by split <;> split <;> omega
      have := this ((ns.map D.int).length : Int)
      omega
    refine ⟨ns, i, rfl, i0, i2, fun rl hr => fun p => ?_⟩
    refine ⟨_, _, rfl, hr, fun rl' => ?_⟩
    exact ⟨trivial, h _ ⟨_, rfl⟩⟩
  rintro r ⟨x, rfl⟩
  refine nm4 ?_
  refine ⟨show (8 : Nat) ≤ sizeLine from by decide, fun p => ?_⟩
  refine ⟨show (8 : Nat) ≤ sizeLine from by decide, trivial, ?_⟩
  refine lc_each (φ := D.str) (ψ := fun z => D.bl (nameB z)) (["a", "abcdefgh", "abcdefghi", "", "A", "a1", "a b", "item\n"] : List Str) _ (fun z acc ds' hz h => ?_) ?_
  · refine ⟨_, rfl, ?_, ?_⟩
    · have : ∀ z ∈ (["a", "abcdefgh", "abcdefghi", "", "A", "a1", "a b", "item\n"] : List Str), okS 1000 z := by unfold okS; decide +kernel
      exact this z hz
    · exact ⟨trivial, h⟩
  rw [List.nil_append]
  intro p2
  have e1 : (["a", "abcdefgh", "abcdefghi", "", "A", "a1", "a b", "item\n"] : List Str).map (fun z => D.bl (nameB z)) = [true, true, false, false, false, false, false, false].map D.bl := by
    have : (["a", "abcdefgh", "abcdefghi", "", "A", "a1", "a b", "item\n"] : List Str).map nameB = [true, true, false, false, false, false, false, false] := by decide +kernel
    rw [← this, List.map_map]; rfl
  rw [e1]
  refine nm4 ?_
  refine ⟨cpow_small (by decide +kernel), ?_⟩
  refine ⟨_, rfl, rfl, ?_⟩
  refine ⟨cpow_small (by decide +kernel), ?_⟩
  refine ⟨_, rfl, rfl, ?_⟩
  refine ⟨cpow_small (by decide +kernel), ?_⟩
  refine ⟨_, rfl, rfl, ?_⟩
  refine ⟨cpow_small (by decide +kernel), ?_⟩
  refine ⟨_, rfl, rfl, ?_⟩
  rw [show isIn (.int ((10 : Int) ^ (12 : Int).toNat - 1)) = true from by decide +kernel, show isIn (.int ((10 : Int) ^ (12 : Int).toNat)) = false from by decide +kernel, show isIn (.int (1 - (10 : Int) ^ (12 : Int).toNat)) = true from by decide +kernel, show isIn (.int (-(10 : Int) ^ (12 : Int).toNat)) = false from by decide +kernel]
  refine ⟨show (4 : Nat) ≤ sizeLine from by decide, fun p3 => ?_⟩
  refine ⟨show (12 : Nat) ≤ sizeLine from by decide, fun p4 => ?_⟩
  refine nm4 ?_
  refine ⟨show (12 : Nat) ≤ sizeLine from by decide, fun p5 => ?_⟩
  refine ⟨by decide +kernel, by decide +kernel, ?_⟩
  exact k
end K01

namespace K01
open PySem L2 Z
open PyProof.Rows (envOfC)
theorem all_mk {l : PySem.W.OpenLaw} {w : World} {K : PySem.W.Frag} {h : Heap} {mg : Str → Option Value} {fa f0 f1 f2 f3 f4 f5 f6 f7 f8 f9 : Addr} {t_LETTERS t_LIMIT t_MAX_NAME : Tok} (X : K.In h) (G : h.Ns mainGlobals mg) (hfa : mg "law" = some (.ref fa))
    {od0 an0 od1 an1 od2 an2 od3 an3 od4 an4 od5 an5 od6 an6 od7 an7 od8 an8 od9 an9 : Option Addr} {sl0 sl1 sl2 sl3 sl4 sl5 sl6 sl7 sl8 sl9 : Array (Option Value)} {oc0 kV0 dc0 pm0 cd0 ct0 oc1 kV1 dc1 pm1 cd1 ct1 oc2 kV2 dc2 pm2 cd2 ct2 oc3 kV3 dc3 pm3 cd3 ct3 oc4 kV4 dc4 pm4 cd4 ct4 oc5 kV5 dc5 pm5 cd5 ct5 oc6 kV6 dc6 pm6 cd6 ct6 oc7 kV7 dc7 pm7 cd7 ct7 oc8 kV8 dc8 pm8 cd8 ct8 oc9 kV9 dc9 pm9 cd9 ct9 : Value}
    (a0 : PySem.W.nsIn K mainGlobals "is_name" = some (some (.ref f0))) (l0 : K.lookup f0 = some ⟨oc0, od0, .func (PySem.W.fnOf "is_name" "is_name" (defArgs s_is_name) (defBody s_is_name) (defScope s_is_name) .none kV0 dc0 pm0 an0 cd0 ct0), sl0⟩) (c0 : PySem.W.codeIn K cd0 "is_name" = true) (k0 : PySem.W.keepIn K (.ref f0) = true)
(a1 : PySem.W.nsIn K mainGlobals "_law_spin" = some (some (.ref f1))) (l1 : K.lookup f1 = some ⟨oc1, od1, .func (PySem.W.fnOf "_law_spin" "_law_spin" (defArgs s__law_spin) (defBody s__law_spin) (defScope s__law_spin) .none kV1 dc1 pm1 an1 cd1 ct1), sl1⟩) (c1 : PySem.W.codeIn K cd1 "_law_spin" = true) (k1 : PySem.W.keepIn K (.ref f1) = true)
(a2 : PySem.W.nsIn K mainGlobals "_law_pick" = some (some (.ref f2))) (l2 : K.lookup f2 = some ⟨oc2, od2, .func (PySem.W.fnOf "_law_pick" "_law_pick" (defArgs s__law_pick) (defBody s__law_pick) (defScope s__law_pick) .none kV2 dc2 pm2 an2 cd2 ct2), sl2⟩) (c2 : PySem.W.codeIn K cd2 "_law_pick" = true) (k2 : PySem.W.keepIn K (.ref f2) = true)
(a3 : PySem.W.nsIn K mainGlobals "_law_name" = some (some (.ref f3))) (l3 : K.lookup f3 = some ⟨oc3, od3, .func (PySem.W.fnOf "_law_name" "_law_name" (defArgs s__law_name) (defBody s__law_name) (defScope s__law_name) .none kV3 dc3 pm3 an3 cd3 ct3), sl3⟩) (c3 : PySem.W.codeIn K cd3 "_law_name" = true) (k3 : PySem.W.keepIn K (.ref f3) = true)
(a4 : PySem.W.nsIn K mainGlobals "is_integer" = some (some (.ref f4))) (l4 : K.lookup f4 = some ⟨oc4, od4, .func (PySem.W.fnOf "is_integer" "is_integer" (defArgs s_is_integer) (defBody s_is_integer) (defScope s_is_integer) .none kV4 dc4 pm4 an4 cd4 ct4), sl4⟩) (c4 : PySem.W.codeIn K cd4 "is_integer" = true) (k4 : PySem.W.keepIn K (.ref f4) = true)
(a5 : PySem.W.nsIn K mainGlobals "_law_near" = some (some (.ref f5))) (l5 : K.lookup f5 = some ⟨oc5, od5, .func (PySem.W.fnOf "_law_near" "_law_near" (defArgs s__law_near) (defBody s__law_near) (defScope s__law_near) .none kV5 dc5 pm5 an5 cd5 ct5), sl5⟩) (c5 : PySem.W.codeIn K cd5 "_law_near" = true) (k5 : PySem.W.keepIn K (.ref f5) = true)
(a6 : PySem.W.nsIn K mainGlobals "_law_is_name" = some (some (.ref f6))) (l6 : K.lookup f6 = some ⟨oc6, od6, .func (PySem.W.fnOf "_law_is_name" "_law_is_name" (defArgs s__law_is_name) (defBody s__law_is_name) (defScope s__law_is_name) .none kV6 dc6 pm6 an6 cd6 ct6), sl6⟩) (c6 : PySem.W.codeIn K cd6 "_law_is_name" = true) (k6 : PySem.W.keepIn K (.ref f6) = true)
(a7 : PySem.W.nsIn K mainGlobals "_law_cell_right" = some (some (.ref f7))) (l7 : K.lookup f7 = some ⟨oc7, od7, .func (PySem.W.fnOf "_law_cell_right" "_law_cell_right" (defArgs s__law_cell_right) (defBody s__law_cell_right) (defScope s__law_cell_right) .none kV7 dc7 pm7 an7 cd7 ct7), sl7⟩) (c7 : PySem.W.codeIn K cd7 "_law_cell_right" = true) (k7 : PySem.W.keepIn K (.ref f7) = true)
(a8 : PySem.W.nsIn K mainGlobals "_law_reel" = some (some (.ref f8))) (l8 : K.lookup f8 = some ⟨oc8, od8, .func (PySem.W.fnOf "_law_reel" "_law_reel" (defArgs s__law_reel) (defBody s__law_reel) (defScope s__law_reel) .none kV8 dc8 pm8 an8 cd8 ct8), sl8⟩) (c8 : PySem.W.codeIn K cd8 "_law_reel" = true) (k8 : PySem.W.keepIn K (.ref f8) = true)
(a9 : PySem.W.nsIn K mainGlobals "law" = some (some (.ref f9))) (l9 : K.lookup f9 = some ⟨oc9, od9, .func (PySem.W.fnOf "law" "law" (defArgs s_law) (defBody s_law) (defScope s_law) .none kV9 dc9 pm9 an9 cd9 ct9), sl9⟩) (c9 : PySem.W.codeIn K cd9 "law" = true) (k9 : PySem.W.keepIn K (.ref f9) = true)
(n_abs : PySem.W.nsIn K mainGlobals "abs" = some none)
(n_all : PySem.W.nsIn K mainGlobals "all" = some none)
(n_bool : PySem.W.nsIn K mainGlobals "bool" = some none)
(n_int : PySem.W.nsIn K mainGlobals "int" = some none)
(n_isinstance : PySem.W.nsIn K mainGlobals "isinstance" = some none)
(n_len : PySem.W.nsIn K mainGlobals "len" = some none)
(n_max : PySem.W.nsIn K mainGlobals "max" = some none)
(n_min : PySem.W.nsIn K mainGlobals "min" = some none)
(n_ord : PySem.W.nsIn K mainGlobals "ord" = some none)
(n_range : PySem.W.nsIn K mainGlobals "range" = some none)
(n_repr : PySem.W.nsIn K mainGlobals "repr" = some none)
(n_str : PySem.W.nsIn K mainGlobals "str" = some none)
(c_LETTERS : PySem.W.nsIn K mainGlobals "LETTERS" = some (some (.str "abcdefghijklmnopqrstuvwxyz" t_LETTERS)))
(c_LIMIT : PySem.W.nsIn K mainGlobals "LIMIT" = some (some (.int (1000000000000) t_LIMIT)))
(c_MAX_NAME : PySem.W.nsIn K mainGlobals "MAX_NAME" = some (some (.int (8) t_MAX_NAME))) :
    ∃ fd : FuncData, (∀ (s : Shared) (v : Value), BindsTo s fd ⟨[v], []⟩ [("script", v)]) ∧ ∀ base : Heap, K.In base → base.Ns mainGlobals mg → FnOk l.prog w K mg base (L2.CX l.prog w) 5 fa fd ["script"] (spLaw K) := by
  have e := hfa.symm.trans (PySem.W.mg_of X G a9)
  cases e
  have T : Txt K mg := ⟨PySem.W.mg_none_of X G n_abs, PySem.W.mg_none_of X G n_all, PySem.W.mg_none_of X G n_bool, PySem.W.mg_none_of X G n_int, PySem.W.mg_none_of X G n_isinstance, PySem.W.mg_none_of X G n_len, PySem.W.mg_none_of X G n_max, PySem.W.mg_none_of X G n_min, PySem.W.mg_none_of X G n_ord, PySem.W.mg_none_of X G n_range, PySem.W.mg_none_of X G n_repr, PySem.W.mg_none_of X G n_str, ⟨t_LETTERS, PySem.W.mg_of X G c_LETTERS⟩, ⟨t_LIMIT, PySem.W.mg_of X G c_LIMIT⟩, ⟨t_MAX_NAME, PySem.W.mg_of X G c_MAX_NAME⟩⟩
  have F0 := fun_mk (st := s_is_name) l0 c0 k0
  have B0 := F0.binds (ps := ["value"]) fun _ _ _ _ _ _ us hl => match us, hl with | [_], _ => rfl
  have F1 := fun_mk (st := s__law_spin) l1 c1 k1
  have B1 := F1.binds (ps := ["reel", "total"]) fun _ _ _ _ _ _ us hl => match us, hl with | [_, _], _ => rfl
  have F2 := fun_mk (st := s__law_pick) l2 c2 k2
  have B2 := F2.binds (ps := ["reel", "items"]) fun _ _ _ _ _ _ us hl => match us, hl with | [_, _], _ => rfl
  have F3 := fun_mk (st := s__law_name) l3 c3 k3
  have B3 := F3.binds (ps := ["reel"]) fun _ _ _ _ _ _ us hl => match us, hl with | [_], _ => rfl
  have F4 := fun_mk (st := s_is_integer) l4 c4 k4
  have B4 := F4.binds (ps := ["value"]) fun _ _ _ _ _ _ us hl => match us, hl with | [_], _ => rfl
  have F5 := fun_mk (st := s__law_near) l5 c5 k5
  have B5 := F5.binds (ps := ["reel", "name"]) fun _ _ _ _ _ _ us hl => match us, hl with | [_, _], _ => rfl
  have F6 := fun_mk (st := s__law_is_name) l6 c6 k6
  have B6 := F6.binds (ps := ["value"]) fun _ _ _ _ _ _ us hl => match us, hl with | [_], _ => rfl
  have F7 := fun_mk (st := s__law_cell_right) l7 c7 k7
  have B7 := F7.binds (ps := ["reel"]) fun _ _ _ _ _ _ us hl => match us, hl with | [_], _ => rfl
  have F8 := fun_mk (st := s__law_reel) l8 c8 k8
  have B8 := F8.binds (ps := ["script", "at"]) fun _ _ _ _ _ _ us hl => match us, hl with | [_, _], _ => rfl
  have F9 := fun_mk (st := s_law) l9 c9 k9
  have B9 := F9.binds (ps := ["script"]) fun _ _ _ _ _ _ us hl => match us, hl with | [_], _ => rfl
  refine ⟨PySem.W.fnOf "law" "law" (defArgs s_law) (defBody s_law) (defScope s_law) .none kV9 dc9 pm9 an9 cd9 ct9, fun s v => .of_eq rfl, fun base _ _ => ?_⟩
  have d_is_name : DefOk l.prog w K mg base 1 "is_name" sp_is_name := defR (def_ok (P := l.prog) (w := w) (base := base) (f := sp_is_name) F0 sc_is_name w_is_name (by intro as Q QE h; unfold sp_is_name at h; repeat (first | (obtain ⟨rfl, _⟩ := h; rfl) | obtain ⟨_, h⟩ := h)) (fun _ _ _ _ _ _ hr => b_is_name T hr) (fun as Q QE h => p_is_name h)) B0 (PySem.W.mg_of X G a0) k0
  have d__law_spin : DefOk l.prog w K mg base 1 "_law_spin" sp_spin := defR (def_ok (P := l.prog) (w := w) (base := base) (f := sp_spin) F1 sc__law_spin w__law_spin (by intro as Q QE h; unfold sp_spin at h; repeat (first | (obtain ⟨rfl, _⟩ := h; rfl) | obtain ⟨_, h⟩ := h)) (fun _ _ _ _ _ _ hr => b__law_spin T hr) (fun as Q QE h => spin_w h)) B1 (PySem.W.mg_of X G a1) k1
  have d__law_pick : DefOk l.prog w K mg base 2 "_law_pick" sp_pick := defR (def_ok (P := l.prog) (w := w) (base := base) (f := sp_pick) F2 sc__law_pick w__law_pick (by intro as Q QE h; unfold sp_pick at h; repeat (first | (obtain ⟨rfl, _⟩ := h; rfl) | obtain ⟨_, h⟩ := h)) (fun _ _ _ _ _ _ hr => b__law_pick T d__law_spin hr) (fun as Q QE h => pick_w h)) B2 (PySem.W.mg_of X G a2) k2
  have d__law_name : DefOk l.prog w K mg base 3 "_law_name" sp_law_name := defR (def_ok (P := l.prog) (w := w) (base := base) (f := sp_law_name) F3 sc__law_name w__law_name (by intro as Q QE h; unfold sp_law_name at h; repeat (first | (obtain ⟨rfl, _⟩ := h; rfl) | obtain ⟨_, h⟩ := h)) (fun _ _ _ _ _ _ hr => b__law_name T d__law_pick hr) (fun as Q QE h => p_law_name h)) B3 (PySem.W.mg_of X G a3) k3
  have d_is_integer : DefOk l.prog w K mg base 1 "is_integer" sp_is_integer := defR (def_ok (P := l.prog) (w := w) (base := base) (f := sp_is_integer) F4 sc_is_integer w_is_integer (by intro as Q QE h; unfold sp_is_integer at h; repeat (first | (obtain ⟨rfl, _⟩ := h; rfl) | obtain ⟨_, h⟩ := h)) (fun _ _ _ _ _ _ hr => b_is_integer T hr) (fun as Q QE h => p_is_integer h)) B4 (PySem.W.mg_of X G a4) k4
  have d__law_near : DefOk l.prog w K mg base 3 "_law_near" sp_law_near := defR (def_ok (P := l.prog) (w := w) (base := base) (f := sp_law_near) F5 sc__law_near w__law_near (by intro as Q QE h; unfold sp_law_near at h; repeat (first | (obtain ⟨rfl, _⟩ := h; rfl) | obtain ⟨_, h⟩ := h)) (fun _ _ _ _ _ _ hr => b__law_near T d__law_spin d__law_pick hr) (fun as Q QE h => p_law_near h)) B5 (PySem.W.mg_of X G a5) k5
  have d__law_is_name : DefOk l.prog w K mg base 1 "_law_is_name" sp_is_name := defR (def_ok (P := l.prog) (w := w) (base := base) (f := sp_is_name) F6 sc__law_is_name w__law_is_name (by intro as Q QE h; unfold sp_is_name at h; repeat (first | (obtain ⟨rfl, _⟩ := h; rfl) | obtain ⟨_, h⟩ := h)) (fun _ _ _ _ _ _ hr => b__law_is_name T hr) (fun as Q QE h => p_law_is_name h)) B6 (PySem.W.mg_of X G a6) k6
  have d__law_cell_right : DefOk l.prog w K mg base 4 "_law_cell_right" sp_law_cell_right := defR (def_ok (P := l.prog) (w := w) (base := base) (f := sp_law_cell_right) F7 sc__law_cell_right w__law_cell_right (by intro as Q QE h; unfold sp_law_cell_right at h; repeat (first | (obtain ⟨rfl, _⟩ := h; rfl) | obtain ⟨_, h⟩ := h)) (fun _ _ _ _ _ _ hr => b__law_cell_right T d__law_name d__law_pick d__law_spin d_is_integer d__law_near d_is_name d__law_is_name hr) (fun as Q QE h => p_law_cell_right h)) B7 (PySem.W.mg_of X G a7) k7
  have d__law_reel : DefOk l.prog w K mg base 1 "_law_reel" sp_reel := defR (def_ok (P := l.prog) (w := w) (base := base) (f := sp_reel) F8 sc__law_reel w__law_reel (by intro as Q QE h; unfold sp_reel at h; repeat (first | (obtain ⟨rfl, _⟩ := h; rfl) | obtain ⟨_, h⟩ := h)) (fun _ _ _ _ _ _ hr => b__law_reel T hr) (fun as Q QE h => reel_w h)) B8 (PySem.W.mg_of X G a8) k8
  exact law_fn (def_ok (P := l.prog) (w := w) (base := base) (f := sp_law) F9 sc_law w_law (by intro as Q QE h; unfold sp_law at h; repeat (first | (obtain ⟨rfl, _⟩ := h; rfl) | obtain ⟨_, h⟩ := h)) (fun _ _ _ _ _ _ hr => b_law T d_is_name d__law_cell_right d_is_integer d__law_reel hr) (fun as Q QE h => p_law h))
end K01
open PySem PySem.W PyProof.Rows
set_option maxRecDepth 100000 in
set_option maxHeartbeats 0 in
theorem PySem.Challenge.cw_overrounds_k01_names_and_integers_holds : PySem.Challenge.rw_overrounds_k01_names_and_integers.Holds := by
  w_on; o_law; k_head; (case hw => w_witness2)
  k_fill
  refine Z.walk (l := PySem.Challenge.rw_overrounds_k01_names_and_integers) (k := 5) rfl rfl ⟨rfl, by decide, by decide⟩ (fun w h Y => PySem.W.kIn_of Y) ?F
  case F =>
    intro w mg fa h KX G hmg
    refine' K01.all_mk KX G hmg ?a0 ?l0 ?c0 ?k0 ?a1 ?l1 ?c1 ?k1 ?a2 ?l2 ?c2 ?k2 ?a3 ?l3 ?c3 ?k3 ?a4 ?l4 ?c4 ?k4 ?a5 ?l5 ?c5 ?k5 ?a6 ?l6 ?c6 ?k6 ?a7 ?l7 ?c7 ?k7 ?a8 ?l8 ?c8 ?k8 ?a9 ?l9 ?c9 ?k9 ?n_abs ?n_all ?n_bool ?n_int ?n_isinstance ?n_len ?n_max ?n_min ?n_ord ?n_range ?n_repr ?n_str ?c_LETTERS ?c_LIMIT ?c_MAX_NAME
    (case a0 => k_is); (case l0 => k_is); (case c0 => k_is); (case k0 => k_is); (case a1 => k_is); (case l1 => k_is); (case c1 => k_is); (case k1 => k_is); (case a2 => k_is); (case l2 => k_is); (case c2 => k_is); (case k2 => k_is); (case a3 => k_is); (case l3 => k_is); (case c3 => k_is); (case k3 => k_is); (case a4 => k_is); (case l4 => k_is); (case c4 => k_is); (case k4 => k_is); (case a5 => k_is); (case l5 => k_is); (case c5 => k_is); (case k5 => k_is); (case a6 => k_is); (case l6 => k_is); (case c6 => k_is); (case k6 => k_is); (case a7 => k_is); (case l7 => k_is); (case c7 => k_is); (case k7 => k_is); (case a8 => k_is); (case l8 => k_is); (case c8 => k_is); (case k8 => k_is); (case a9 => k_is); (case l9 => k_is); (case c9 => k_is); (case k9 => k_is); (case n_abs => k_is); (case n_all => k_is); (case n_bool => k_is); (case n_int => k_is); (case n_isinstance => k_is); (case n_len => k_is); (case n_max => k_is); (case n_min => k_is); (case n_ord => k_is); (case n_range => k_is); (case n_repr => k_is); (case n_str => k_is); (case c_LETTERS => k_is); (case c_LIMIT => k_is); (case c_MAX_NAME => k_is)

