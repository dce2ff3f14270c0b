import PyProof.Rows.All
import Wide.All
import OpenK.AllK
import Wide.FinOn
import HandS.ForMost
import HandS.ForExc
import HandS.Evl
import HandS.Walk
import HandS.Wide
import HandS.TupAny
import HandS.TupLe
import HandS.CallSlots
import HandS.More
import HandS.Star
import HandS.Conv
import HandS.IsInst
import HandS.Deep
import HandS.Text
import HandS.Dict
import HandS.RaiseMore
import HandS.Property
import HandS.MakeKwOnly
import HandS.OwnEq
import PyProof.InstNe
import PyProof.ReprRoads
import HandS.Iter
import HandS.DictComp
import OpenK.KMeth
import OpenK.KOps
import KE.KCallOwn
import HandS.FStr
import PyProof.Rows.StrMul
import KE.KEqDict
import HandS.Finally
import PyProof.ListStr
import HandS.ListItems
import KE.KDictList
import PySem.Challenge.RW_overrounds_k37_spans_told
set_option Elab.async false
set_option linter.all false
set_option exponentiation.threshold 100000
set_option maxRecDepth 100000
set_option maxHeartbeats 4000000
/-! Z1: data, the two heaps (kept part and whole), slots with owned cells, late values. -/
namespace Z
open PySem L2
open Evl (Ex ex_rd ex_l ex_t)

/-- data: what a value says, without addresses; rol: a list that is only read -/
inductive D where
  | non | bl (b : Bool) | int (i : Int) | str (x : Str)
  | tup (xs : List D) | lst (xs : List D) | rol (xs : List D) | dic (kvs : List (Key × D)) | ins (C : Str) (fs : List (Str × D)) | ty (n : String)

/-- the module: its written part, its names -/
structure Gm where
  K : PySem.W.Frag
  mg : Str → Option Value
abbrev gm (X : Cx) : Gm := ⟨X.K, X.mg⟩

mutual
inductive Rep (G : Gm) (H : Hp) : V → D → Prop
  | non : Rep G H .non .non
  | bl (b : Bool) : Rep G H (.bl b) (.bl b)
  | int (i : Int) : Rep G H (.int i) (.int i)
  | str (x : Str) : Rep G H (.str x) (.str x)
  | ty (n : String) : Rep G H (.ty n) (.ty n)
  | tup {a : Addr} {vs : List V} {ds : List D} : SqT G.K H a vs → Reps G H vs ds → Rep G H (.ref a) (.tup ds)
  | lst {a : Addr} {vs : List V} {ds : List D} : H a = some (.lst vs) → Reps G H vs ds → Rep G H (.ref a) (.lst ds)
  | rol {a : Addr} {vs : List V} {ds : List D} : SqL G.K H a vs → Reps G H vs ds → Rep G H (.ref a) (.rol ds)
  | dic {a : Addr} {vs : List (Key × V)} {ds : List (Key × D)} : Rd H a (.dK vs) → RepK G H vs ds → Rep G H (.ref a) (.dic ds)
  | ins {a C dx : Addr} {c : Str} {vs : List (Str × V)} {ds : List (Str × D)} : H a = some (.ins C dx vs) → G.mg c = some (.ref C) → RepF G H vs ds → Rep G H (.ref a) (.ins c ds)
inductive Reps (G : Gm) (H : Hp) : List V → List D → Prop
  | nil : Reps G H [] []
  | cons {v : V} {d : D} {vs : List V} {ds : List D} : Rep G H v d → Reps G H vs ds → Reps G H (v :: vs) (d :: ds)
inductive RepK (G : Gm) (H : Hp) : List (Key × V) → List (Key × D) → Prop
  | nil : RepK G H [] []
  | cons {k : Key} {v : V} {d : D} {vs : List (Key × V)} {ds : List (Key × D)} : Rep G H v d → RepK G H vs ds → RepK G H ((k, v) :: vs) ((k, d) :: ds)
inductive RepF (G : Gm) (H : Hp) : List (Str × V) → List (Str × D) → Prop
  | nil : RepF G H [] []
  | cons {k : Str} {v : V} {d : D} {vs : List (Str × V)} {ds : List (Str × D)} : Rep G H v d → RepF G H vs ds → RepF G H ((k, v) :: vs) ((k, d) :: ds)
end

section
variable {G : Gm} {H H' : Hp}
mutual
theorem Rep.mono (e : Ex H H') : ∀ {v : V} {d : D}, Rep G H v d → Rep G H' v d
  | _, _, .non => .non
  | _, _, .bl b => .bl b
  | _, _, .int i => .int i
  | _, _, .str x => .str x
  | _, _, .ty x => .ty x
  | _, _, .tup h r => .tup (ex_t e h) (Reps.mono e r)
  | _, _, .lst h r => .lst (e _ _ h) (Reps.mono e r)
  | _, _, .rol h r => .rol (ex_l e h) (Reps.mono e r)
  | _, _, .dic h r => .dic (ex_rd e h) (RepK.mono e r)
  | _, _, .ins h c r => .ins (e _ _ h) c (RepF.mono e r)
theorem Reps.mono (e : Ex H H') : ∀ {v : List V} {d : List D}, Reps G H v d → Reps G H' v d
  | _, _, .nil => .nil
  | _, _, .cons h r => .cons (Rep.mono e h) (Reps.mono e r)
theorem RepK.mono (e : Ex H H') : ∀ {v : List (Key × V)} {d : List (Key × D)}, RepK G H v d → RepK G H' v d
  | _, _, .nil => .nil
  | _, _, .cons h r => .cons (Rep.mono e h) (RepK.mono e r)
theorem RepF.mono (e : Ex H H') : ∀ {v : List (Str × V)} {d : List (Str × D)}, RepF G H v d → RepF G H' v d
  | _, _, .nil => .nil
  | _, _, .cons h r => .cons (Rep.mono e h) (RepF.mono e r)
end
theorem Reps.length : ∀ {vs : List V} {ds : List D}, Reps G H vs ds → vs.length = ds.length
  | _, _, .nil => rfl
  | _, _, .cons _ r => congrArg (· + 1) r.length
theorem Reps.get : ∀ {vs : List V} {ds : List D} {i : Nat} {d : D}, Reps G H vs ds → ds[i]? = some d → ∃ v, vs[i]? = some v ∧ Rep G H v d
  | _, _, _, _, .nil, e => by simp at e
  | _, _, 0, _, .cons h _, e => by simp at e; subst e; exact ⟨_, rfl, h⟩
  | _, _, i + 1, d, .cons _ r, e => by
    obtain ⟨v, h1, h2⟩ := Reps.get (i := i) (d := d) r (by simpa using e)
    exact ⟨v, by simpa using h1, h2⟩
theorem Reps.get' : ∀ {vs : List V} {ds : List D} {i : Nat} {v : V}, Reps G H vs ds → vs[i]? = some v → ∃ d, ds[i]? = some d ∧ Rep G H v d
  | _, _, _, _, .nil, e => by simp at e
  | _, _, 0, _, .cons h _, e => by simp at e; subst e; exact ⟨_, rfl, h⟩
  | _, _, i + 1, d, .cons _ r, e => by
    obtain ⟨v, h1, h2⟩ := Reps.get' (i := i) (v := d) r (by simpa using e)
    exact ⟨v, by simpa using h1, h2⟩
theorem Reps.append : ∀ {vs ws : List V} {ds es : List D}, Reps G H vs ds → Reps G H ws es → Reps G H (vs ++ ws) (ds ++ es)
  | _, _, _, _, .nil, s => s
  | _, _, _, _, .cons r t, s => .cons r (Reps.append t s)
theorem Reps.take : ∀ {vs : List V} {ds : List D} (n : Nat), Reps G H vs ds → Reps G H (vs.take n) (ds.take n)
  | _, _, 0, _ => .nil
  | _, _, _ + 1, .nil => .nil
  | _, _, n + 1, .cons r t => .cons r (Reps.take n t)
theorem Reps.drop : ∀ {vs : List V} {ds : List D} (n : Nat), Reps G H vs ds → Reps G H (vs.drop n) (ds.drop n)
  | _, _, 0, r => r
  | _, _, _ + 1, .nil => .nil
  | _, _, n + 1, .cons _ t => Reps.drop n t
theorem Reps.set {v : V} {d : D} (h : Rep G H v d) : ∀ {vs : List V} {ds : List D} (i : Nat), Reps G H vs ds → Reps G H (vs.set i v) (ds.set i d)
  | _, _, _, .nil => .nil
  | _, _, 0, .cons _ t => .cons h t
  | _, _, i + 1, .cons q t => .cons q (Reps.set h i t)
theorem Reps.eraseIdx : ∀ {vs : List V} {ds : List D} (i : Nat), Reps G H vs ds → Reps G H (vs.eraseIdx i) (ds.eraseIdx i)
  | _, _, _, .nil => .nil
  | _, _, 0, .cons _ t => t
  | _, _, i + 1, .cons q t => .cons q (Reps.eraseIdx i t)
theorem Reps.reverse : ∀ {vs : List V} {ds : List D}, Reps G H vs ds → Reps G H vs.reverse ds.reverse
  | _, _, .nil => .nil
  | _, _, .cons h r => by rw [List.reverse_cons, List.reverse_cons]; exact Reps.append (Reps.reverse r) (.cons h .nil)
theorem Reps.dropLast : ∀ {vs : List V} {ds : List D}, Reps G H vs ds → Reps G H vs.dropLast ds.dropLast
  | _, _, .nil => .nil
  | _, _, .cons _ .nil => .nil
  | _, _, .cons h (.cons h2 r) => .cons h (Reps.dropLast (.cons h2 r))
/-- a list of ints -/
theorem Reps.ints : ∀ {vs : List V} {ns : List Int}, Reps G H vs (ns.map D.int) → vs = ns.map V.int
  | _, [], .nil => rfl
  | _, n :: ns, .cons h r => by
    cases h
    rw [List.map_cons, Reps.ints r]
theorem reps_ints : ∀ (ns : List Int), Reps G H (ns.map V.int) (ns.map D.int)
  | [] => .nil
  | n :: ns => .cons (.int n) (reps_ints ns)
theorem Reps.bls : ∀ {vs : List V} {ns : List Bool}, Reps G H vs (ns.map D.bl) → vs = ns.map V.bl
  | _, [], .nil => rfl
  | _, n :: ns, .cons h r => by
    cases h
    rw [List.map_cons, Reps.bls r]
theorem Reps.strs : ∀ {vs : List V} {ns : List Str}, Reps G H vs (ns.map D.str) → vs = ns.map V.str
  | _, [], .nil => rfl
  | _, n :: ns, .cons h r => by
    cases h
    rw [List.map_cons, Reps.strs r]
end

/-- the content of an owned object -/
inductive Cell where
  | lst (xs : List D) | dic (kvs : List (Key × D)) | ins (C : Str) (fs : List (Str × D))
@[simp] def Cell.toD : Cell → D
  | .lst xs => .lst xs
  | .dic kvs => .dic kvs
  | .ins C fs => .ins C fs
/-- Hs: the kept part of the heap; H: the whole -/
inductive CellAt (G : Gm) (Hs H : Hp) (p : Addr) : Cell → Prop
  | lst {vs : List V} {ds : List D} : H p = some (.lst vs) → Reps G Hs vs ds → CellAt G Hs H p (.lst ds)
  | dic {vs : List (Key × V)} {ds : List (Key × D)} : H p = some (.dK vs) → RepK G Hs vs ds → CellAt G Hs H p (.dic ds)
  | ins {C dx : Addr} {c : Str} {vs : List (Str × V)} {ds : List (Str × D)} : H p = some (.ins C dx vs) → G.mg c = some (.ref C) → RepF G Hs vs ds → CellAt G Hs H p (.ins c ds)
section
variable {G : Gm} {Hs H Hs' H' : Hp} {p : Addr} {c : Cell}
theorem CellAt.isv (h : CellAt G Hs H p c) : ∃ o, H p = some o := by
  cases h with
  | lst h _ => exact ⟨_, h⟩
  | dic h _ => exact ⟨_, h⟩
  | ins h _ _ => exact ⟨_, h⟩
theorem CellAt.go (h : CellAt G Hs H p c) (e : Ex Hs Hs') (k : ∀ o, H p = some o → H' p = some o) : CellAt G Hs' H' p c := by
  cases h with
  | lst h r => exact .lst (k _ h) (r.mono e)
  | dic h r => exact .dic (k _ h) (r.mono e)
  | ins h q r => exact .ins (k _ h) q (r.mono e)
/-- the cell is kept from now on -/
theorem CellAt.rep (h : CellAt G Hs H p c) (e : Ex Hs Hs') (k : ∀ o, H p = some o → Hs' p = some o) : Rep G Hs' (.ref p) c.toD := by
  cases h with
  | lst h r => exact .lst (k _ h) (r.mono e)
  | dic h r => exact .dic (.inl (k _ h)) (r.mono e)
  | ins h q r => exact .ins (k _ h) q (r.mono e)
end

inductive Sl where
  | no | sh (d : D) | own (p : Addr) (c : Cell)
abbrev Rho := List Sl
inductive SlOk (G : Gm) (Hs H : Hp) : Sl → Option (Option V) → Prop
  | no {o} : SlOk G Hs H .no o
  | sh {v d} : Rep G Hs v d → SlOk G Hs H (.sh d) (some (some v))
  | own {p c} : Hs p = none → CellAt G Hs H p c → SlOk G Hs H (.own p c) (some (some (.ref p)))
def Own (r : Rho) (a : Addr) : Prop := ∃ (i : Nat) (c : Cell), r[i]? = some (Sl.own a c)
structure StOk (G : Gm) (r : Rho) (s : St) (Hs H : Hp) : Prop where
  len : r.length = s.length
  ex : Ex Hs H
  sl : ∀ (i : Nat) (x : Sl), r[i]? = some x → SlOk G Hs H x s[i]?
  nd : ∀ (i j : Nat) (p : Addr) (c c' : Cell), r[i]? = some (Sl.own p c) → r[j]? = some (Sl.own p c') → i = j
structure Go (O O' : Addr → Prop) (Hs H Hs' H' : Hp) : Prop where
  ss : Ex Hs Hs'
  kp : ∀ a o, H a = some o → ¬ O a → H' a = some o
  fr : ∀ a o, H a = some o → Hs a = none → ¬ O a → Hs' a = none
  ow : ∀ a, O' a → O a ∨ H a = none
  th : ∀ a, H' a = none → H a = none
section
variable {O O1 O2 : Addr → Prop} {Hs H Hs1 H1 Hs2 H2 : Hp}
theorem Go.refl : Go O O Hs H Hs H := ⟨Ex.refl _, fun _ _ h _ => h, fun _ _ _ h _ => h, fun _ h => .inl h, fun _ h => h⟩
theorem Go.trans (a : Go O O1 Hs H Hs1 H1) (b : Go O1 O2 Hs1 H1 Hs2 H2) : Go O O2 Hs H Hs2 H2 := by
  have no1 : ∀ x o, H x = some o → ¬ O x → ¬ O1 x := fun x o h n q => by
    rcases a.ow x q with z | z
    · exact n z
    · rw [h] at z; cases z
  refine ⟨a.ss.trans b.ss, fun x o h n => b.kp x o (a.kp x o h n) (no1 x o h n), fun x o h hs n => b.fr x o (a.kp x o h n) (a.fr x o h hs n) (no1 x o h n), fun x q => ?_, fun x q => a.th x (b.th x q)⟩
  rcases b.ow x q with z | z
  · exact a.ow x z
  · by_cases n : O x
    · exact .inl n
    · refine .inr ?_
      cases h : H x with
      | none => rfl
      | some o => rw [a.kp x o h n] at z; cases z
theorem Go.weak (a : Go O O1 Hs H Hs1 H1) (h : ∀ x, O x → O2 x) : Go O2 O1 Hs H Hs1 H1 :=
  ⟨a.ss, fun x o q n => a.kp x o q fun z => n (h x z), fun x o q r n => a.fr x o q r fun z => n (h x z), fun x q => (a.ow x q).imp (h x) id, a.th⟩
theorem Go.sub (a : Go O O1 Hs H Hs1 H1) (h : ∀ x, O2 x → O1 x) : Go O O2 Hs H Hs1 H1 :=
  ⟨a.ss, a.kp, a.fr, fun x q => a.ow x (h x q), a.th⟩
end

/-- the value of an expression before it is used: kept data, a slot's own object, a new object -/
inductive Late where
  | st (d : D) | sl (i : Nat) | nw (p : Addr) (c : Cell)
inductive LateOk (G : Gm) (r : Rho) (s : St) (Hs H : Hp) : V → Late → Prop
  | st {v d} : Rep G Hs v d → LateOk G r s Hs H v (.st d)
  | sl {v i} : s[i]? = some (some v) → LateOk G r s Hs H v (.sl i)
  | nw {p c} : Hs p = none → CellAt G Hs H p c → ¬ Own r p → LateOk G r s Hs H (.ref p) (.nw p c)
def NewAt (H : Hp) (l : Late) : Prop := ∀ p c, l = .nw p c → H p = none
@[simp] def res (r : Rho) : Late → Option D
  | .st d => some d
  | .sl i => match r[i]? with
    | some (Sl.sh d) => some d
    | some (Sl.own _ c) => some c.toD
    | _ => none
  | .nw _ c => some c.toD
/-- as it is to be kept: the data, the slots behind it -/
@[simp] def frz (r : Rho) : Late → Option (D × Rho)
  | .st d => some (d, r)
  | .sl i => match r[i]? with
    | some (Sl.sh d) => some (d, r)
    | some (Sl.own _ c) => some (c.toD, r.set i (.sh c.toD))
    | _ => none
  | .nw _ c => some (c.toD, r)
/-- what is read now -/
inductive RepB (G : Gm) (Hs H : Hp) : V → D → Prop
  | st {v d} : Rep G Hs v d → RepB G Hs H v d
  | own {p c} : CellAt G Hs H p c → RepB G Hs H (.ref p) c.toD
section
variable {G : Gm} {r r' : Rho} {s : St} {Hs H Hs' H' : Hp} {v : V} {l : Late} {d : D}
theorem LateOk.go (h : LateOk G r s Hs H v l) (g : Go (Own r) (Own r') Hs H Hs' H') : LateOk G r' s Hs' H' v l := by
  cases h with
  | st h => exact .st (h.mono g.ss)
  | sl h => exact .sl h
  | nw h1 h2 h3 =>
    obtain ⟨o, ho⟩ := h2.isv
    refine .nw (g.fr _ _ ho h1 h3) (h2.go g.ss fun o q => g.kp _ o q h3) fun q => ?_
    rcases g.ow _ q with z | z
    · exact h3 z
    · rw [ho] at z; cases z
theorem LateOk.res (h : LateOk G r s Hs H v l) (S : StOk G r s Hs H) (e : res r l = some d) : RepB G Hs H v d := by
  cases h with
  | st h => simp at e; subst e; exact .st h
  | sl h =>
    rename_i i
    simp only [Z.res] at e
    split at e
    · rename_i d' q
      cases e
      have := S.sl i _ q
      rw [h] at this
      cases this with
      | sh z => exact .st z
    · rename_i p c q
      cases e
      have := S.sl i _ q
      rw [h] at this
      cases this with
      | own _ z => exact .own z
    · cases e
  | nw h1 h2 h3 => simp at e; subst e; exact .own h2
theorem StOk.add (S : StOk G r s Hs H) {p : Addr} {o : HO} (hs : Hs p = none) (ho : H p = some o) (n : ¬ Own r p) : StOk G r s (upd Hs p o) H := by
  have e1 : Ex Hs (upd Hs p o) := Ex.new hs
  refine ⟨S.len, fun a u q => ?_, fun i x q => ?_, S.nd⟩
  · by_cases h : a = p
    · subst h; rw [upd_same] at q; cases q; exact ho
    · rw [upd_ne h] at q; exact S.ex a u q
  · have z := S.sl i x q
    revert z
    generalize s[i]? = w
    intro z
    cases z with
    | no => exact .no
    | sh h => exact .sh (h.mono e1)
    | own h1 h2 =>
      refine .own ?_ (h2.go e1 fun _ h => h)
      rw [upd_ne (fun z => n ⟨i, _, by rw [q, z]⟩)]; exact h1
theorem Own.set {i : Nat} {x : Sl} (hx : ∀ p c, x ≠ Sl.own p c) {a : Addr} (h : Own (r.set i x) a) : Own r a := by
  obtain ⟨j, c, h⟩ := h
  by_cases e : i = j
  · subst e
    by_cases hl : i < r.length
    · rw [List.getElem?_set_self hl] at h; cases h; exact absurd rfl (hx _ _)
    · rw [List.getElem?_eq_none (by simpa using hl)] at h; cases h
  · rw [List.getElem?_set_ne e] at h; exact ⟨j, c, h⟩
/-- a slot forgets its object, or knows kept data instead -/
theorem StOk.put (S : StOk G r s Hs H) {i : Nat} {x : Sl} (hx : ∀ p c, x ≠ Sl.own p c) (h : SlOk G Hs H x s[i]?) : StOk G (r.set i x) s Hs H := by
  refine ⟨by rw [List.length_set]; exact S.len, S.ex, fun j y q => ?_, fun j k p c c' q1 q2 => ?_⟩
  · by_cases e : i = j
    · subst e
      by_cases hl : i < r.length
      · rw [List.getElem?_set_self hl] at q; cases q; exact h
      · rw [List.getElem?_eq_none (by simpa using hl)] at q; cases q
    · rw [List.getElem?_set_ne e] at q; exact S.sl j y q
  · have get : ∀ j c, (r.set i x)[j]? = some (Sl.own p c) → r[j]? = some (Sl.own p c) := fun j c q => by
      by_cases e : i = j
      · subst e
        by_cases hl : i < r.length
        · rw [List.getElem?_set_self hl] at q; cases q; exact absurd rfl (hx _ _)
        · rw [List.getElem?_eq_none (by simpa using hl)] at q; cases q
      · rw [List.getElem?_set_ne e] at q; exact q
    exact S.nd j k p c c' (get j c q1) (get k c' q2)
theorem go_add {O O' : Addr → Prop} {p : Addr} {o : HO} (hs : Hs p = none) (hp : ∀ u, H p = some u → O p) (ow : ∀ a, O' a → O a) : Go O O' Hs H (upd Hs p o) H :=
  ⟨Ex.new hs, fun _ _ h _ => h, fun a u h1 h2 n => by
    by_cases e : a = p
    · subst e; exact absurd (hp u h1) n
    · rw [upd_ne e]; exact h2, fun a q => .inl (ow a q), fun _ h => h⟩
/-- what keeping changes: at most one object more is kept, one owned by a slot or the new one -/
def Kept (H : Hp) (r r' : Rho) (l : Late) (Hs Hs' : Hp) : Prop :=
  (∀ a, Own r' a → Own r a) ∧ (Hs' = Hs ∨ ∃ p o, Hs' = upd Hs p o ∧ Hs p = none ∧ H p = some o ∧ (Own r p ∨ ∃ c, l = .nw p c))
theorem Kept.ss {l : Late} {Hs1 : Hp} (k : Kept H r r' l Hs Hs1) : Ex Hs Hs1 := by
  rcases k.2 with rfl | ⟨p, o, rfl, h1, _⟩
  · exact Ex.refl _
  · exact Ex.new h1
/-- LateOk, kept from now on. For a new object: p was not there at H0 -/
theorem LateOk.frz {H0 Hs0 : Hp} {r0 : Rho} (h : LateOk G r s Hs H v l) (S : StOk G r s Hs H) (g0 : Go (Own r0) (Own r) Hs0 H0 Hs H) (nw : NewAt H0 l) (e : Z.frz r l = some (d, r')) :
    ∃ Hs', StOk G r' s Hs' H ∧ Rep G Hs' v d ∧ Go (Own r0) (Own r') Hs0 H0 Hs' H ∧ Kept H r r' l Hs Hs' := by
  cases h with
  | st h => simp at e; obtain ⟨rfl, rfl⟩ := e; exact ⟨Hs, S, h, g0, fun _ h => h, .inl rfl⟩
  | sl h =>
    rename_i i
    simp only [Z.frz] at e
    split at e
    · rename_i d' q
      cases e
      have := S.sl i _ q
      rw [h] at this
      cases this with
      | sh z => exact ⟨Hs, S, z, g0, fun _ h => h, .inl rfl⟩
    · rename_i p c q
      cases e
      have z0 := S.sl i _ q
      rw [h] at z0
      cases z0 with
      | own z1 z =>
        obtain ⟨o, ho⟩ := z.isv
        have hsp : ∀ a, Own (r.set i (.sh c.toD)) a → Own r a := fun a => Own.set (by intro p c q; cases q)
        have rp : Rep G (upd Hs p o) (.ref p) c.toD := z.rep (Ex.new z1) (fun u hu => by rw [ho] at hu; cases hu; exact upd_same)
        refine ⟨upd Hs p o, ?_, rp, g0.trans (go_add z1 (fun _ _ => ⟨i, c, q⟩) hsp), hsp, .inr ⟨p, o, rfl, z1, ho, .inl ⟨i, c, q⟩⟩⟩
        have S1 : StOk G (r.set i .no) s Hs H := S.put (by intro p c q; cases q) .no
        have np1 : ¬ Own (r.set i .no) p := fun ⟨j, c', hj⟩ => by
          by_cases ej : i = j
          · subst ej
            by_cases hl : i < r.length
            · rw [List.getElem?_set_self hl] at hj; cases hj
            · rw [List.getElem?_eq_none (by simpa using hl)] at hj; cases hj
          · rw [List.getElem?_set_ne ej] at hj
            exact ej (S.nd i j p _ _ q hj)
        have S2 := (S1.add z1 ho np1).put (i := i) (x := .sh c.toD) (by intro p c q; cases q) (by rw [h]; exact .sh rp)
        rw [List.set_set] at S2
        exact S2
    · cases e
  | nw h1 h2 h3 =>
    rename_i p c
    simp at e; obtain ⟨rfl, rfl⟩ := e
    obtain ⟨o, ho⟩ := h2.isv
    have n0 : H0 p = none := nw p c rfl
    refine ⟨upd Hs p o, S.add h1 ho h3, h2.rep (Ex.new h1) (fun u hu => by rw [ho] at hu; cases hu; exact upd_same), ⟨g0.ss.trans (Ex.new h1), g0.kp, fun a u q1 q2 n => ?_, g0.ow, g0.th⟩, fun _ h => h, .inr ⟨p, o, rfl, h1, ho, .inr ⟨c, rfl⟩⟩⟩
    rw [upd_ne (ne_of_none q1 n0)]; exact g0.fr a u q1 q2 n
/-- another late value, behind the keeping -/
theorem LateOk.kept {Hs1 : Hp} {v2 : V} {l2 : Late} (h : LateOk G r s Hs H v2 l2) (k : Kept H r r' l Hs Hs1) (n : ∀ p c c', l = .nw p c → l2 ≠ .nw p c') : LateOk G r' s Hs1 H v2 l2 := by
  have ss : Ex Hs Hs1 := by
    rcases k.2 with rfl | ⟨p, o, rfl, h1, _⟩
    · exact Ex.refl _
    · exact Ex.new h1
  cases h with
  | st h => exact .st (h.mono ss)
  | sl h => exact .sl h
  | nw h1 h2 h3 =>
    refine .nw ?_ (h2.go ss fun _ h => h) fun q => h3 (k.1 _ q)
    rcases k.2 with rfl | ⟨p, o, rfl, _, _, ow⟩
    · exact h1
    · rw [upd_ne]
      · exact h1
      · intro e
        subst e
        rcases ow with ow | ⟨c, e⟩
        · exact h3 ow
        · exact n _ _ _ e rfl
end
/-- several -/
inductive LatesOk (G : Gm) (r : Rho) (s : St) (Hs H : Hp) : List V → List Late → Prop
  | nil : LatesOk G r s Hs H [] []
  | cons {v l vs ls} : LateOk G r s Hs H v l → (∀ p c c', l = .nw p c → Late.nw p c' ∉ ls) → LatesOk G r s Hs H vs ls → LatesOk G r s Hs H (v :: vs) (l :: ls)
section
variable {G : Gm} {r r' : Rho} {s : St} {Hs H Hs' H' : Hp}
theorem LatesOk.kept {l : Late} {Hs1 : Hp} (k : Kept H r r' l Hs Hs1) : ∀ {vs ls}, LatesOk G r s Hs H vs ls → (∀ p c c', l = .nw p c → Late.nw p c' ∉ ls) → LatesOk G r' s Hs1 H vs ls
  | _, _, .nil, _ => .nil
  | _, _, .cons a b c, n => .cons (a.kept k fun p c c' e q => n p c c' e (by rw [q]; exact List.mem_cons_self ..)) b (LatesOk.kept k c fun p c c' e q => n p c c' e (List.mem_cons_of_mem _ q))
inductive RepBs (G : Gm) (Hs H : Hp) : List V → List D → Prop
  | nil : RepBs G Hs H [] []
  | cons {v d vs ds} : RepB G Hs H v d → RepBs G Hs H vs ds → RepBs G Hs H (v :: vs) (d :: ds)
end
@[simp] def ress (r : Rho) : List Late → Option (List D)
  | [] => some []
  | l :: ls => match res r l, ress r ls with
    | some d, some ds => some (d :: ds)
    | _, _ => none
@[simp] def frzs (r : Rho) : List Late → Option (List D × Rho)
  | [] => some ([], r)
  | l :: ls => match frz r l with
    | some (d, r1) => match frzs r1 ls with
      | some (ds, r2) => some (d :: ds, r2)
      | none => none
    | none => none
theorem LatesOk.res {G : Gm} {r : Rho} {s : St} {Hs H : Hp} (S : StOk G r s Hs H) : ∀ {vs : List V} {ls : List Late} {ds : List D}, LatesOk G r s Hs H vs ls → ress r ls = some ds → RepBs G Hs H vs ds
  | _, _, _, .nil, e => by simp at e; subst e; exact .nil
  | _, _, ds, .cons (l := l) (ls := ls) a _ c, e => by
    simp only [ress] at e
    split at e
    · rename_i d ds' q1 q2
      cases e
      exact .cons (a.res S q1) (LatesOk.res S c q2)
    · cases e
theorem LatesOk.frz {G : Gm} {s : St} {H : Hp} {H0 Hs0 : Hp} {r0 : Rho} : ∀ {vs : List V} {ls : List Late} {ds : List D} {r r' : Rho} {Hs : Hp}, LatesOk G r s Hs H vs ls → StOk G r s Hs H → Go (Own r0) (Own r) Hs0 H0 Hs H → (∀ l ∈ ls, NewAt H0 l) →
    frzs r ls = some (ds, r') → ∃ Hs', StOk G r' s Hs' H ∧ Reps G Hs' vs ds ∧ Go (Own r0) (Own r') Hs0 H0 Hs' H ∧ Ex Hs Hs'
  | _, _, _, _, _, Hs, .nil, S, g, _, e => by simp at e; obtain ⟨rfl, rfl⟩ := e; exact ⟨Hs, S, .nil, g, Ex.refl _⟩
  | _, _, ds, r, r', Hs, .cons (l := l) (ls := ls) a b c, S, g, n, e => by
    simp only [frzs] at e
    split at e
    · rename_i d r1 q1
      split at e
      · rename_i ds' r2 q2
        cases e
        obtain ⟨Hs1, S1, h1, g1, k1⟩ := a.frz S g (n l (List.mem_cons_self ..)) q1
        obtain ⟨Hs2, S2, h2, g2, e2⟩ := LatesOk.frz (c.kept k1 b) S1 g1 (fun l h => n l (List.mem_cons_of_mem _ h)) q2
        exact ⟨Hs2, S2, .cons (h1.mono e2) h2, g2, k1.ss.trans e2⟩
      · cases e
    · cases e
end Z

/-! Z2: the judgement of an expression (SE), names, constants, operators, subscripts, calls of built-ins. -/
namespace Z
open PySem L2
open Evl (Ex ex_rd ex_l ex_t)

structure Exc where
  cls : Str
  fs : Option (List (Str × D))
def ExcOk (G : Gm) (Hs : Hp) (cls : Value) (d : Option Addr) (x : Exc) : Prop :=
  G.mg x.cls = some cls ∧ match x.fs with
    | none => d = none
    | some fs => ∃ dd vs, d = some dd ∧ Hs dd = some (.xd vs) ∧ RepF G Hs vs fs
/-- what an expression's word says -/
abbrev XW := Rho → (Late → Rho → Prop) → (Exc → Rho → Prop) → Prop
structure Out (G : Gm) (r : Rho) (s : St) (Hs H : Hp) (r' : Rho) (Hs' H' : Hp) : Prop where
  S : StOk G r' s Hs' H'
  g : Go (Own r) (Own r') Hs H Hs' H'
theorem Out.refl {G : Gm} {r : Rho} {s : St} {Hs H : Hp} (S : StOk G r s Hs H) : Out G r s Hs H r Hs H := ⟨S, Go.refl⟩
theorem Out.trans {G : Gm} {r r1 r2 : Rho} {s : St} {Hs H Hs1 H1 Hs2 H2 : Hp} (a : Out G r s Hs H r1 Hs1 H1) (b : Out G r1 s Hs1 H1 r2 Hs2 H2) : Out G r s Hs H r2 Hs2 H2 := ⟨b.S, a.g.trans b.g⟩
abbrev EXC (G : Gm) (W : WX) (PE : Exc → Rho → Prop) (r : Rho) (s : St) (Hs H : Hp) : Prop :=
  ∀ x r' cls d Hs' H', PE x r' → Out G r s Hs H r' Hs' H' → ExcOk G Hs' cls d x → W cls d s H'
def tW (G : Gm) (W : WX) (w : XW) : TE := fun s H Q => ∃ (r : Rho) (Hs : Hp) (P : Late → Rho → Prop) (PE : Exc → Rho → Prop), StOk G r s Hs H ∧ w r P PE ∧
  (∀ l r' v Hs' H', P l r' → Out G r s Hs H r' Hs' H' → LateOk G r' s Hs' H' v l → NewAt H l → Q v H') ∧ EXC G W PE r s Hs H
def SE (X : Cx) (W : WX) (e : Expr) (w : XW) : Prop := PE X e (tW (gm X) W w)
theorem pe_imp {X : Cx} {e : Expr} {t t' : TE} (h : PE X e t) (i : ∀ s H Q, t' s H Q → t s H Q) : PE X e t' := ⟨fun pins s σ H Q I q => h.run pins s σ H Q I (i σ H Q q)⟩
theorem EXC.mono {G : Gm} {W : WX} {PE : Exc → Rho → Prop} {r r1 : Rho} {s : St} {Hs H Hs1 H1 : Hp} (h : EXC G W PE r s Hs H) (o : Out G r s Hs H r1 Hs1 H1) : EXC G W PE r1 s Hs1 H1 :=
  fun x r' cls d Hs' H' p o' e => h x r' cls d Hs' H' p (o.trans o') e

section
variable {X : Cx} {W : WX}
/-! ### names, constants -/
@[simp] def wVar (i : Nat) : XW := fun r P _ => match r[i]? with
  | some (Sl.sh d) => P (.st d) r
  | some (Sl.own _ _) => P (.sl i) r
  | _ => False
theorem se_var {x : Str} {pos : Pos} (i : Nat) (hN : X.N[i]? = some x := by rfl) (hv : Vis X.env.scope x := by first | exact Or.inl rfl | exact Or.inr (Or.inl rfl) | exact Or.inr (Or.inr rfl)) (hd : (x == ("__debug__" : Str)) = false := by decide)
    (hcd : (x == ("__classdict__" : Str)) = false := by decide) : SE X W (.Name x pos) (wVar i) := by
  refine pe_imp (pe_var hN hv hd hcd) fun s H Q q => ?_
  obtain ⟨r, Hs, P, PE, S, w, k, _⟩ := q
  simp only [wVar] at w
  split at w
  · rename_i d e
    have z := S.sl i _ e
    revert z
    generalize hq : s[i]? = o
    intro z
    cases z with
    | sh z => exact ⟨_, hq, k _ _ _ _ _ w (Out.refl S) (.st z) (fun _ _ q => nomatch q)⟩
  · rename_i p c e
    have z := S.sl i _ e
    revert z
    generalize hq : s[i]? = o
    intro z
    cases z with
    | own _ z => exact ⟨_, hq, k _ _ _ _ _ w (Out.refl S) (.sl hq) (fun _ _ q => nomatch q)⟩
  · exact w.elim
@[simp] def wC (d : D) : XW := fun r P _ => P (.st d) r
theorem se_c {e : Expr} {v : V} {d : D} (h : PE X e (tC v)) (rp : ∀ H, Rep (gm X) H v d) : SE X W e (wC d) := by
  refine pe_imp h fun s H Q q => ?_
  obtain ⟨r, Hs, P, PE, S, w, k, _⟩ := q
  exact k _ _ _ _ _ w (Out.refl S) (.st (rp _)) (fun _ _ q => nomatch q)
theorem se_int {i j pos} : SE X W (.Constant (.int i) j pos) (wC (.int i)) := se_c pe_int fun _ => .int _
theorem se_bl {b j pos} : SE X W (.Constant (.bool b) j pos) (wC (.bl b)) := se_c pe_bl fun _ => .bl _
theorem se_non {j pos} : SE X W (.Constant .none j pos) (wC .non) := se_c pe_non fun _ => .non
theorem se_str {x j pos} : SE X W (.Constant (.str x) j pos) (wC (.str x)) := se_c pe_str fun _ => .str _
/-- a module's constant -/
theorem se_gint {x : Str} {i : Int} {t : Tok} {pos : Pos} (hg : Gl X x) (hm : X.mg x = some (.int i t)) (hd : (x == ("__debug__" : Str)) = false := by decide) : SE X W (.Name x pos) (wC (.int i)) := se_c (pe_glob (v := .int i) hg hm ⟨t, rfl⟩ hd) fun _ => .int _
theorem se_gstr {x z : Str} {t : Tok} {pos : Pos} (hg : Gl X x) (hm : X.mg x = some (.str z t)) (hd : (x == ("__debug__" : Str)) = false := by decide) : SE X W (.Name x pos) (wC (.str z)) := se_c (pe_glob (v := .str z) hg hm ⟨t, rfl⟩ hd) fun _ => .str _

/-! ### what an operation gives -/
inductive LR where
  | val (d : D) | new (c : Cell)
abbrev Go0 (Hs H Hs' H' : Hp) : Prop := Go (fun _ => False) (fun _ => False) Hs H Hs' H'
inductive Ret (G : Gm) (Hs H : Hp) : V → LR → Hp → Hp → Prop
  | val {v d Hs' H'} : Go0 Hs H Hs' H' → Ex Hs' H' → Rep G Hs' v d → Ret G Hs H v (.val d) Hs' H'
  | new {p c Hs' H'} : Go0 Hs H Hs' H' → Ex Hs' H' → H p = none → Hs' p = none → CellAt G Hs' H' p c → Ret G Hs H (.ref p) (.new c) Hs' H'
theorem Go0.refl {Hs H : Hp} : Go0 Hs H Hs H := Go.refl
theorem ret0 {G : Gm} {Hs H : Hp} {v : V} {d : D} (e : Ex Hs H) (h : Rep G Hs v d) : Ret G Hs H v (.val d) Hs H := .val Go0.refl e h
theorem Go0.new {Hs H : Hp} {p : Addr} {o : HO} (e : Ex Hs H) (h : H p = none) : Go0 Hs H Hs (upd H p o) :=
  ⟨Ex.refl _, fun a u q _ => by rw [upd_ne (ne_of_none q h)]; exact q, fun a u _ q _ => q, fun _ q => q.elim, fun a q => by
    by_cases e : a = p
    · subst e; exact h
    · rwa [upd_ne e] at q⟩
theorem Go0.new2 {Hs H : Hp} {p : Addr} {o : HO} (e : Ex Hs H) (h : H p = none) : Go0 Hs H (upd Hs p o) (upd H p o) := by
  have hs : Hs p = none := Evl.fresh_back e h
  exact ⟨Ex.new hs, fun a u q _ => by rw [upd_ne (ne_of_none q h)]; exact q, fun a u q1 q _ => by rw [upd_ne (ne_of_none q1 h)]; exact q, fun _ q => q.elim, fun a q => by
    by_cases e : a = p
    · subst e; exact h
    · rwa [upd_ne e] at q⟩
theorem ex_new2 {Hs H : Hp} {p : Addr} {o : HO} (e : Ex Hs H) : Ex (upd Hs p o) (upd H p o) := fun a u q => by
  by_cases h : a = p
  · subst h; rw [upd_same] at q ⊢; exact q
  · rw [upd_ne h] at q ⊢; exact e a u q
theorem ex_new1 {Hs H : Hp} {p : Addr} {o : HO} (e : Ex Hs H) (h : H p = none) : Ex Hs (upd H p o) := e.trans (Ex.new h)
/-- a new list -/
theorem retL {G : Gm} {Hs H : Hp} {p : Addr} {vs : List V} {ds : List D} (e : Ex Hs H) (h : H p = none) (rp : Reps G Hs vs ds) : Ret G Hs H (.ref p) (.new (.lst ds)) Hs (upd H p (.lst vs)) :=
  .new (Go0.new e h) (ex_new1 e h) h (Evl.fresh_back e h) (.lst upd_same rp)
theorem retK {G : Gm} {Hs H : Hp} {p : Addr} {vs : List (Key × V)} {ds : List (Key × D)} (e : Ex Hs H) (h : H p = none) (rp : RepK G Hs vs ds) : Ret G Hs H (.ref p) (.new (.dic ds)) Hs (upd H p (.dK vs)) :=
  .new (Go0.new e h) (ex_new1 e h) h (Evl.fresh_back e h) (.dic upd_same rp)
/-- a new tuple, kept -/
theorem retT {G : Gm} {Hs H : Hp} {p : Addr} {vs : List V} {ds : List D} (e : Ex Hs H) (h : H p = none) (rp : Reps G Hs vs ds) : Ret G Hs H (.ref p) (.val (.tup ds)) (upd Hs p (.tup vs)) (upd H p (.tup vs)) :=
  .val (Go0.new2 e h) (ex_new2 e) (.tup (Evl.st_of upd_same) (rp.mono (Ex.new (Evl.fresh_back e h))))
@[simp] def LR.out (P : Late → Rho → Prop) (r : Rho) : LR → Prop
  | .val d => P (.st d) r
  | .new c => ∀ p, P (.nw p c) r
section
variable {G : Gm} {r : Rho} {s : St} {Hs H Hs' H' : Hp} {v : V}
theorem StOk.go0 (S : StOk G r s Hs H) (g : Go0 Hs H Hs' H') (e : Ex Hs' H') : StOk G r s Hs' H' := by
  refine ⟨S.len, e, fun i x q => ?_, S.nd⟩
  have z := S.sl i x q
  revert z
  generalize s[i]? = w
  intro z
  cases z with
  | no => exact .no
  | sh h => exact .sh (h.mono g.ss)
  | own h1 h2 =>
    obtain ⟨o, ho⟩ := h2.isv
    exact .own (g.fr _ o ho h1 fun q => q) (h2.go g.ss fun o q => g.kp _ o q fun q => q)
theorem Go0.any (g : Go0 Hs H Hs' H') {O : Addr → Prop} : Go O O Hs H Hs' H' := ⟨g.ss, fun a o h _ => g.kp a o h fun q => q, fun a o h q _ => g.fr a o h q fun q => q, fun _ q => .inl q, g.th⟩
theorem StOk.notOwn (S : StOk G r s Hs H) {p : Addr} (h : H p = none) : ¬ Own r p := fun ⟨i, c, q⟩ => by
  have z := S.sl i _ q
  revert z
  generalize s[i]? = w
  intro z
  cases z with
  | own _ z =>
    obtain ⟨o, ho⟩ := z.isv
    rw [h] at ho; cases ho
/-- an operation's result handed on -/
theorem Ret.out {l : LR} {P : Late → Rho → Prop} {Q : VK} (h : Ret G Hs H v l Hs' H') (S : StOk G r s Hs H) (p : l.out P r)
    (k : ∀ l r' v Hs' H', P l r' → Out G r s Hs H r' Hs' H' → LateOk G r' s Hs' H' v l → NewAt H l → Q v H') : Q v H' := by
  cases h with
  | val g e h => exact k _ _ _ _ _ p ⟨S.go0 g e, g.any⟩ (.st h) (fun _ _ q => nomatch q)
  | new g e n1 n2 h => exact k _ _ _ _ _ (p _) ⟨S.go0 g e, g.any⟩ (.nw n2 h (S.notOwn n1)) (fun _ _ q => by cases q; exact n1)
end

/-! ### reading a late value -/
@[simp] def withD (r : Rho) (l : Late) (k : D → Prop) : Prop := match res r l with
  | some d => k d
  | none => False
@[simp] def withF (r : Rho) (l : Late) (k : D → Rho → Prop) : Prop := match frz r l with
  | some (d, r') => k d r'
  | none => False
theorem withD_iff {r : Rho} {l : Late} {k : D → Prop} (h : withD r l k) : ∃ d, res r l = some d ∧ k d := by
  unfold withD at h
  split at h
  · exact ⟨_, by assumption, h⟩
  · exact h.elim
theorem withF_iff {r : Rho} {l : Late} {k : D → Rho → Prop} (h : withF r l k) : ∃ d r', frz r l = some (d, r') ∧ k d r' := by
  unfold withF at h
  split at h
  · exact ⟨_, _, by assumption, h⟩
  · exact h.elim

/-! ### operators -/
abbrev G2 := D → D → (LR → Prop) → Prop
/-- the operation f is told by g -/
def OpOk (X : Cx) (rr : R2) (g : G2) : Prop := ∀ (x y : V) (dx dy : D) (Hs H : Hp) (P : LR → Prop) (Q : VK), Ex Hs H → RepB (gm X) Hs H x dx → RepB (gm X) Hs H y dy → g dx dy P →
    (∀ l v Hs' H', P l → Ret (gm X) Hs H v l Hs' H' → Q v H') → rr x y H Q
@[simp] def w2 (g : G2) (wa wb : XW) : XW := fun r P PE => wa r (fun la r1 => wb r1 (fun lb r2 => withD r2 la fun dx => withD r2 lb fun dy => g dx dy fun l => l.out P r2) PE) PE
theorem t_w2 {rr : R2} {g : G2} {wa wb : XW} (ho : OpOk X rr g) {s : St} {H : Hp} {Q : VK} (q : tW (gm X) W (w2 g wa wb) s H Q) : tOp rr (tW (gm X) W wa) (tW (gm X) W wb) s H Q := by
  obtain ⟨r, Hs, P, PE, S, w, k, ke⟩ := q
  refine ⟨r, Hs, _, PE, S, w, fun la r1 x Hs1 H1 p1 o1 l1 n1 => ?_, ke⟩
  refine ⟨r1, Hs1, _, PE, o1.S, p1, fun lb r2 y Hs2 H2 p2 o2 l2 n2 => ?_, ke.mono o1⟩
  obtain ⟨dx, ex, p2⟩ := withD_iff p2
  obtain ⟨dy, ey, p2⟩ := withD_iff p2
  refine ho x y dx dy Hs2 H2 _ _ o2.S.ex ((l1.go o2.g).res o2.S ex) (l2.res o2.S ey) p2 fun l v Hs' H' pl rt => ?_
  refine rt.out o2.S pl fun l' r' v' Hs3 H3 p3 o3 l3 n3 => k l' r' v' Hs3 H3 p3 ((o1.trans o2).trans o3) l3 fun p c e => ?_
  exact (o1.trans o2).g.th p (n3 p c e)
end
end Z

/-! Z3: operators by data. -/
namespace Z
open PySem L2
open Evl (Ex ex_rd ex_l ex_t)

section
variable {G : Gm} {Hs H : Hp} {v : V} {d : D}
theorem RepB.inv (h : RepB G Hs H v d) : Rep G Hs v d ∨ ∃ p c, v = .ref p ∧ d = Cell.toD c ∧ CellAt G Hs H p c := by
  cases h with
  | st h => exact .inl h
  | own h => exact .inr ⟨_, _, rfl, rfl, h⟩
theorem RepB.intv {i : Int} (h : RepB G Hs H v (.int i)) : v = .int i := by
  rcases h.inv with h | ⟨p, c, _, e, _⟩
  · cases h; rfl
  · cases c <;> cases e
theorem RepB.blv {i : Bool} (h : RepB G Hs H v (.bl i)) : v = .bl i := by
  rcases h.inv with h | ⟨p, c, _, e, _⟩
  · cases h; rfl
  · cases c <;> cases e
theorem RepB.strv {i : Str} (h : RepB G Hs H v (.str i)) : v = .str i := by
  rcases h.inv with h | ⟨p, c, _, e, _⟩
  · cases h; rfl
  · cases c <;> cases e
theorem RepB.nonv (h : RepB G Hs H v .non) : v = .non := by
  rcases h.inv with h | ⟨p, c, _, e, _⟩
  · cases h; rfl
  · cases c <;> cases e
theorem RepB.lstv {ds : List D} (h : RepB G Hs H v (.lst ds)) (e : Ex Hs H) : ∃ p vs, v = .ref p ∧ H p = some (.lst vs) ∧ Reps G Hs vs ds := by
  rcases h.inv with z | ⟨p, c, rfl, q, z⟩
  · cases z with
    | lst y1 r => exact ⟨_, _, rfl, e _ _ y1, r⟩
  · cases z with
    | lst y1 r => cases q; exact ⟨_, _, rfl, y1, r⟩
    | dic _ _ => cases q
    | ins _ _ _ => cases q
theorem RepB.tupv {ds : List D} (h : RepB G Hs H v (.tup ds)) (e : Ex Hs H) : ∃ p vs, v = .ref p ∧ SqT G.K H p vs ∧ Reps G Hs vs ds ∧ Rep G Hs v (.tup ds) := by
  rcases h.inv with z | ⟨p, c, rfl, q, z⟩
  · have h' := z
    cases z with
    | tup y1 r => exact ⟨_, _, rfl, ex_t e y1, r, h'⟩
  · cases c <;> cases q
theorem RepB.dicv {ds : List (Key × D)} (h : RepB G Hs H v (.dic ds)) (e : Ex Hs H) : ∃ p vs, v = .ref p ∧ Rd H p (.dK vs) ∧ RepK G Hs vs ds := by
  rcases h.inv with z | ⟨p, c, rfl, q, z⟩
  · cases z with
    | dic y1 r => exact ⟨_, _, rfl, ex_rd e y1, r⟩
  · cases z with
    | dic y1 r => cases q; exact ⟨_, _, rfl, .inl y1, r⟩
    | lst _ _ => cases q
    | ins _ _ _ => cases q
theorem RepB.insv {c : Str} {ds : List (Str × D)} (h : RepB G Hs H v (.ins c ds)) (e : Ex Hs H) : ∃ p C dx vs, v = .ref p ∧ H p = some (.ins C dx vs) ∧ G.mg c = some (.ref C) ∧ RepF G Hs vs ds := by
  rcases h.inv with z | ⟨p, c', rfl, q, z⟩
  · cases z with
    | ins y1 hc r => exact ⟨_, _, _, _, rfl, e _ _ y1, hc, r⟩
  · cases z with
    | ins y1 hc r => cases q; exact ⟨_, _, _, _, rfl, y1, hc, r⟩
    | lst _ _ => cases q
    | dic _ _ => cases q
/-- a list that is read -/
def seqL : D → Option (List D)
  | .lst xs => some xs
  | .rol xs => some xs
  | _ => none
theorem RepB.seqLv {ds : List D} (h : RepB G Hs H v d) (q : seqL d = some ds) (e : Ex Hs H) : ∃ p vs, v = .ref p ∧ SqL G.K H p vs ∧ Reps G Hs vs ds := by
  cases d with
  | lst xs =>
    cases q
    obtain ⟨p, vs, h1, h2, h3⟩ := h.lstv e
    exact ⟨p, vs, h1, Evl.sq_of h2, h3⟩
  | rol xs =>
    cases q
    rcases h.inv with z | ⟨p, c, rfl, q, z⟩
    · cases z with
      | rol y1 r => exact ⟨_, _, rfl, ex_l e y1, r⟩
    · cases c <;> cases q
  | _ => cases q
end

def OpG (X : Cx) (f : Value → Value → Sem Value) (g : G2) : Prop := ∃ rr, OpR X f rr ∧ OpOk X rr g
section
variable {X : Cx} {W : WX} {a b : Expr} {wa wb : XW} {pos : Pos}
theorem se_bin {op : Operator} {g : G2} (ho : OpG X (binaryOp op) g) (ha : SE X W a wa) (hb : SE X W b wb) : SE X W (.BinOp a op b pos) (w2 g wa wb) := by
  obtain ⟨rr, h1, h2⟩ := ho
  exact pe_imp (pe_op h1 ha hb) fun s H Q q => t_w2 h2 q
theorem se_cmp {op : CmpOp} {g : G2} (ho : OpG X (compareOp op) g) (ha : SE X W a wa) (hb : SE X W b wb) (hm : behindInMarks op b = false := by first | exact nomark _ | rfl) : SE X W (.Compare a [op] [b] pos) (w2 g wa wb) := by
  obtain ⟨rr, h1, h2⟩ := ho
  exact pe_imp (pe_cmpR h1 ha hb hm) fun s H Q q => t_w2 h2 q

/-! ### + -/
def gAdd : G2
  | .int i, .int j, P => P (.val (.int (i + j)))
  | .str x, .str y, P => x.length + y.length ≤ sizeLine ∧ P (.val (.str (x ++ y)))
  | .lst xs, .lst ys, P => xs.length + ys.length ≤ sizeLine ∧ P (.new (.lst (xs ++ ys)))
  | .tup xs, .tup ys, P => xs.length + ys.length ≤ sizeLine ∧ P (.val (.tup (xs ++ ys)))
  | _, _, _ => False
theorem og_add : OpG X (binaryOp .Add) gAdd := by
  refine ⟨_, OpR.or (OpR.or op_add op_add_str) (OpR.or op_cat op_catA), fun x y dx dy Hs H P Q e rx ry q k => ?_⟩
  cases dx <;> cases dy <;> simp only [gAdd] at q
  · obtain rfl := rx.intv; obtain rfl := ry.intv
    exact .inl (.inl ⟨_, _, rfl, rfl, k _ _ _ _ q (ret0 e (.int _))⟩)
  · obtain rfl := rx.strv; obtain rfl := ry.strv
    exact .inl (.inr ⟨_, _, rfl, rfl, q.1, k _ _ _ _ q.2 (ret0 e (.str _))⟩)
  · obtain ⟨p, vs, rfl, hp, r1, rp⟩ := rx.tupv e
    obtain ⟨p', ws, rfl, hp', r2, rp'⟩ := ry.tupv e
    refine .inr (.inr ⟨p, p', vs, ws, rfl, rfl, hp, hp', by rw [r1.length, r2.length]; exact q.1, fun h => ?_, fun h h' => ?_, fun h h' l hl => k _ _ _ _ q.2 (retT e hl (r1.append r2))⟩)
    · subst h; cases r1; exact k _ _ _ _ q.2 (ret0 e (by simpa using rp'))
    · subst h'; cases r2; exact k _ _ _ _ q.2 (ret0 e (by simpa using rp))
  · obtain ⟨p, vs, rfl, hp, r1⟩ := rx.lstv e
    obtain ⟨p', ws, rfl, hp', r2⟩ := ry.lstv e
    exact .inr (.inl ⟨p, p', vs, ws, rfl, rfl, hp, hp', by rw [r1.length, r2.length]; exact q.1, fun l hl => k _ _ _ _ q.2 (retL e hl (r1.append r2))⟩)
/-! ### - -/
def gSub : G2
  | .int i, .int j, P => P (.val (.int (i - j)))
  | _, _, _ => False
theorem og_sub : OpG X (binaryOp .Sub) gSub := by
  refine ⟨_, op_sub, fun x y dx dy Hs H P Q e rx ry q k => ?_⟩
  cases dx <;> cases dy <;> simp only [gSub] at q
  obtain rfl := rx.intv; obtain rfl := ry.intv
  exact ⟨_, _, rfl, rfl, k _ _ _ _ q (ret0 e (.int _))⟩
/-! ### *: ints (one within 2^64, or wide), list * int -/
def gMul : G2
  | .int i, .int j, P => (CMul i j ∨ CMulW i j) ∧ P (.val (.int (i * j)))
  | .lst xs, .int n, P => -(2 ^ 63) ≤ n ∧ n < 2 ^ 63 ∧ xs.length * n.toNat ≤ sizeLine ∧ P (.new (.lst (List.replicate n.toNat xs).flatten))
  | _, _, _ => False
theorem reps_rep {G : Gm} {H : Hp} {vs : List V} {ds : List D} (r : Reps G H vs ds) : ∀ n : Nat, Reps G H (List.replicate n vs).flatten (List.replicate n ds).flatten
  | 0 => .nil
  | n + 1 => by
    rw [List.replicate_succ, List.replicate_succ, List.flatten_cons, List.flatten_cons]
    exact r.append (reps_rep r n)
theorem og_mul : OpG X (binaryOp .Mult) gMul := by
  refine ⟨_, OpR.or (OpR.or op_mul op_mulW) op_rep, fun x y dx dy Hs H P Q e rx ry q k => ?_⟩
  cases dx <;> cases dy <;> simp only [gMul] at q
  · obtain rfl := rx.intv; obtain rfl := ry.intv
    rcases q.1 with c | c
    · exact .inl (.inl ⟨_, _, rfl, rfl, c, k _ _ _ _ q.2 (ret0 e (.int _))⟩)
    · exact .inl (.inr ⟨_, _, rfl, rfl, c, k _ _ _ _ q.2 (ret0 e (.int _))⟩)
  · obtain ⟨p, vs, rfl, hp, r1⟩ := rx.lstv e
    obtain rfl := ry.intv
    exact .inr ⟨p, _, vs, rfl, rfl, hp, q.1, q.2.1, by rw [r1.length]; exact q.2.2.1, fun l hl => k _ _ _ _ q.2.2.2 (retL e hl (reps_rep r1 _))⟩
/-! ### // and % by a positive divisor below 2^9000 | any % -/
def gDiv : G2
  | .int i, .int j, P => CDivW i j ∧ P (.val (.int (i / j)))
  | _, _, _ => False
theorem og_div : OpG X (binaryOp .FloorDiv) gDiv := by
  refine ⟨_, op_fdivW, fun x y dx dy Hs H P Q e rx ry q k => ?_⟩
  cases dx <;> cases dy <;> simp only [gDiv] at q
  obtain rfl := rx.intv; obtain rfl := ry.intv
  exact ⟨_, _, rfl, rfl, q.1, k _ _ _ _ q.2 (ret0 e (.int _))⟩
def gMod : G2
  | .int i, .int j, P => 0 < j ∧ P (.val (.int (i % j)))
  | _, _, _ => False
theorem og_mod : OpG X (binaryOp .Mod) gMod := by
  refine ⟨_, op_mod, fun x y dx dy Hs H P Q e rx ry q k => ?_⟩
  cases dx <;> cases dy <;> simp only [gMod] at q
  obtain rfl := rx.intv; obtain rfl := ry.intv
  exact ⟨_, _, rfl, rfl, q.1, k _ _ _ _ q.2 (ret0 e (.int _))⟩
def CPowB (i j : Int) : Prop := 0 ≤ j ∧ (Builtin.Int.intBits i : Int) * j ≤ 2 ^ 27
theorem op_powB : OpR X (binaryOp .Pow) (rI CPowB fun i j => .int (i ^ j.toNat)) := opI fun _ _ _ _ _ _ _ hc q => PyProof.Rows.pow_int hc.1 hc.2 q
def gPow : G2
  | .int i, .int j, P => CPowB i j ∧ P (.val (.int (i ^ j.toNat)))
  | _, _, _ => False
theorem og_pow : OpG X (binaryOp .Pow) gPow := by
  refine ⟨_, op_powB, fun x y dx dy Hs H P Q e rx ry q k => ?_⟩
  cases dx <;> cases dy <;> simp only [gPow] at q
  obtain rfl := rx.intv; obtain rfl := ry.intv
  exact ⟨_, _, rfl, rfl, q.1, k _ _ _ _ q.2 (ret0 e (.int _))⟩

/-! ### comparisons of ints and texts -/
def gLt : G2
  | .int i, .int j, P => P (.val (.bl (decide (i < j))))
  | .str i, .str j, P => P (.val (.bl (decide (i.cps.toList < j.cps.toList))))
  | _, _, _ => False
theorem og_lt : OpG X (compareOp .Lt) gLt := by
  refine ⟨_, OpR.or op_lt op_lt_str, fun x y dx dy Hs H P Q e rx ry q k => ?_⟩
  cases dx <;> cases dy <;> simp only [gLt] at q
  · obtain rfl := rx.intv; obtain rfl := ry.intv
    exact .inl ⟨_, _, rfl, rfl, k _ _ _ _ q (ret0 e (.bl _))⟩
  · obtain rfl := rx.strv; obtain rfl := ry.strv
    exact .inr ⟨_, _, rfl, rfl, k _ _ _ _ q (ret0 e (.bl _))⟩
def gLe : G2
  | .int i, .int j, P => P (.val (.bl (decide (i ≤ j))))
  | _, _, _ => False
theorem og_le : OpG X (compareOp .LtE) gLe := by
  refine ⟨_, op_le, fun x y dx dy Hs H P Q e rx ry q k => ?_⟩
  cases dx <;> cases dy <;> simp only [gLe] at q
  obtain rfl := rx.intv; obtain rfl := ry.intv
  exact ⟨_, _, rfl, rfl, k _ _ _ _ q (ret0 e (.bl _))⟩
def gGt : G2
  | .int i, .int j, P => P (.val (.bl (decide (j < i))))
  | _, _, _ => False
theorem og_gt : OpG X (compareOp .Gt) gGt := by
  refine ⟨_, op_gt, fun x y dx dy Hs H P Q e rx ry q k => ?_⟩
  cases dx <;> cases dy <;> simp only [gGt] at q
  obtain rfl := rx.intv; obtain rfl := ry.intv
  exact ⟨_, _, rfl, rfl, k _ _ _ _ q (ret0 e (.bl _))⟩
def gGe : G2
  | .int i, .int j, P => P (.val (.bl (decide (j ≤ i))))
  | _, _, _ => False
theorem og_ge : OpG X (compareOp .GtE) gGe := by
  refine ⟨_, op_ge, fun x y dx dy Hs H P Q e rx ry q k => ?_⟩
  cases dx <;> cases dy <;> simp only [gGe] at q
  obtain rfl := rx.intv; obtain rfl := ry.intv
  exact ⟨_, _, rfl, rfl, k _ _ _ _ q (ret0 e (.bl _))⟩

/-! ### == and != -/
mutual
def py : D → PyData
  | .non => .none
  | .bl b => .bool b
  | .int i => .int i
  | .str x => .str x
  | .tup xs => .tuple (pys xs)
  | .lst xs => .list (pys xs)
  | .rol xs => .list (pys xs)
  | .dic _ => .dict []
  | .ins _ _ => .dict []
  | .ty _ => .dict []
def pys : List D → List PyData
  | [] => []
  | x :: xs => py x :: pys xs
end
mutual
theorem Rep.dp {G : Gm} {Hs H : Hp} (e : Ex Hs H) : ∀ {v : V} {d : D}, Rep G Hs v d → (py d).canLay0 = true → Dp G.K H v (py d)
  | _, _, .non, _ => .non
  | _, _, .bl b, _ => .bl b
  | _, _, .int i, _ => .int i
  | _, _, .str x, _ => .str x
  | _, _, .tup h r, c => .tup (ex_t e h) (Reps.dp e r (by simpa [py, PyData.canLay0] using c))
  | _, _, .lst h r, c => .lst (Evl.sq_of (e _ _ h)) (Reps.dp e r (by simpa [py, PyData.canLay0] using c))
  | _, _, .rol h r, c => .lst (ex_l e h) (Reps.dp e r (by simpa [py, PyData.canLay0] using c))
  | _, _, .dic h r, c => by simp [py, PyData.canLay0] at c
  | _, _, .ins h q r, c => by simp [py, PyData.canLay0] at c
  | _, _, .ty n, c => by simp [py, PyData.canLay0] at c
theorem Reps.dp {G : Gm} {Hs H : Hp} (e : Ex Hs H) : ∀ {v : List V} {d : List D}, Reps G Hs v d → PyData.canLayAll0 (pys d) = true → DpAll G.K H v (pys d)
  | _, _, .nil, _ => .nil
  | _, _, .cons (d := d) (ds := ds) h r, c => by
    have c' : (py d).canLay0 = true ∧ PyData.canLayAll0 (pys ds) = true := by simpa [pys, PyData.canLayAll0] using c
    exact .cons (Rep.dp e h c'.1) (Reps.dp e r c'.2)
end
theorem RepB.dp {G : Gm} {Hs H : Hp} {v : V} {d : D} (h : RepB G Hs H v d) (e : Ex Hs H) (c : (py d).canLay0 = true) : Dp G.K H v (py d) := by
  rcases h.inv with z | ⟨p, cl, rfl, rfl, z⟩
  · exact z.dp e c
  · cases z with
    | lst y1 r => exact .lst (Evl.sq_of y1) (r.dp e (by simpa [py, PyData.canLay0] using c))
    | dic _ _ => simp [py, PyData.canLay0] at c
    | ins _ _ _ => simp [py, PyData.canLay0] at c
def okEq (d : D) : Bool := SeqAt.shaped (py d)
def eqD (d e : D) : Bool := PyData.eqv (py d) (py e)
def gEq : G2
  | .int i, .int j, P => P (.val (.bl (decide (i = j))))
  | d, e, P => okEq d = true ∧ okEq e = true ∧ P (.val (.bl (eqD d e)))
def gNe : G2
  | .int i, .int j, P => P (.val (.bl (!decide (i = j))))
  | d, e, P => okEq d = true ∧ okEq e = true ∧ P (.val (.bl (!eqD d e)))
theorem okEq_int (i : Int) : okEq (.int i) = true := by simp [okEq, py, SeqAt.shaped, PyData.canLay0, PyData.depth]
theorem eqD_int (i j : Int) : eqD (.int i) (.int j) = decide (i = j) := by
  show (i == j) = decide (i = j)
  by_cases h : i = j <;> simp [h]
theorem gEq_gen {d e : D} {P : LR → Prop} (h : gEq d e P) : okEq d = true ∧ okEq e = true ∧ P (.val (.bl (eqD d e))) := by
  unfold gEq at h
  split at h
  · exact ⟨okEq_int _, okEq_int _, by rw [eqD_int]; exact h⟩
  · exact h
theorem gNe_gen {d e : D} {P : LR → Prop} (h : gNe d e P) : okEq d = true ∧ okEq e = true ∧ P (.val (.bl (!eqD d e))) := by
  unfold gNe at h
  split at h
  · exact ⟨okEq_int _, okEq_int _, by rw [eqD_int]; exact h⟩
  · exact h
theorem og_eq (hu : X.A.units + 64 < cLine) : OpG X (compareOp .Eq) gEq := by
  refine ⟨_, op_eqD hu, fun x y dx dy Hs H P Q e rx ry q k => ?_⟩
  obtain ⟨h1, h2, q⟩ := gEq_gen q
  exact ⟨py dx, py dy, rx.dp e (SeqAt.canLay_of_shaped h1), ry.dp e (SeqAt.canLay_of_shaped h2), h1, h2, k _ _ _ _ q (ret0 e (.bl _))⟩
theorem og_ne (hu : X.A.units + 64 < cLine) : OpG X (compareOp .NotEq) gNe := by
  refine ⟨_, op_neD hu, fun x y dx dy Hs H P Q e rx ry q k => ?_⟩
  obtain ⟨h1, h2, q⟩ := gNe_gen q
  exact ⟨py dx, py dy, rx.dp e (SeqAt.canLay_of_shaped h1), ry.dp e (SeqAt.canLay_of_shaped h2), h1, h2, k _ _ _ _ q (ret0 e (.bl _))⟩
/-! ### is None, is True .. -/
def gIs : G2
  | .bl a, .bl b, P => P (.val (.bl (decide (a = b))))
  | .non, .non, P => P (.val (.bl true))
  | .bl _, .non, P => P (.val (.bl false))
  | .int _, .non, P => P (.val (.bl false))
  | .str _, .non, P => P (.val (.bl false))
  | .tup _, .non, P => P (.val (.bl false))
  | .lst _, .non, P => P (.val (.bl false))
  | .rol _, .non, P => P (.val (.bl false))
  | .dic _, .non, P => P (.val (.bl false))
  | .ins _ _, .non, P => P (.val (.bl false))
  | _, _, _ => False
theorem RepB.isnon {G : Gm} {Hs H : Hp} {v : V} {d : D} (h : RepB G Hs H v d) (n : d ≠ .non) : decide (v = .non) = false := by
  refine decide_eq_false fun e => ?_
  subst e
  rcases h.inv with h | ⟨p, c, q, _, _⟩
  · cases h; exact n rfl
  · cases q
theorem og_is : OpG X (compareOp .Is) gIs := by
  refine ⟨_, OpR.or op_isN op_is_bl, fun x y dx dy Hs H P Q e rx ry q k => ?_⟩
  cases dx <;> cases dy <;> simp only [gIs] at q <;> first
    | (obtain rfl := ry.nonv; exact .inl ⟨rfl, by rw [rx.isnon (by simp)]; exact k _ _ _ _ q (ret0 e (.bl _))⟩)
    | (obtain rfl := ry.nonv; obtain rfl := rx.nonv; exact .inl ⟨rfl, k _ _ _ _ q (ret0 e (.bl _))⟩)
    | (obtain rfl := rx.blv; obtain rfl := ry.blv; exact .inr ⟨_, _, rfl, rfl, k _ _ _ _ q (ret0 e (.bl _))⟩)
def gIsN : G2 := fun x y P => gIs x y fun l => match l with
  | .val (.bl b) => P (.val (.bl !b))
  | _ => False
theorem og_isnot : OpG X (compareOp .IsNot) gIsN := by
  refine ⟨_, OpR.or op_notN op_isnot_bl, fun x y dx dy Hs H P Q e rx ry q k => ?_⟩
  cases dx <;> cases dy <;> simp only [gIs, gIsN] at q <;> first
    | (obtain rfl := ry.nonv; exact .inl ⟨rfl, by rw [rx.isnon (by simp)]; exact k _ _ _ _ q (ret0 e (.bl _))⟩)
    | (obtain rfl := ry.nonv; obtain rfl := rx.nonv; exact .inl ⟨rfl, k _ _ _ _ q (ret0 e (.bl _))⟩)
    | (obtain rfl := rx.blv; obtain rfl := ry.blv; exact .inr ⟨_, _, rfl, rfl, k _ _ _ _ q (ret0 e (.bl _))⟩)
end
end Z

/-! Z4: tests, and / or / not, chains, if-expressions, argument lists, displays, subscripts, slices, calls of built-ins. -/
namespace Z
open PySem L2
open Evl (Ex ex_rd ex_l ex_t)

abbrev TWt := Rho → (Bool → Rho → Prop) → (Exc → Rho → Prop) → Prop
def tWT (G : Gm) (W : WX) (w : TWt) : TT := fun s H Q => ∃ (r : Rho) (Hs : Hp) (P : Bool → Rho → Prop) (PE : Exc → Rho → Prop), StOk G r s Hs H ∧ w r P PE ∧
  (∀ b r' Hs' H', P b r' → Out G r s Hs H r' Hs' H' → Q b H') ∧ EXC G W PE r s Hs H
def ST (X : Cx) (W : WX) (e : Expr) (w : TWt) : Prop := PT X e (tWT (gm X) W w)
def SW (X : Cx) (W : WX) (e : Expr) (w : TWt) : Prop := PW X e (tWT (gm X) W w)
theorem pt_imp {X : Cx} {e : Expr} {t t' : TT} (h : PT X e t) (i : ∀ s H Q, t' s H Q → t s H Q) : PT X e t' := ⟨fun pins s σ H Q I q => h.run pins s σ H Q I (i σ H Q q)⟩
theorem pw_imp {X : Cx} {e : Expr} {t t' : TT} (h : PW X e t) (i : ∀ s H Q, t' s H Q → t s H Q) : PW X e t' := ⟨fun wh pins s σ H Q I q => h.run wh pins s σ H Q I (i σ H Q q)⟩
abbrev TAw := Rho → (List Late → Rho → Prop) → (Exc → Rho → Prop) → Prop
def tWA (G : Gm) (W : WX) (w : TAw) : TA := fun s H Q => ∃ (r : Rho) (Hs : Hp) (P : List Late → Rho → Prop) (PE : Exc → Rho → Prop), StOk G r s Hs H ∧ w r P PE ∧
  (∀ ls r' vs Hs' H', P ls r' → Out G r s Hs H r' Hs' H' → LatesOk G r' s Hs' H' vs ls → (∀ l ∈ ls, NewAt H l) → Q vs H') ∧ EXC G W PE r s Hs H
def SA (X : Cx) (W : WX) (es : List Expr) (w : TAw) : Prop := PA X es (tWA (gm X) W w)
theorem pa_imp {X : Cx} {es : List Expr} {t t' : TA} (h : PA X es t) (i : ∀ s H Q, t' s H Q → t s H Q) : PA X es t' := ⟨fun pos pins s σ H Q I q => h.run pos pins s σ H Q I (i σ H Q q)⟩

section
variable {X : Cx} {W : WX} {a b c e : Expr} {es : List Expr} {wa wb wc w : XW} {tw tu : TWt} {pos : Pos}
theorem SW.st (h : SW X W e tw) : ST X W e tw := PW.pt h
/-- truth of data -/
def truD : D → (Bool → Prop) → Prop
  | .non, P => P false
  | .bl b, P => P b
  | .int i, P => P (i != 0)
  | .str y, P => y.length ≤ sizeLine ∧ P ((y.length : Int) != 0)
  | .tup xs, P => P (!xs.isEmpty)
  | .lst xs, P => P (!xs.isEmpty)
  | .rol xs, P => P (!xs.isEmpty)
  | .dic xs, P => False
  | .ins _ _, P => False
  | .ty _, P => False
theorem emp_reps {G : Gm} {H : Hp} {vs : List V} {ds : List D} (r : Reps G H vs ds) : vs.isEmpty = ds.isEmpty := by cases r <;> rfl
theorem emp_repK {G : Gm} {H : Hp} {vs : List (Key × V)} {ds : List (Key × D)} (r : RepK G H vs ds) : vs.isEmpty = ds.isEmpty := by cases r <;> rfl
theorem tru_of {G : Gm} {Hs H : Hp} {v : V} {d : D} {P : Bool → Prop} (h : RepB G Hs H v d) (e : Ex Hs H) (q : truD d P) : ∃ k, TruV G.K v H k ∧ P k := by
  cases d <;> simp only [truD] at q
  · obtain rfl := h.nonv; exact ⟨_, rfl, q⟩
  · obtain rfl := h.blv; exact ⟨_, rfl, q⟩
  · obtain rfl := h.intv; exact ⟨_, rfl, q⟩
  · obtain rfl := h.strv; exact ⟨_, ⟨q.1, rfl⟩, q.2⟩
  · obtain ⟨p, vs, rfl, h1, h2, _⟩ := h.tupv e
    exact ⟨_, .inr (.inl ⟨_, h1, rfl⟩), by rw [emp_reps h2]; exact q⟩
  · obtain ⟨p, vs, rfl, h1, h2⟩ := h.lstv e
    exact ⟨_, .inl ⟨_, Evl.sq_of h1, rfl⟩, by rw [emp_reps h2]; exact q⟩
  · obtain ⟨p, vs, rfl, h1, h2⟩ := h.seqLv (ds := _) rfl e
    exact ⟨_, .inl ⟨_, h1, rfl⟩, by rw [emp_reps h2]; exact q⟩
@[simp] def tVal (w : XW) : TWt := fun r P PE => w r (fun l r1 => withD r1 l fun d => truD d fun b => P b r1) PE
theorem st_val (h : SE X W e w) (he : ∀ whole, isTrue e X.env whole = (do let v ← whole; standAt e.pos; holding [v] (truthy v)) := by intro _; rfl) : ST X W e (tVal w) := by
  refine pt_imp (pt_truth h he) fun s H Q q => ?_
  obtain ⟨r, Hs, P, PE, S, w, k, ke⟩ := q
  refine ⟨r, Hs, _, PE, S, w, fun l r1 v Hs1 H1 p o lo n => ?_, ke⟩
  obtain ⟨d, ed, p⟩ := withD_iff p
  obtain ⟨b, tb, p⟩ := tru_of (lo.res o.S ed) o.S.ex p
  exact ⟨b, tb, k _ _ _ _ p o⟩
/-- the value is a bool -/
def isBl : LR → (Bool → Prop) → Prop
  | .val (.bl b), P => P b
  | _, _ => False
@[simp] def tw2 (g : G2) (wa wb : XW) : TWt := fun r P PE => wa r (fun la r1 => wb r1 (fun lb r2 => withD r2 la fun dx => withD r2 lb fun dy => g dx dy fun l => isBl l fun b => P b r2) PE) PE
theorem ret_bl {G : Gm} {Hs H : Hp} {v : V} {l : LR} {Hs' H' : Hp} {P : Bool → Prop} (h : Ret G Hs H v l Hs' H') (q : isBl l P) : ∃ b, v = .bl b ∧ P b ∧ Go0 Hs H Hs' H' ∧ Ex Hs' H' := by
  cases h with
  | val g e r =>
    rename_i d
    cases d <;> simp only [isBl] at q
    cases r
    exact ⟨_, rfl, q, g, e⟩
  | new => simp only [isBl] at q
theorem st_cmp {op : CmpOp} {g : G2} (ho : OpG X (compareOp op) g) (ha : SE X W a wa) (hb : SE X W b wb) (hm : behindInMarks op b = false := by first | exact nomark _ | rfl) : ST X W (.Compare a [op] [b] pos) (tw2 g wa wb) := by
  obtain ⟨rr, h1, h2⟩ := ho
  refine pt_imp (pt_cmpR h1 ha hb hm) fun s H Q q => ?_
  obtain ⟨r, Hs, P, PE, S, w, k, ke⟩ := q
  refine ⟨r, Hs, _, PE, S, w, fun la r1 x Hs1 H1 p1 o1 l1 n1 => ?_, ke⟩
  refine ⟨r1, Hs1, _, PE, o1.S, p1, fun lb r2 y Hs2 H2 p2 o2 l2 n2 => ?_, ke.mono o1⟩
  obtain ⟨dx, ex, p2⟩ := withD_iff p2
  obtain ⟨dy, ey, p2⟩ := withD_iff p2
  refine h2 x y dx dy Hs2 H2 _ _ o2.S.ex ((l1.go o2.g).res o2.S ex) (l2.res o2.S ey) p2 fun l v Hs' H' pl rt => ?_
  obtain ⟨b, rfl, p, g, e⟩ := ret_bl rt pl
  exact ⟨b, rfl, k _ _ _ _ p (o1.trans (o2.trans ⟨o2.S.go0 g e, g.any⟩))⟩
/-- a < b <= c -/
@[simp] def twCh (g g' : G2) (wa wb wc : XW) : TWt := fun r P PE => wa r (fun la r1 => wb r1 (fun lb r2 => withD r2 la fun dx => withD r2 lb fun dy => g dx dy fun l => isBl l fun k =>
  if k = true then wc r2 (fun lc r3 => withD r3 lb fun dy => withD r3 lc fun dz => g' dy dz fun l => isBl l fun b => P b r3) PE else P false r2) PE) PE
theorem st_chain {op op' : CmpOp} {g g' : G2} (ho : OpG X (compareOp op) g) (ho' : OpG X (compareOp op') g') (ha : SE X W a wa) (hb : SE X W b wb) (hc : SE X W c wc)
    (hm : lastMarks [op, op'] [b, c] = false := by rfl) : ST X W (.Compare a [op, op'] [b, c] pos) (twCh g g' wa wb wc) := by
  obtain ⟨rr, h1, h2⟩ := ho
  obtain ⟨rr', h1', h2'⟩ := ho'
  refine pt_imp (pt_chain h1 h1' ha hb hc hm) fun s H Q q => ?_
  obtain ⟨r, Hs, P, PE, S, w, k, ke⟩ := q
  refine ⟨r, Hs, _, PE, S, w, fun la r1 x Hs1 H1 p1 o1 l1 n1 => ?_, ke⟩
  refine ⟨r1, Hs1, _, PE, o1.S, p1, fun lb r2 y Hs2 H2 p2 o2 l2 n2 => ?_, ke.mono o1⟩
  obtain ⟨dx, ex, p2⟩ := withD_iff p2
  obtain ⟨dy, ey, p2⟩ := withD_iff p2
  refine h2 x y dx dy Hs2 H2 _ _ o2.S.ex ((l1.go o2.g).res o2.S ex) (l2.res o2.S ey) p2 fun l v Hs' H' pl rt => ?_
  obtain ⟨b, rfl, p, g, e⟩ := ret_bl rt pl
  have o3 : Out (gm X) r2 s Hs2 H2 r2 Hs' H' := ⟨o2.S.go0 g e, g.any⟩
  have oo := o1.trans (o2.trans o3)
  refine ⟨b, rfl, ?_⟩
  cases b with
  | true =>
    rw [if_pos rfl] at p
    refine iteT ?_
    refine ⟨r2, Hs', _, PE, o3.S, p, fun lc r3 z Hs3 H3 p3 o4 l3 n3 => ?_, ke.mono oo⟩
    obtain ⟨dy', ey', p3⟩ := withD_iff p3
    obtain ⟨dz, ez, p3⟩ := withD_iff p3
    refine h2' y z dy' dz Hs3 H3 _ _ o4.S.ex (((l2.go o3.g).go o4.g).res o4.S ey') (l3.res o4.S ez) p3 fun l v Hs4 H4 pl rt => ?_
    obtain ⟨b, rfl, p, g, e⟩ := ret_bl rt pl
    exact ⟨b, rfl, k _ _ _ _ p (oo.trans (o4.trans ⟨o4.S.go0 g e, g.any⟩))⟩
  | false =>
    rw [if_neg (by simp)] at p
    exact iteF ⟨false, rfl, k _ _ _ _ p oo⟩
@[simp] def twAnd (t u : TWt) : TWt := fun r P PE => t r (fun k r1 => if k = true then u r1 P PE else P false r1) PE
@[simp] def twOr (t u : TWt) : TWt := fun r P PE => t r (fun k r1 => if k = true then P true r1 else u r1 P PE) PE
@[simp] def twNot (t : TWt) : TWt := fun r P PE => t r (fun k r1 => P (!k) r1) PE
theorem sw_and1 (ha : ST X W a tw) : SW X W (.BoolOp .And [a] pos) tw := pw_and1 ha
theorem sw_or1 (ha : ST X W a tw) : SW X W (.BoolOp .Or [a] pos) tw := pw_or1 ha
theorem sw_and {rest : List Expr} (ha : ST X W a tw) (hb : SW X W (.BoolOp .And (b :: rest) pos) tu) : SW X W (.BoolOp .And (a :: b :: rest) pos) (twAnd tw tu) := by
  refine pw_imp (pw_and ha hb) fun s H Q q => ?_
  obtain ⟨r, Hs, P, PE, S, w, k, ke⟩ := q
  refine ⟨r, Hs, _, PE, S, w, fun b r1 Hs1 H1 p o => ?_, ke⟩
  cases b with
  | true =>
    rw [if_pos rfl] at p
    exact iteT ⟨r1, Hs1, P, PE, o.S, p, fun b r2 Hs2 H2 p o2 => k b r2 Hs2 H2 p (o.trans o2), ke.mono o⟩
  | false =>
    rw [if_neg (by simp)] at p
    exact iteF (k _ _ _ _ p o)
theorem sw_or {rest : List Expr} (ha : ST X W a tw) (hb : SW X W (.BoolOp .Or (b :: rest) pos) tu) : SW X W (.BoolOp .Or (a :: b :: rest) pos) (twOr tw tu) := by
  refine pw_imp (pw_or ha hb) fun s H Q q => ?_
  obtain ⟨r, Hs, P, PE, S, w, k, ke⟩ := q
  refine ⟨r, Hs, _, PE, S, w, fun b r1 Hs1 H1 p o => ?_, ke⟩
  cases b with
  | false =>
    rw [if_neg (by simp)] at p
    exact iteF ⟨r1, Hs1, P, PE, o.S, p, fun b r2 Hs2 H2 p o2 => k b r2 Hs2 H2 p (o.trans o2), ke.mono o⟩
  | true =>
    rw [if_pos rfl] at p
    exact iteT (k _ _ _ _ p o)
theorem st_not (ha : ST X W a tw) : ST X W (.UnaryOp .Not a pos) (twNot tw) := by
  refine pt_imp (pt_not ha) fun s H Q q => ?_
  obtain ⟨r, Hs, P, PE, S, w, k, ke⟩ := q
  exact ⟨r, Hs, _, PE, S, w, fun b r1 Hs1 H1 p o => k _ _ _ _ p o, ke⟩
/-! and, or, not as values: all but the last a bool -/
@[simp] def onBl (r : Rho) (l : Late) (k : Bool → Prop) : Prop := match l with
  | .st (.bl b) => k b
  | _ => False
theorem onBl_iff {G : Gm} {r : Rho} {s : St} {Hs H : Hp} {v : V} {l : Late} {k : Bool → Prop} (h : onBl r l k) (lo : LateOk G r s Hs H v l) : ∃ b, v = .bl b ∧ l = .st (.bl b) ∧ k b := by
  unfold onBl at h
  split at h
  · cases lo with
    | st z => cases z; exact ⟨_, rfl, rfl, h⟩
  · exact h.elim
@[simp] def wAnd (wa wb : XW) : XW := fun r P PE => wa r (fun l r1 => onBl r1 l fun k => if k = true then wb r1 P PE else P (.st (.bl false)) r1) PE
@[simp] def wOr (wa wb : XW) : XW := fun r P PE => wa r (fun l r1 => onBl r1 l fun k => if k = true then P (.st (.bl true)) r1 else wb r1 P PE) PE
@[simp] def wNot (wa : XW) : XW := fun r P PE => wa r (fun l r1 => onBl r1 l fun k => P (.st (.bl !k)) r1) PE
theorem se_one {op} (h : SE X W a wa) : SE X W (.BoolOp op [a] pos) wa := pe_one h
theorem new_th {G : Gm} {r r1 : Rho} {s : St} {Hs H Hs1 H1 : Hp} {l : Late} (o : Out G r s Hs H r1 Hs1 H1) (n : NewAt H1 l) : NewAt H l := fun p c e => o.g.th p (n p c e)
theorem se_and {rest : List Expr} (ha : SE X W a wa) (hb : SE X W (.BoolOp .And (b :: rest) pos) wb) : SE X W (.BoolOp .And (a :: b :: rest) pos) (wAnd wa wb) := by
  refine pe_imp (pe_and ha hb) fun s H Q q => ?_
  obtain ⟨r, Hs, P, PE, S, w, k, ke⟩ := q
  refine ⟨r, Hs, _, PE, S, w, fun l r1 v Hs1 H1 p o lo n => ?_, ke⟩
  obtain ⟨b, rfl, rfl, p'⟩ := onBl_iff p lo
  clear p
  have p := p'
  clear p'
  refine ⟨b, rfl, ?_⟩
  cases b with
  | true =>
    rw [if_pos rfl] at p
    exact iteT ⟨r1, Hs1, P, PE, o.S, p, fun l r2 v Hs2 H2 p o2 l2 n2 => k l r2 v Hs2 H2 p (o.trans o2) l2 (new_th o n2), ke.mono o⟩
  | false =>
    rw [if_neg (by simp)] at p
    exact iteF (k _ _ _ _ _ p o (.st (.bl _)) (fun _ _ q => nomatch q))
theorem se_or {rest : List Expr} (ha : SE X W a wa) (hb : SE X W (.BoolOp .Or (b :: rest) pos) wb) : SE X W (.BoolOp .Or (a :: b :: rest) pos) (wOr wa wb) := by
  refine pe_imp (pe_or ha hb) fun s H Q q => ?_
  obtain ⟨r, Hs, P, PE, S, w, k, ke⟩ := q
  refine ⟨r, Hs, _, PE, S, w, fun l r1 v Hs1 H1 p o lo n => ?_, ke⟩
  obtain ⟨b, rfl, rfl, p'⟩ := onBl_iff p lo
  clear p
  have p := p'
  clear p'
  refine ⟨b, rfl, ?_⟩
  cases b with
  | false =>
    rw [if_neg (by simp)] at p
    exact iteF ⟨r1, Hs1, P, PE, o.S, p, fun l r2 v Hs2 H2 p o2 l2 n2 => k l r2 v Hs2 H2 p (o.trans o2) l2 (new_th o n2), ke.mono o⟩
  | true =>
    rw [if_pos rfl] at p
    exact iteT (k _ _ _ _ _ p o (.st (.bl _)) (fun _ _ q => nomatch q))
theorem se_not (ha : SE X W a wa) : SE X W (.UnaryOp .Not a pos) (wNot wa) := by
  refine pe_imp (pe_not ha) fun s H Q q => ?_
  obtain ⟨r, Hs, P, PE, S, w, k, ke⟩ := q
  refine ⟨r, Hs, _, PE, S, w, fun l r1 v Hs1 H1 p o lo n => ?_, ke⟩
  obtain ⟨b, rfl, rfl, p'⟩ := onBl_iff p lo
  clear p
  have p := p'
  exact ⟨b, rfl, k _ _ _ _ _ p o (.st (.bl _)) (fun _ _ q => nomatch q)⟩
/-- a chain as a value -/
@[simp] def wCh (g g' : G2) (wa wb wc : XW) : XW := fun r P PE => twCh g g' wa wb wc r (fun b r1 => P (.st (.bl b)) r1) PE
theorem se_chain {op op' : CmpOp} {g g' : G2} (ho : OpG X (compareOp op) g) (ho' : OpG X (compareOp op') g') (ha : SE X W a wa) (hb : SE X W b wb) (hc : SE X W c wc)
    (hm : lastMarks [op, op'] [b, c] = false := by rfl) : SE X W (.Compare a [op, op'] [b, c] pos) (wCh g g' wa wb wc) := by
  obtain ⟨rr, h1, h2⟩ := ho
  obtain ⟨rr', h1', h2'⟩ := ho'
  refine pe_imp (pe_chain h1 h1' ha hb hc hm) fun s H Q q => ?_
  obtain ⟨r, Hs, P, PE, S, w, k, ke⟩ := q
  refine ⟨r, Hs, _, PE, S, w, fun la r1 x Hs1 H1 p1 o1 l1 n1 => ?_, ke⟩
  refine ⟨r1, Hs1, _, PE, o1.S, p1, fun lb r2 y Hs2 H2 p2 o2 l2 n2 => ?_, ke.mono o1⟩
  obtain ⟨dx, ex, p2⟩ := withD_iff p2
  obtain ⟨dy, ey, p2⟩ := withD_iff p2
  refine h2 x y dx dy Hs2 H2 _ _ o2.S.ex ((l1.go o2.g).res o2.S ex) (l2.res o2.S ey) p2 fun l v Hs' H' pl rt => ?_
  obtain ⟨b, rfl, p, g, e⟩ := ret_bl rt pl
  have o3 : Out (gm X) r2 s Hs2 H2 r2 Hs' H' := ⟨o2.S.go0 g e, g.any⟩
  have oo := o1.trans (o2.trans o3)
  refine ⟨b, rfl, ?_⟩
  cases b with
  | true =>
    rw [if_pos rfl] at p
    refine iteT ?_
    refine ⟨r2, Hs', _, PE, o3.S, p, fun lc r3 z Hs3 H3 p3 o4 l3 n3 => ?_, ke.mono oo⟩
    obtain ⟨dy', ey', p3⟩ := withD_iff p3
    obtain ⟨dz, ez, p3⟩ := withD_iff p3
    refine h2' y z dy' dz Hs3 H3 _ _ o4.S.ex (((l2.go o3.g).go o4.g).res o4.S ey') (l3.res o4.S ez) p3 fun l v Hs4 H4 pl rt => ?_
    obtain ⟨b, rfl, p, g, e⟩ := ret_bl rt pl
    exact k _ _ _ _ _ p (oo.trans (o4.trans ⟨o4.S.go0 g e, g.any⟩)) (.st (.bl _)) (fun _ _ q => nomatch q)
  | false =>
    rw [if_neg (by simp)] at p
    exact iteF (k _ _ _ _ _ p oo (.st (.bl _)) (fun _ _ q => nomatch q))
/-- a if t else b -/
@[simp] def wIf (t : TWt) (wa wb : XW) : XW := fun r P PE => t r (fun k r1 => if k = true then wa r1 P PE else wb r1 P PE) PE
theorem se_if (hc : ST X W c tw) (ha : SE X W a wa) (hb : SE X W b wb) : SE X W (.IfExp c a b pos) (wIf tw wa wb) := by
  refine pe_imp (pe_ifExp hc ha hb) fun s H Q q => ?_
  obtain ⟨r, Hs, P, PE, S, w, k, ke⟩ := q
  refine ⟨r, Hs, _, PE, S, w, fun b r1 Hs1 H1 p o => ?_, ke⟩
  cases b with
  | true =>
    rw [if_pos rfl] at p
    exact iteT ⟨r1, Hs1, P, PE, o.S, p, fun l r2 v Hs2 H2 p o2 l2 n2 => k l r2 v Hs2 H2 p (o.trans o2) l2 (new_th o n2), ke.mono o⟩
  | false =>
    rw [if_neg (by simp)] at p
    exact iteF ⟨r1, Hs1, P, PE, o.S, p, fun l r2 v Hs2 H2 p o2 l2 n2 => k l r2 v Hs2 H2 p (o.trans o2) l2 (new_th o n2), ke.mono o⟩
/-- -a -/
@[simp] def onInt (r : Rho) (l : Late) (k : Int → Prop) : Prop := match l with
  | .st (.int b) => k b
  | _ => False
theorem onInt_iff {G : Gm} {r : Rho} {s : St} {Hs H : Hp} {v : V} {l : Late} {k : Int → Prop} (h : onInt r l k) (lo : LateOk G r s Hs H v l) : ∃ b, v = .int b ∧ l = .st (.int b) ∧ k b := by
  unfold onInt at h
  split at h
  · cases lo with
    | st z => cases z; exact ⟨_, rfl, rfl, h⟩
  · exact h.elim
@[simp] def wNeg (wa : XW) : XW := fun r P PE => wa r (fun l r1 => onInt r1 l fun k => P (.st (.int (-k))) r1) PE
theorem se_neg (ha : SE X W a wa) : SE X W (.UnaryOp .USub a pos) (wNeg wa) := by
  refine pe_imp (pe_un un_neg ha) fun s H Q q => ?_
  obtain ⟨r, Hs, P, PE, S, w, k, ke⟩ := q
  refine ⟨r, Hs, _, PE, S, w, fun l r1 v Hs1 H1 p o lo n => ?_, ke⟩
  obtain ⟨b, rfl, rfl, p'⟩ := onInt_iff p lo
  clear p
  have p := p'
  exact ⟨b, rfl, k _ _ _ _ _ p o (.st (.int _)) (fun _ _ q => nomatch q)⟩

/-! ### argument lists -/
variable {ta : TAw}
@[simp] def waNil : TAw := fun r P _ => P [] r
@[simp] def waCons (w : XW) (t : TAw) : TAw := fun r P PE => w r (fun l r1 => t r1 (fun ls r2 => P (l :: ls) r2) PE) PE
theorem sa_nil : SA X W [] waNil := by
  refine pa_imp pa_nil fun s H Q q => ?_
  obtain ⟨r, Hs, P, PE, S, w, k, ke⟩ := q
  exact k _ _ _ _ _ w (Out.refl S) .nil (fun _ h => nomatch h)
theorem sa_cons (ha : SE X W e wa) (hr : SA X W es ta) (hs : starEach (e :: es) X.env = (false, eval e X.env) :: starEach es X.env := by rfl) : SA X W (e :: es) (waCons wa ta) := by
  refine pa_imp (pa_cons ha hr hs) fun s H Q q => ?_
  obtain ⟨r, Hs, P, PE, S, w, k, ke⟩ := q
  refine ⟨r, Hs, _, PE, S, w, fun l r1 v Hs1 H1 p o lo n => ?_, ke⟩
  refine ⟨r1, Hs1, _, PE, o.S, p, fun ls r2 vs Hs2 H2 p2 o2 los ns => ?_, ke.mono o⟩
  refine k _ _ _ _ _ p2 (o.trans o2) (.cons (lo.go o2.g) (fun a c c' e h => ?_) los) fun l' h => ?_
  · subst e
    have z := ns _ h a c' rfl
    cases lo with
    | nw _ h2 _ =>
      obtain ⟨o', ho'⟩ := h2.isv
      rw [z] at ho'; cases ho'
  · rcases List.mem_cons.mp h with rfl | h
    · exact n
    · exact new_th o (ns l' h)
@[simp] def withDs (r : Rho) (ls : List Late) (k : List D → Prop) : Prop := match ress r ls with
  | some ds => k ds
  | none => False
@[simp] def withFs (r : Rho) (ls : List Late) (k : List D → Rho → Prop) : Prop := match frzs r ls with
  | some (ds, r') => k ds r'
  | none => False
theorem withDs_iff {r : Rho} {l : List Late} {k : List D → Prop} (h : withDs r l k) : ∃ d, ress r l = some d ∧ k d := by
  unfold withDs at h
  split at h
  · exact ⟨_, by assumption, h⟩
  · exact h.elim
theorem withFs_iff {r : Rho} {l : List Late} {k : List D → Rho → Prop} (h : withFs r l k) : ∃ d r', frzs r l = some (d, r') ∧ k d r' := by
  unfold withFs at h
  split at h
  · exact ⟨_, _, by assumption, h⟩
  · exact h.elim
/-! ### displays -/
@[simp] def wTup (t : TAw) : XW := fun r P PE => t r (fun ls r1 => withFs r1 ls fun ds r2 => ds.length ≤ sizeLine ∧ P (.st (.tup ds)) r2) PE
@[simp] def wLst (t : TAw) : XW := fun r P PE => t r (fun ls r1 => withFs r1 ls fun ds r2 => ds.length ≤ sizeLine ∧ ∀ p, P (.nw p (.lst ds)) r2) PE
theorem Out.of {G : Gm} {r r1 r2 : Rho} {s : St} {Hs H Hs1 H1 Hs2 : Hp} (S : StOk G r2 s Hs2 H1) (g : Go (Own r) (Own r2) Hs H Hs2 H1) : Out G r s Hs H r2 Hs2 H1 := ⟨S, g⟩
theorem se_tup {x1} (h : SA X W es ta) : SE X W (.Tuple es x1 pos) (wTup ta) := by
  refine pe_imp (pe_tup h) fun s H Q q => ?_
  obtain ⟨r, Hs, P, PE, S, w, k, ke⟩ := q
  refine ⟨r, Hs, _, PE, S, w, fun ls r1 vs Hs1 H1 p o lo n => ?_, ke⟩
  obtain ⟨ds, r2, ed, hl, p⟩ := withFs_iff p
  obtain ⟨Hs2, S2, rp, g2, _⟩ := lo.frz o.S o.g n ed
  refine ⟨by rw [rp.length]; exact hl, fun q hq => ?_⟩
  have rt := retT (G := gm X) S2.ex hq rp
  exact rt.out (P := P) S2 p fun l r' v Hs' H' p' o' lo' n' => k l r' v Hs' H' p' (Out.trans ⟨S2, g2⟩ o') lo' (fun p c e => g2.th p (n' p c e))
theorem se_lst (h : SA X W es ta) : SE X W (.List es pos) (wLst ta) := by
  refine pe_imp (pe_lst h) fun s H Q q => ?_
  obtain ⟨r, Hs, P, PE, S, w, k, ke⟩ := q
  refine ⟨r, Hs, _, PE, S, w, fun ls r1 vs Hs1 H1 p o lo n => ?_, ke⟩
  obtain ⟨ds, r2, ed, hl, p⟩ := withFs_iff p
  obtain ⟨Hs2, S2, rp, g2, _⟩ := lo.frz o.S o.g n ed
  refine ⟨by rw [rp.length]; exact hl, fun q hq => ?_⟩
  have rt := retL (G := gm X) S2.ex hq rp
  exact rt.out (P := P) S2 p fun l r' v Hs' H' p' o' lo' n' => k l r' v Hs' H' p' (Out.trans ⟨S2, g2⟩ o') lo' (fun p c e => g2.th p (n' p c e))

/-! ### calls of built-ins -/
abbrev GC := List D → (LR → Prop) → Prop
def CaOk (X : Cx) (rr : List V → Hp → VK → Prop) (g : GC) : Prop := ∀ (xs : List V) (ds : List D) (Hs H : Hp) (P : LR → Prop) (Q : VK), Ex Hs H → RepBs (gm X) Hs H xs ds → g ds P →
    (∀ l v Hs' H', P l → Ret (gm X) Hs H v l Hs' H' → Q v H') → rr xs H Q
def CaG (X : Cx) (f : Value) (g : GC) : Prop := ∃ rr, CallR X f rr ∧ CaOk X rr g
@[simp] def wB (g : GC) (t : TAw) : XW := fun r P PE => t r (fun ls r1 => withDs r1 ls fun ds => g ds fun l => l.out P r1) PE
theorem t_wB {rr : List V → Hp → VK → Prop} {g : GC} (ho : CaOk X rr g) {s : St} {H : Hp} {Q : VK} (q : tW (gm X) W (wB g ta) s H Q) : tCB rr (tWA (gm X) W ta) s H Q := by
  obtain ⟨r, Hs, P, PE, S, w, k, ke⟩ := q
  refine ⟨r, Hs, _, PE, S, w, fun ls r1 vs Hs1 H1 p o lo n => ?_, ke⟩
  obtain ⟨ds, ed, p⟩ := withDs_iff p
  exact ho vs ds Hs1 H1 _ _ o.S.ex (lo.res o.S ed) p fun l v Hs' H' pl rt => rt.out o.S pl fun l r' v Hs' H' p' o' lo' n' => k l r' v Hs' H' p' (o.trans o') lo' (new_th o n')
theorem se_callB {id : String} {x : Str} {p : Pos} {g : GC} (ho : CaG X (.builtin id) g) (hg : Gl X x) (hm : X.mg x = none) (hv : bootBuiltins x = some (.builtin id)) (ha : SA X W (e :: es) ta) (hn : x ≠ "__name__" := by decide) (hdb : (x == ("__debug__" : Str)) = false := by decide)
    (he : starEach (e :: es) X.env = (false, eval e X.env) :: starEach es X.env := by rfl) (hpl : (backTo pos (starEach es X.env)).any (·.1) = false := by rfl) : SE X W (.Call (.Name x p) (e :: es) [] pos) (wB g ta) := by
  obtain ⟨rr, h1, h2⟩ := ho
  exact pe_imp (pe_callB h1 hg hm hv ha hn hdb he hpl) fun s H Q q => t_wB h2 q
theorem se_callTy {T : String} {x : Str} {p : Pos} {g : GC} (ho : CaG X (.type T) g) (hg : Gl X x) (hm : X.mg x = none) (hv : bootBuiltins x = some (.type T)) (ha : SA X W (e :: es) ta) (hn : x ≠ "__name__" := by decide) (hdb : (x == ("__debug__" : Str)) = false := by decide)
    (he : starEach (e :: es) X.env = (false, eval e X.env) :: starEach es X.env := by rfl) (hpl : (backTo pos (starEach es X.env)).any (·.1) = false := by rfl) : SE X W (.Call (.Name x p) (e :: es) [] pos) (wB g ta) := by
  obtain ⟨rr, h1, h2⟩ := ho
  exact pe_imp (pe_callTy h1 hg hm hv ha hn hdb he hpl) fun s H Q q => t_wB h2 q

/-! ### subscripts -/
def IxG (X : Cx) (g : G2) : Prop := ∃ rr, IxR X rr ∧ OpOk X rr g
theorem se_ix {g : G2} (ho : IxG X g) (ha : SE X W a wa) (hb : SE X W b wb) (hs : PlainIx b := by exact fun _ _ => rfl) : SE X W (.Subscript a b pos) (w2 g wa wb) := by
  obtain ⟨rr, h1, h2⟩ := ho
  exact pe_imp (pe_ix h1 ha hb hs) fun s H Q q => t_w2 h2 q
/-- lists, tuples, texts by an int -/
def gIx : G2
  | .lst xs, .int i, P => match atI xs i with | some d => P (.val d) | none => False
  | .rol xs, .int i, P => match atI xs i with | some d => P (.val d) | none => False
  | .tup xs, .int i, P => match atI xs i with | some d => P (.val d) | none => False
  | .str z, .int i, P => z.length ≤ sizeLine ∧ match atI z.cps.toList i with | some c => P (.val (.str ⟨#[c]⟩)) | none => False
  | _, _, _ => False
theorem reps_atI {G : Gm} {H : Hp} {vs : List V} {ds : List D} {i : Int} {d : D} (r : Reps G H vs ds) (h : atI ds i = some d) : ∃ v, atI vs i = some v ∧ Rep G H v d := by
  unfold atI at h ⊢
  rw [r.length]
  cases q : ixN ds.length i with
  | none => rw [q] at h; cases h
  | some j =>
    rw [q] at h
    exact r.get (i := j) h
theorem ig_ix : IxG X gIx := by
  refine ⟨_, IxR.or (IxR.or ix_list ix_tup) ix_str, fun x y dx dy Hs H P Q e rx ry q k => ?_⟩
  cases dx <;> cases dy <;> simp only [gIx] at q
  · obtain rfl := rx.strv; obtain rfl := ry.intv
    obtain ⟨hl, q⟩ := q
    split at q
    · rename_i c hc
      exact .inr ⟨_, _, _, rfl, rfl, hl, hc, k _ _ _ _ q (ret0 e (.str _))⟩
    · exact q.elim
  · obtain ⟨p, vs, rfl, hp, r1, _⟩ := rx.tupv e
    obtain rfl := ry.intv
    split at q
    · rename_i d hd
      obtain ⟨v, h1, h2⟩ := reps_atI r1 hd
      exact .inl (.inr ⟨p, vs, _, v, rfl, rfl, hp, h1, k _ _ _ _ q (ret0 e h2)⟩)
    · exact q.elim
  · obtain ⟨p, vs, rfl, hp, r1⟩ := rx.lstv e
    obtain rfl := ry.intv
    split at q
    · rename_i d hd
      obtain ⟨v, h1, h2⟩ := reps_atI r1 hd
      exact .inl (.inl ⟨p, vs, _, v, rfl, rfl, Evl.sq_of hp, h1, k _ _ _ _ q (ret0 e h2)⟩)
    · exact q.elim
  · obtain ⟨p, vs, rfl, hp, r1⟩ := rx.seqLv (ds := _) rfl e
    obtain rfl := ry.intv
    split at q
    · rename_i d hd
      obtain ⟨v, h1, h2⟩ := reps_atI r1 hd
      exact .inl (.inl ⟨p, vs, _, v, rfl, rfl, hp, h1, k _ _ _ _ q (ret0 e h2)⟩)
    · exact q.elim
/-! ### slices a[i:j] -/
abbrev WO := Rho → (Option Int → Rho → Prop) → (Exc → Rho → Prop) → Prop
def tWO (G : Gm) (W : WX) (w : WO) : TO := fun s H Q => ∃ (r : Rho) (Hs : Hp) (P : Option Int → Rho → Prop) (PE : Exc → Rho → Prop), StOk G r s Hs H ∧ w r P PE ∧
  (∀ b r' Hs' H', P b r' → Out G r s Hs H r' Hs' H' → Q b H') ∧ EXC G W PE r s Hs H
def SO (X : Cx) (W : WX) (e : Option Expr) (w : WO) : Prop := PO X e (tWO (gm X) W w)
@[simp] def woN : WO := fun r P _ => P none r
@[simp] def woS (w : XW) : WO := fun r P PE => w r (fun l r1 => onInt r1 l fun k => P (some k) r1) PE
theorem po_imp {e : Option Expr} {t t' : TO} (h : PO X e t) (i : ∀ s H Q, t' s H Q → t s H Q) : PO X e t' := ⟨fun pins s σ H Q I q => h.run pins s σ H Q I (i σ H Q q)⟩
theorem so_none : SO X W none woN := by
  refine po_imp po_none fun s H Q q => ?_
  obtain ⟨r, Hs, P, PE, S, w, k, ke⟩ := q
  exact k _ _ _ _ w (Out.refl S)
theorem so_some (h : SE X W e w) : SO X W (some e) (woS w) := by
  refine po_imp (po_some h) fun s H Q q => ?_
  obtain ⟨r, Hs, P, PE, S, w, k, ke⟩ := q
  refine ⟨r, Hs, _, PE, S, w, fun l r1 v Hs1 H1 p o lo n => ?_, ke⟩
  obtain ⟨b, rfl, rfl, p'⟩ := onInt_iff p lo
  clear p
  have p := p'
  exact ⟨b, rfl, k _ _ _ _ p o⟩
abbrev GSl := D → Option Int → Option Int → (LR → Prop) → Prop
def SlG (X : Cx) (g : GSl) : Prop := ∃ rr, SlR X rr ∧ ∀ (x : V) (dx : D) (lo hi : Option Int) (Hs H : Hp) (P : LR → Prop) (Q : VK), Ex Hs H → RepB (gm X) Hs H x dx → g dx lo hi P →
    (∀ l v Hs' H', P l → Ret (gm X) Hs H v l Hs' H' → Q v H') → rr x lo hi H Q
@[simp] def wSl (g : GSl) (wa : XW) (wl wh : WO) : XW := fun r P PE => wa r (fun la r1 => wl r1 (fun lo r2 => wh r2 (fun hi r3 => withD r3 la fun d => g d lo hi fun l => l.out P r3) PE) PE) PE
theorem se_slice {lo hi : Option Expr} {wl wh : WO} {g : GSl} {p2 : Pos} (ho : SlG X g) (ha : SE X W a wa) (hl : SO X W lo wl) (hh : SO X W hi wh) : SE X W (.Subscript a (.Slice lo hi none p2) pos) (wSl g wa wl wh) := by
  obtain ⟨rr, h1, h2⟩ := ho
  refine pe_imp (pe_slice h1 ha hl hh) fun s H Q q => ?_
  obtain ⟨r, Hs, P, PE, S, w, k, ke⟩ := q
  refine ⟨r, Hs, _, PE, S, w, fun la r1 x Hs1 H1 p1 o1 l1 n1 => ?_, ke⟩
  refine ⟨r1, Hs1, _, PE, o1.S, p1, fun lo r2 Hs2 H2 p2 o2 => ?_, ke.mono o1⟩
  refine ⟨r2, Hs2, _, PE, o2.S, p2, fun hi r3 Hs3 H3 p3 o3 => ?_, ke.mono (o1.trans o2)⟩
  obtain ⟨dx, ex, p3⟩ := withD_iff p3
  have oo := (o1.trans o2).trans o3
  exact h2 x dx lo hi Hs3 H3 _ _ o3.S.ex (((l1.go o2.g).go o3.g).res o3.S ex) p3 fun l v Hs' H' pl rt => rt.out o3.S pl fun l r' v Hs' H' p' o' lo' n' => k l r' v Hs' H' p' (oo.trans o') lo' (new_th oo n')
def cutD (xs : List D) (lo hi : Option Int) : List D := (xs.drop (HT.sIx xs.length 0 lo)).take (HT.sIx xs.length xs.length hi - HT.sIx xs.length 0 lo)
theorem reps_cut {G : Gm} {H : Hp} {vs : List V} {ds : List D} (r : Reps G H vs ds) (lo hi : Option Int) : Reps G H (cutV vs lo hi) (cutD ds lo hi) := by
  unfold cutV cutD
  rw [r.length]
  exact (r.drop _).take _
def gSlL : GSl
  | .lst xs, lo, hi, P => P (.new (.lst (cutD xs lo hi)))
  | .rol xs, lo, hi, P => P (.new (.lst (cutD xs lo hi)))
  | _, _, _, _ => False
theorem sg_list : SlG X gSlL := by
  refine ⟨_, sl_list, fun x dx lo hi Hs H P Q e rx q k => ?_⟩
  cases dx <;> simp only [gSlL] at q
  all_goals
    obtain ⟨p, vs, rfl, hp, r1⟩ := rx.seqLv (ds := _) rfl e
    exact ⟨p, vs, rfl, hp, fun l hl => k _ _ _ _ q (retL e hl (reps_cut r1 lo hi))⟩

/-! ### built-ins by data -/
theorem RepBs.one {G : Gm} {Hs H : Hp} {vs : List V} {d : D} (h : RepBs G Hs H vs [d]) : ∃ v, vs = [v] ∧ RepB G Hs H v d := by
  cases h with
  | cons a b => cases b; exact ⟨_, rfl, a⟩
theorem RepBs.two {G : Gm} {Hs H : Hp} {vs : List V} {d d' : D} (h : RepBs G Hs H vs [d, d']) : ∃ v v', vs = [v, v'] ∧ RepB G Hs H v d ∧ RepB G Hs H v' d' := by
  cases h with
  | cons a b => cases b with
    | cons b c => cases c; exact ⟨_, _, rfl, a, b⟩
def lenD : D → (Int → Prop) → Prop
  | .str z, P => z.length ≤ sizeLine ∧ P z.length
  | .lst xs, P => P xs.length
  | .rol xs, P => P xs.length
  | .tup xs, P => P xs.length
  | .dic xs, P => P xs.length
  | _, _ => False
def gLen : GC
  | [d], P => lenD d fun n => P (.val (.int n))
  | _, _ => False
theorem repK_length {G : Gm} {H : Hp} : ∀ {vs : List (Key × V)} {ds : List (Key × D)}, RepK G H vs ds → vs.length = ds.length
  | _, _, .nil => rfl
  | _, _, .cons _ r => congrArg (· + 1) (repK_length r)
theorem call_lenR : CallR X (.builtin "len") (fun xs H Q => ∃ a kvs, xs = [V.ref a] ∧ Rd H a (.dK kvs) ∧ Q (.int kvs.length) H) := by
  intro pins s σ H xs us Q I r h
  obtain ⟨a, kvs, rfl, e, q⟩ := h
  obtain ⟨u, rfl, rv⟩ := vals1 r
  obtain rfl : u = Value.ref a := rv
  exact d_len I e fun t s' J => ⟨.int kvs.length, H, J, ⟨t, rfl⟩, q⟩
theorem cg_len : CaG X (.builtin "len") gLen := by
  refine ⟨_, CallR.or call_len call_lenR, fun xs ds Hs H P Q e rs q k => ?_⟩
  unfold gLen at q
  split at q
  · rename_i d
    obtain ⟨v, rfl, rx⟩ := rs.one
    cases d <;> simp only [lenD] at q
    · obtain rfl := rx.strv
      exact .inl ⟨_, _, rfl, ⟨q.1, rfl⟩, k _ _ _ _ q.2 (ret0 e (.int _))⟩
    · obtain ⟨p, vs, rfl, hp, r1, _⟩ := rx.tupv e
      exact .inl ⟨_, _, rfl, .inr ⟨_, hp, rfl⟩, by rw [r1.length]; exact k _ _ _ _ q (ret0 e (.int _))⟩
    · obtain ⟨p, vs, rfl, hp, r1⟩ := rx.lstv e
      exact .inl ⟨_, _, rfl, .inl ⟨_, Evl.sq_of hp, rfl⟩, by rw [r1.length]; exact k _ _ _ _ q (ret0 e (.int _))⟩
    · obtain ⟨p, vs, rfl, hp, r1⟩ := rx.seqLv (ds := _) rfl e
      exact .inl ⟨_, _, rfl, .inl ⟨_, hp, rfl⟩, by rw [r1.length]; exact k _ _ _ _ q (ret0 e (.int _))⟩
    · obtain ⟨p, vs, rfl, hp, r1⟩ := rx.dicv e
      exact .inr ⟨_, _, rfl, hp, by rw [repK_length r1]; exact k _ _ _ _ q (ret0 e (.int _))⟩
  · exact q.elim
def gAbs : GC
  | [.int i], P => P (.val (.int (if i < 0 then -i else i)))
  | _, _ => False
theorem cg_abs : CaG X (.builtin "abs") gAbs := by
  refine ⟨_, call_abs, fun xs ds Hs H P Q e rs q k => ?_⟩
  unfold gAbs at q
  split at q
  · obtain ⟨v, rfl, rx⟩ := rs.one
    obtain rfl := rx.intv
    exact ⟨_, rfl, k _ _ _ _ q (ret0 e (.int _))⟩
  · exact q.elim
def gInt : GC
  | [.int i], P => P (.val (.int i))
  | [.bl b], P => P (.val (.int (if b then 1 else 0)))
  | _, _ => False
theorem cg_int : CaG X (.type "int") gInt := by
  refine ⟨_, call_int1, fun xs ds Hs H P Q e rs q k => ?_⟩
  unfold gInt at q
  split at q
  · obtain ⟨v, rfl, rx⟩ := rs.one
    obtain rfl := rx.intv
    exact .inl ⟨_, rfl, k _ _ _ _ q (ret0 e (.int _))⟩
  · obtain ⟨v, rfl, rx⟩ := rs.one
    obtain rfl := rx.blv
    exact .inr ⟨_, rfl, k _ _ _ _ q (ret0 e (.int _))⟩
  · exact q.elim
def intsD : List D → Option (List Int)
  | [] => some []
  | .int i :: ds => (intsD ds).map (i :: ·)
  | _ => none
theorem intsD_eq : ∀ {ds : List D} {ns : List Int}, intsD ds = some ns → ds = ns.map D.int
  | [], _, h => by simp [intsD] at h; subst h; rfl
  | .int i :: ds, ns, h => by
    simp only [intsD, Option.map_eq_some_iff] at h
    obtain ⟨ms, h1, rfl⟩ := h
    rw [List.map_cons, intsD_eq h1]
  | .non :: _, _, h => by simp [intsD] at h
  | .bl _ :: _, _, h => by simp [intsD] at h
  | .str _ :: _, _, h => by simp [intsD] at h
  | .tup _ :: _, _, h => by simp [intsD] at h
  | .lst _ :: _, _, h => by simp [intsD] at h
  | .rol _ :: _, _, h => by simp [intsD] at h
  | .dic _ :: _, _, h => by simp [intsD] at h
  | .ins _ _ :: _, _, h => by simp [intsD] at h
  | .ty _ :: _, _, h => by simp [intsD] at h
theorem intsD_map : ∀ ns : List Int, intsD (ns.map D.int) = some ns
  | [] => rfl
  | n :: ns => by rw [List.map_cons, intsD, intsD_map ns]; rfl
/-- max, min: two ints, or a list of ints that is not empty -/
def gMax : GC
  | [.int i, .int j], P => P (.val (.int (if j > i then j else i)))
  | [d], P => ∃ ds ns, seqL d = some ds ∧ intsD ds = some ns ∧ 0 < ns.length ∧ ∀ m, m ∈ ns → (∀ y, y ∈ ns → y ≤ m) → P (.val (.int m))
  | _, _ => False
theorem cg_max (hc : X.calm = true) : CaG X (.builtin "max") gMax := by
  refine ⟨_, CallR.or (call_max2 hc) (cr_max hc), fun xs ds Hs H P Q e rs q k => ?_⟩
  unfold gMax at q
  split at q
  · obtain ⟨v, v', rfl, rx, ry⟩ := rs.two
    obtain rfl := rx.intv; obtain rfl := ry.intv
    exact .inl ⟨_, _, rfl, k _ _ _ _ q (ret0 e (.int _))⟩
  · obtain ⟨v, rfl, rx⟩ := rs.one
    obtain ⟨ds, ns, h1, h2, h3, q⟩ := q
    obtain rfl := intsD_eq h2
    obtain ⟨p, vs, rfl, hp, r1⟩ := rx.seqLv h1 e
    obtain rfl := r1.ints
    exact .inr ⟨p, ns, rfl, hp, h3, fun m h4 h5 => k _ _ _ _ (q m h4 h5) (ret0 e (.int _))⟩
  · exact q.elim
def gMin : GC
  | [.int i, .int j], P => P (.val (.int (if j < i then j else i)))
  | [d], P => ∃ ds ns, seqL d = some ds ∧ intsD ds = some ns ∧ 0 < ns.length ∧ ∀ m, m ∈ ns → (∀ y, y ∈ ns → m ≤ y) → P (.val (.int m))
  | _, _ => False
theorem cg_min (hc : X.calm = true) : CaG X (.builtin "min") gMin := by
  refine ⟨_, CallR.or (call_min2 hc) (cr_min hc), fun xs ds Hs H P Q e rs q k => ?_⟩
  unfold gMin at q
  split at q
  · obtain ⟨v, v', rfl, rx, ry⟩ := rs.two
    obtain rfl := rx.intv; obtain rfl := ry.intv
    exact .inl ⟨_, _, rfl, k _ _ _ _ q (ret0 e (.int _))⟩
  · obtain ⟨v, rfl, rx⟩ := rs.one
    obtain ⟨ds, ns, h1, h2, h3, q⟩ := q
    obtain rfl := intsD_eq h2
    obtain ⟨p, vs, rfl, hp, r1⟩ := rx.seqLv h1 e
    obtain rfl := r1.ints
    exact .inr ⟨p, ns, rfl, hp, h3, fun m h4 h5 => k _ _ _ _ (q m h4 h5) (ret0 e (.int _))⟩
  · exact q.elim
def gSum : GC
  | [d], P => ∃ ds ns, seqL d = some ds ∧ intsD ds = some ns ∧ P (.val (.int ns.sum))
  | _, _ => False
theorem cg_sum (hc : X.calm = true) : CaG X (.builtin "sum") gSum := by
  refine ⟨_, cr_sum hc, fun xs ds Hs H P Q e rs q k => ?_⟩
  unfold gSum at q
  split at q
  · obtain ⟨v, rfl, rx⟩ := rs.one
    obtain ⟨ds, ns, h1, h2, q⟩ := q
    obtain rfl := intsD_eq h2
    obtain ⟨p, vs, rfl, hp, r1⟩ := rx.seqLv h1 e
    obtain rfl := r1.ints
    exact ⟨p, ns, rfl, hp, k _ _ _ _ q (ret0 e (.int _))⟩
  · exact q.elim
def blsD : List D → Option (List Bool)
  | [] => some []
  | .bl i :: ds => (blsD ds).map (i :: ·)
  | _ => none
theorem blsD_eq : ∀ {ds : List D} {ns : List Bool}, blsD ds = some ns → ds = ns.map D.bl
  | [], _, h => by simp [blsD] at h; subst h; rfl
  | .bl i :: ds, ns, h => by
    simp only [blsD, Option.map_eq_some_iff] at h
    obtain ⟨ms, h1, rfl⟩ := h
    rw [List.map_cons, blsD_eq h1]
  | .non :: _, _, h => by simp [blsD] at h
  | .int _ :: _, _, h => by simp [blsD] at h
  | .str _ :: _, _, h => by simp [blsD] at h
  | .tup _ :: _, _, h => by simp [blsD] at h
  | .lst _ :: _, _, h => by simp [blsD] at h
  | .rol _ :: _, _, h => by simp [blsD] at h
  | .dic _ :: _, _, h => by simp [blsD] at h
  | .ins _ _ :: _, _, h => by simp [blsD] at h
  | .ty _ :: _, _, h => by simp [blsD] at h
theorem blsD_map : ∀ ns : List Bool, blsD (ns.map D.bl) = some ns
  | [] => rfl
  | n :: ns => by rw [List.map_cons, blsD, blsD_map ns]; rfl
def gAll : GC
  | [d], P => ∃ ds bs, seqL d = some ds ∧ blsD ds = some bs ∧ P (.val (.bl (bs.all id)))
  | _, _ => False
theorem cg_all (hc : X.calm = true) : CaG X (.builtin "all") gAll := by
  refine ⟨_, cr_all hc, fun xs ds Hs H P Q e rs q k => ?_⟩
  unfold gAll at q
  split at q
  · obtain ⟨v, rfl, rx⟩ := rs.one
    obtain ⟨ds, ns, h1, h2, q⟩ := q
    obtain rfl := blsD_eq h2
    obtain ⟨p, vs, rfl, hp, r1⟩ := rx.seqLv h1 e
    obtain rfl := r1.bls
    exact ⟨p, ns, rfl, hp, k _ _ _ _ q (ret0 e (.bl _))⟩
  · exact q.elim
def gAny : GC
  | [d], P => ∃ ds bs, seqL d = some ds ∧ blsD ds = some bs ∧ P (.val (.bl (bs.any id)))
  | _, _ => False
theorem cg_any (hc : X.calm = true) : CaG X (.builtin "any") gAny := by
  refine ⟨_, cr_any hc, fun xs ds Hs H P Q e rs q k => ?_⟩
  unfold gAny at q
  split at q
  · obtain ⟨v, rfl, rx⟩ := rs.one
    obtain ⟨ds, ns, h1, h2, q⟩ := q
    obtain rfl := blsD_eq h2
    obtain ⟨p, vs, rfl, hp, r1⟩ := rx.seqLv h1 e
    obtain rfl := r1.bls
    exact ⟨p, ns, rfl, hp, k _ _ _ _ q (ret0 e (.bl _))⟩
  · exact q.elim
/-- list(x), tuple(x) of a list or tuple -/
def seqD : D → Option (List D)
  | .lst xs => some xs
  | .rol xs => some xs
  | .tup xs => some xs
  | _ => none
def gList : GC
  | [d], P => ∃ ds, seqD d = some ds ∧ P (.new (.lst ds))
  | _, _ => False
theorem cg_list : CaG X (.type "list") gList := by
  refine ⟨_, call_list_of, fun xs ds Hs H P Q e rs q k => ?_⟩
  unfold gList at q
  split at q
  · rename_i d
    obtain ⟨v, rfl, rx⟩ := rs.one
    obtain ⟨ds, h1, q⟩ := q
    cases d <;> simp only [seqD] at h1 <;> cases h1
    · obtain ⟨p, vs, rfl, hp, r1, _⟩ := rx.tupv e
      exact ⟨p, vs, rfl, .inr hp, fun l hl => k _ _ _ _ q (retL e hl r1)⟩
    · obtain ⟨p, vs, rfl, hp, r1⟩ := rx.lstv e
      exact ⟨p, vs, rfl, .inl (Evl.sq_of hp), fun l hl => k _ _ _ _ q (retL e hl r1)⟩
    · obtain ⟨p, vs, rfl, hp, r1⟩ := rx.seqLv (ds := _) rfl e
      exact ⟨p, vs, rfl, .inl hp, fun l hl => k _ _ _ _ q (retL e hl r1)⟩
  · exact q.elim
def gTuple : GC
  | [d], P => ∃ ds, seqD d = some ds ∧ P (.val (.tup ds))
  | _, _ => False
theorem cg_tuple : CaG X (.type "tuple") gTuple := by
  refine ⟨_, call_tuple_of, fun xs ds Hs H P Q e rs q k => ?_⟩
  unfold gTuple at q
  split at q
  · rename_i d
    obtain ⟨v, rfl, rx⟩ := rs.one
    obtain ⟨ds, h1, q⟩ := q
    cases d <;> simp only [seqD] at h1 <;> cases h1
    · obtain ⟨p, vs, rfl, hp, r1, r2⟩ := rx.tupv e
      exact ⟨p, vs, rfl, .inr ⟨hp, k _ _ _ _ q (ret0 e r2)⟩⟩
    · obtain ⟨p, vs, rfl, hp, r1⟩ := rx.lstv e
      exact ⟨p, vs, rfl, .inl ⟨Evl.sq_of hp, fun l hl => k _ _ _ _ q (retT e hl r1)⟩⟩
    · obtain ⟨p, vs, rfl, hp, r1⟩ := rx.seqLv (ds := _) rfl e
      exact ⟨p, vs, rfl, .inl ⟨hp, fun l hl => k _ _ _ _ q (retT e hl r1)⟩⟩
  · exact q.elim
end
end Z

/-! Z5: statements, calls of defs by their words, the body of a def. -/
namespace Z
open PySem L2
open Evl (Ex ex_rd ex_l ex_t)

/-! ### a def's word -/
abbrev FSpec := List Sl → (LR → List Cell → Prop) → (Exc → List Cell → Prop) → Prop
/-- what a def hands back: kept data, or a new object that nothing else knows; H0: the heap at its entry -/
inductive RetV (G : Gm) (Hs H H0 : Hp) : V → LR → Prop
  | val {v d} : Rep G Hs v d → RetV G Hs H H0 v (.val d)
  | new {p c} : Hs p = none → CellAt G Hs H p c → H0 p = none → RetV G Hs H H0 (.ref p) (.new c)
inductive ArgsOk (G : Gm) (Hs H : Hp) : List V → List Sl → Prop
  | nil : ArgsOk G Hs H [] []
  | sh {v d vs as} : Rep G Hs v d → ArgsOk G Hs H vs as → ArgsOk G Hs H (v :: vs) (.sh d :: as)
  | own {p c vs as} : Hs p = none → CellAt G Hs H p c → ArgsOk G Hs H vs as → ArgsOk G Hs H (.ref p :: vs) (.own p c :: as)
inductive BackOk (G : Gm) (Hs H : Hp) : List Sl → List Cell → Prop
  | nil : BackOk G Hs H [] []
  | sh {d as cs} : BackOk G Hs H as cs → BackOk G Hs H (.sh d :: as) cs
  | own {p c c' as cs} : Hs p = none → CellAt G Hs H p c' → BackOk G Hs H as cs → BackOk G Hs H (.own p c :: as) (c' :: cs)
def NdOwn (as : List Sl) : Prop := ∀ (i j : Nat) (p : Addr) (c c' : Cell), as[i]? = some (Sl.own p c) → as[j]? = some (Sl.own p c') → i = j
def spF (G : Gm) (f : FSpec) : Sp := fun vs H Q E => ∃ (as : List Sl) (Hs : Hp) (P : LR → List Cell → Prop) (PE : Exc → List Cell → Prop), ArgsOk G Hs H vs as ∧ Ex Hs H ∧ NdOwn as ∧ f as P PE ∧
  (∀ d cs v Hs' H', P d cs → Ex Hs' H' → Go (Own as) (Own as) Hs H Hs' H' → RetV G Hs' H' H v d → BackOk G Hs' H' as cs → Q v H') ∧
  (∀ x cs cls dd Hs' H', PE x cs → Ex Hs' H' → Go (Own as) (Own as) Hs H Hs' H' → ExcOk G Hs' cls dd x → BackOk G Hs' H' as cs → E cls dd H')
theorem ArgsOk.length {G : Gm} {Hs H : Hp} : ∀ {vs as}, ArgsOk G Hs H vs as → vs.length = as.length
  | _, _, .nil => rfl
  | _, _, .sh _ r => congrArg (· + 1) r.length
  | _, _, .own _ _ r => congrArg (· + 1) r.length
theorem spF_len {G : Gm} {n : Nat} {f : FSpec} (hl : ∀ as P PE, f as P PE → as.length = n) {vs H Q E} (h : spF G f vs H Q E) : vs.length = n := by
  obtain ⟨as, Hs, P, PE, h2, _, _, h3, _⟩ := h
  rw [h2.length, hl _ _ _ h3]

theorem own_cons {x : Sl} {as : List Sl} {a : Addr} : Own (x :: as) a ↔ (∃ c, x = .own a c) ∨ Own as a := by
  constructor
  · rintro ⟨i, c, h⟩
    cases i with
    | zero => simp at h; exact .inl ⟨c, h⟩
    | succ i => exact .inr ⟨i, c, by simpa using h⟩
  · rintro (⟨c, rfl⟩ | ⟨i, c, h⟩)
    · exact ⟨0, c, rfl⟩
    · exact ⟨i + 1, c, by simpa using h⟩
theorem own_nil {a : Addr} : ¬ Own [] a := fun ⟨i, c, h⟩ => by simp at h
theorem NdOwn.tail {x : Sl} {as : List Sl} (h : NdOwn (x :: as)) : NdOwn as := fun i j p c c' h1 h2 => by
  have := h (i + 1) (j + 1) p c c' (by simpa using h1) (by simpa using h2)
  omega
theorem NdOwn.head {p : Addr} {c : Cell} {as : List Sl} (h : NdOwn (.own p c :: as)) : ¬ Own as p := fun ⟨i, c', q⟩ => by
  have := h 0 (i + 1) p c c' rfl (by simpa using q)
  omega
theorem NdOwn.cons {x : Sl} {as : List Sl} (h : NdOwn as) (n : ∀ p c, x = .own p c → ¬ Own as p) : NdOwn (x :: as) := fun i j p c c' h1 h2 => by
  cases i with
  | zero =>
    cases j with
    | zero => rfl
    | succ j => simp at h1 h2; exact (n p c h1 ⟨j, c', h2⟩).elim
  | succ i =>
    cases j with
    | zero => simp at h1 h2; exact (n p c' h2 ⟨i, c, h1⟩).elim
    | succ j => simp at h1 h2; rw [h i j p c c' h1 h2]

/-! ### arguments handed over: kept (false), or lent to be changed (true) -/
def pass : List Bool → List Late → Rho → Option (List Sl × Rho)
  | [], [], r => some ([], r)
  | false :: ms, l :: ls, r => match frz r l with
    | some (d, r1) => (pass ms ls r1).map fun x => (.sh d :: x.1, x.2)
    | none => none
  | true :: ms, .sl i :: ls, r => match r[i]? with
    | some (Sl.own p c) => (pass ms ls (r.set i .no)).map fun x => (.own p c :: x.1, x.2)
    | some (Sl.sh d) => (pass ms ls r).map fun x => (.sh d :: x.1, x.2)
    | _ => none
  | true :: ms, .st d :: ls, r => (pass ms ls r).map fun x => (.sh d :: x.1, x.2)
  | true :: ms, .nw p c :: ls, r => (pass ms ls r).map fun x => (.own p c :: x.1, x.2)
  | _, _, _ => none
def give : List Late → List Sl → List Cell → Rho → Rho
  | .sl i :: ls, .own p _ :: as, c' :: cs, r => give ls as cs (r.set i (.own p c'))
  | .st _ :: ls, .own _ _ :: as, _ :: cs, r => give ls as cs r
  | .nw _ _ :: ls, .own _ _ :: as, _ :: cs, r => give ls as cs r
  | _ :: ls, .sh _ :: as, cs, r => give ls as cs r
  | _, _, _, r => r
section
variable {G : Gm} {s : St} {H : Hp}
theorem LateOk.sub {r r' : Rho} {Hs : Hp} {v : V} {l : Late} (h : LateOk G r s Hs H v l) (k : ∀ a, Own r' a → Own r a) : LateOk G r' s Hs H v l := by
  cases h with
  | st h => exact .st h
  | sl h => exact .sl h
  | nw h1 h2 h3 => exact .nw h1 h2 fun q => h3 (k _ q)
theorem LatesOk.sub {r r' : Rho} {Hs : Hp} (k : ∀ a, Own r' a → Own r a) : ∀ {vs ls}, LatesOk G r s Hs H vs ls → LatesOk G r' s Hs H vs ls
  | _, _, .nil => .nil
  | _, _, .cons a b c => .cons (a.sub k) b (LatesOk.sub k c)
theorem own_no {r : Rho} {i : Nat} {p : Addr} {c : Cell} (S : ∀ (i j : Nat) (p : Addr) (c c' : Cell), r[i]? = some (Sl.own p c) → r[j]? = some (Sl.own p c') → i = j) (q : r[i]? = some (Sl.own p c)) : ¬ Own (r.set i .no) p := fun ⟨j, c', hj⟩ => by
  by_cases ej : i = j
  · subst ej
    by_cases hl : i < r.length
    · rw [List.getElem?_set_self hl] at hj; cases hj
    · rw [List.getElem?_eq_none (by simpa using hl)] at hj; cases hj
  · rw [List.getElem?_set_ne ej] at hj
    exact ej (S i j p _ _ q hj)
structure PassOk (G : Gm) (s : St) (H0 Hs0 H : Hp) (r0 r r2 : Rho) (Hs Hs2 : Hp) (vs : List V) (ls : List Late) (as : List Sl) : Prop where
  S : StOk G r2 s Hs2 H
  ak : ArgsOk G Hs2 H vs as
  nd : NdOwn as
  dj : ∀ a, Own as a → ¬ Own r2 a
  fr : ∀ a, Own as a → Own r a ∨ ∃ c, Late.nw a c ∈ ls
  sb : ∀ a, Own r2 a → Own r a
  ss : Ex Hs Hs2
  pr : ∀ p, Hs p = none → ¬ Own r p → (∀ c, Late.nw p c ∉ ls) → Hs2 p = none
theorem pass_ok {H0 Hs0 : Hp} {r0 : Rho} : ∀ {ms : List Bool} {ls : List Late} {vs : List V} {r r2 : Rho} {Hs : Hp} {as : List Sl}, StOk G r s Hs H → LatesOk G r s Hs H vs ls → pass ms ls r = some (as, r2) → ∃ Hs2, PassOk G s H0 Hs0 H r0 r r2 Hs Hs2 vs ls as
  | [], [], _, r, r2, Hs, as, S, .nil, e => by
    simp [pass] at e; obtain ⟨rfl, rfl⟩ := e
    exact ⟨Hs, S, .nil, (fun i j p c c' h => by simp at h), (fun a h => (own_nil h).elim), (fun a h => (own_nil h).elim), (fun _ h => h), Ex.refl _, fun _ h _ _ => h⟩
  | false :: ms, l :: ls, _, r, r2, Hs, as, S, .cons (vs := vs) (v := v) a b c, e => by
    simp only [pass] at e
    split at e
    · rename_i d r1 q1
      obtain ⟨⟨as', r2'⟩, q2, q3⟩ := Option.map_eq_some_iff.mp e
      cases q3
      -- freezing once; freshness of the new object against itself
      have fz : ∃ Hs1, StOk G r1 s Hs1 H ∧ Rep G Hs1 v d ∧ Kept H r r1 l Hs Hs1 := by
        cases l with
        | nw p cl =>
          cases a with
          | nw h1 h2 h3 =>
            simp at q1; obtain ⟨rfl, rfl⟩ := q1
            obtain ⟨o, ho⟩ := h2.isv
            exact ⟨upd Hs p o, S.add h1 ho h3, h2.rep (Ex.new h1) (fun u hu => by rw [ho] at hu; cases hu; exact upd_same), fun _ h => h, .inr ⟨p, o, rfl, h1, ho, .inr ⟨_, rfl⟩⟩⟩
        | st d' =>
          obtain ⟨Hs1, x1, x2, _, x4⟩ := a.frz (r0 := r) (H0 := H) (Hs0 := Hs) S Go.refl (fun _ _ q => nomatch q) q1
          exact ⟨Hs1, x1, x2, x4⟩
        | sl i =>
          obtain ⟨Hs1, x1, x2, _, x4⟩ := a.frz (r0 := r) (H0 := H) (Hs0 := Hs) S Go.refl (fun _ _ q => nomatch q) q1
          exact ⟨Hs1, x1, x2, x4⟩
      obtain ⟨Hs1, S1, rp, kp⟩ := fz
      obtain ⟨Hs2, K⟩ := pass_ok (H0 := H0) (Hs0 := Hs0) (r0 := r0) S1 (c.kept kp b) q2
      refine ⟨Hs2, K.S, .sh (rp.mono K.ss) K.ak, K.nd.cons (fun _ _ q => by cases q), fun a h => ?_, fun a h => ?_, fun a h => kp.1 a (K.sb a h), kp.ss.trans K.ss, fun p h1 h2 h3 => ?_⟩
      · rcases own_cons.mp h with ⟨_, q⟩ | h
        · cases q
        · exact K.dj a h
      · rcases own_cons.mp h with ⟨_, q⟩ | h
        · cases q
        · rcases K.fr a h with z | ⟨cc, z⟩
          · exact .inl (kp.1 a z)
          · exact .inr ⟨cc, List.mem_cons_of_mem _ z⟩
      · refine K.pr p ?_ (fun q => h2 (kp.1 p q)) fun cc q => h3 cc (List.mem_cons_of_mem _ q)
        rcases kp.2 with rfl | ⟨p', o, rfl, _, _, ow⟩
        · exact h1
        · rw [upd_ne]
          · exact h1
          · rintro rfl
            rcases ow with ow | ⟨cc, rfl⟩
            · exact h2 ow
            · exact h3 cc (List.mem_cons_self ..)
    · cases e
  | true :: ms, .sl i :: ls, _, r, r2, Hs, as, S, .cons (vs := vs) (v := v) a b c, e => by
    simp only [pass] at e
    split at e
    · rename_i p cl q
      obtain ⟨⟨as', r2'⟩, q2, q3⟩ := Option.map_eq_some_iff.mp e
      cases q3
      cases a with
      | sl hv =>
      have z := S.sl i _ q
      rw [hv] at z
      cases z with
      | own z1 z2 =>
      have hsub : ∀ a, Own (r.set i .no) a → Own r a := fun a => Own.set (by intro p c q; cases q)
      have S1 : StOk G (r.set i .no) s Hs H := S.put (by intro p c q; cases q) .no
      obtain ⟨Hs2, K⟩ := pass_ok (H0 := H0) (Hs0 := Hs0) (r0 := r0) S1 (c.sub hsub) q2
      have np : ¬ Own (r.set i .no) p := own_no S.nd q
      have nl : ∀ cc, Late.nw p cc ∉ ls := fun cc h => by
        have : ∀ {vs ls}, LatesOk G r s Hs H vs ls → Late.nw p cc ∈ ls → ¬ Own r p := by
          intro vs ls h
          induction h with
          | nil => intro q; cases q
          | cons a b c ih =>
            intro q
            rcases List.mem_cons.mp q with q | q
            · subst q; cases a with | nw _ _ h => exact h
            · exact ih q
        exact this c h ⟨i, cl, q⟩
      have hp2 : Hs2 p = none := K.pr p z1 np nl
      have nas : ¬ Own as' p := fun h => by
        rcases K.fr p h with z | ⟨cc, z⟩
        · exact np z
        · exact nl cc z
      refine ⟨Hs2, K.S, .own hp2 (z2.go K.ss fun _ h => h) K.ak, K.nd.cons (fun p' c' e => by cases e; exact nas), fun a h => ?_, fun a h => ?_, fun a h => hsub a (K.sb a h), K.ss, fun p' h1 h2 h3 => K.pr p' h1 (fun q => h2 (hsub p' q)) fun cc q => h3 cc (List.mem_cons_of_mem _ q)⟩
      · rcases own_cons.mp h with ⟨_, e⟩ | h
        · cases e; exact fun q => np (K.sb _ q)
        · exact K.dj a h
      · rcases own_cons.mp h with ⟨_, e⟩ | h
        · cases e; exact .inl ⟨i, cl, q⟩
        · rcases K.fr a h with z | ⟨cc, z⟩
          · exact .inl (hsub a z)
          · exact .inr ⟨cc, List.mem_cons_of_mem _ z⟩
    · rename_i d q
      obtain ⟨⟨as', r2'⟩, q2, q3⟩ := Option.map_eq_some_iff.mp e
      cases q3
      cases a with
      | sl hv =>
      have z := S.sl i _ q
      rw [hv] at z
      cases z with
      | sh rp =>
      obtain ⟨Hs2, K⟩ := pass_ok (H0 := H0) (Hs0 := Hs0) (r0 := r0) S c q2
      refine ⟨Hs2, K.S, .sh (rp.mono K.ss) K.ak, K.nd.cons (fun _ _ q => by cases q), fun a h => ?_, fun a h => ?_, K.sb, K.ss, fun p h1 h2 h3 => K.pr p h1 h2 fun cc q => h3 cc (List.mem_cons_of_mem _ q)⟩
      · rcases own_cons.mp h with ⟨_, q⟩ | h
        · cases q
        · exact K.dj a h
      · rcases own_cons.mp h with ⟨_, q⟩ | h
        · cases q
        · rcases K.fr a h with z | ⟨cc, z⟩
          · exact .inl z
          · exact .inr ⟨cc, List.mem_cons_of_mem _ z⟩
    · cases e
  | true :: ms, .nw p cl :: ls, _, r, r2, Hs, as, S, .cons (vs := vs) (v := v) a b c, e => by
    simp only [pass] at e
    obtain ⟨⟨as', r2'⟩, q2, q3⟩ := Option.map_eq_some_iff.mp e
    cases q3
    cases a with
    | nw h1 h2 h3 =>
    obtain ⟨Hs2, K⟩ := pass_ok (H0 := H0) (Hs0 := Hs0) (r0 := r0) S c q2
    have nl : ∀ cc, Late.nw p cc ∉ ls := fun cc => b p cl cc rfl
    have nas : ¬ Own as' p := fun h => by
      rcases K.fr p h with z | ⟨cc, z⟩
      · exact h3 z
      · exact nl cc z
    refine ⟨Hs2, K.S, .own (K.pr p h1 h3 nl) (h2.go K.ss fun _ h => h) K.ak, K.nd.cons (fun p' c' e => by cases e; exact nas), fun a h => ?_, fun a h => ?_, K.sb, K.ss, fun p' z1 z2 z3 => K.pr p' z1 z2 fun cc q => z3 cc (List.mem_cons_of_mem _ q)⟩
    · rcases own_cons.mp h with ⟨_, e⟩ | h
      · cases e; exact fun q => h3 (K.sb _ q)
      · exact K.dj a h
    · rcases own_cons.mp h with ⟨_, e⟩ | h
      · cases e; exact .inr ⟨_, List.mem_cons_self ..⟩
      · rcases K.fr a h with z | ⟨cc, z⟩
        · exact .inl z
        · exact .inr ⟨cc, List.mem_cons_of_mem _ z⟩
  | [], _ :: _, _, _, _, _, _, _, _, e => by simp [pass] at e
  | false :: _, [], _, _, _, _, _, _, _, e => by simp [pass] at e
  | true :: _, [], _, _, _, _, _, _, _, e => by simp [pass] at e
  | true :: ms, .st d :: ls, _, r, r2, Hs, as, S, .cons (vs := vs) (v := v) a b c, e => by
      simp only [pass] at e
      obtain ⟨⟨as', r2'⟩, q2, q3⟩ := Option.map_eq_some_iff.mp e
      cases q3
      cases a with
      | st rp =>
      obtain ⟨Hs2, K⟩ := pass_ok (H0 := H0) (Hs0 := Hs0) (r0 := r0) S c q2
      refine ⟨Hs2, K.S, .sh (rp.mono K.ss) K.ak, K.nd.cons (fun _ _ q => by cases q), fun a h => ?_, fun a h => ?_, K.sb, K.ss, fun p h1 h2 h3 => K.pr p h1 h2 fun cc q => h3 cc (List.mem_cons_of_mem _ q)⟩
      · rcases own_cons.mp h with ⟨_, q⟩ | h
        · cases q
        · exact K.dj a h
      · rcases own_cons.mp h with ⟨_, q⟩ | h
        · cases q
        · rcases K.fr a h with z | ⟨cc, z⟩
          · exact .inl z
          · exact .inr ⟨cc, List.mem_cons_of_mem _ z⟩
/-- a slot has its own object -/
theorem StOk.putOwn {r : Rho} {Hs : Hp} (S : StOk G r s Hs H) {i : Nat} {p : Addr} {c : Cell} (hs : s[i]? = some (some (.ref p))) (h1 : Hs p = none) (h2 : CellAt G Hs H p c) (n : ¬ Own r p) : StOk G (r.set i (.own p c)) s Hs H := by
  refine ⟨by rw [List.length_set]; exact S.len, S.ex, fun j y q => ?_, fun j k p' c' c'' q1 q2 => ?_⟩
  · by_cases e : i = j
    · subst e
      by_cases hl : i < r.length
      · rw [List.getElem?_set_self hl] at q; cases q; rw [hs]; exact .own h1 h2
      · rw [List.getElem?_eq_none (by simpa using hl)] at q; cases q
    · rw [List.getElem?_set_ne e] at q; exact S.sl j y q
  · by_cases ej : i = j
    · subst ej
      by_cases ek : i = k
      · exact ek
      · exfalso
        by_cases hl : i < r.length
        · rw [List.getElem?_set_self hl] at q1; cases q1
          rw [List.getElem?_set_ne ek] at q2
          exact n ⟨k, _, q2⟩
        · rw [List.getElem?_eq_none (by simpa using hl)] at q1; cases q1
    · rw [List.getElem?_set_ne ej] at q1
      by_cases ek : i = k
      · subst ek
        exfalso
        by_cases hl : i < r.length
        · rw [List.getElem?_set_self hl] at q2; cases q2
          exact n ⟨j, _, q1⟩
        · rw [List.getElem?_eq_none (by simpa using hl)] at q2; cases q2
      · rw [List.getElem?_set_ne ek] at q2
        exact S.nd j k p' c' c'' q1 q2
theorem own_putOwn {r : Rho} {i : Nat} {p a : Addr} {c : Cell} (h : Own (r.set i (.own p c)) a) : a = p ∨ Own r a := by
  obtain ⟨j, c', h⟩ := h
  by_cases e : i = j
  · subst e
    by_cases hl : i < r.length
    · rw [List.getElem?_set_self hl] at h; cases h; exact .inl rfl
    · rw [List.getElem?_eq_none (by simpa using hl)] at h; cases h
  · rw [List.getElem?_set_ne e] at h; exact .inr ⟨j, c', h⟩
theorem give_ok : ∀ {ls : List Late} {as : List Sl} {cs : List Cell} {vs : List V} {r : Rho} {Hs Hs1 H1 Hs2 H2 : Hp} {r1 : Rho}, StOk G r s Hs H → LatesOk G r1 s Hs1 H1 vs ls → ArgsOk G Hs2 H2 vs as → NdOwn as → (∀ a, Own as a → ¬ Own r a) → BackOk G Hs H as cs →
    StOk G (give ls as cs r) s Hs H ∧ ∀ a, Own (give ls as cs r) a → Own r a ∨ Own as a
  | [], [], cs, _, r, _, _, _, _, _, _, S, _, _, _, _, _ => ⟨by cases cs <;> exact S, fun a h => by cases cs <;> exact .inl h⟩
  | [], a :: as, cs, _, r, _, _, _, _, _, _, S, .nil, A, _, _, _ => by cases A
  | l :: ls, [], cs, _, r, _, _, _, _, _, _, S, .cons _ _ _, A, _, _, _ => by cases A
  | l :: ls, .sh d :: as, cs, _, r, _, _, _, _, _, _, S, .cons x1 x2 x3, A, nd, dj, B => by
    have e : give (l :: ls) (.sh d :: as) cs r = give ls as cs r := by cases l <;> cases cs <;> rfl
    rw [e]
    cases A with
    | sh h1 h2 =>
      cases B with
      | sh B =>
        obtain ⟨y1, y2⟩ := give_ok S x3 h2 nd.tail (fun a h => dj a (own_cons.mpr (.inr h))) B
        exact ⟨y1, fun a h => (y2 a h).imp id fun z => own_cons.mpr (.inr z)⟩
  | l :: ls, .no :: as, cs, _, r, _, _, _, _, _, _, S, .cons _ _ _, A, _, _, _ => by cases A
  | l :: ls, .own p c :: as, cs, _, r, Hs, _, _, _, _, _, S, .cons x1 x2 x3, A, nd, dj, B => by
    cases A with
    | own h0 h1 h2 =>
      cases B with
      | own b1 b2 B =>
        rename_i c' cs'
        cases l with
        | sl i =>
          show StOk G (give ls as cs' (r.set i (.own p c'))) s Hs H ∧ _
          cases x1 with
          | sl x1 =>
          have np : ¬ Own r p := dj p (own_cons.mpr (.inl ⟨_, rfl⟩))
          have S1 := S.putOwn (i := i) x1 b1 b2 np
          obtain ⟨y1, y2⟩ := give_ok S1 x3 h2 nd.tail (fun a h q => by
            rcases own_putOwn q with rfl | q
            · exact nd.head h
            · exact dj a (own_cons.mpr (.inr h)) q) B
          refine ⟨y1, fun a h => ?_⟩
          rcases y2 a h with z | z
          · rcases own_putOwn z with rfl | z
            · exact .inr (own_cons.mpr (.inl ⟨_, rfl⟩))
            · exact .inl z
          · exact .inr (own_cons.mpr (.inr z))
        | st d =>
          show StOk G (give ls as cs' r) s Hs H ∧ _
          obtain ⟨y1, y2⟩ := give_ok S x3 h2 nd.tail (fun a h => dj a (own_cons.mpr (.inr h))) B
          exact ⟨y1, fun a h => (y2 a h).imp id fun z => own_cons.mpr (.inr z)⟩
        | nw q c0 =>
          show StOk G (give ls as cs' r) s Hs H ∧ _
          obtain ⟨y1, y2⟩ := give_ok S x3 h2 nd.tail (fun a h => dj a (own_cons.mpr (.inr h))) B
          exact ⟨y1, fun a h => (y2 a h).imp id fun z => own_cons.mpr (.inr z)⟩
end
end Z

/-! Z6: a call of a def, statements, the body of a def. -/
namespace Z
open PySem L2
open PyProof.Rows (envOfC)
open Evl (Ex ex_rd ex_l ex_t)

section
variable {G : Gm} {r r' : Rho} {s s' : St} {Hs H Hs' H' : Hp}
theorem StOk.other {O O' : Addr → Prop} (S : StOk G r s Hs H) (g : Go O O' Hs H Hs' H') (e : Ex Hs' H') (n : ∀ a, Own r a → ¬ O a) : StOk G r s Hs' H' := by
  refine ⟨S.len, e, fun i x q => ?_, S.nd⟩
  have z := S.sl i x q
  revert z
  generalize s[i]? = w
  intro z
  cases z with
  | no => exact .no
  | sh h => exact .sh (h.mono g.ss)
  | own h1 h2 =>
    have no := n _ ⟨i, _, q⟩
    obtain ⟨o, ho⟩ := h2.isv
    exact .own (g.fr _ o ho h1 no) (h2.go g.ss fun o q => g.kp _ o q no)
end

/-- a def of the module under a name -/
structure DefOk (P : Program) (w : World) (K : PySem.W.Frag) (mg : Str → Option Value) (base : Heap) (k : Nat) (x : Str) (f : FSpec) : Prop where
  ex : ∃ (fa : Addr), FnR P w K mg base (L2.CX P w) k fa (spF ⟨K, mg⟩ f) ∧ mg x = some (.ref fa) ∧ PySem.W.keepIn K (.ref fa) = true
theorem DefOk.mono {P : Program} {w : World} {K : PySem.W.Frag} {mg : Str → Option Value} {base : Heap} {j k : Nat} {x : Str} {f : FSpec} (h : DefOk P w K mg base j x f) (hk : j ≤ k) : DefOk P w K mg base k x f :=
  let ⟨fa, a, b, c⟩ := h.ex; ⟨fa, a.mono hk, b, c⟩
theorem DefOk.imp {P : Program} {w : World} {K : PySem.W.Frag} {mg : Str → Option Value} {base : Heap} {k : Nat} {x : Str} {f g : FSpec} (h : DefOk P w K mg base k x f) (i : ∀ as Q QE, g as Q QE → f as Q QE) : DefOk P w K mg base k x g :=
  let ⟨fa, a, b, c⟩ := h.ex; ⟨fa, a.imp fun vs H Q E ⟨as, Hs, P', PE, h1, h2, h3, h4, h5⟩ => ⟨as, Hs, P', PE, h1, h2, h3, i _ _ _ h4, h5⟩, b, c⟩
@[simp] def withP (ms : List Bool) (ls : List Late) (r : Rho) (k : List Sl → Rho → Prop) : Prop := match pass ms ls r with
  | some (as, r') => k as r'
  | none => False
theorem withP_iff {ms : List Bool} {ls : List Late} {r : Rho} {k : List Sl → Rho → Prop} (h : withP ms ls r k) : ∃ as r', pass ms ls r = some (as, r') ∧ k as r' := by
  unfold withP at h
  split at h
  · exact ⟨_, _, by assumption, h⟩
  · exact h.elim
@[simp] def wCall (f : FSpec) (ms : List Bool) (t : TAw) : XW := fun r P PE => t r (fun ls r1 => withP ms ls r1 fun as r2 => f as (fun d cs => d.out P (give ls as cs r2)) (fun x cs => PE x (give ls as cs r2))) PE
section
variable {X : Cx} {W : WX} {e : Expr} {es : List Expr} {ta : TAw} {pos p : Pos} {x : Str} {k j : Nat} {f : FSpec}
theorem own_has {G : Gm} {Hs H : Hp} : ∀ {vs : List V} {as : List Sl} {p : Addr}, ArgsOk G Hs H vs as → Own as p → H p = none → False
  | _, _, _, .nil, h, _ => own_nil h
  | _, _, _, .sh _ b, h, e => by
    rcases own_cons.mp h with ⟨_, q⟩ | h
    · cases q
    · exact own_has b h e
  | _, _, _, .own _ a b, h, e => by
    rcases own_cons.mp h with ⟨_, q⟩ | h
    · cases q
      obtain ⟨o, ho⟩ := a.isv
      rw [e] at ho; cases ho
    · exact own_has b h e
/-- the heart of a call: from the arguments handed over to the def's promise -/
theorem call_core {r r1 : Rho} {s : St} {Hs H Hs1 H1 : Hp} {ms : List Bool} {ls : List Late} {vs : List V} {P : Late → Rho → Prop} {PE : Exc → Rho → Prop} {Q : VK} {E : XK}
    (o : Out (gm X) r s Hs H r1 Hs1 H1) (lo : LatesOk (gm X) r1 s Hs1 H1 vs ls) (nw : ∀ l ∈ ls, NewAt H l)
    (q : withP ms ls r1 fun as r2 => f as (fun d cs => d.out P (give ls as cs r2)) (fun x cs => PE x (give ls as cs r2)))
    (k : ∀ l r' v Hs' H', P l r' → Out (gm X) r s Hs H r' Hs' H' → LateOk (gm X) r' s Hs' H' v l → NewAt H l → Q v H')
    (ke : ∀ x r' cls d Hs' H', PE x r' → Out (gm X) r s Hs H r' Hs' H' → ExcOk (gm X) Hs' cls d x → E cls d H') : spF (gm X) f vs H1 Q E := by
  obtain ⟨as, r2, ep, q⟩ := withP_iff q
  obtain ⟨Hs2, K⟩ := pass_ok (H0 := H) (Hs0 := Hs) (r0 := r) o.S lo ep
  -- what the handing over changed
  have g2 : Go (Own r) (fun a => Own r2 a ∨ Own as a) Hs H Hs2 H1 := by
    refine ⟨o.g.ss.trans K.ss, o.g.kp, fun a u h1 h2 h3 => ?_, fun a h => ?_, o.g.th⟩
    · refine K.pr a (o.g.fr a u h1 h2 h3) (fun z => ?_) (fun c z => ?_)
      · rcases o.g.ow a z with z | z
        · exact h3 z
        · rw [h1] at z; cases z
      · have := nw _ z a c rfl
        rw [h1] at this; cases this
    · rcases h with h | h
      · exact o.g.ow a (K.sb a h)
      · rcases K.fr a h with z | ⟨c, z⟩
        · exact o.g.ow a z
        · exact .inr (nw _ z a c rfl)
  have fin : ∀ {cs : List Cell} {Hs' H' : Hp}, Ex Hs' H' → Go (Own as) (Own as) Hs2 H1 Hs' H' → BackOk (gm X) Hs' H' as cs → Out (gm X) r s Hs H (give ls as cs r2) Hs' H' := by
    intro cs Hs' H' ex g bk
    have S3 : StOk (gm X) r2 s Hs' H' := K.S.other g ex fun a h1 h2 => K.dj a h2 h1
    obtain ⟨S4, ow⟩ := give_ok S3 lo K.ak K.nd K.dj bk
    exact ⟨S4, g2.trans ⟨g.ss, fun a u h n => g.kp a u h fun z => n (.inr z), fun a u h h2 n => g.fr a u h h2 fun z => n (.inr z), fun a h => .inl (ow a h), g.th⟩⟩
  refine ⟨as, Hs2, _, _, K.ak, K.S.ex, K.nd, q, fun d cs v Hs' H' pd ex g rp bk => ?_, fun x cs cls dd Hs' H' px ex g eo bk => ?_⟩
  · cases rp with
    | val rp => exact k _ _ _ _ _ pd (fin ex g bk) (.st rp) (fun _ _ q => nomatch q)
    | new z1 z2 z3 =>
      refine k _ _ _ _ _ (pd _) (fin ex g bk) (.nw z1 z2 fun ow => ?_) (fun p c e => by cases e; exact o.g.th _ z3)
      have S3 : StOk (gm X) r2 s Hs' H' := K.S.other g ex fun a h1 h2 => K.dj a h2 h1
      rcases (give_ok S3 lo K.ak K.nd K.dj bk).2 _ ow with h | h
      · exact K.S.notOwn z3 h
      · exact own_has K.ak h z3
  · exact ke _ _ _ _ _ _ px (fin ex g bk) eo
theorem run_fnRS {pins : List (Addr × Obj)} {σ : St} {H : Hp} {s : Shared} {CX : CXT} {k : Nat} {f : Addr} {sp : Sp} {E : XK} {Q : VK} {us : List Value} {vs : List V} (F : FnR X.prog X.w X.K X.mg X.base CX k f sp) (hr : Room k X.A) (hx : PassesAt CX X σ E) (I : Inv X pins σ H s) (r : Vals vs us) (h : sp vs H Q E) :
    wpAny (model X.prog X.w) X.A (call (.ref f) us) (EP X pins σ Q) X.xe s := by
  refine wpAny_call (codeAny_mono (F X.A X.stack s H us vs Q E hr I.env0 r h) fun r s' hq => ?_)
  cases r with
  | error e => exact hx pins H s e s' I hq
  | ok fl =>
    cases fl with
    | ret u => exact I.after hq
    | next => exact False.elim hq
    | brk => exact False.elim hq
    | cont => exact False.elim hq
theorem pe_callR {CX : CXT} {k : Nat} {f : Addr} {sp : Sp} {E : St → XK} {t : TA} (F : FnR X.prog X.w X.K X.mg X.base CX k f sp) (hr : Room k X.A) (hg : Gl X x) (hm : X.mg x = some (.ref f)) (hk : PySem.W.keepIn X.K (.ref f) = true) (hx : ∀ σ, PassesAt CX X σ (E σ))
    (ha : PA X (e :: es) t) (hdb : (x == ("__debug__" : Str)) = false := by decide) (he : starEach (e :: es) X.env = (false, eval e X.env) :: starEach es X.env := by rfl) (hpl : (backTo pos (starEach es X.env)).any (·.1) = false := by rfl) :
    PE X (.Call (.Name x p) (e :: es) [] pos) (tCallS sp E t) := by
  refine ⟨fun pins s σ H Q I h => ?_⟩
  refine wpAny_Call_Name_kw (ld_glob I hg hm ?_ hdb)
  refine PySem.W.callWith_K (h₀ := X.base) I.ok.mod.kin hk (thn (ha.run pos pins s σ H _ I h) fun us s1 ⟨vs, H1, I1, r, q⟩ => ⟨I1.kIn, ?_⟩) he hpl
  exact run_fnRS F hr (hx σ) I1 r q
theorem pe_callR0 {CX : CXT} {k : Nat} {f : Addr} {sp : Sp} {E : St → XK} (F : FnR X.prog X.w X.K X.mg X.base CX k f sp) (hr : Room k X.A) (hg : Gl X x) (hm : X.mg x = some (.ref f)) (hk : PySem.W.keepIn X.K (.ref f) = true) (hx : ∀ σ, PassesAt CX X σ (E σ))
    (hdb : (x == ("__debug__" : Str)) = false := by decide) : PE X (.Call (.Name x p) [] [] pos) (tCallS sp E tNil) := by
  refine ⟨fun pins s σ H Q I h => ?_⟩
  refine wpAny_Call_Name_kw (ld_glob I hg hm ?_ hdb)
  refine PySem.W.callWith_K0 (K := X.K) I.kIn hk ?_
  exact run_fnRS F hr (hx σ) I .nil h
theorem se_call (F : DefOk X.prog X.w X.K X.mg X.base k x f) (hr : Room j X.A) (hk : k ≤ j) (hg : Gl X x) (tk : Takes X W) (ms : List Bool) (ha : SA X W (e :: es) ta) (hdb : (x == ("__debug__" : Str)) = false := by decide)
    (he : starEach (e :: es) X.env = (false, eval e X.env) :: starEach es X.env := by rfl) (hpl : (backTo pos (starEach es X.env)).any (·.1) = false := by rfl) : SE X W (.Call (.Name x p) (e :: es) [] pos) (wCall f ms ta) := by
  obtain ⟨fa, F1, F2, F3⟩ := F.ex
  refine pe_imp (pe_callR F1 (hr.mono hk) hg F2 F3 (fun σ => passAt tk σ) ha hdb he hpl) fun s H Q q => ?_
  obtain ⟨r, Hs, P, PE, S, w, kk, ke⟩ := q
  refine ⟨r, Hs, _, PE, S, w, fun ls r1 vs Hs1 H1 p o lo nw => ?_, ke⟩
  exact call_core o lo nw p kk ke
theorem se_call0 (F : DefOk X.prog X.w X.K X.mg X.base k x f) (hr : Room j X.A) (hk : k ≤ j) (hg : Gl X x) (tk : Takes X W) (hdb : (x == ("__debug__" : Str)) = false := by decide) : SE X W (.Call (.Name x p) [] [] pos) (wCall f [] waNil) := by
  obtain ⟨fa, F1, F2, F3⟩ := F.ex
  refine pe_imp (pe_callR0 F1 (hr.mono hk) hg F2 F3 (fun σ => passAt tk σ) hdb) fun s H Q q => ?_
  obtain ⟨r, Hs, P, PE, S, w, kk, ke⟩ := q
  show spF (gm X) f [] H Q _
  have w' : withP [] [] r fun as r2 => f as (fun d cs => d.out P (give [] as cs r2)) (fun x cs => PE x (give [] as cs r2)) := w
  exact call_core (Out.refl S) .nil (fun _ h => nomatch h) w' kk ke
end

/-! ### statements -/
structure Fl where
  nx : Rho → Prop
  rt : LR → Rho → Prop
  bk : Rho → Prop
  ct : Rho → Prop
  ex : Exc → Rho → Prop
abbrev WS := Rho → Fl → Prop
structure OutS (G : Gm) (r : Rho) (Hs H : Hp) (r' : Rho) (s' : St) (Hs' H' : Hp) : Prop where
  S : StOk G r' s' Hs' H'
  g : Go (Own r) (Own r') Hs H Hs' H'
theorem OutS.refl {G : Gm} {r : Rho} {s : St} {Hs H : Hp} (S : StOk G r s Hs H) : OutS G r Hs H r s Hs H := ⟨S, Go.refl⟩
theorem OutS.trans {G : Gm} {r r1 r2 : Rho} {s1 s2 : St} {Hs H Hs1 H1 Hs2 H2 : Hp} (a : OutS G r Hs H r1 s1 Hs1 H1) (b : OutS G r1 Hs1 H1 r2 s2 Hs2 H2) : OutS G r Hs H r2 s2 Hs2 H2 := ⟨b.S, a.g.trans b.g⟩
theorem Out.outS {G : Gm} {r r1 : Rho} {s : St} {Hs H Hs1 H1 : Hp} (a : Out G r s Hs H r1 Hs1 H1) : OutS G r Hs H r1 s Hs1 H1 := ⟨a.S, a.g⟩
/-- a value handed back -/
inductive RetS (G : Gm) (r : Rho) (H : Hp) (r' : Rho) (Hs' H' : Hp) : V → LR → Prop
  | val {v d} : Rep G Hs' v d → RetS G r H r' Hs' H' v (.val d)
  | new {p c} : Hs' p = none → CellAt G Hs' H' p c → ¬ Own r' p → Own r p ∨ H p = none → RetS G r H r' Hs' H' (.ref p) (.new c)
theorem RetS.back {G : Gm} {r r1 r2 : Rho} {s1 : St} {Hs H Hs1 H1 Hs2 H2 : Hp} {v : V} {l : LR} (h : RetS G r1 H1 r2 Hs2 H2 v l) (o : OutS G r Hs H r1 s1 Hs1 H1) : RetS G r H r2 Hs2 H2 v l := by
  cases h with
  | val h => exact .val h
  | new a b c d =>
    refine .new a b c ?_
    rcases d with d | d
    · exact o.g.ow _ d
    · exact .inr (o.g.th _ d)
/-- what the ends want -/
structure Ket (G : Gm) (W : WX) (D : Ends) (F : Fl) (r : Rho) (Hs H : Hp) : Prop where
  nx : ∀ r' s' Hs' H', F.nx r' → OutS G r Hs H r' s' Hs' H' → D.nx s' H'
  rt : ∀ d r' s' v Hs' H', F.rt d r' → OutS G r Hs H r' s' Hs' H' → RetS G r H r' Hs' H' v d → D.rt v H'
  bk : ∀ r' s' Hs' H', F.bk r' → OutS G r Hs H r' s' Hs' H' → D.bk s' H'
  ct : ∀ r' s' Hs' H', F.ct r' → OutS G r Hs H r' s' Hs' H' → D.ct s' H'
  ex : ∀ x r' s' cls d Hs' H', F.ex x r' → OutS G r Hs H r' s' Hs' H' → ExcOk G Hs' cls d x → W cls d s' H'
theorem Ket.mono {G : Gm} {W : WX} {D : Ends} {F : Fl} {r r1 : Rho} {s1 : St} {Hs H Hs1 H1 : Hp} (k : Ket G W D F r Hs H) (o : OutS G r Hs H r1 s1 Hs1 H1) : Ket G W D F r1 Hs1 H1 :=
  ⟨fun r' s' Hs' H' h o' => k.nx r' s' Hs' H' h (o.trans o'), fun d r' s' v Hs' H' h o' rp => k.rt d r' s' v Hs' H' h (o.trans o') (rp.back o), fun r' s' Hs' H' h o' => k.bk r' s' Hs' H' h (o.trans o'),
   fun r' s' Hs' H' h o' => k.ct r' s' Hs' H' h (o.trans o'), fun x r' s' cls d Hs' H' h o' e => k.ex x r' s' cls d Hs' H' h (o.trans o') e⟩
def tWS (G : Gm) (W : WX) (w : WS) : TS := fun D s H => ∃ (r : Rho) (Hs : Hp) (F : Fl), StOk G r s Hs H ∧ w r F ∧ Ket G W D F r Hs H
def SS (X : Cx) (W : WX) (st : Stmt) (w : WS) : Prop := PS X st (tWS (gm X) W w)
def SSs (X : Cx) (W : WX) (st : List Stmt) (w : WS) : Prop := PSs X st (tWS (gm X) W w)
theorem ps_imp {X : Cx} {st : Stmt} {t t' : TS} (h : PS X st t) (i : ∀ D s H, t' D s H → t D s H) : PS X st t' := ⟨fun pins s σ H D I q => h.run pins s σ H D I (i D σ H q)⟩
theorem pss_imp {X : Cx} {st : List Stmt} {t t' : TS} (h : PSs X st t) (i : ∀ D s H, t' D s H → t D s H) : PSs X st t' := ⟨fun pins s σ H D I q => h.run pins s σ H D I (i D σ H q)⟩
/-- an expression within a statement -/
theorem tw_run {G : Gm} {W : WX} {w : XW} {F : Fl} {D : Ends} {r : Rho} {s : St} {Hs H : Hp} {P : Late → Rho → Prop} {Q : VK} (S : StOk G r s Hs H) (q : w r P F.ex) (k : Ket G W D F r Hs H)
    (h : ∀ l r' v Hs' H', P l r' → Out G r s Hs H r' Hs' H' → LateOk G r' s Hs' H' v l → NewAt H l → Q v H') : tW G W w s H Q :=
  ⟨r, Hs, P, F.ex, S, q, h, fun x r' cls d Hs' H' p o e => k.ex x r' s cls d Hs' H' p o.outS e⟩
theorem twt_run {G : Gm} {W : WX} {w : TWt} {F : Fl} {D : Ends} {r : Rho} {s : St} {Hs H : Hp} {P : Bool → Rho → Prop} {Q : Bool → Hp → Prop} (S : StOk G r s Hs H) (q : w r P F.ex) (k : Ket G W D F r Hs H)
    (h : ∀ l r' Hs' H', P l r' → Out G r s Hs H r' Hs' H' → Q l H') : tWT G W w s H Q :=
  ⟨r, Hs, P, F.ex, S, q, h, fun x r' cls d Hs' H' p o e => k.ex x r' s cls d Hs' H' p o.outS e⟩
section
variable {G : Gm} {r : Rho} {s : St} {Hs H : Hp}
theorem get_set {α : Type} {l : List α} {i : Nat} {x y : α} (h : (l.set i x)[i]? = some y) : y = x ∧ i < l.length := by
  by_cases hl : i < l.length
  · rw [List.getElem?_set_self hl] at h; cases h; exact ⟨rfl, hl⟩
  · rw [List.getElem?_eq_none (by simpa using hl)] at h; cases h
/-- a name is stored: kept data -/
theorem StOk.setSh (S : StOk G r s Hs H) {i : Nat} {v : V} {d : D} (h : Rep G Hs v d) : StOk G (r.set i (.sh d)) (s.set i (some v)) Hs H := by
  refine ⟨by rw [List.length_set, List.length_set]; exact S.len, S.ex, fun j y q => ?_, fun j k p c c' q1 q2 => ?_⟩
  · by_cases e : i = j
    · subst e
      obtain ⟨rfl, hl⟩ := get_set q
      rw [List.getElem?_set_self (by rw [← S.len]; exact hl)]
      exact .sh h
    · rw [List.getElem?_set_ne e] at q ⊢; exact S.sl j y q
  · have get : ∀ j c, (r.set i (.sh d))[j]? = some (Sl.own p c) → r[j]? = some (Sl.own p c) := fun j c q => by
      by_cases e : i = j
      · subst e; obtain ⟨z, _⟩ := get_set q; cases z
      · rw [List.getElem?_set_ne e] at q; exact q
    exact S.nd j k p c c' (get j c q1) (get k c' q2)
/-- .. its own object -/
theorem StOk.setOwn (S : StOk G r s Hs H) {i : Nat} {p : Addr} {c : Cell} (h1 : Hs p = none) (h2 : CellAt G Hs H p c) (n : ¬ Own r p) : StOk G (r.set i (.own p c)) (s.set i (some (.ref p))) Hs H := by
  refine ⟨by rw [List.length_set, List.length_set]; exact S.len, S.ex, fun j y q => ?_, fun j k p' c' c'' q1 q2 => ?_⟩
  · by_cases e : i = j
    · subst e
      obtain ⟨rfl, hl⟩ := get_set q
      rw [List.getElem?_set_self (by rw [← S.len]; exact hl)]
      exact .own h1 h2
    · rw [List.getElem?_set_ne e] at q ⊢; exact S.sl j y q
  · by_cases ej : i = j
    · subst ej
      by_cases ek : i = k
      · exact ek
      · obtain ⟨z, _⟩ := get_set q1
        cases z
        rw [List.getElem?_set_ne ek] at q2
        exact (n ⟨k, _, q2⟩).elim
    · rw [List.getElem?_set_ne ej] at q1
      by_cases ek : i = k
      · subst ek
        obtain ⟨z, _⟩ := get_set q2
        cases z
        exact (n ⟨j, _, q1⟩).elim
      · rw [List.getElem?_set_ne ek] at q2
        exact S.nd j k p' c' c'' q1 q2
theorem Go.sub' {O O1 O2 : Addr → Prop} {Hs1 H1 : Hp} (a : Go O O1 Hs H Hs1 H1) (h : ∀ x, O2 x → O1 x ∨ H x = none) : Go O O2 Hs H Hs1 H1 :=
  ⟨a.ss, a.kp, a.fr, fun x q => (h x q).elim (a.ow x) .inr, a.th⟩
end
@[simp] def put (r : Rho) (i : Nat) (l : Late) (k : Rho → Prop) : Prop := match l with
  | .nw p c => k (r.set i (.own p c))
  | l => withF r l fun d r' => k (r'.set i (.sh d))
theorem put_ok {G : Gm} {r r1 : Rho} {s : St} {Hs H Hs1 H1 : Hp} {v : V} {l : Late} {i : Nat} {k : Rho → Prop} (o : Out G r s Hs H r1 Hs1 H1) (lo : LateOk G r1 s Hs1 H1 v l) (n : NewAt H l) (q : put r1 i l k) :
    ∃ r' Hs', k r' ∧ OutS G r Hs H r' (s.set i (some v)) Hs' H1 := by
  cases l with
  | nw p c =>
    cases lo with
    | nw h1 h2 h3 =>
      exact ⟨_, Hs1, q, o.S.setOwn h1 h2 h3, o.g.sub' fun x h => (own_putOwn h).elim (fun e => by subst e; exact .inr (n _ _ rfl)) .inl⟩
  | st d =>
    have q : withF r1 (.st d) fun d r' => k (r'.set i (.sh d)) := q
    obtain ⟨d', r', e, q⟩ := withF_iff q
    obtain ⟨Hs', S', rp, g, _⟩ := lo.frz o.S o.g n e
    exact ⟨_, Hs', q, S'.setSh rp, g.sub fun x => Own.set (by intro p c q; cases q)⟩
  | sl j =>
    have q : withF r1 (.sl j) fun d r' => k (r'.set i (.sh d)) := q
    obtain ⟨d', r', e, q⟩ := withF_iff q
    obtain ⟨Hs', S', rp, g, _⟩ := lo.frz o.S o.g n e
    exact ⟨_, Hs', q, S'.setSh rp, g.sub fun x => Own.set (by intro p c q; cases q)⟩
section
variable {X : Cx} {W : WX} {e c : Expr} {w : XW} {tw : TWt} {pos pos' : Pos} {st : Stmt} {rest sa sb : List Stmt} {ws wt wa wb : WS}
@[simp] def wNext : WS := fun r F => F.nx r
@[simp] def wSeq (t u : WS) : WS := fun r F => t r { F with nx := fun r' => u r' F }
theorem ss_nil : SSs X W [] wNext := by
  refine pss_imp pss_nil fun D s H q => ?_
  obtain ⟨r, Hs, F, S, w, k⟩ := q
  exact k.nx _ _ _ _ w (OutS.refl S)
theorem ss_cons (h1 : SS X W st wt) (h2 : SSs X W rest ws) : SSs X W (st :: rest) (wSeq wt ws) := by
  refine pss_imp (pss_cons h1 h2) fun D s H q => ?_
  obtain ⟨r, Hs, F, S, w, k⟩ := q
  exact ⟨r, Hs, _, S, w, fun r' s' Hs' H' h o => ⟨r', Hs', F, o.S, h, k.mono o⟩, k.rt, k.bk, k.ct, k.ex⟩
theorem ss_one (h1 : SS X W st wt) : SSs X W [st] wt := pss_imp (pss_one h1) fun D s H q => q
@[simp] def wBrk : WS := fun r F => F.bk r
@[simp] def wCnt : WS := fun r F => F.ct r
theorem ss_pass : SS X W (.Pass pos) wNext := by
  refine ps_imp ps_pass fun D s H q => ?_
  obtain ⟨r, Hs, F, S, w, k⟩ := q
  exact k.nx _ _ _ _ w (OutS.refl S)
theorem ss_break : SS X W (.Break pos) wBrk := by
  refine ps_imp ps_break fun D s H q => ?_
  obtain ⟨r, Hs, F, S, w, k⟩ := q
  exact k.bk _ _ _ _ w (OutS.refl S)
theorem ss_cont : SS X W (.Continue pos) wCnt := by
  refine ps_imp ps_continue fun D s H q => ?_
  obtain ⟨r, Hs, F, S, w, k⟩ := q
  exact k.ct _ _ _ _ w (OutS.refl S)
@[simp] def wAsg (i : Nat) (w : XW) : WS := fun r F => w r (fun l r1 => put r1 i l F.nx) F.ex
theorem ss_asg {i : Nat} {x : Str} (hN : X.N.Nodup) (he : SE X W e w) (hi : X.N[i]? = some x := by rfl) (hx : Loc X.env.scope x := by first | exact Or.inl rfl | exact Or.inr rfl) (hf : X.fn x = true ∨ X.env.scope.names.lookup x = some .local := by first | exact .inl rfl | exact .inr rfl)
    (hs : swapsWithSole [.Name x pos'] e pos.line X.env = pure false := by rfl) (hw : swappedStores [.Name x pos'] e X.env = pure none := by rfl)
    (h1 : (assignEach [.Name x pos'] X.env).map (·.2) = [assign (.Name x pos') X.env] := by rfl) : SS X W (.Assign [.Name x pos'] e pos) (wAsg i w) := by
  refine ps_imp (ps_asg he (pg_name hN hi hx hf) hs hw h1) fun D s H q => ?_
  obtain ⟨r, Hs, F, S, w, k⟩ := q
  refine tw_run S w k fun l r1 v Hs1 H1 p o lo n => ?_
  obtain ⟨r', Hs', q, o'⟩ := put_ok o lo n p
  exact k.nx _ _ _ _ q o'
@[simp] def wDrop (w : XW) : WS := fun r F => w r (fun _ r1 => F.nx r1) F.ex
theorem ss_expr (he : SE X W e w) (hs : swapsWith e none pos.line X.env = pure false := by rfl) : SS X W (.Expr e pos) (wDrop w) := by
  refine ps_imp (ps_expr he hs) fun D s H q => ?_
  obtain ⟨r, Hs, F, S, w, k⟩ := q
  exact tw_run S w k fun l r1 v Hs1 H1 p o lo n => k.nx _ _ _ _ p o.outS
/-- handed back: a slot's own object is given away -/
@[simp] def withR (r : Rho) (l : Late) (k : LR → Rho → Prop) : Prop := match l with
  | .st d => k (.val d) r
  | .nw _ c => k (.new c) r
  | .sl i => match r[i]? with
    | some (Sl.sh d) => k (.val d) r
    | some (Sl.own _ c) => k (.new c) (r.set i .no)
    | _ => False
@[simp] def wRet (w : XW) : WS := fun r F => w r (fun l r1 => withR r1 l F.rt) F.ex
theorem ss_ret (he : SE X W e w) : SS X W (.Return (some e) pos) (wRet w) := by
  refine ps_imp (ps_ret he) fun D s H q => ?_
  obtain ⟨r, Hs, F, S, w, k⟩ := q
  refine tw_run S w k fun l r1 v Hs1 H1 p o lo n => ?_
  cases lo with
  | st rp => exact k.rt _ _ _ _ _ _ p o.outS (.val rp)
  | nw h1 h2 h3 => exact k.rt _ _ _ _ _ _ p o.outS (.new h1 h2 h3 (.inr (n _ _ rfl)))
  | sl hv =>
    rename_i i
    simp only [withR] at p
    split at p
    · rename_i d q
      have z := o.S.sl i _ q
      rw [hv] at z
      cases z with
      | sh rp => exact k.rt _ _ _ _ _ _ p o.outS (.val rp)
    · rename_i a c q
      have z := o.S.sl i _ q
      rw [hv] at z
      cases z with
      | own z1 z2 =>
        have hsub : ∀ x, Own (r1.set i .no) x → Own r1 x := fun a => Own.set (by intro p c q; cases q)
        exact k.rt _ _ _ _ _ _ p ⟨o.S.put (x := .no) (by intro p c q; cases q) .no, o.g.sub hsub⟩ (.new z1 z2 (own_no o.S.nd q) (o.g.ow _ ⟨i, c, q⟩))
    · exact p.elim
@[simp] def wRetN : WS := fun r F => F.rt (.val .non) r
theorem ss_retN : SS X W (.Return none pos) wRetN := by
  refine ps_imp ps_retN fun D s H q => ?_
  obtain ⟨r, Hs, F, S, w, k⟩ := q
  exact k.rt _ _ _ _ _ _ w (OutS.refl S) (.val .non)
@[simp] def wIfS (t : TWt) (a b : WS) : WS := fun r F => t r (fun k r1 => if k = true then a r1 F else b r1 F) F.ex
theorem ss_if (hc : ST X W c tw) (ha : SSs X W sa wa) (hb : SSs X W sb wb) : SS X W (.If c sa sb pos) (wIfS tw wa wb) := by
  refine ps_imp (ps_if hc ha hb) fun D s H q => ?_
  obtain ⟨r, Hs, F, S, w, k⟩ := q
  refine twt_run S w k fun b r1 Hs1 H1 p o => ?_
  cases b with
  | true =>
    rw [if_pos rfl] at p
    exact iteT ⟨r1, Hs1, F, o.S, p, k.mono o.outS⟩
  | false =>
    rw [if_neg (by simp)] at p
    exact iteF ⟨r1, Hs1, F, o.S, p, k.mono o.outS⟩
/-- while: by an invariant with a measure -/
@[simp] def wWhile (t : TWt) (b : WS) : WS := fun r F => ∃ I : Nat → Rho → Prop, (∃ m, I m r) ∧ ∀ m r, I m r → t r (fun k r1 => if k = true then b r1 { F with nx := fun r2 => ∃ m', m' < m ∧ I m' r2, ct := fun r2 => ∃ m', m' < m ∧ I m' r2, bk := F.nx } else F.nx r1) F.ex
theorem ss_while (hp : PassesOwn (model X.prog X.w) X.A X.env X.xe) (hc : ST X W c tw) (hb : SSs X W sb wb) : SS X W (.While c sb [] pos) (wWhile tw wb) := by
  refine ps_imp (ps_while hp hc hb) fun D s H q => ?_
  obtain ⟨r, Hs, F, S, ⟨I, ⟨m0, i0⟩, turn⟩, k⟩ := q
  refine ⟨fun m s' H' => ∃ r' Hs', I m r' ∧ OutS (gm X) r Hs H r' s' Hs' H', ⟨m0, r, Hs, i0, OutS.refl S⟩, fun m s' H' ⟨r', Hs', im, o⟩ => ?_⟩
  have k' := k.mono o
  refine twt_run o.S (turn m r' im) k' fun b r1 Hs1 H1 p o1 => ?_
  cases b with
  | true =>
    rw [if_pos rfl] at p
    refine iteT ⟨fun s2 H2 => ∃ r2 Hs2, (∃ m', m' < m ∧ I m' r2) ∧ OutS (gm X) r Hs H r2 s2 Hs2 H2, fun s2 H2 ⟨r2, Hs2, ⟨m', hm, i'⟩, o2⟩ => ⟨m', hm, r2, Hs2, i', o2⟩, r1, Hs1, _, o1.S, p, ?_⟩
    have o01 := o.trans o1.outS
    exact ⟨fun r2 s2 Hs2 H2 h o2 => ⟨r2, Hs2, h, o01.trans o2⟩, (k.mono o01).rt, (k.mono o01).nx, fun r2 s2 Hs2 H2 h o2 => ⟨r2, Hs2, h, o01.trans o2⟩, (k.mono o01).ex⟩
  | false =>
    rw [if_neg (by simp)] at p
    exact iteF (k'.nx _ _ _ _ p o1.outS)
/-- a, b = e1, e2 -/
@[simp] def wPar (i j : Nat) (t : TAw) : WS := fun r F => t r (fun ls r1 => match ls with
  | [la, .st d] => put r1 i la fun r2 => F.nx (r2.set j (.sh d))
  | [la, .nw q c] => put r1 i la fun r2 => F.nx (r2.set j (.own q c))
  | _ => False) F.ex
theorem put_ok2 {G : Gm} {r r1 : Rho} {s : St} {Hs H Hs1 H1 : Hp} {v v2 : V} {l : Late} {i j : Nat} {x : Sl} {k : Rho → Prop} (o : Out G r s Hs H r1 Hs1 H1) (lo : LateOk G r1 s Hs1 H1 v l) (n : NewAt H l) (q : put r1 i l fun r2 => k (r2.set j x))
    (h2 : (∃ d, x = .sh d ∧ Rep G Hs1 v2 d) ∨ ∃ p c, x = .own p c ∧ v2 = .ref p ∧ Hs1 p = none ∧ CellAt G Hs1 H1 p c ∧ ¬ Own r1 p ∧ H p = none ∧ ∀ c', l ≠ .nw p c') :
    ∃ r' Hs', k r' ∧ OutS G r Hs H r' ((s.set i (some v)).set j (some v2)) Hs' H1 := by
  have fin : ∀ (r2 : Rho) (Hs2 : Hp), k (r2.set j x) → StOk G r2 (s.set i (some v)) Hs2 H1 → Go (Own r) (Own r2) Hs H Hs2 H1 → Ex Hs1 Hs2 →
      (∀ p c, x = .own p c → Hs2 p = none ∧ ¬ Own r2 p) → ∃ r' Hs', k r' ∧ OutS G r Hs H r' ((s.set i (some v)).set j (some v2)) Hs' H1 := by
    intro r2 Hs2 kq S2 g2 e2 no
    rcases h2 with ⟨d, rfl, rp⟩ | ⟨p, c, rfl, rfl, h1, h2, h3, h4, _⟩
    · exact ⟨_, Hs2, kq, S2.setSh (rp.mono e2), g2.sub fun x => Own.set (by intro p c q; cases q)⟩
    · obtain ⟨z1, z2⟩ := no p c rfl
      exact ⟨_, Hs2, kq, S2.setOwn z1 (h2.go e2 fun _ h => h) z2, g2.sub' fun x h => (own_putOwn h).elim (fun e => by subst e; exact .inr h4) .inl⟩
  cases l with
  | nw p c =>
    cases lo with
    | nw h1 h2' h3 =>
      refine fin _ Hs1 q (o.S.setOwn h1 h2' h3) (o.g.sub' fun x h => (own_putOwn h).elim (fun e => by subst e; exact .inr (n _ _ rfl)) .inl) (Ex.refl _) fun p' c' e => ?_
      subst e
      rcases h2 with ⟨d, e, _⟩ | ⟨p2, c2, e, rfl, z1, z2, z3, z4, z5⟩
      · cases e
      · cases e
        exact ⟨z1, fun h => (own_putOwn h).elim (fun e => by subst e; exact z5 _ rfl) z3⟩
  | st d =>
    have q : withF r1 (.st d) fun d r' => k ((r'.set i (.sh d)).set j x) := q
    obtain ⟨d', r', e, q⟩ := withF_iff q
    simp only [frz, Option.some.injEq, Prod.mk.injEq] at e
    obtain ⟨rfl, rfl⟩ := e
    cases lo with
    | st rp =>
      refine fin _ Hs1 q (o.S.setSh rp) (o.g.sub fun x => Own.set (by intro p c q; cases q)) (Ex.refl _) fun p' c' e => ?_
      subst e
      rcases h2 with ⟨d, e, _⟩ | ⟨p2, c2, e, rfl, z1, z2, z3, z4, z5⟩
      · cases e
      · cases e
        exact ⟨z1, fun h => z3 (Own.set (by intro p c q; cases q) h)⟩
  | sl m =>
    have q : withF r1 (.sl m) fun d r' => k ((r'.set i (.sh d)).set j x) := q
    obtain ⟨d', r', e, q⟩ := withF_iff q
    obtain ⟨Hs', S', rp, g, kp⟩ := lo.frz o.S o.g n e
    refine fin _ Hs' q (S'.setSh rp) (g.sub fun x => Own.set (by intro p c q; cases q)) kp.ss fun p' c' e => ?_
    subst e
    rcases h2 with ⟨d, e, _⟩ | ⟨p2, c2, e, rfl, z1, z2, z3, z4, z5⟩
    · cases e
    · cases e
      refine ⟨?_, fun h => z3 (kp.1 _ (Own.set (by intro p c q; cases q) h))⟩
      rcases kp.2 with rfl | ⟨p3, o3, rfl, _, _, ow⟩
      · exact z1
      · rw [upd_ne]
        · exact z1
        · rintro rfl
          rcases ow with ow | ⟨c, e⟩
          · exact z3 ow
          · cases e
theorem ss_par {i j : Nat} {x y : Str} {a b : Expr} {ta : TAw} {px py pt : Pos} {kt k2 pt2} (hc : X.calm = true) (hN : X.N.Nodup) (ha : SA X W [a, b] ta) (hi : X.N[i]? = some x := by rfl) (hj : X.N[j]? = some y := by rfl) (hij : i ≠ j := by decide)
    (hx : X.env.scope.names.lookup x = some .local := by rfl) (hy : X.env.scope.names.lookup y = some .local := by rfl)
    (hw : swappedStores [.Tuple [.Name x px, .Name y py] kt pt] (.Tuple [a, b] k2 pt2) X.env = pure (some [x, y]) := by rfl)
    (hs : swapsWithSole [.Tuple [.Name x px, .Name y py] kt pt] (.Tuple [a, b] k2 pt2) pos.line X.env = pure false := by rfl) :
    SS X W (.Assign [.Tuple [.Name x px, .Name y py] kt pt] (.Tuple [a, b] k2 pt2) pos) (wPar i j ta) := by
  refine ps_imp (ps_par hc hN hi hj hij hx hy ha hw hs) fun D s H q => ?_
  obtain ⟨r, Hs, F, S, w, k⟩ := q
  refine ⟨r, Hs, _, F.ex, S, w, fun ls r1 vs Hs1 H1 p o lo n => ?_, fun x r' cls d Hs' H' p o e => k.ex x r' s cls d Hs' H' p o.outS e⟩
  split at p
  · cases lo with
    | cons l1 n1 lo => cases lo with
      | cons l2 n2 lo => cases lo with
        | nil =>
          rename_i v1 v2
          cases l2 with
          | st rp =>
            obtain ⟨r', Hs', q, o'⟩ := put_ok2 (v2 := v2) o l1 (n _ (List.mem_cons_self ..)) p (.inl ⟨_, rfl, rp⟩)
            exact ⟨_, _, rfl, k.nx _ _ _ _ q o'⟩
  · cases lo with
    | cons l1 n1 lo => cases lo with
      | cons l2 n2 lo => cases lo with
        | nil =>
          cases l2 with
          | nw z1 z2 z3 =>
            obtain ⟨r', Hs', q, o'⟩ := put_ok2 o l1 (n _ (List.mem_cons_self ..)) p (.inr ⟨_, _, rfl, rfl, z1, z2, z3, n _ (List.mem_cons_of_mem _ (List.mem_cons_self ..)) _ _ rfl, fun c' e => n1 _ _ _ e (List.mem_cons_self ..)⟩)
            exact ⟨_, _, rfl, k.nx _ _ _ _ q o'⟩
  · exact p.elim
end

/-! ### the body of a def -/
/-- the lent objects handed back -/
def withBk : List Sl → Rho → (List Cell → Prop) → Prop
  | [], _, k => k []
  | .own p _ :: as, .own q c' :: r, k => p = q ∧ withBk as r fun cs => k (c' :: cs)
  | .sh _ :: as, _ :: r, k => withBk as r k
  | _, _, _ => False
theorem withBk_iff {G : Gm} {Hs H Hs0 H0 : Hp} : ∀ {as : List Sl} {r : Rho} {s : St} {vs : List V} {k : List Cell → Prop}, (∀ (i : Nat) (x : Sl), r[i]? = some x → SlOk G Hs H x s[i]?) → ArgsOk G Hs0 H0 vs as → withBk as r k →
    ∃ cs, k cs ∧ BackOk G Hs H as cs ∧ ∀ a, Own as a → Own r a
  | [], _, _, _, _, _, .nil, h => ⟨[], h, .nil, fun a h => (own_nil h).elim⟩
  | .own p c :: as, [], _, _, _, _, _, h => h.elim
  | .own p c :: as, .no :: r, _, _, _, _, _, h => h.elim
  | .own p c :: as, .sh _ :: r, _, _, _, _, _, h => h.elim
  | .own p c :: as, .own q c' :: r, s, _, k, S, .own _ _ A, h => by
    obtain ⟨rfl, h⟩ : p = q ∧ withBk as r fun cs => k (c' :: cs) := h
    obtain ⟨cs, h1, h2, h3⟩ := withBk_iff (s := s.drop 1) (fun i x h => by
      have := S (i + 1) x (by simpa using h)
      rw [List.getElem?_drop, Nat.add_comm]; exact this) A h
    have z := S 0 _ rfl
    revert z
    generalize s[0]? = w
    intro z
    cases z with
    | own z1 z2 =>
      refine ⟨_, h1, .own z1 z2 h2, fun a h => ?_⟩
      rcases own_cons.mp h with ⟨c2, e2⟩ | h
      · cases e2; exact own_cons.mpr (.inl ⟨_, rfl⟩)
      · exact own_cons.mpr (.inr (h3 a h))
  | .sh d :: as, [], _, _, _, _, _, h => h.elim
  | .sh d :: as, x :: r, s, _, k, S, .sh _ A, h => by
    have h : withBk as r k := by cases x <;> exact h
    obtain ⟨cs, h1, h2, h3⟩ := withBk_iff (s := s.drop 1) (fun i x h => by
      have := S (i + 1) x (by simpa using h)
      rw [List.getElem?_drop, Nat.add_comm]; exact this) A h
    refine ⟨_, h1, .sh h2, fun a h => ?_⟩
    rcases own_cons.mp h with ⟨c2, e2⟩ | h
    · cases e2
    · exact own_cons.mpr (.inr (h3 a h))
/-- what a body's word is to give: the def's word at its ends -/
@[simp] def bodyFl (as : List Sl) (P : LR → List Cell → Prop) (PE : Exc → List Cell → Prop) : Fl :=
  ⟨fun r => withBk as r fun cs => P (.val .non) cs, fun d r => withBk as r fun cs => P d cs, fun _ => False, fun _ => False, fun x r => withBk as r fun cs => PE x cs⟩
def rho0 (N : Nat) (as : List Sl) : Rho := as ++ List.replicate (N - as.length) .no
theorem own_rho0 {N : Nat} {as : List Sl} {a : Addr} : Own (rho0 N as) a ↔ Own as a := by
  constructor
  · rintro ⟨i, c, h⟩
    unfold rho0 at h
    by_cases hi : i < as.length
    · rw [List.getElem?_append_left hi] at h; exact ⟨i, c, h⟩
    · rw [List.getElem?_append_right (by omega)] at h
      rw [List.getElem?_replicate] at h
      split at h <;> cases h
  · rintro ⟨i, c, h⟩
    refine ⟨i, c, ?_⟩
    unfold rho0
    rw [List.getElem?_append_left (List.getElem?_eq_some_iff.mp h).1]; exact h
theorem argsOk_get {G : Gm} {Hs H : Hp} : ∀ {vs : List V} {as : List Sl} {i : Nat} {x : Sl}, ArgsOk G Hs H vs as → as[i]? = some x → SlOk G Hs H x ((vs.map some)[i]?)
  | _, _, _, _, .nil, h => by simp at h
  | _, _, 0, _, .sh a b, h => by simp at h; subst h; exact .sh a
  | _, _, 0, _, .own a b c, h => by simp at h; subst h; exact .own a b
  | _, _, i + 1, x, .sh a b, h => by
    have := argsOk_get (i := i) (x := x) b (by simpa using h)
    simpa using this
  | _, _, i + 1, x, .own a b c, h => by
    have := argsOk_get (i := i) (x := x) c (by simpa using h)
    simpa using this
theorem start_ok {G : Gm} {Hs H : Hp} {vs : List V} {as : List Sl} {N : List Str} (A : ArgsOk G Hs H vs as) (e : Ex Hs H) (nd : NdOwn as) : StOk G (rho0 N.length as) (L2.start N vs) Hs H := by
  refine ⟨?_, e, fun i x q => ?_, fun i j p c c' h1 h2 => ?_⟩
  · unfold rho0 L2.start
    rw [List.length_append, List.length_append, List.length_map, List.length_replicate, List.length_replicate, A.length]
  · unfold rho0 at q
    unfold L2.start
    by_cases hi : i < as.length
    · rw [List.getElem?_append_left hi] at q
      rw [List.getElem?_append_left (by rw [List.length_map, A.length]; exact hi)]
      exact argsOk_get A q
    · rw [List.getElem?_append_right (by omega), List.getElem?_replicate] at q
      split at q
      · cases q; exact .no
      · cases q
  · have get : ∀ i c, (rho0 N.length as)[i]? = some (Sl.own p c) → as[i]? = some (Sl.own p c) := fun i c h => by
      unfold rho0 at h
      by_cases hi : i < as.length
      · rw [List.getElem?_append_left hi] at h; exact h
      · rw [List.getElem?_append_right (by omega), List.getElem?_replicate] at h
        split at h <;> cases h
    exact nd i j p c c' (get i c h1) (get j c' h2)
section
variable {P : Program} {w : World} {K : PySem.W.Frag} {mg : Str → Option Value} {base : Heap}
/-- THE RULE for a def: its body has a word, and the word gives the def's promise -/
theorem body_ok {t : TS} {qual : Str} {sc : Scope} {body : List Stmt} {fa : Addr} {N : List Str} {f : FSpec} {cdv : Value} {A : Around} {outer : List Env} {s : Shared} {H0 : Hp} {E0 : XK} {wb : WS}
    (hw : ∀ (as : List Sl) (Q : LR → List Cell → Prop) (QE : Exc → List Cell → Prop), f as Q QE → wb (rho0 N.length as) (bodyFl as Q QE)) {vs : List V} {H : Hp} {Q : VK} {E : XK} (h : spF ⟨K, mg⟩ f vs H Q E) :
    tWS ⟨K, mg⟩ (fun cls d _ H => E cls d H) wb { nx := fun _ H' => Q .non H', rt := Q } (L2.start N vs) H := by
  obtain ⟨as, Hs, P', PE, A', ex, nd, q, kq, ke⟩ := h
  have ow : ∀ {r' : Rho} {s' : St} {Hs' H' : Hp}, OutS ⟨K, mg⟩ (rho0 N.length as) Hs H r' s' Hs' H' → Go (Own as) (Own as) Hs H Hs' H' := fun o =>
    ⟨o.g.ss, fun a u h n => o.g.kp a u h fun z => n (own_rho0.mp z), fun a u h h2 n => o.g.fr a u h h2 fun z => n (own_rho0.mp z), fun a h => .inl h, o.g.th⟩
  refine ⟨rho0 N.length as, Hs, bodyFl as P' PE, start_ok A' ex nd, hw as P' PE q, ?_, ?_, ?_, ?_, ?_⟩
  · intro r' s' Hs' H' h o
    obtain ⟨cs, h, bk, _⟩ := withBk_iff o.S.sl A' h
    exact kq _ _ _ _ _ h o.S.ex (ow o) (.val .non) bk
  · intro d r' s' v Hs' H' h o rp
    obtain ⟨cs, h, bk, bo⟩ := withBk_iff o.S.sl A' h
    refine kq _ _ _ _ _ h o.S.ex (ow o) ?_ bk
    cases rp with
    | val rp => exact .val rp
    | new z1 z2 z3 z4 =>
      refine .new z1 z2 ?_
      rcases z4 with z4 | z4
      · exact absurd (bo _ (own_rho0.mp z4)) z3
      · exact z4
  · intro _ _ _ _ h _; exact h.elim
  · intro _ _ _ _ h _; exact h.elim
  · intro x r' s' cls d Hs' H' h o e
    obtain ⟨cs, h, bk, _⟩ := withBk_iff o.S.sl A' h
    exact ke _ _ _ _ _ _ h o.S.ex (ow o) e bk
theorem def_ok {x qual : Str} {st : Stmt} {fa : Addr} {fd : FuncData} {N ps : List Str} {k : Nat} {f : FSpec} (F : Fun K x qual st fa fd) (S : FnScope N ps (defScope st)) (wb : WS) (hl : ∀ as Q QE, f as Q QE → as.length = ps.length)
    (hbody : ∀ (cdv : Value) (A : Around) (outer : List Env) (s : Shared) (H : Hp) (E : XK), Room k (A.deeper (envOfC qual (defScope st) s.heap.objs.size fa cdv)) →
      SSs (cxOf (L2.CX P w) P w K mg base N qual (defScope st) fa cdv A outer s H E) (fun cls d _ H => E cls d H) (defBody st) wb)
    (hw : ∀ (as : List Sl) (Q : LR → List Cell → Prop) (QE : Exc → List Cell → Prop), f as Q QE → wb (rho0 N.length as) (bodyFl as Q QE)) : FnOk P w K mg base (L2.CX P w) (k + 1) fa fd ps (spF ⟨K, mg⟩ f) :=
  F.okX S (fun vs H Q E h => spF_len hl h) fun cdv A outer s H vs Q E hr h => ⟨_, hbody cdv A outer s H E hr, body_ok (K := K) (mg := mg) (qual := qual) (sc := defScope st) (body := defBody st) (fa := fa) (cdv := cdv) (A := A) (outer := outer) (s := s) (H0 := H) (E0 := E) (t := fun _ _ _ => True) hw h⟩
theorem defR {fa : Addr} {fd : FuncData} {ps : List Str} {k : Nat} {x : Str} {f : FSpec} (F : FnOk P w K mg base (L2.CX P w) k fa fd ps (spF ⟨K, mg⟩ f)) (b : Binds K fd ps []) (hm : mg x = some (.ref fa)) (kp : PySem.W.keepIn K (.ref fa) = true) : DefOk P w K mg base k x f :=
  ⟨fa, (F.raw b .nil).imp fun vs H Q E h => by rw [List.append_nil]; exact h, hm, kp⟩
end
end Z

/-! Z7: targets, what is walked, for, comprehensions. -/
namespace Z
open PySem L2
open PyProof.Rows (envOfC)
open Evl (Ex ex_rd ex_l ex_t)

/-! ### targets -/
abbrev WG := D → Rho → (Rho → Prop) → Prop
def Within (is : List Nat) (s s' : St) : Prop := ∀ vs : List Nat, (∀ i ∈ is, i ∈ vs) → wipe s' vs = wipe s vs
theorem wipe_get (s : St) (j : Nat) : ∀ vs : List Nat, (wipe s vs)[j]? = if j ∈ vs ∧ j < s.length then some none else s[j]?
  | [] => by simp [wipe]
  | v :: vs => by
    unfold wipe
    by_cases e : v = j
    · subst e
      by_cases hl : v < s.length
      · rw [List.getElem?_set_self (by rw [wipe_length]; exact hl), if_pos ⟨List.mem_cons_self .., hl⟩]
      · rw [List.getElem?_eq_none (by rw [List.length_set, wipe_length]; omega), if_neg (fun h => hl h.2), List.getElem?_eq_none (by omega)]
    · rw [List.getElem?_set_ne e, wipe_get s j vs]
      by_cases h : j ∈ vs ∧ j < s.length
      · rw [if_pos h, if_pos ⟨List.mem_cons_of_mem _ h.1, h.2⟩]
      · rw [if_neg h, if_neg]
        intro z
        refine h ⟨?_, z.2⟩
        rcases List.mem_cons.mp z.1 with q | q
        · exact absurd q.symm e
        · exact q
theorem within_set {s : St} {i : Nat} {x : Option V} : Within [i] s (s.set i x) := fun vs h => by
  have hi : i ∈ vs := h i (List.mem_cons_self ..)
  refine List.ext_getElem? fun j => ?_
  rw [wipe_get, wipe_get, List.length_set]
  by_cases hj : j ∈ vs ∧ j < s.length
  · rw [if_pos hj, if_pos hj]
  · rw [if_neg hj, if_neg hj]
    by_cases e : i = j
    · subst e
      have : ¬ i < s.length := fun z => hj ⟨hi, z⟩
      rw [List.getElem?_eq_none (by rw [List.length_set]; omega), List.getElem?_eq_none (by omega)]
    · rw [List.getElem?_set_ne e]
def tWG (G : Gm) (is : List Nat) (g : WG) : TG := fun v s H Q => ∃ (r : Rho) (Hs : Hp) (d : D) (P : Rho → Prop), StOk G r s Hs H ∧ Rep G Hs v d ∧ g d r P ∧ ∀ r' s', P r' → StOk G r' s' Hs H → (∀ a, Own r' a → Own r a) → Within is s s' → Q s' H
def tWGs (G : Gm) (is : List Nat) (g : List D → Rho → (Rho → Prop) → Prop) : TGs := fun vs s H Q => ∃ (r : Rho) (Hs : Hp) (ds : List D) (P : Rho → Prop), StOk G r s Hs H ∧ Reps G Hs vs ds ∧ g ds r P ∧ ∀ r' s', P r' → StOk G r' s' Hs H → (∀ a, Own r' a → Own r a) → Within is s s' → Q s' H
def SG (X : Cx) (tg : Expr) (is : List Nat) (g : WG) : Prop := PG X tg (tWG (gm X) is g)
def SGs (X : Cx) (tg : List Expr) (is : List Nat) (g : List D → Rho → (Rho → Prop) → Prop) : Prop := PGs X tg (tWGs (gm X) is g)
section
variable {X : Cx} {W : WX} {pos : Pos}
theorem pg_imp {e : Expr} {t t' : TG} (h : PG X e t) (i : ∀ v s H Q, t' v s H Q → t v s H Q) : PG X e t' := ⟨fun pins s σ H v u Q I r q => h.run pins s σ H v u Q I r (i v σ H Q q)⟩
theorem pgs_imp {e : List Expr} {t t' : TGs} (h : PGs X e t) (i : ∀ v s H Q, t' v s H Q → t v s H Q) : PGs X e t' := ⟨fun pins s σ H v u Q I r q => h.run pins s σ H v u Q I r (i v σ H Q q)⟩
@[simp] def gN (i : Nat) : WG := fun d r P => P (r.set i (.sh d))
theorem sg_name {i : Nat} {x : Str} (hN : X.N.Nodup) (hi : X.N[i]? = some x := by rfl) (hx : Loc X.env.scope x := by first | exact Or.inl rfl | exact Or.inr rfl) (hf : X.fn x = true ∨ X.env.scope.names.lookup x = some .local := by first | exact .inl rfl | exact .inr rfl) : SG X (.Name x pos) [i] (gN i) := by
  refine pg_imp (pg_name hN hi hx hf) fun v s H Q q => ?_
  obtain ⟨r, Hs, d, P, S, rp, q, k⟩ := q
  exact k _ _ q (S.setSh rp) (fun a => Own.set (by intro p c q; cases q)) within_set
@[simp] def gsNil : List D → Rho → (Rho → Prop) → Prop := fun ds r P => match ds with
  | [] => P r
  | _ => False
@[simp] def gsCons (g : WG) (gs : List D → Rho → (Rho → Prop) → Prop) : List D → Rho → (Rho → Prop) → Prop := fun ds r P => match ds with
  | d :: ds => g d r fun r1 => gs ds r1 P
  | _ => False
theorem sgs_nil : SGs X [] [] gsNil := by
  refine pgs_imp pgs_nil fun v s H Q q => ?_
  obtain ⟨r, Hs, d, P, S, rp, q, k⟩ := q
  cases rp with
  | nil => exact ⟨rfl, k _ _ q S (fun _ h => h) (fun _ _ => rfl)⟩
  | cons _ _ => exact q.elim
theorem sgs_cons {e : Expr} {es : List Expr} {is js : List Nat} {g : WG} {gs : List D → Rho → (Rho → Prop) → Prop} (h1 : SG X e is g) (h2 : SGs X es js gs) (hs : (assignEach (e :: es) X.env).map (·.2) = assign e X.env :: (assignEach es X.env).map (·.2) := by rfl) : SGs X (e :: es) (is ++ js) (gsCons g gs) := by
  refine pgs_imp (pgs_cons h1 h2 hs) fun v s H Q q => ?_
  obtain ⟨r, Hs, d, P, S, rp, q, k⟩ := q
  cases rp with
  | nil => exact q.elim
  | cons a b => exact ⟨_, _, rfl, r, Hs, _, _, S, a, q, fun r1 s1 p S1 o1 w1 => ⟨r1, Hs, _, P, S1, b, p, fun r2 s2 p2 S2 o2 w2 => k _ _ p2 S2 (fun a h => o1 a (o2 a h)) fun vs h => (w2 vs fun i hi => h i (List.mem_append_right _ hi)).trans (w1 vs fun i hi => h i (List.mem_append_left _ hi))⟩⟩
@[simp] def gT (gs : List D → Rho → (Rho → Prop) → Prop) : WG := fun d r P => match d with
  | .tup ds => gs ds r P
  | _ => False
def lenGs (n : Nat) (gs : List D → Rho → (Rho → Prop) → Prop) : Prop := ∀ ds r P, gs ds r P → ds.length = n
theorem lenGs_nil : lenGs 0 gsNil := fun ds r P h => by cases ds with | nil => rfl | cons => exact h.elim
/-- every target asks for one state -/
def One (g : WG) : Prop := ∀ d r P, g d r P → ∃ r', P r'
theorem one_gN {i : Nat} : One (gN i) := fun d r P h => ⟨_, h⟩
theorem lenGs_c {n : Nat} {g : WG} {gs : List D → Rho → (Rho → Prop) → Prop} (h : lenGs n gs) (ne : One g) : lenGs (n + 1) (gsCons g gs) := fun ds r P q => by
  cases ds with
  | nil => exact q.elim
  | cons d ds =>
    obtain ⟨r', q'⟩ := ne _ _ _ q
    rw [List.length_cons, h _ _ _ q']
theorem sg_tup {es : List Expr} {k n : Nat} {gs : List D → Rho → (Rho → Prop) → Prop} {is : List Nat} (hc : X.calm = true) (h : SGs X es is gs) (hl : lenGs n gs) (hn : (assignEach es X.env).length = n := by rfl) (hst : (assignEach es X.env).findIdx? (·.1) = none := by rfl) : SG X (.Tuple es k pos) is (gT gs) := by
  refine pg_imp (pg_tup hc h hn hst) fun v s H Q q => ?_
  obtain ⟨r, Hs, d, P, S, rp, q, kk⟩ := q
  cases d <;> simp only [gT] at q
  cases rp with
  | tup h1 h2 => exact ⟨_, _, rfl, ex_t S.ex h1, by rw [h2.length]; exact hl _ _ _ q, r, Hs, _, P, S, h2, q, kk⟩

/-! ### what is walked: the items, and what is to stay -/
abbrev WI := Rho → (List D → (Rho → Prop) → Rho → Prop) → (Exc → Rho → Prop) → Prop
def WalkOk (G : Gm) (J : It) (items : List D) (still : Rho → Prop) (r1 : Rho) (Hs1 H1 : Hp) : Prop := ∃ (GG : Hp → Prop) (Y : Nat → Hp → V → Hp → Prop), Walk J items.length GG Y ∧
  ∀ r' s' Hs' H', still r' → StOk G r' s' Hs' H' → Go (Own r1) (Own r') Hs1 H1 Hs' H' → GG H' ∧ ∀ i x H'' d, items[i]? = some d → Y i H' x H'' → ∃ Hs'', Ret G Hs' H' x (.val d) Hs'' H''
def tWI (G : Gm) (W : WX) (w : WI) : TI := fun s H R => ∃ (r : Rho) (Hs : Hp) (P : List D → (Rho → Prop) → Rho → Prop) (PE : Exc → Rho → Prop), StOk G r s Hs H ∧ w r P PE ∧
  (∀ items still r1 Hs1 H1 J, P items still r1 → Out G r s Hs H r1 Hs1 H1 → WalkOk G J items still r1 Hs1 H1 → R J H1) ∧ EXC G W PE r s Hs H
def SI (X : Cx) (W : WX) (tg e : Expr) (w : WI) : Prop := PI X tg e (tWI (gm X) W w)
theorem pi_imp {tg e : Expr} {t t' : TI} (h : PI X tg e t) (i : ∀ s H R, t' s H R → t s H R) : PI X tg e t' := ⟨fun pins s σ H R I q => h.run pins s σ H R I (i σ H R q)⟩
/-- a list, a tuple or a text -/
def iSeq (K : PySem.W.Frag) (te : TE) : TI := fun σ H R => te σ H fun x H1 => (∃ a, x = .ref a ∧ (∃ xs, SqL K H1 a xs) ∧ R (Itl K a) H1) ∨ (∃ a, x = .ref a ∧ (∃ xs, SqT K H1 a xs) ∧ R (Itt K a) H1) ∨ ∃ z, x = .str z ∧ R (Its z) H1
theorem pi_seq {tg e : Expr} {te : TE} (he : PE X e te) : PI X tg e (iSeq X.K te) := by
  refine ⟨fun pins s σ H R I h => ?_⟩
  refine thn (he.run pins s σ H _ I h) fun v s1 ⟨y, H1, I1, r1, q⟩ => ?_
  rcases q with ⟨a, rfl, ⟨xs, hq⟩, q⟩ | ⟨a, rfl, ⟨xs, hq⟩, q⟩ | ⟨x, rfl, q⟩
  · cases r1
    obtain ⟨its, rv, p, hz⟩ := I1.list hq
    refine wpAny_pyIter_list p.isList ?_
    exact pi_one (tk := s1.toks) I1 _ (turn_list a _) ⟨_, Heap.get?_push_size _ rfl, rfl, rfl⟩ q
  · cases r1
    obtain ⟨its, rv, p, hz⟩ := I1.tuple hq
    refine wpAny_pyIter_tuple (show s1.heap.IsTuple a its.toArray from p) ?_
    exact pi_one (tk := s1.toks) I1 _ (turn_tuple a _) ⟨_, Heap.get?_push_size _ rfl, rfl, rfl⟩ q
  · obtain ⟨t, rfl⟩ := r1
    cases ha : x.cps.all (· < 128)
    · exact wpAny_pyIter_wide ha (pi_one (tk := s1.toks) I1 _ (turn_str _ x t "str_iterator" (.inr rfl)) ⟨_, Heap.get?_push_size _ rfl, rfl, rfl⟩ q)
    · exact wpAny_pyIter_ascii ha (pi_one (tk := s1.toks) I1 _ (turn_str _ x t "str_ascii_iterator" (.inl rfl)) ⟨_, Heap.get?_push_size _ rfl, rfl, rfl⟩ q)
@[simp] def stillOf (r1 : Rho) (l : Late) : Rho → Prop := match l with
  | .sl j => fun r' => r'[j]? = r1[j]?
  | _ => fun _ => True
def strD (z : Str) : List D := z.cps.toList.map fun c => .str ⟨#[c]⟩
@[simp] def itemsD : D → Option (List D)
  | .lst xs => some xs
  | .rol xs => some xs
  | .tup xs => some xs
  | .str z => some (strD z)
  | _ => none
@[simp] def wiSeq (w : XW) : WI := fun r P PE => w r (fun l r1 => withD r1 l fun d => match itemsD d with
  | some ds => P ds (stillOf r1 l) r1
  | none => False) PE
theorem walkL {K : PySem.W.Frag} {a : Addr} {n : Nat} : Walk (Itl K a) n (fun H => ∃ xs, xs.length = n ∧ SqL K H a xs) (fun i H x H' => H' = H ∧ ∀ xs, SqL K H a xs → xs[i]? = some x) :=
  ⟨fun i H hi ⟨xs, e, q⟩ => ⟨xs, xs[i]'(by omega), q, by simp [show i < xs.length by omega]⟩, fun _ ⟨xs, e, q⟩ => ⟨xs, q, by omega⟩, fun _ _ _ _ _ _ y => ⟨y.1, y.2⟩⟩
theorem keptL {G : Gm} {a : Addr} {vs : List V} {ds : List D} {still : Rho → Prop} {r1 : Rho} {Hs1 H1 : Hp} (h1 : SqL G.K Hs1 a vs) (h2 : Reps G Hs1 vs ds) : WalkOk G (Itl G.K a) ds still r1 Hs1 H1 := by
  refine ⟨fun H => ∃ xs, xs.length = ds.length ∧ SqL G.K H a xs, fun i H x H' => H' = H ∧ ∀ xs, SqL G.K H a xs → xs[i]? = some x, walkL, fun r' s' Hs' H' _ S' g => ⟨⟨vs, h2.length, ex_l S'.ex (ex_l g.ss h1)⟩, fun i x H'' d hd y => ?_⟩⟩
  obtain ⟨rfl, y⟩ := y
  obtain ⟨v', e1, e2⟩ := (h2.mono g.ss).get hd
  have := y _ (ex_l S'.ex (ex_l g.ss h1))
  rw [e1] at this; cases this
  exact ⟨_, ret0 S'.ex e2⟩
theorem keptT {G : Gm} {a : Addr} {vs : List V} {ds : List D} {still : Rho → Prop} {r1 : Rho} {Hs1 H1 : Hp} (h1 : SqT G.K Hs1 a vs) (h2 : Reps G Hs1 vs ds) : WalkOk G (Itt G.K a) ds still r1 Hs1 H1 := by
  have wk : Walk (Itt G.K a) ds.length (fun H => SqT G.K H a vs) (YAt vs) := by rw [← h2.length]; exact walk_tup
  refine ⟨_, _, wk, fun r' s' Hs' H' _ S' g => ⟨ex_t S'.ex (ex_t g.ss h1), fun i x H'' d hd y => ?_⟩⟩
  obtain ⟨rfl, y⟩ := y
  obtain ⟨v', e1, e2⟩ := (h2.mono g.ss).get hd
  rw [e1] at y; cases y
  exact ⟨_, ret0 S'.ex e2⟩
theorem keptS {G : Gm} {z : Str} {still : Rho → Prop} {r1 : Rho} {Hs1 H1 : Hp} : WalkOk G (Its z) (strD z) still r1 Hs1 H1 := by
  have e : (strD z).length = z.cps.size := by unfold strD; rw [List.length_map, Array.length_toList]
  have wk : Walk (Its z) (strD z).length (fun _ => True) (fun i H v H' => H' = H ∧ ∃ c, z.cps[i]? = some c ∧ v = .str ⟨#[c]⟩) := by rw [e]; exact walk_str
  refine ⟨_, _, wk, fun r' s' Hs' H' _ S' g => ⟨trivial, fun i x H'' d hd y => ?_⟩⟩
  obtain ⟨rfl, c, hc, rfl⟩ := y
  unfold strD at hd
  rw [List.getElem?_map, Array.getElem?_toList, hc] at hd
  cases hd
  exact ⟨_, ret0 S'.ex (.str _)⟩
theorem newL {G : Gm} {a : Addr} {vs : List V} {ds : List D} {still : Rho → Prop} {r1 : Rho} {Hs1 H1 : Hp} (h1 : H1 a = some (.lst vs)) (h2 : Reps G Hs1 vs ds) (h3 : ¬ Own r1 a) : WalkOk G (Itl G.K a) ds still r1 Hs1 H1 := by
  refine ⟨fun H => ∃ xs, xs.length = ds.length ∧ SqL G.K H a xs, fun i H x H' => H' = H ∧ ∀ xs, SqL G.K H a xs → xs[i]? = some x, walkL, fun r' s' Hs' H' _ S' g => ?_⟩
  have h6 := g.kp _ _ h1 h3
  refine ⟨⟨_, h2.length, Evl.sq_of h6⟩, fun i x H'' d hd y => ?_⟩
  obtain ⟨rfl, y⟩ := y
  obtain ⟨v', e1, e2⟩ := (h2.mono g.ss).get hd
  have := y _ (Evl.sq_of h6)
  rw [e1] at this; cases this
  exact ⟨_, ret0 S'.ex e2⟩
theorem ownL {G : Gm} {a : Addr} {ds : List D} {r1 : Rho} {Hs1 H1 : Hp} {j : Nat} (q : r1[j]? = some (Sl.own a (.lst ds))) : WalkOk G (Itl G.K a) ds (fun r' => r'[j]? = r1[j]?) r1 Hs1 H1 := by
  refine ⟨fun H => ∃ xs, xs.length = ds.length ∧ SqL G.K H a xs, fun i H x H' => H' = H ∧ ∀ xs, SqL G.K H a xs → xs[i]? = some x, walkL, fun r' s' Hs' H' st S' g => ?_⟩
  have st : r'[j]? = some (Sl.own a (.lst ds)) := Eq.trans st q
  have z' := S'.sl j _ st
  revert z'
  generalize s'[j]? = w
  intro z'
  cases z' with
  | own y1 y2 =>
    cases y2 with
    | lst h6 h7 =>
      refine ⟨⟨_, h7.length, Evl.sq_of h6⟩, fun i x H'' d hd y => ?_⟩
      obtain ⟨rfl, y⟩ := y
      obtain ⟨v', e1, e2⟩ := h7.get hd
      have := y _ (Evl.sq_of h6)
      rw [e1] at this; cases this
      exact ⟨_, ret0 S'.ex e2⟩
/-- a late list: where it stands -/
theorem late_list {G : Gm} {r1 : Rho} {s : St} {Hs1 H1 : Hp} {v : V} {l : Late} {d : D} {ds : List D} (lo : LateOk G r1 s Hs1 H1 v l) (S : StOk G r1 s Hs1 H1) (ed : res r1 l = some d) (hd : seqL d = some ds) :
    ∃ a, v = .ref a ∧ (∃ xs, SqL G.K H1 a xs) ∧ WalkOk G (Itl G.K a) ds (stillOf r1 l) r1 Hs1 H1 := by
  have rp0 : ∀ {v : V} {still : Rho → Prop}, Rep G Hs1 v d → ∃ a, v = .ref a ∧ (∃ xs, SqL G.K H1 a xs) ∧ WalkOk G (Itl G.K a) ds still r1 Hs1 H1 := by
    intro v still rp
    cases rp with
    | lst h1 h2 => cases hd; exact ⟨_, rfl, ⟨_, Evl.sq_of (S.ex _ _ h1)⟩, keptL (Evl.sq_of h1) h2⟩
    | rol h1 h2 => cases hd; exact ⟨_, rfl, ⟨_, ex_l S.ex h1⟩, keptL h1 h2⟩
    | non => cases hd
    | bl b => cases hd
    | int b => cases hd
    | str b => cases hd
    | ty b => cases hd
    | tup _ _ => cases hd
    | dic _ _ => cases hd
    | ins _ _ _ => cases hd
  cases lo with
  | st rp =>
    simp only [res, Option.some.injEq] at ed
    subst ed
    exact rp0 rp
  | nw h1 h2 h3 =>
    simp only [res, Option.some.injEq] at ed
    subst ed
    cases h2 with
    | lst h4 h5 => cases hd; exact ⟨_, rfl, ⟨_, Evl.sq_of h4⟩, newL h4 h5 h3⟩
    | dic _ _ => cases hd
    | ins _ _ _ => cases hd
  | sl hv =>
    rename_i j
    simp only [res] at ed
    split at ed
    · rename_i d' q
      cases ed
      have z := S.sl j _ q
      rw [hv] at z
      cases z with
      | sh rp => exact rp0 rp
    · rename_i a c q
      cases ed
      have z := S.sl j _ q
      rw [hv] at z
      cases z with
      | own z1 z2 =>
        cases z2 with
        | lst h4 h5 => cases hd; exact ⟨_, rfl, ⟨_, Evl.sq_of h4⟩, ownL q⟩
        | dic _ _ => cases hd
        | ins _ _ _ => cases hd
    · cases ed
theorem se_seq {tg e : Expr} {w : XW} (he : SE X W e w) : SI X W tg e (wiSeq w) := by
  refine pi_imp (pi_seq he) fun s H R q => ?_
  obtain ⟨r, Hs, P, PE, S, w, k, ke⟩ := q
  refine ⟨r, Hs, _, PE, S, w, fun l r1 v Hs1 H1 p o lo n => ?_, ke⟩
  obtain ⟨d, ed, p⟩ := withD_iff p
  have rb := lo.res o.S ed
  cases hi : seqL d with
  | some ds =>
    obtain ⟨a, rfl, h1, h2⟩ := late_list lo o.S ed hi
    have e : itemsD d = some ds := by cases d <;> simp only [seqL] at hi <;> first | exact hi | cases hi
    rw [e] at p
    exact .inl ⟨a, rfl, h1, k _ _ _ _ _ _ p o h2⟩
  | none =>
    cases d with
    | str z =>
      obtain rfl := rb.strv
      exact .inr (.inr ⟨_, rfl, k _ _ _ _ _ _ p o keptS⟩)
    | tup ds =>
      rcases rb.inv with rb | ⟨_, c, _, e, _⟩
      · cases rb with
        | tup h1 h2 => exact .inr (.inl ⟨_, rfl, ⟨_, ex_t o.S.ex h1⟩, k _ _ _ _ _ _ p o (keptT h1 h2)⟩)
      · cases c <;> cases e
    | lst _ => cases hi
    | rol _ => cases hi
    | non => exact p.elim
    | bl _ => exact p.elim
    | int _ => exact p.elim
    | dic _ => exact p.elim
    | ins _ _ => exact p.elim
    | ty _ => exact p.elim
/-- range(n), range(a, b) -/
def rngD (lo : Int) (n : Nat) : List D := (List.range n).map fun (i : Nat) => D.int (lo + ((i : Nat) : Int))
theorem rngD_len (lo : Int) (n : Nat) : (rngD lo n).length = n := by unfold rngD; rw [List.length_map, List.length_range]
theorem walk_rng {G : Gm} {lo : Int} {n : Nat} {r1 : Rho} {Hs1 H1 : Hp} : WalkOk G (Itr lo n) (rngD lo n) (fun _ => True) r1 Hs1 H1 := by
  have wk : Walk (Itr lo n) (rngD lo n).length (fun _ => True) (YFn fun i => .int (lo + i)) := by rw [rngD_len]; exact walk_range
  refine ⟨_, _, wk, fun r' s' Hs' H' _ S' g => ⟨trivial, fun i x H'' d hd y => ?_⟩⟩
  obtain ⟨rfl, rfl⟩ := y
  unfold rngD at hd
  rw [List.getElem?_map] at hd
  obtain ⟨j, h1, h2⟩ := Option.map_eq_some_iff.mp hd
  rw [List.getElem?_range (by have := (List.getElem?_eq_some_iff.mp h1).1; simpa using this)] at h1
  cases h1
  subst h2
  exact ⟨_, ret0 S'.ex (.int _)⟩
@[simp] def wiR1 (t : TAw) : WI := fun r P PE => t r (fun ls r1 => match ls with
  | [.st (.int n)] => (-(2 ^ 62) ≤ n ∧ n < 2 ^ 62) ∧ P (rngD 0 n.toNat) (fun _ => True) r1
  | _ => False) PE
@[simp] def wiR2 (t : TAw) : WI := fun r P PE => t r (fun ls r1 => match ls with
  | [.st (.int a), .st (.int b)] => (-(2 ^ 62) ≤ a ∧ a < 2 ^ 62 ∧ -(2 ^ 62) ≤ b ∧ b < 2 ^ 62) ∧ P (rngD a (b - a).toNat) (fun _ => True) r1
  | _ => False) PE
theorem si_range1 {tg a : Expr} {ta : TAw} {p : Pos} (hg : Gl X "range") (hm : X.mg "range" = none) (ha : SA X W [a] ta) (hs : starEach [a] X.env = [(false, eval a X.env)] := by rfl) : SI X W tg (.Call (.Name "range" p) [a] [] pos) (wiR1 ta) := by
  refine pi_imp (pi_range1 hg hm ha hs) fun s H R q => ?_
  obtain ⟨r, Hs, P, PE, S, w, k, ke⟩ := q
  refine ⟨r, Hs, _, PE, S, w, fun ls r1 vs Hs1 H1 p o lo n => ?_, ke⟩
  split at p
  · cases lo with
    | cons l1 n1 lo => cases lo with
      | nil => cases l1 with
        | st rp => cases rp; exact ⟨_, rfl, p.1.1, p.1.2, k _ _ _ _ _ _ p.2 o walk_rng⟩
  · exact p.elim
theorem si_range2 {tg a b : Expr} {ta : TAw} {p : Pos} (hg : Gl X "range") (hm : X.mg "range" = none) (ha : SA X W [a, b] ta) (hs : starEach [a, b] X.env = [(false, eval a X.env), (false, eval b X.env)] := by rfl) (hs2 : starEach [b] X.env = [(false, eval b X.env)] := by rfl) :
    SI X W tg (.Call (.Name "range" p) [a, b] [] pos) (wiR2 ta) := by
  refine pi_imp (pi_range2 hg hm ha hs hs2) fun s H R q => ?_
  obtain ⟨r, Hs, P, PE, S, w, k, ke⟩ := q
  refine ⟨r, Hs, _, PE, S, w, fun ls r1 vs Hs1 H1 p o lo n => ?_, ke⟩
  split at p
  · cases lo with
    | cons l1 n1 lo => cases lo with
      | cons l2 n2 lo => cases lo with
        | nil => cases l1 with
          | st rp => cases rp; cases l2 with
            | st rp => cases rp; exact ⟨_, _, rfl, p.1, k _ _ _ _ _ _ p.2 o walk_rng⟩
  · exact p.elim

/-! ### for -/
def forW (g : WG) (b : WS) (still : Rho → Prop) : List D → Rho → Fl → Prop
  | [], r, F => F.nx r
  | d :: ds, r, F => g d r fun r1 => b r1 { F with nx := fun r2 => still r2 ∧ forW g b still ds r2 F, ct := fun r2 => still r2 ∧ forW g b still ds r2 F, bk := F.nx }
@[simp] def wFor (it : WI) (g : WG) (b : WS) : WS := fun r F => it r (fun items still r1 => still r1 ∧ forW g b still items r1 F) F.ex
theorem ss_for {tg iter : Expr} {body : List Stmt} {it : WI} {is : List Nat} {g : WG} {b : WS} (hp : PassesOwn (model X.prog X.w) X.A X.env X.xe) (hc : X.calm = true) (hi : SI X W tg iter it) (hg : SG X tg is g) (hb : SSs X W body b) (hs : ∀ x, foldedSetIterable iter X.env x = pure x := by intro _; rfl) : SS X W (.For tg iter body [] pos) (wFor it g b) := by
  refine ps_imp (ps_for hp hc hi hg hb hs) fun D s H q => ?_
  obtain ⟨r, Hs, F, S, w, k⟩ := q
  refine ⟨r, Hs, _, F.ex, S, w, fun items still r1 Hs1 H1 J p o wk => ?_, fun x r' cls d Hs' H' p o e => k.ex x r' s cls d Hs' H' p o.outS e⟩
  obtain ⟨GG, Y, wk, st⟩ := wk
  have k1 := k.mono o.outS
  refine for_it wk (D := D) (fun i s' H' => ∃ r' Hs', still r' ∧ forW g b still (items.drop i) r' F ∧ OutS (gm X) r1 Hs1 H1 r' s' Hs' H') ⟨r1, Hs1, p.1, p.2, OutS.refl o.S⟩
    (fun i s' H' _ ⟨r', Hs', h1, _, o'⟩ => (st r' s' Hs' H' h1 o'.S o'.g).1) (fun i x s' H' H'' hi ⟨r', Hs', h1, h2, o'⟩ y => ?_) (fun s' H' ⟨r', Hs', h1, h2, o'⟩ => ?_)
  · have e : items.drop i = items[i] :: items.drop (i + 1) := (List.drop_eq_getElem_cons hi)
    rw [e] at h2
    obtain ⟨Hs2, rt⟩ := (st r' s' Hs' H' h1 o'.S o'.g).2 i x H'' items[i] (by simp [hi]) y
    cases rt with
    | val g0 ex rp =>
      have S2 := o'.S.go0 g0 ex
      refine ⟨r', Hs2, _, _, S2, rp, h2, fun r3 s3 p3 S3 ow _ => ⟨r3, Hs2, _, S3, p3, ?_⟩⟩
      have o3 : OutS (gm X) r1 Hs1 H1 r3 s3 Hs2 H'' := ⟨S3, o'.g.trans (g0.any.sub ow)⟩
      have k3 := k1.mono o3
      exact ⟨fun r4 s4 Hs4 H4 h o4 => ⟨r4, Hs4, h.1, h.2, o3.trans o4⟩, k3.rt, k3.nx, fun r4 s4 Hs4 H4 h o4 => ⟨r4, Hs4, h.1, h.2, o3.trans o4⟩, k3.ex⟩
  · rw [List.drop_length] at h2
    exact k1.nx _ _ _ _ h2 o'
end
end Z

/-! Z8: comprehensions of one for; methods and stores on owned lists. -/
namespace Z
open PySem L2
open PyProof.Rows (envOfC)
open Evl (Ex ex_rd ex_l ex_t)

/-- nothing is let out -/
abbrev W0 : WX := fun _ _ _ _ => False
def wipeR (r : Rho) : List Nat → Rho
  | [] => r
  | v :: vs => (wipeR r vs).set v .no
@[simp] def restO : Option Sl → Sl
  | some (.sh d) => .sh d
  | _ => .no
def restR (r1 r2 : Rho) : List Nat → Rho
  | [] => r2
  | v :: vs => (restR r1 r2 vs).set v (restO r1[v]?)
section
variable {G : Gm} {r r1 r2 : Rho} {s : St} {Hs H Hs' H' : Hp}
theorem StOk.setNo (S : StOk G r s Hs H) {i : Nat} {o : Option V} : StOk G (r.set i .no) (s.set i o) Hs H := by
  refine ⟨by rw [List.length_set, List.length_set]; exact S.len, S.ex, fun j y q => ?_, fun j k p c c' q1 q2 => ?_⟩
  · by_cases e : i = j
    · subst e; obtain ⟨rfl, hl⟩ := get_set q; exact .no
    · rw [List.getElem?_set_ne e] at q ⊢; exact S.sl j y q
  · have get : ∀ j c, (r.set i .no)[j]? = some (Sl.own p c) → r[j]? = some (Sl.own p c) := fun j c q => by
      by_cases e : i = j
      · subst e; obtain ⟨z, _⟩ := get_set q; cases z
      · rw [List.getElem?_set_ne e] at q; exact q
    exact S.nd j k p c c' (get j c q1) (get k c' q2)
theorem StOk.wipe (S : StOk G r s Hs H) : ∀ vs : List Nat, StOk G (wipeR r vs) (L2.wipe s vs) Hs H
  | [] => S
  | v :: vs => (StOk.wipe S vs).setNo
theorem own_wipe {a : Addr} : ∀ {vs : List Nat}, Own (wipeR r vs) a → Own r a
  | [], h => h
  | v :: vs, h => own_wipe (Own.set (by intro p c q; cases q) h)
theorem restR_len : ∀ vs : List Nat, (restR r1 r2 vs).length = r2.length
  | [] => rfl
  | v :: vs => by unfold restR; rw [List.length_set, restR_len vs]
theorem restR_get {i : Nat} {x : Sl} : ∀ {vs : List Nat}, (restR r1 r2 vs)[i]? = some x → (i ∈ vs ∧ x = restO r1[i]?) ∨ (i ∉ vs ∧ r2[i]? = some x)
  | [], h => .inr ⟨by simp, h⟩
  | v :: vs, h => by
    unfold restR at h
    by_cases e : v = i
    · subst e
      obtain ⟨rfl, _⟩ := get_set h
      exact .inl ⟨List.mem_cons_self .., rfl⟩
    · rw [List.getElem?_set_ne e] at h
      rcases restR_get h with z | z
      · exact .inl ⟨List.mem_cons_of_mem _ z.1, z.2⟩
      · exact .inr ⟨fun q => (List.mem_cons.mp q).elim (fun q => e q.symm) z.1, z.2⟩
theorem restO_own {o : Option Sl} {p : Addr} {c : Cell} : restO o ≠ .own p c := by
  cases o with
  | none => intro h; cases h
  | some x => cases x <;> intro h <;> cases h
theorem own_rest {vs : List Nat} {a : Addr} (h : Own (restR r1 r2 vs) a) : Own r2 a := by
  obtain ⟨i, c, h⟩ := h
  rcases restR_get h with z | z
  · exact absurd z.2.symm restO_own
  · exact ⟨i, c, z.2⟩
theorem StOk.rest (S1 : StOk G r1 s Hs H) (ss : Ex Hs Hs') {vs : List Nat} (S2 : StOk G r2 (L2.wipe s vs) Hs' H') : StOk G (restR r1 r2 vs) s Hs' H' := by
  refine ⟨by rw [restR_len, S2.len, wipe_length], S2.ex, fun i x q => ?_, fun i j p c c' q1 q2 => ?_⟩
  · rcases restR_get q with ⟨_, rfl⟩ | ⟨hv, q⟩
    · cases h : r1[i]? with
      | none => exact .no
      | some y =>
        cases y with
        | no => exact .no
        | own _ _ => exact .no
        | sh d =>
          have z := S1.sl i _ h
          revert z
          generalize s[i]? = w
          intro z
          cases z with
          | sh z => exact .sh (z.mono ss)
    · have z := S2.sl i x q
      rw [wipe_get, if_neg (fun h => hv h.1)] at z
      exact z
  · rcases restR_get q1 with z | z
    · exact absurd z.2.symm restO_own
    · rcases restR_get q2 with z' | z'
      · exact absurd z'.2.symm restO_own
      · exact S2.nd i j p c c' z.2 z'.2
/-- a foreign object changes -/
theorem StOk.upd (S : StOk G r s Hs H) {a : Addr} {o : HO} (h1 : Hs a = none) (h2 : ¬ Own r a) : StOk G r s Hs (L2.upd H a o) := by
  refine ⟨S.len, fun b u q => ?_, fun i x q => ?_, S.nd⟩
  · rw [upd_ne (ne_of_none q h1)]; exact S.ex b u q
  · have z := S.sl i x q
    revert z
    generalize s[i]? = w
    intro z
    cases z with
    | no => exact .no
    | sh h => exact .sh h
    | own y1 y2 =>
      refine .own y1 (y2.go (Ex.refl _) fun u hu => ?_)
      rw [upd_ne]
      · exact hu
      · rintro rfl; exact h2 ⟨i, _, q⟩
end
/-- the turns of a comprehension; nothing is raised in it -/
def lcW (g : WG) (t : TWt) (we : XW) (still : Rho → Prop) (vs : List Nat) : List D → List D → Rho → (List D → Rho → Prop) → Prop
  | [], acc, r, P => P acc r
  | d :: ds, acc, r, P => g d r fun r1 => t r1 (fun k r2 => if k = true then we r2 (fun l r3 => withF r3 l fun e r4 => still (wipeR r4 vs) ∧ lcW g t we still vs ds (acc ++ [e]) (wipeR r4 vs) P) (fun _ _ => False)
    else still (wipeR r2 vs) ∧ lcW g t we still vs ds acc (wipeR r2 vs) P) (fun _ _ => False)
@[simp] def wLc (it : WI) (g : WG) (t : TWt) (we : XW) (vs : List Nat) : XW := fun r P PE => it r (fun items still r1 => items.length ≤ sizeLine ∧ still (wipeR r1 vs) ∧ lcW g t we still vs items [] (wipeR r1 vs) fun acc r2 => ∀ p, P (.nw p (.lst acc)) (restR r1 r2 vs)) PE
def STs (X : Cx) (W : WX) (es : List Expr) (w : TWt) : Prop := PTs X es (tWT (gm X) W w)
theorem pts_imp {X : Cx} {e : List Expr} {t t' : TT} (h : PTs X e t) (i : ∀ s H Q, t' s H Q → t s H Q) : PTs X e t' := ⟨fun pins s σ H Q I q => h.run pins s σ H Q I (i σ H Q q)⟩
section
variable {X : Cx} {W : WX} {pos : Pos}
@[simp] def twYes : TWt := fun r P _ => P true r
theorem sts_nil : STs X W [] twYes := by
  refine pts_imp pts_nil fun s H Q q => ?_
  obtain ⟨r, Hs, P, PE, S, w, k, ke⟩ := q
  exact k _ _ _ _ w (Out.refl S)
theorem sts_one {c : Expr} {t : TWt} (h : ST X W c t) : STs X W [c] t := pts_one h
theorem wipe_wipe (s : St) (vs : List Nat) : L2.wipe (L2.wipe s vs) vs = L2.wipe s vs := by
  refine List.ext_getElem? fun j => ?_
  rw [wipe_get, wipe_get, wipe_length]
  by_cases h : j ∈ vs ∧ j < s.length
  · rw [if_pos h, if_pos h]
  · rw [if_neg h, if_neg h]
/-- what a comprehension does once its iterator stands -/
def lcBody (g : TG) (tt : TT) (te : TE) (vs : List Nat) (σ : St) (Q : VK) (J : It) (H1 : Hp) : Prop := tLc (fun _ _ R => R J H1) g tt te vs σ H1 Q
theorem lc_body {is : List Nat} {g : WG} {t : TWt} {we : XW} {vs : List Nat} (hv : ∀ i ∈ is, i ∈ vs) {r r1 : Rho} {s : St} {Hs H Hs1 H1 : Hp} {P : Late → Rho → Prop} {Q : VK} {items : List D} {still : Rho → Prop} {J : It}
    (o : Out (gm X) r s Hs H r1 Hs1 H1) (wk : WalkOk (gm X) J items still r1 Hs1 H1) (p : items.length ≤ sizeLine ∧ still (wipeR r1 vs) ∧ lcW g t we still vs items [] (wipeR r1 vs) fun acc r2 => ∀ p, P (.nw p (.lst acc)) (restR r1 r2 vs))
    (k : ∀ l r' v Hs' H', P l r' → Out (gm X) r s Hs H r' Hs' H' → LateOk (gm X) r' s Hs' H' v l → NewAt H l → Q v H') :
    lcBody (tWG (gm X) is g) (tWT (gm X) W0 t) (tW (gm X) W0 we) vs s Q J H1 := by
  obtain ⟨GG, Y, wk, st⟩ := wk
  obtain ⟨hsz, hst, p⟩ := p
  intro Dl hD
  have hDs : Hs1 Dl = none := Evl.fresh_back o.S.ex hD
  have nD : ¬ Own (wipeR r1 vs) Dl := fun h => o.S.notOwn hD (own_wipe h)
  -- the invariant
  let Inv : Nat → Hp → Prop := fun i H' => ∃ (r' : Rho) (Hs' : Hp) (acc : List D) (va : List V), still r' ∧ lcW g t we still vs (items.drop i) acc r' (fun acc r2 => ∀ p, P (.nw p (.lst acc)) (restR r1 r2 vs)) ∧
    StOk (gm X) r' (L2.wipe s vs) Hs' H' ∧ Go (fun a => Own (wipeR r1 vs) a ∨ a = Dl) (fun a => Own r' a ∨ a = Dl) Hs1 (L2.upd H1 Dl (.lst [])) Hs' H' ∧ H' Dl = some (.lst va) ∧ Reps (gm X) Hs' va acc ∧ acc.length ≤ i ∧ Hs' Dl = none ∧ ¬ Own r' Dl
  have goR : ∀ {r' : Rho} {Hs' H' : Hp}, Go (fun a => Own (wipeR r1 vs) a ∨ a = Dl) (fun a => Own r' a ∨ a = Dl) Hs1 (L2.upd H1 Dl (.lst [])) Hs' H' → Hs' Dl = none → ¬ Own r' Dl → Go (Own r1) (Own r') Hs1 H1 Hs' H' := fun {r' Hs' H'} g h1 h2 => by
    refine ⟨g.ss, fun a u h n => ?_, fun a u h hs n => ?_, fun a h => ?_, fun a h => ?_⟩
    · have ne : a ≠ Dl := ne_of_none h hD
      exact g.kp a u (by rw [upd_ne ne]; exact h) fun z => z.elim (fun z => n (own_wipe z)) ne
    · have ne : a ≠ Dl := ne_of_none h hD
      exact g.fr a u (by rw [upd_ne ne]; exact h) hs fun z => z.elim (fun z => n (own_wipe z)) ne
    · have ne : a ≠ Dl := fun e => h2 (e ▸ h)
      rcases g.ow a (.inl h) with (z | z) | z
      · exact .inl (own_wipe z)
      · exact absurd z ne
      · rw [upd_ne ne] at z; exact .inr z
    · have ne : a ≠ Dl := fun e => by
        have := g.th a h
        rw [e, upd_same] at this; cases this
      have := g.th a h
      rwa [upd_ne ne] at this
  refine lc_it (D := Dl) wk Inv ⟨_, Hs1, [], [], hst, p, (o.S.wipe vs).upd hDs nD, Go.refl, upd_same, .nil, Nat.le_refl _, hDs, nD⟩
    (fun i H' _ ⟨r', Hs', acc, va, y1, y2, y3, y4, y5, y6, y7, y8, y9⟩ => (st r' _ Hs' H' y1 y3 (goR y4 y8 y9)).1) ?_ ?_
  · intro i x H' H'' hi ⟨r', Hs', acc, va, y1, y2, y3, y4, y5, y6, y7, y8, y9⟩ y
    rw [List.drop_eq_getElem_cons hi] at y2
    obtain ⟨Hs2, rt⟩ := (st r' _ Hs' H' y1 y3 (goR y4 y8 y9)).2 i x H'' items[i] (by simp [hi]) y
    cases rt with
    | val g0 ex rp =>
      have S2 := y3.go0 g0 ex
      refine ⟨r', Hs2, _, _, S2, rp, y2, fun r3 s3 p3 S3 ow wi => ?_⟩
      have e3 : L2.wipe s3 vs = L2.wipe s vs := (wi vs hv).trans (wipe_wipe s vs)
      refine ⟨e3.trans (wipe_wipe s vs).symm ▸ (wipe_wipe s vs).symm ▸ rfl, ?_⟩
      -- from here on: Go from (Hs', H') with the list apart
      have d2 : H'' Dl = some (.lst va) := g0.kp _ _ y5 fun q => q
      have d3 : Hs2 Dl = none := g0.fr _ _ y5 y8 fun q => q
      have n3 : ¬ Own r3 Dl := fun h => y9 (ow _ h)
      refine ⟨r3, Hs2, _, _, S3, p3, fun b r4 Hs4 H4 p4 o4 => ?_, fun x r' cls d Hs' H' p _ _ => p⟩
      have d4 : H4 Dl = some (.lst va) := o4.g.kp _ _ d2 n3
      have d4s : Hs4 Dl = none := o4.g.fr _ _ d2 d3 n3
      have n4 : ¬ Own r4 Dl := fun h => (o4.g.ow _ h).elim n3 fun z => by rw [d2] at z; cases z
      have g4 : Go (Own r') (Own r4) Hs' H' Hs4 H4 := (g0.any.sub ow).trans o4.g
      -- a turn's end
      have fin : ∀ {r5 : Rho} {Hs5 H5 : Hp} {acc' : List D} {va' : List V} {s5 : St}, StOk (gm X) r5 s5 Hs5 H5 → L2.wipe s5 vs = L2.wipe s vs → Go (Own r') (Own r5) Hs' H' Hs5 H5 → H5 Dl = some (.lst va) → Hs5 Dl = none → ¬ Own r5 Dl → Reps (gm X) Hs5 va' acc' → acc'.length ≤ i + 1 →
          still (wipeR r5 vs) → lcW g t we still vs (items.drop (i + 1)) acc' (wipeR r5 vs) (fun acc r2 => ∀ p, P (.nw p (.lst acc)) (restR r1 r2 vs)) → Inv (i + 1) (L2.upd H5 Dl (.lst va')) := by
        intro r5 Hs5 H5 acc' va' s5 S5 e5 g5 z1 z2 z3 z4 z5 z6 z7
        have S6 : StOk (gm X) (wipeR r5 vs) (L2.wipe s vs) Hs5 H5 := e5 ▸ S5.wipe vs
        have n6 : ¬ Own (wipeR r5 vs) Dl := fun h => z3 (own_wipe h)
        refine ⟨_, Hs5, acc', va', z6, z7, S6.upd z2 n6, y4.trans ⟨g5.ss, fun a u h n => ?_, fun a u h hs n => ?_, fun a h => ?_, fun a h => ?_⟩, upd_same, z4, z5, z2, n6⟩
        · rw [upd_ne (fun e => n (.inr e))]; exact g5.kp a u h fun z => n (.inl z)
        · exact g5.fr a u h hs fun z => n (.inl z)
        · rcases h with h | h
          · exact (g5.ow a (own_wipe h)).imp .inl id
          · exact .inl (.inr h)
        · by_cases e : a = Dl
          · subst e; rw [upd_same] at h; cases h
          · rw [upd_ne e] at h; exact g5.th a h
      cases b with
      | true =>
        rw [if_pos rfl] at p4
        refine iteT ⟨r4, Hs4, _, _, o4.S, p4, fun l r5 v Hs5 H5 p5 o5 l5 n5 => ?_, fun x r' cls d Hs' H' p _ _ => p⟩
        obtain ⟨e, r6, ez, z1, z2⟩ := withF_iff p5
        obtain ⟨Hs6, S6, rp6, g6, kp6⟩ := l5.frz o5.S o5.g n5 ez
        have d5 : H5 Dl = some (.lst va) := o5.g.kp _ _ d4 n4
        have d6 : Hs6 Dl = none := g6.fr _ _ d4 d4s n4
        have n6 : ¬ Own r6 Dl := fun h => (g6.ow _ h).elim n4 fun z => by rw [d4] at z; cases z
        have ss6 : Ex Hs' Hs6 := g4.ss.trans g6.ss
        refine ⟨va, d5, ?_, fin S6 e3 (g4.trans g6) d5 d6 n6 ((y6.mono ss6).append (.cons rp6 .nil)) (by rw [List.length_append]; simp; omega) z1 z2⟩
        rw [y6.length]
        omega
      | false =>
        rw [if_neg (by simp)] at p4
        refine iteF ?_
        have z := fin (va' := va) o4.S e3 g4 d4 d4s n4 (y6.mono g4.ss) (by omega) p4.1 p4.2
        have e : L2.upd H4 Dl (.lst va) = H4 := by
          funext a
          by_cases h : a = Dl
          · subst h; rw [upd_same, d4]
          · rw [upd_ne h]
        rwa [e] at z
  · intro H' ⟨r', Hs', acc, va, y1, y2, y3, y4, y5, y6, y7, y8, y9⟩
    rw [List.drop_length] at y2
    have g := goR y4 y8 y9
    refine k _ _ _ _ _ (y2 Dl) (o.trans ⟨o.S.rest g.ss y3, g.sub fun a => own_rest⟩) (.nw y8 (.lst y5 y6) fun h => y9 (own_rest h)) fun p c e => ?_
    cases e
    exact o.g.th _ hD
theorem t_lc {it : WI} {is : List Nat} {g : WG} {t : TWt} {we : XW} {vs : List Nat} (hv : ∀ i ∈ is, i ∈ vs) {s : St} {H : Hp} {Q : VK} (q : tW (gm X) W (wLc it g t we vs) s H Q) :
    tLc (tWI (gm X) W it) (tWG (gm X) is g) (tWT (gm X) W0 t) (tW (gm X) W0 we) vs s H Q := by
  obtain ⟨r, Hs, P, PE, S, w, k, ke⟩ := q
  exact ⟨r, Hs, _, PE, S, w, fun items still r1 Hs1 H1 J p o wk => lc_body hv o wk p k, ke⟩
theorem se_lc {elt tg iter : Expr} {ifs : List Expr} {scope : Scope} {own : List (Str × Nat)} {it : WI} {is : List Nat} {g : WG} {t : TWt} {we : XW} (hc : X.calm = true) (hN : X.N.Nodup) (hi : SI X W tg iter it) (ok : BlkOk X.N X.env.scope scope own)
    (hg : ∀ (s : Shared) (H : Hp) (C : Addr) (cl : List (Str × Addr)) (fp : List Addr), SG (X.blk s H scope (compEnvC scope cl C X.env) fp) tg is g) (ht : ∀ (s : Shared) (H : Hp) (C : Addr) (cl : List (Str × Addr)) (fp : List Addr), STs (X.blk s H scope (compEnvC scope cl C X.env) fp) W0 ifs t)
    (he : ∀ (s : Shared) (H : Hp) (C : Addr) (cl : List (Str × Addr)) (fp : List Addr), SE (X.blk s H scope (compEnvC scope cl C X.env) fp) W0 elt we) (hv : ∀ i ∈ is, i ∈ own.map (·.2)) (hs : ∀ x, foldedSetIterable iter X.env x = pure x := by intro _; rfl) :
    SE X W (.ListComp elt [⟨tg, iter, ifs, 0⟩] scope pos) (wLc it g t we (own.map (·.2))) :=
  pe_imp (pe_lc (g := tWG (gm X) is g) (tt := tWT (gm X) W0 t) (te := tW (gm X) W0 we) hc hN hi ok hg ht he hs) fun s H Q q => t_lc hv q
/-- name = [..] -/
theorem ss_setLc {i : Nat} {y : Str} {py spos : Pos} {elt tg iter : Expr} {ifs : List Expr} {scope : Scope} {own : List (Str × Nat)} {it : WI} {is : List Nat} {g : WG} {t : TWt} {we : XW} (hc : X.calm = true) (hN : X.N.Nodup) (hi : SI X W tg iter it) (ok : BlkOk X.N X.env.scope scope own)
    (hg : ∀ (s : Shared) (H : Hp) (C : Addr) (cl : List (Str × Addr)) (fp : List Addr), SG (X.blk s H scope (compEnvC scope cl C X.env) fp) tg is g) (ht : ∀ (s : Shared) (H : Hp) (C : Addr) (cl : List (Str × Addr)) (fp : List Addr), STs (X.blk s H scope (compEnvC scope cl C X.env) fp) W0 ifs t)
    (he : ∀ (s : Shared) (H : Hp) (C : Addr) (cl : List (Str × Addr)) (fp : List Addr), SE (X.blk s H scope (compEnvC scope cl C X.env) fp) W0 elt we) (hv : ∀ i ∈ is, i ∈ own.map (·.2)) (hy : X.N[i]? = some y := by rfl) (hyl : X.env.scope.names.lookup y = some .local := by rfl)
    (hsw : swapsWith (.ListComp elt [⟨tg, iter, ifs, 0⟩] scope pos) (some (.Name y py)) spos.line X.env = pure true := by exact sw_true rfl rfl rfl (by decide +kernel)) (hs : ∀ x, foldedSetIterable iter X.env x = pure x := by intro _; rfl) :
    SS X W (.Assign [.Name y py] (.ListComp elt [⟨tg, iter, ifs, 0⟩] scope pos) spos) (wAsg i (wLc it g t we (own.map (·.2)))) := by
  refine ps_imp (ps_setLc (g := tWG (gm X) is g) (tt := tWT (gm X) W0 t) (te := tW (gm X) W0 we) hc hN hy hyl hsw hi ok hg ht he hs) fun D s H q => ?_
  obtain ⟨r, Hs, F, S, w, k⟩ := q
  refine t_lc hv (tw_run S w k fun l r1 v Hs1 H1 p o lo n => ?_)
  obtain ⟨r', Hs', q, o'⟩ := put_ok o lo n p
  exact k.nx _ _ _ _ q o'

/-! ### methods that change an owned list -/
/-- g: from the list and the arguments (kept), the result and the list behind -/
abbrev GM := List D → List D → (D → List D → Prop) → Prop
def MuOk (X : Cx) (rr : V → List V → Hp → VK → Prop) (g : GM) : Prop := ∀ (p : Addr) (vs xs : List V) (ds es : List D) (Hs H : Hp) (P : D → List D → Prop) (Q : VK), Ex Hs H → H p = some (.lst vs) → Reps (gm X) Hs vs ds → Reps (gm X) Hs xs es → g ds es P →
  (∀ d ds' v vs', P d ds' → Rep (gm X) Hs v d → Reps (gm X) Hs vs' ds' → Q v (L2.upd H p (.lst vs'))) → rr (.ref p) xs H Q
/-- x.m(..), x a slot with its own list -/
@[simp] def wMu (i : Nat) (g : GM) (t : TAw) : XW := fun r P PE => match r[i]? with
  | some (Sl.own _ (.lst _)) => t r (fun ls r1 => withFs r1 ls fun es r2 => match r2[i]? with
    | some (Sl.own p (.lst ds)) => g ds es fun d ds' => P (.st d) (r2.set i (.own p (.lst ds')))
    | _ => False) PE
  | _ => False
theorem mu_core {r r2 : Rho} {s : St} {Hs H Hs2 H2 : Hp} {i : Nat} {p : Addr} {v : V} {ds es : List D} {xs : List V} {rr : V → List V → Hp → VK → Prop} {g : GM} {P : Late → Rho → Prop} {Q : VK} (ho : MuOk X rr g) (o : Out (gm X) r s Hs H r2 Hs2 H2) (hv : s[i]? = some (some v)) (e : r2[i]? = some (Sl.own p (.lst ds))) (rx : Reps (gm X) Hs2 xs es)
    (q : g ds es fun d ds' => P (.st d) (r2.set i (.own p (.lst ds')))) (k : ∀ l r' v Hs' H', P l r' → Out (gm X) r s Hs H r' Hs' H' → LateOk (gm X) r' s Hs' H' v l → NewAt H l → Q v H') : rr v xs H2 Q := by
  have z := o.S.sl i _ e
  rw [hv] at z
  cases z with
  | own y1 y2 =>
    cases y2 with
    | lst h1 h2 =>
      refine ho p _ xs ds es Hs2 H2 _ _ o.S.ex h1 h2 rx q fun d ds' v vs' pd rd rs => ?_
      have np := own_no o.S.nd e
      have S1 : StOk (gm X) (r2.set i .no) s Hs2 (L2.upd H2 p (.lst vs')) := (o.S.put (x := .no) (by intro p c q; cases q) .no).upd y1 np
      have S2 := S1.putOwn (i := i) (p := p) (c := .lst ds') hv y1 (.lst upd_same rs) np
      rw [List.set_set] at S2
      refine k _ _ _ _ _ pd (o.trans ⟨S2, Ex.refl _, fun a u h n => ?_, fun a u _ h _ => h, fun a h => ?_, fun a h => ?_⟩) (.st rd) (fun _ _ q => nomatch q)
      · rw [upd_ne (fun e' => n ⟨i, _, e' ▸ e⟩)]; exact h
      · rcases own_putOwn h with rfl | h
        · exact .inl ⟨i, _, e⟩
        · exact .inl h
      · by_cases e' : a = p
        · subst e'; rw [upd_same] at h; cases h
        · rwa [upd_ne e'] at h
theorem tyL {K : PySem.W.Frag} {H : Hp} {p : Addr} {vs : List V} (h : H p = some (.lst vs)) : tyV K "list" (.ref p) H := .inl ⟨rfl, _, Evl.sq_of h⟩
theorem se_mu {x name : Str} {px apos cpos : Pos} {id : String} {e : Expr} {es : List Expr} {ta : TAw} {rr : V → List V → Hp → VK → Prop} {g : GM} (i : Nat) (ho : MuOk X rr g) (slot : Slot "list" name id) (hty : typeOf (.builtin id) = pure (.type "method_descriptor")) (hm : MtR X id rr) (ha : SA X W (e :: es) ta)
    (hN : X.N[i]? = some x := by rfl) (hv : Vis X.env.scope x := by first | exact Or.inl rfl | exact Or.inr (Or.inl rfl) | exact Or.inr (Or.inr rfl)) (hd : (x == ("__debug__" : Str)) = false := by decide) (hcd : (x == ("__classdict__" : Str)) = false := by decide)
    (hbase : attributeBase (.Name x px) name X.env (eval (.Name x px) X.env) = eval (.Name x px) X.env := by rfl)
    (hfew : ((backTo cpos (starEach (e :: es) X.env)).all (fun x => !x.1) && (backToKw cpos (keywordEach [] X.env)).all (fun x => x.1.isSome)
      && decide ((e :: es).length + ([] : List Keyword).length + (if ([] : List Keyword).isEmpty then 0 else 1) < 30)) = true := by rfl)
    (hline : (apos.endLine == cpos.line) = true := by rfl) (hs : starEach (e :: es) X.env = (false, eval e X.env) :: starEach es X.env := by rfl) (hplain : (backTo cpos (starEach es X.env)).any (·.1) = false := by rfl) :
    SE X W (.Call (.Attribute (.Name x px) name apos) (e :: es) [] cpos) (wMu i g ta) := by
  refine pe_imp (pe_bm PySem.F.plainAttrs_list slot hty hm (pe_var hN hv hd hcd) ha hbase hfew hline hs hplain) fun s H Q q => ?_
  obtain ⟨r, Hs, P, PE, S, w, k, ke⟩ := q
  simp only [wMu] at w
  split at w
  · rename_i p0 c0 e0
    have z := S.sl i _ e0
    revert z
    generalize hv : s[i]? = o
    intro z
    cases z with
    | own y1 y2 =>
    refine ⟨_, hv, ?_, r, Hs, _, PE, S, w, fun ls r1 vs Hs1 H1 p o lo n => ?_, ke⟩
    · cases y2 with
      | lst h1 _ => exact tyL h1
    · obtain ⟨es', r2, ez, p⟩ := withFs_iff p
      obtain ⟨Hs2, S2, rx, g2, _⟩ := lo.frz o.S o.g n ez
      split at p
      · rename_i p' ds e'
        exact mu_core ho ⟨S2, g2⟩ hv e' rx p k
      · exact p.elim
  · exact w.elim
end
end Z

/-! Z9: append, pop, a[i] = e on owned lists; list(range(..)); a def with one star parameter. -/
namespace Z
open PySem L2
open PyProof.Rows (envOfC)
open Evl (Ex ex_rd ex_l ex_t)
section
variable {X : Cx} {W : WX} {pos : Pos}
def gApp : GM := fun ds es P => match es with
  | [e] => ds.length < sizeLine ∧ P .non (ds ++ [e])
  | _ => False
theorem mu_app : MuOk X rAppend gApp := by
  intro p vs xs ds es Hs H P Q e hp r1 r2 q k
  unfold gApp at q
  split at q
  · cases r2 with
    | cons a b => cases b; exact ⟨p, vs, _, rfl, rfl, hp, by rw [r1.length]; exact q.1, k _ _ _ _ q.2 .non (r1.append (.cons a .nil))⟩
  · exact q.elim
theorem se_app {x : Str} {px apos cpos : Pos} {e : Expr} {ta : TAw} (i : Nat) (ha : SA X W [e] ta)
    (hN : X.N[i]? = some x := by rfl) (hv : Vis X.env.scope x := by first | exact Or.inl rfl | exact Or.inr (Or.inl rfl) | exact Or.inr (Or.inr rfl)) (hd : (x == ("__debug__" : Str)) = false := by decide) (hcd : (x == ("__classdict__" : Str)) = false := by decide)
    (hbase : attributeBase (.Name x px) "append" X.env (eval (.Name x px) X.env) = eval (.Name x px) X.env := by rfl)
    (hfew : ((backTo cpos (starEach [e] X.env)).all (fun x => !x.1) && (backToKw cpos (keywordEach [] X.env)).all (fun x => x.1.isSome)
      && decide (([e] : List Expr).length + ([] : List Keyword).length + (if ([] : List Keyword).isEmpty then 0 else 1) < 30)) = true := by rfl)
    (hline : (apos.endLine == cpos.line) = true := by rfl) (hs : starEach [e] X.env = (false, eval e X.env) :: starEach [] X.env := by rfl) :
    SE X W (.Call (.Attribute (.Name x px) "append" apos) [e] [] cpos) (wMu i gApp ta) :=
  se_mu i mu_app PySem.F.slot_list_append PySem.F.type_list_append mt_append ha hN hv hd hcd hbase hfew hline hs rfl
def gPopAt : GM := fun ds es P => match es with
  | [.int i] => -(2 ^ 63) ≤ i ∧ i < 2 ^ 63 ∧ match seqIndex? i ds.length with
    | some k => match ds[k]? with
      | some d => P d (ds.eraseIdx k)
      | none => False
    | none => False
  | _ => False
theorem mu_popAt : MuOk X rPopAt gPopAt := by
  intro p vs xs ds es Hs H P Q e hp r1 r2 q k
  unfold gPopAt at q
  split at q
  · cases r2 with
    | cons a b =>
      cases b; cases a
      obtain ⟨q1, q2, q⟩ := q
      split at q
      · rename_i k' hk
        split at q
        · rename_i d hd
          obtain ⟨v, hv, rv⟩ := r1.get hd
          exact ⟨p, vs, _, k', v, rfl, rfl, hp, q1, q2, by rw [r1.length]; exact hk, hv, k _ _ _ _ q rv (r1.eraseIdx k')⟩
        · exact q.elim
      · exact q.elim
  · exact q.elim
theorem se_popAt {x : Str} {px apos cpos : Pos} {e : Expr} {ta : TAw} (i : Nat) (ha : SA X W [e] ta)
    (hN : X.N[i]? = some x := by rfl) (hv : Vis X.env.scope x := by first | exact Or.inl rfl | exact Or.inr (Or.inl rfl) | exact Or.inr (Or.inr rfl)) (hd : (x == ("__debug__" : Str)) = false := by decide) (hcd : (x == ("__classdict__" : Str)) = false := by decide)
    (hbase : attributeBase (.Name x px) "pop" X.env (eval (.Name x px) X.env) = eval (.Name x px) X.env := by rfl)
    (hfew : ((backTo cpos (starEach [e] X.env)).all (fun x => !x.1) && (backToKw cpos (keywordEach [] X.env)).all (fun x => x.1.isSome)
      && decide (([e] : List Expr).length + ([] : List Keyword).length + (if ([] : List Keyword).isEmpty then 0 else 1) < 30)) = true := by rfl)
    (hline : (apos.endLine == cpos.line) = true := by rfl) (hs : starEach [e] X.env = (false, eval e X.env) :: starEach [] X.env := by rfl) :
    SE X W (.Call (.Attribute (.Name x px) "pop" apos) [e] [] cpos) (wMu i gPopAt ta) :=
  se_mu i mu_popAt PySem.F.slot_list_pop PySem.F.type_list_pop mt_popAt ha hN hv hd hcd hbase hfew hline hs rfl

/-! ### x[e] = v, x a slot with its own list -/
@[simp] def wSetL (j : Nat) (wi we : XW) : WS := fun r F => we r (fun l r1 => match r1[j]? with
  | some (Sl.own _ _) => wi r1 (fun li r2 => onInt r2 li fun k => withF r2 l fun d r3 => match r3[j]? with
    | some (Sl.own p (.lst ds)) => match ixN ds.length k with
      | some m => F.nx (r3.set j (.own p (.lst (ds.set m d))))
      | none => False
    | _ => False) F.ex
  | _ => False) F.ex
theorem own_upd {G : Gm} {r : Rho} {s : St} {Hs H : Hp} {i : Nat} {p : Addr} {v : V} {ds ds' : List D} {vs' : List V} (S : StOk G r s Hs H) (hv : s[i]? = some (some v)) (e : r[i]? = some (Sl.own p (.lst ds))) (rs : Reps G Hs vs' ds') :
    v = .ref p ∧ (∃ vs, H p = some (.lst vs) ∧ Reps G Hs vs ds) ∧ Out G r s Hs H (r.set i (.own p (.lst ds'))) Hs (L2.upd H p (.lst vs')) := by
  have z := S.sl i _ e
  rw [hv] at z
  cases z with
  | own y1 y2 =>
    cases y2 with
    | lst h1 h2 =>
      have np := own_no S.nd e
      have S1 : StOk G (r.set i .no) s Hs (L2.upd H p (.lst vs')) := (S.put (x := .no) (by intro p c q; cases q) .no).upd y1 np
      have S2 := S1.putOwn (i := i) (p := p) (c := .lst ds') hv y1 (.lst upd_same rs) np
      rw [List.set_set] at S2
      refine ⟨rfl, ⟨_, h1, h2⟩, S2, Ex.refl _, fun a u h n => ?_, fun a u _ h _ => h, fun a h => ?_, fun a h => ?_⟩
      · rw [upd_ne (fun e' => n ⟨i, _, e' ▸ e⟩)]; exact h
      · rcases own_putOwn h with rfl | h
        · exact .inl ⟨i, _, e⟩
        · exact .inl h
      · by_cases e' : a = p
        · subst e'; rw [upd_same] at h; cases h
        · rwa [upd_ne e'] at h
theorem ixN_lt {n : Nat} {k : Int} {m : Nat} (h : ixN n k = some m) : m < n := (ixN_seq h).2.1
theorem ss_setL {x : Str} {px pos' : Pos} {ei e : Expr} {wi we : XW} (j : Nat) (he : SE X W e we) (hi : SE X W ei wi) (hN : X.N[j]? = some x := by rfl) (hv : Vis X.env.scope x := by first | exact Or.inl rfl | exact Or.inr (Or.inl rfl) | exact Or.inr (Or.inr rfl))
    (hd : (x == ("__debug__" : Str)) = false := by decide) (hcd : (x == ("__classdict__" : Str)) = false := by decide) (hs : swapsWithSole [.Subscript (.Name x px) ei pos'] e pos.line X.env = pure false := by rfl) (hw : swappedStores [.Subscript (.Name x px) ei pos'] e X.env = pure none := by rfl)
    (h1 : (assignEach [.Subscript (.Name x px) ei pos'] X.env).map (·.2) = [assign (.Subscript (.Name x px) ei pos') X.env] := by rfl)
    (hra : ∀ v, assign (.Subscript (.Name x px) ei pos') X.env v = (do
      let ov ← holding [v] (eval (.Name x px) X.env)
      let iv ← holding [v, ov] (eval ei X.env)
      standAt pos'
      holding [v, ov, iv] (setItem ov iv v)
      release [v, ov, iv] []) := by intro _; rfl) :
    SS X W (.Assign [.Subscript (.Name x px) ei pos'] e pos) (wSetL j wi we) := by
  refine ps_imp (ps_asg he (pg_sub (pe_var hN hv hd hcd) hi set_list hra) hs hw h1) fun D s H q => ?_
  obtain ⟨r, Hs, F, S, w, k⟩ := q
  refine tw_run S w k fun l r1 v Hs1 H1 p o lo n => ?_
  split at p
  · rename_i a0 c0 e0
    have hex : s[j]? = some (some (.ref a0)) := by
      have z := o.S.sl j _ e0
      revert z
      generalize s[j]? = w
      intro z
      cases z; rfl
    refine ⟨_, hex, ?_⟩
    refine tw_run o.S p (k.mono o.outS) fun li r2 vi Hs2 H2 p2 o2 l2 n2 => ?_
    obtain ⟨kk, rfl, rfl, p3⟩ := onInt_iff p2 l2
    obtain ⟨d, r3, ez, p4⟩ := withF_iff p3
    have oo := o.trans o2
    obtain ⟨Hs3, S3, rp, g3, _⟩ := (lo.go o2.g).frz o2.S oo.g n ez
    split at p4
    · rename_i p' ds e'
      split at p4
      · rename_i m hm
        have z := own_upd (vs' := []) (ds' := []) S3 hex e' .nil
        obtain ⟨e1, ⟨vs, h1, h2⟩, _⟩ := z
        cases e1
        have z2 := own_upd S3 hex e' (h2.set rp m)
        refine ⟨a0, vs, kk, m, rfl, rfl, h1, by rw [h2.length]; exact hm, ?_⟩
        exact k.nx _ _ _ _ p4 (Out.outS (Out.trans ⟨S3, g3⟩ z2.2.2))
      · exact p4.elim
    · exact p4.elim
  · exact p.elim

/-! ### list(range(..)) -/
theorem reps_rg {G : Gm} {H : Hp} (a b : Int) : Reps G H (rgV a b) (rngD a (b - a).toNat) := by
  unfold rgV rngD
  have : ∀ l : List Nat, Reps G H (l.map fun i => V.int (a + (i : Nat))) (l.map fun (i : Nat) => D.int (a + ((i : Nat) : Int))) := by
    intro l
    induction l with
    | nil => exact .nil
    | cons x l ih => exact .cons (.int _) ih
  exact this _
@[simp] def wLstR1 (wa : XW) : XW := fun r P PE => wa r (fun l r1 => onInt r1 l fun n => RgOk 0 n ∧ ∀ p, P (.nw p (.lst (rngD 0 n.toNat))) r1) PE
@[simp] def wLstR2 (wa wb : XW) : XW := fun r P PE => wa r (fun la r1 => wb r1 (fun lb r2 => onInt r2 la fun a => onInt r2 lb fun b => RgOk a b ∧ ∀ p, P (.nw p (.lst (rngD a (b - a).toNat))) r2) PE) PE
theorem se_listR1 {p p2 pos2 : Pos} {a : Expr} {wa : XW} (hc : X.calm = true) (hg : Gl X "list") (hm : X.mg "list" = none) (hg2 : Gl X "range") (hm2 : X.mg "range" = none) (ha : SE X W a wa) (na : starEach [a] X.env = (false, eval a X.env) :: starEach [] X.env := by rfl)
    (nb : starEach [Expr.Call (.Name "range" p2) [a] [] pos2] X.env = (false, eval (.Call (.Name "range" p2) [a] [] pos2) X.env) :: starEach [] X.env := by rfl) : SE X W (.Call (.Name "list" p) [.Call (.Name "range" p2) [a] [] pos2] [] pos) (wLstR1 wa) := by
  refine pe_imp (pe_listRg hc hg hm (prg_1 hg2 hm2 ha na) nb) fun s H Q q => ?_
  obtain ⟨r, Hs, P, PE, S, w, k, ke⟩ := q
  refine ⟨r, Hs, _, PE, S, w, fun l r1 v Hs1 H1 p o lo n => ?_, ke⟩
  obtain ⟨b, rfl, rfl, p'⟩ := onInt_iff p lo
  refine ⟨b, rfl, p'.1, fun q hq => ?_⟩
  have e : (b - 0).toNat = b.toNat := by rw [Int.sub_zero]
  have rp : Reps (gm X) Hs1 (rgV 0 b) (rngD 0 b.toNat) := by
    have := reps_rg (G := gm X) (H := Hs1) 0 b
    rwa [e] at this
  exact (retL (G := gm X) o.S.ex hq rp).out (P := P) o.S p'.2 fun l r' v Hs' H' p' o' lo' n' => k l r' v Hs' H' p' (o.trans o') lo' (new_th o n')
theorem se_listR2 {p p2 pos2 : Pos} {a b : Expr} {wa wb : XW} (hc : X.calm = true) (hg : Gl X "list") (hm : X.mg "list" = none) (hg2 : Gl X "range") (hm2 : X.mg "range" = none) (ha : SE X W a wa) (hb : SE X W b wb) (na : starEach [a, b] X.env = (false, eval a X.env) :: starEach [b] X.env := by rfl)
    (na2 : starEach [b] X.env = (false, eval b X.env) :: starEach [] X.env := by rfl) (hp2 : (backTo pos2 (starEach [b] X.env)).any (·.1) = false := by rfl)
    (nb : starEach [Expr.Call (.Name "range" p2) [a, b] [] pos2] X.env = (false, eval (.Call (.Name "range" p2) [a, b] [] pos2) X.env) :: starEach [] X.env := by rfl) : SE X W (.Call (.Name "list" p) [.Call (.Name "range" p2) [a, b] [] pos2] [] pos) (wLstR2 wa wb) := by
  refine pe_imp (pe_listRg hc hg hm (prg_2 hg2 hm2 ha hb na na2 hp2) nb) fun s H Q q => ?_
  obtain ⟨r, Hs, P, PE, S, w, k, ke⟩ := q
  refine ⟨r, Hs, _, PE, S, w, fun l r1 v Hs1 H1 p o lo n => ?_, ke⟩
  refine ⟨r1, Hs1, _, PE, o.S, p, fun l2 r2 v2 Hs2 H2 p2 o2 lo2 n2 => ?_, ke.mono o⟩
  obtain ⟨a', rfl, rfl, p'⟩ := onInt_iff p2 (lo.go o2.g)
  obtain ⟨b', rfl, rfl, p''⟩ := onInt_iff p' lo2
  refine ⟨a', b', rfl, rfl, p''.1, fun q hq => ?_⟩
  have oo := o.trans o2
  exact (retL (G := gm X) oo.S.ex hq (reps_rg (G := gm X) (H := Hs2) a' b')).out (P := P) oo.S p''.2 fun l r' v Hs' H' p' o' lo' n' => k l r' v Hs' H' p' (oo.trans o') lo' (new_th oo n')
end

/-! ### def f( *xs) -/
def starF (f : FSpec) : FSpec := fun as Q QE => ∃ ds : List D, as = ds.map Sl.sh ∧ ds.length ≤ sizeLine ∧ f [.sh (.tup ds)] Q QE
theorem args_sh {G : Gm} {Hs H : Hp} : ∀ {vs : List V} {ds : List D}, ArgsOk G Hs H vs (ds.map Sl.sh) → Reps G Hs vs ds
  | _, [], .nil => .nil
  | _, d :: ds, .sh a b => .cons a (args_sh b)
theorem back_sh {G : Gm} {Hs H : Hp} : ∀ {ds : List D}, BackOk G Hs H (ds.map Sl.sh) []
  | [] => .nil
  | d :: ds => .sh back_sh
theorem back_nil {G : Gm} {Hs H : Hp} {d : D} {cs : List Cell} (h : BackOk G Hs H [.sh d] cs) : cs = [] := by
  cases h with
  | sh h => cases h; rfl
theorem noOwn_sh {ds : List D} {a : Addr} : ¬ Own (ds.map Sl.sh) a := fun ⟨i, c, h⟩ => by
  rw [List.getElem?_map] at h
  obtain ⟨d, _, e⟩ := Option.map_eq_some_iff.mp h
  cases e
section
variable {P : Program} {w : World} {K : PySem.W.Frag} {mg : Str → Option Value} {base : Heap}
theorem star_ok {x qual pv : Str} {st : Stmt} {fa : Addr} {fd : FuncData} {N : List Str} {k : Nat} {f : FSpec} (F : Fun K x qual st fa fd) (S : FnScope N [pv] (defScope st)) (wb : WS)
    (hb : ∀ (kV doc pm : Value) (an : Option Addr) (cdv ct : Value) (us rest : List Value), us.length = ([] : List Str).length → bindArgs (PySem.W.fnOf x qual (defArgs st) (defBody st) (defScope st) .none kV doc pm an cdv ct) ⟨us ++ rest, []⟩ = (newTuple rest >>= fun t => pure (([] : List Str).zip us ++ [(pv, t)])))
    (hbody : ∀ (cdv : Value) (A : Around) (outer : List Env) (s : Shared) (H : Hp) (E : XK), Room k (A.deeper (envOfC qual (defScope st) s.heap.objs.size fa cdv)) →
      SSs (cxOf (L2.CX P w) P w K mg base N qual (defScope st) fa cdv A outer s H E) (fun cls d _ H => E cls d H) (defBody st) wb)
    (hw : ∀ (as : List Sl) (Q : LR → List Cell → Prop) (QE : Exc → List Cell → Prop), f as Q QE → wb (rho0 N.length as) (bodyFl as Q QE)) (hm : mg x = some (.ref fa)) : DefOk P w K mg base (k + 1) x (starF f) := by
  obtain ⟨oc, od, kV, doc, pm, an, cdv, ct, osl, rfl, lk, hcd⟩ := F.ex
  refine ⟨fa, (StX.fn_star (k := k) (N := N) (ps := []) (pv := pv) (sp := spF ⟨K, mg⟩ f) lk hcd S StX.cxUp (hb kV doc pm an cdv ct) (fun A outer s H vs Q E hr h => ⟨_, hbody cdv A outer s H E hr, body_ok (K := K) (mg := mg) (qual := qual) (sc := defScope st) (body := defBody st) (fa := fa) (cdv := cdv) (A := A) (outer := outer) (s := s) (H0 := H) (E0 := E) (t := fun _ _ _ => True) hw h⟩)).imp fun vs H Q E h => ?_, hm, F.kp⟩
  obtain ⟨as, Hs, P', PE, A', ex, nd, ⟨ds, rfl, hl, q⟩, kq, ke⟩ := h
  have rp := args_sh A'
  refine ⟨[], vs, rfl, rfl, by rw [rp.length]; exact hl, fun p hp => ?_⟩
  have hs : Hs p = none := Evl.fresh_back ex hp
  have g0 : Go0 Hs H (upd Hs p (.tup vs)) (upd H p (.tup vs)) := Go0.new2 ex hp
  have gg : ∀ {Hs' H' : Hp}, Go (Own [Sl.sh (.tup ds)]) (Own [Sl.sh (.tup ds)]) (upd Hs p (.tup vs)) (upd H p (.tup vs)) Hs' H' → Go (Own (ds.map Sl.sh)) (Own (ds.map Sl.sh)) Hs H Hs' H' := fun {Hs' H'} g => by
    have no1 : ∀ a, ¬ Own [Sl.sh (.tup ds)] a := fun a => noOwn_sh (ds := [.tup ds])
    have g' : Go0 (upd Hs p (.tup vs)) (upd H p (.tup vs)) Hs' H' := ⟨g.ss, fun a u h _ => g.kp a u h (no1 a), fun a u h h2 _ => g.fr a u h h2 (no1 a), fun _ q => q.elim, g.th⟩
    exact Go0.any (Go.trans g0 g')
  refine ⟨[.sh (.tup ds)], upd Hs p (.tup vs), P', PE, .sh (.tup (Evl.st_of upd_same) (rp.mono (Evl.Ex.new hs))) .nil, ex_new2 ex, fun i j p c c' h _ => ((noOwn_sh (ds := [.tup ds])) ⟨i, c, h⟩).elim, q, fun d cs v Hs' H' pd ex' g rv bk => ?_, fun x cs cls dd Hs' H' px ex' g eo bk => ?_⟩
  · obtain rfl := back_nil bk
    refine kq _ _ _ _ _ pd ex' (gg g) ?_ back_sh
    cases rv with
    | val rv => exact .val rv
    | new z1 z2 z3 => exact .new z1 z2 (g0.th _ z3)
  · obtain rfl := back_nil bk
    exact ke _ _ _ _ _ _ px ex' (gg g) eo back_sh
end
end Z

/-! Z10: isinstance, slices of anything, in, targets of an assignment, code that is never reached. -/
namespace Z
open PySem L2
open PyProof.Rows (envOfC)
open Evl (Ex ex_rd ex_l ex_t)
section
variable {X : Cx} {W : WX} {pos : Pos}
@[simp] def wNever : WS := fun _ _ => False
theorem ss_never {st : Stmt} : SS X W st wNever := by
  refine ps_imp ps_never fun D s H q => ?_
  obtain ⟨r, Hs, F, S, w, k⟩ := q
  exact w
/-- a built-in class as a value -/
theorem se_ty {x : Str} {n : String} {pos : Pos} (hg : Gl X x) (hm : X.mg x = none) (hv : bootBuiltins x = some (.type n)) (hn : x ≠ "__name__" := by decide) (hd : (x == ("__debug__" : Str)) = false := by decide) : SE X W (.Name x pos) (wC (.ty n)) :=
  se_c (pe_bltn (v := .ty n) hg hm hv rfl hn hd) fun _ => .ty n
def tyName : D → Option String
  | .non => some "NoneType"
  | .bl _ => some "bool"
  | .int _ => some "int"
  | .str _ => some "str"
  | .tup _ => some "tuple"
  | .lst _ => some "list"
  | .rol _ => some "list"
  | .dic _ => some "dict"
  | _ => none
def gIsi : GC
  | [d, .ty n], P => match tyName d with
    | some t => match kitB t n with
      | some b => P (.val (.bl b))
      | none => False
    | none => False
  | _, _ => False
theorem tyx_rd {K : PySem.W.Frag} {H : Hp} {a : Addr} {xs : List V} (h : SqL K H a xs) : TyX K H (.ref a) (.type "list") := by
  rcases h with (h | ⟨o, h⟩) | ⟨o, its, n, h, c, _⟩
  · exact .base (.lst h)
  · exact .base (.frz h)
  · exact .kList h c
theorem tyx_rt {K : PySem.W.Frag} {H : Hp} {a : Addr} {xs : List V} (h : SqT K H a xs) : TyX K H (.ref a) (.type "tuple") := by
  rcases h with (h | ⟨o, h⟩) | ⟨o, its, n, h, c, _⟩
  · exact .base (.tup h)
  · exact .fTuple h
  · exact .kTuple h c
theorem tyx_of {G : Gm} {Hs H : Hp} {v : V} {d : D} {t : String} (h : RepB G Hs H v d) (e : Ex Hs H) (q : tyName d = some t) : TyX G.K H v (.type t) := by
  cases d with
  | non => cases q; obtain rfl := h.nonv; exact .base .non
  | bl b => cases q; obtain rfl := h.blv; exact .base (.bl _)
  | int b => cases q; obtain rfl := h.intv; exact .base (.int _)
  | str b => cases q; obtain rfl := h.strv; exact .base (.str _)
  | tup ds => cases q; obtain ⟨p, vs, rfl, h1, _⟩ := h.tupv e; exact tyx_rt h1
  | lst ds => cases q; obtain ⟨p, vs, rfl, h1, _⟩ := h.seqLv (ds := ds) rfl e; exact tyx_rd h1
  | rol ds => cases q; obtain ⟨p, vs, rfl, h1, _⟩ := h.seqLv (ds := ds) rfl e; exact tyx_rd h1
  | dic ds => cases q; obtain ⟨p, vs, rfl, h1, _⟩ := h.dicv e; exact (h1.elim (fun h => .base (.dK h)) fun ⟨_, h⟩ => .fDict h)
  | ins _ _ => cases q
  | ty _ => cases q
theorem RepB.tyv {G : Gm} {Hs H : Hp} {v : V} {n : String} (h : RepB G Hs H v (.ty n)) : v = .ty n := by
  rcases h.inv with h | ⟨p, c, _, e, _⟩
  · cases h; rfl
  · cases c <;> cases e
theorem cg_isi : CaG X (.builtin "isinstance") gIsi := by
  refine ⟨_, call_isi, fun xs ds Hs H P Q e rs q k => ?_⟩
  unfold gIsi at q
  split at q
  · rename_i d n
    obtain ⟨v, v', rfl, rx, ry⟩ := rs.two
    obtain rfl := ry.tyv
    split at q
    · rename_i t ht
      split at q
      · rename_i b hb
        exact ⟨v, _, _, _, b, rfl, .ty n, tyx_of rx e ht, kit_ty hb, k _ _ _ _ q (ret0 e (.bl _))⟩
      · exact q.elim
    · exact q.elim
  · exact q.elim
/-! ### slices of lists, tuples, texts -/
def gSlA : GSl
  | .lst xs, lo, hi, P => P (.new (.lst (cutD xs lo hi)))
  | .rol xs, lo, hi, P => P (.new (.lst (cutD xs lo hi)))
  | .tup xs, lo, hi, P => P (.val (.tup (cutD xs lo hi)))
  | .str z, lo, hi, P => z.length ≤ sizeLine ∧ P (.val (.str (cutS z lo hi)))
  | _, _, _, _ => False
theorem cutD_whole {xs : List D} {lo hi : Option Int} (h : HT.sIx xs.length 0 lo = 0 ∧ HT.sIx xs.length xs.length hi = xs.length) : cutD xs lo hi = xs := by
  unfold cutD
  rw [h.1, h.2, List.drop_zero, Nat.sub_zero, List.take_length]
theorem sg_any : SlG X gSlA := by
  refine ⟨_, SlR.or (SlR.or sl_list sl_tupA) sl_str, fun x dx lo hi Hs H P Q e rx q k => ?_⟩
  cases dx <;> simp only [gSlA] at q
  · obtain rfl := rx.strv
    exact .inr ⟨_, rfl, q.1, k _ _ _ _ q.2 (ret0 e (.str _))⟩
  · obtain ⟨p, vs, rfl, hp, r1, r2⟩ := rx.tupv e
    refine .inl (.inr ⟨p, vs, rfl, hp, ?_, ?_⟩)
    · intro h
      rw [r1.length] at h
      rw [cutD_whole h] at q
      exact k _ _ _ _ q (ret0 e r2)
    · intro h l hl
      exact k _ _ _ _ q (retT e hl (reps_cut r1 lo hi))
  · obtain ⟨p, vs, rfl, hp, r1⟩ := rx.seqLv (ds := _) rfl e
    exact .inl (.inl ⟨p, vs, rfl, hp, fun l hl => k _ _ _ _ q (retL e hl (reps_cut r1 lo hi))⟩)
  · obtain ⟨p, vs, rfl, hp, r1⟩ := rx.seqLv (ds := _) rfl e
    exact .inl (.inl ⟨p, vs, rfl, hp, fun l hl => k _ _ _ _ q (retL e hl (reps_cut r1 lo hi))⟩)
/-! ### in, not in -/
def flatD : D → Bool
  | .non => true
  | .bl _ => true
  | .int _ => true
  | .str _ => true
  | _ => false
def eqF : D → D → Bool
  | .non, .non => true
  | .bl a, .bl b => a == b
  | .bl a, .int b => (if a then 1 else 0) == b
  | .int a, .bl b => a == (if b then 1 else 0)
  | .int a, .int b => a == b
  | .str a, .str b => a == b
  | _, _ => false
def inD (x : D) (xs : List D) : Bool := xs.any fun y => eqF y x
/-- x in a list or tuple: flat things; one sign in a text -/
def gIn : G2 := fun x y P => (flatD x = true ∧ ∃ ds, seqD y = some ds ∧ ds.all flatD = true ∧ P (.val (.bl (inD x ds)))) ∨ ∃ c z, x = .str ⟨#[c]⟩ ∧ y = .str z ∧ P (.val (.bl (decide (c ∈ z.cps.toList))))
def gNin : G2 := fun x y P => (flatD x = true ∧ ∃ ds, seqD y = some ds ∧ ds.all flatD = true ∧ P (.val (.bl (!inD x ds)))) ∨ ∃ c z, x = .str ⟨#[c]⟩ ∧ y = .str z ∧ P (.val (.bl (!decide (c ∈ z.cps.toList))))
theorem flat_rep {G : Gm} {H : Hp} {v : V} {d : D} (h : Rep G H v d) (f : flatD d = true) : flatV v = true := by
  cases h <;> first | rfl | cases f
theorem flats_rep {G : Gm} {H : Hp} : ∀ {vs : List V} {ds : List D}, Reps G H vs ds → ds.all flatD = true → vs.all flatV = true
  | _, _, .nil, _ => rfl
  | _, _, .cons a b, f => by
    rw [List.all_cons, Bool.and_eq_true] at f ⊢
    exact ⟨flat_rep a f.1, flats_rep b f.2⟩
theorem eqF_rep {G : Gm} {H : Hp} {v w : V} {d e : D} (h : Rep G H v d) (h' : Rep G H w e) (f : flatD d = true) (f' : flatD e = true) : eqV v w = eqF d e := by
  cases h <;> first | (cases f; done) | (cases h' <;> first | (cases f'; done) | rfl)
theorem inD_rep {G : Gm} {H : Hp} {v : V} {d : D} (h : Rep G H v d) (f : flatD d = true) : ∀ {vs : List V} {ds : List D}, Reps G H vs ds → ds.all flatD = true → inV v vs = inD d ds
  | _, _, .nil, _ => rfl
  | _, _, .cons a b, f' => by
    rw [List.all_cons, Bool.and_eq_true] at f'
    have := inD_rep h f b f'.2
    unfold inV inD at this ⊢
    rw [List.any_cons, List.any_cons, this, eqF_rep a h f'.1 f]
theorem RepB.flat {G : Gm} {Hs H : Hp} {v : V} {d : D} (h : RepB G Hs H v d) (f : flatD d = true) : Rep G Hs v d := by
  rcases h.inv with h | ⟨p, c, _, e, _⟩
  · exact h
  · subst e; cases c <;> cases f
theorem og_in : OpG X (compareOp .In) gIn := by
  refine ⟨_, OpR.or op_in_seq op_in_sign, fun x y dx dy Hs H P Q e rx ry q k => ?_⟩
  rcases q with ⟨fx, ds, h1, h2, q⟩ | ⟨c, z, rfl, rfl, q⟩
  · have rf := rx.flat fx
    refine .inl ?_
    cases dy <;> simp only [seqD] at h1 <;> cases h1
    · obtain ⟨p, vs, rfl, hp, r1, _⟩ := ry.tupv e
      exact ⟨p, vs, rfl, .inr hp, flat_rep rf fx, flats_rep r1 h2, k _ _ _ _ q (by rw [if_neg (by decide), inD_rep rf fx r1 h2]; exact ret0 e (.bl _))⟩
    · obtain ⟨p, vs, rfl, hp, r1⟩ := ry.lstv e
      exact ⟨p, vs, rfl, .inl (Evl.sq_of hp), flat_rep rf fx, flats_rep r1 h2, k _ _ _ _ q (by rw [if_neg (by decide), inD_rep rf fx r1 h2]; exact ret0 e (.bl _))⟩
    · obtain ⟨p, vs, rfl, hp, r1⟩ := ry.seqLv (ds := _) rfl e
      exact ⟨p, vs, rfl, .inl hp, flat_rep rf fx, flats_rep r1 h2, k _ _ _ _ q (by rw [if_neg (by decide), inD_rep rf fx r1 h2]; exact ret0 e (.bl _))⟩
  · obtain rfl := ry.strv; obtain rfl := rx.strv
    exact .inr ⟨c, _, rfl, rfl, k _ _ _ _ q (ret0 e (.bl _))⟩
theorem og_nin : OpG X (compareOp .NotIn) gNin := by
  refine ⟨_, OpR.or op_notIn_seq op_notIn_sign, fun x y dx dy Hs H P Q e rx ry q k => ?_⟩
  rcases q with ⟨fx, ds, h1, h2, q⟩ | ⟨c, z, rfl, rfl, q⟩
  · have rf := rx.flat fx
    refine .inl ?_
    cases dy <;> simp only [seqD] at h1 <;> cases h1
    · obtain ⟨p, vs, rfl, hp, r1, _⟩ := ry.tupv e
      exact ⟨p, vs, rfl, .inr hp, flat_rep rf fx, flats_rep r1 h2, k _ _ _ _ q (by rw [if_pos rfl, inD_rep rf fx r1 h2]; exact ret0 e (.bl _))⟩
    · obtain ⟨p, vs, rfl, hp, r1⟩ := ry.lstv e
      exact ⟨p, vs, rfl, .inl (Evl.sq_of hp), flat_rep rf fx, flats_rep r1 h2, k _ _ _ _ q (by rw [if_pos rfl, inD_rep rf fx r1 h2]; exact ret0 e (.bl _))⟩
    · obtain ⟨p, vs, rfl, hp, r1⟩ := ry.seqLv (ds := _) rfl e
      exact ⟨p, vs, rfl, .inl hp, flat_rep rf fx, flats_rep r1 h2, k _ _ _ _ q (by rw [if_pos rfl, inD_rep rf fx r1 h2]; exact ret0 e (.bl _))⟩
  · obtain rfl := ry.strv; obtain rfl := rx.strv
    exact .inr ⟨c, _, rfl, rfl, k _ _ _ _ q (ret0 e (.bl _))⟩
/-! ### a, b = e -/
@[simp] def wAsgG (g : WG) (w : XW) : WS := fun r F => w r (fun l r1 => withF r1 l fun d r2 => g d r2 F.nx) F.ex
theorem ss_asgG {tg e : Expr} {w : XW} {is : List Nat} {g : WG} (he : SE X W e w) (hg : SG X tg is g) (hs : swapsWithSole [tg] e pos.line X.env = pure false := by rfl) (hw : swappedStores [tg] e X.env = pure none := by rfl)
    (h1 : (assignEach [tg] X.env).map (·.2) = [assign tg X.env] := by rfl) : SS X W (.Assign [tg] e pos) (wAsgG g w) := by
  refine ps_imp (ps_asg he hg hs hw h1) fun D s H q => ?_
  obtain ⟨r, Hs, F, S, w, k⟩ := q
  refine tw_run S w k fun l r1 v Hs1 H1 p o lo n => ?_
  obtain ⟨d, r2, ez, p⟩ := withF_iff p
  obtain ⟨Hs2, S2, rp, g2, _⟩ := lo.frz o.S o.g n ez
  exact ⟨r2, Hs2, d, _, S2, rp, p, fun r3 s3 p3 S3 ow _ => k.nx _ _ _ _ p3 ⟨S3, g2.sub ow⟩⟩
end
end Z

/-! ZR: the laws' reels: their words, their promises. -/
namespace Z
open PySem L2
open PyProof.Rows (envOfC)

def Reel (c : Cell) : Prop := ∃ a b e : Int, c = .lst [.int a, .int b, .int e]
def sp_spin : FSpec := fun as P _ => ∃ p rl t, as = [.own p rl, .sh (.int t)] ∧ Reel rl ∧ 0 < t ∧ t.natAbs.log2 < 9000 ∧ ∀ k rl', Reel rl' → 0 ≤ k → k < t → P (.val (.int k)) [rl']
def sp_pick : FSpec := fun as P _ => ∃ p rl d ds, as = [.own p rl, .sh d] ∧ Reel rl ∧ itemsD d = some ds ∧ ds ≠ [] ∧ ds.length ≤ 1000 ∧ ∀ x rl', Reel rl' → x ∈ ds → P (.val x) [rl']
def sp_reel : FSpec := fun as P _ => ∃ (ns : List Int) (at' : Int), as = [.sh (.rol (ns.map D.int)), .sh (.int at')] ∧ 0 ≤ at' ∧ at' ≤ 1000 ∧ ∀ rl, Reel rl → P (.new rl) []
def wSpin : WS := (wSeq (wIfS (tw2 gGt (w2 gIx (wVar 0) (wC (.int 0))) (wC (.int 0))) (wSeq (wAsg 2 (w2 gMod (wB gInt (waCons (w2 gIx (wVar 0) (wC (.int 0))) waNil)) (wVar 1)))
  (wSeq (wSetL 0 (wC (.int 0)) (w2 gDiv (w2 gIx (wVar 0) (wC (.int 0))) (wVar 1)))
  (wRet (wVar 2)))) wNext)
  (wSeq (wSetL 0 (wC (.int 2)) (w2 gAdd (w2 gIx (wVar 0) (wC (.int 2))) (wC (.int 1))))
  (wSeq (wAsg 3 (w2 gMod (wB gInt (waCons (w2 gAdd (w2 gIx (wVar 0) (wC (.int 1))) (w2 gMul (wC (.int 1000303)) (w2 gIx (wVar 0) (wC (.int 2))))) waNil)) (wC (.int 2305843009213693951))))
  (wSeq (wAsg 4 (w2 gAdd (w2 gMul (w2 gMod (wB gInt (waCons (w2 gMul (wVar 3) (wVar 3)) waNil)) (wC (.int 2305843009213693921))) (wVar 3)) (w2 gMul (wC (.int 9323)) (w2 gIx (wVar 0) (wC (.int 2))))))
  (wSeq (wAsg 4 (w2 gMod (wB gInt (waCons (wVar 4) waNil)) (wC (.int 2305843009213693907))))
  (wRet (w2 gMod (wB gInt (waCons (w2 gDiv (wVar 4) (wC (.int 4096))) waNil)) (wVar 1))))))))
theorem ixN0 {n : Nat} : ixN (n + 1) 0 = some 0 := by unfold ixN; rw [if_pos (by omega), if_pos (by omega)]; rfl
theorem atI_cons0 {α : Type} {x : α} {xs : List α} : atI (x :: xs) 0 = some x := by unfold atI; rw [List.length_cons, ixN0]; rfl
theorem atI_ofNat {α : Type} {xs : List α} {n : Nat} : atI xs (OfNat.ofNat n : Int) = xs[n]? := by
  unfold atI ixN
  have h0 : (0 : Int) ≤ (OfNat.ofNat n : Int) := Int.natCast_nonneg n
  rw [if_pos h0]
  by_cases h : n < xs.length
  · rw [if_pos (show (OfNat.ofNat n : Int) < (xs.length : Int) from Int.ofNat_lt.mpr h)]
    rfl
  · rw [if_neg (show ¬ (OfNat.ofNat n : Int) < (xs.length : Int) from fun z => h (Int.ofNat_lt.mp z)), List.getElem?_eq_none (by omega)]
    rfl
theorem atI_nat {α : Type} {xs : List α} {n : Nat} : atI xs (n : Int) = xs[n]? := atI_ofNat
theorem mul64 {i j : Int} (h : -(2 ^ 64) < i ∧ i < 2 ^ 64) : CMul i j ∨ CMulW i j := .inl (.inl h)
theorem mul64r {i j : Int} (h : -(2 ^ 64) < j ∧ j < 2 ^ 64) : CMul i j ∨ CMulW i j := .inl (.inr h)
theorem spin_w {as Q QE} (h : sp_spin as Q QE) : wSpin (rho0 5 as) (bodyFl as Q QE) := by
  obtain ⟨p, rl, t, rfl, ⟨a, b, e, rfl⟩, ht, hl, k⟩ := h
  refine ite2 (fun h => ?_) (fun h => ?_)
  · refine ⟨ht, ?_⟩
    refine ⟨⟨ht, hl⟩, ?_⟩
    refine ⟨rfl, ?_⟩
    exact k _ _ ⟨_, _, _, rfl⟩ (Int.emod_nonneg _ (by omega)) (Int.emod_lt_of_pos _ ht)
  · refine ⟨mul64 (by decide), ?_⟩
    refine ⟨by decide, ?_⟩
    have h1 : ∀ x : Int, 0 ≤ x % 2305843009213693951 ∧ x % 2305843009213693951 < 2305843009213693951 := fun x => ⟨Int.emod_nonneg _ (by decide), Int.emod_lt_of_pos _ (by decide)⟩
    refine ⟨mul64 (by have := h1 (b + 1000303 * (e + 1)); omega), ?_⟩
    refine ⟨by decide, ?_⟩
    refine ⟨mul64 (by have := Int.emod_nonneg ((b + 1000303 * (e + 1)) % 2305843009213693951 * ((b + 1000303 * (e + 1)) % 2305843009213693951)) (b := 2305843009213693921) (by decide); have := Int.emod_lt_of_pos ((b + 1000303 * (e + 1)) % 2305843009213693951 * ((b + 1000303 * (e + 1)) % 2305843009213693951)) (b := 2305843009213693921) (by decide); omega), ?_⟩
    refine ⟨mul64 (by decide), ?_⟩
    refine ⟨by decide, ?_⟩
    refine ⟨⟨by decide, by decide⟩, ?_⟩
    refine ⟨ht, ?_⟩
    refine ⟨rfl, ?_⟩
    exact k _ _ ⟨_, _, _, rfl⟩ (Int.emod_nonneg _ (by omega)) (Int.emod_lt_of_pos _ ht)
theorem atI_lt {α : Type} {xs : List α} {k : Int} (h0 : 0 ≤ k) (h : k < (xs.length : Int)) : ∃ x, atI xs k = some x ∧ x ∈ xs := by
  obtain ⟨n, rfl⟩ := Int.eq_ofNat_of_zero_le h0
  have hn : n < xs.length := by omega
  exact ⟨xs[n], by rw [atI_nat, List.getElem?_eq_getElem hn], List.getElem_mem hn⟩
theorem log2_small {n : Nat} (h : n ≤ 1000) : ((n : Int)).natAbs.log2 < 9000 := by
  show n.log2 < 9000
  by_cases h0 : n = 0
  · subst h0; decide
  · have := (Nat.log2_lt h0).mpr (show n < 2 ^ 9000 from Nat.lt_of_le_of_lt h (Nat.lt_of_lt_of_le (show 1000 < 2 ^ 10 by decide) (Nat.pow_le_pow_right (by decide) (by decide))))
    exact this
def wPick : WS := (wRet (w2 gIx (wVar 1) (wCall sp_spin [true, false] (waCons (wVar 0) (waCons (wB gLen (waCons (wVar 1) waNil)) waNil)))))
theorem pick_w {as Q QE} (h : sp_pick as Q QE) : wPick (rho0 2 as) (bodyFl as Q QE) := by
  obtain ⟨p, rl, d, ds, rfl, hr, hi, hne, hl, k⟩ := h
  have pos : 0 < ds.length := List.length_pos_iff.mpr hne
  cases d with
  | lst xs | rol xs | tup xs =>
    cases hi
    refine ⟨_, _, _, rfl, hr, by omega, log2_small hl, fun j rl' hr' h0 h1 => ?_⟩
    obtain ⟨x, e, hx⟩ := atI_lt h0 h1
    show match atI ds j with | some d => _ | none => False
    rw [e]
    refine ⟨rfl, ?_⟩
    exact k _ _ hr' hx
  | str z =>
    cases hi
    have lz : (strD z).length = z.cps.toList.length := by unfold strD; rw [List.length_map]
    have lz2 : z.length = z.cps.toList.length := by first | rfl | (unfold Str.length; simp)
    have sm : z.length ≤ sizeLine := by rw [lz2, ← lz]; exact Nat.le_trans hl (by decide)
    refine ⟨sm, ?_⟩
    refine ⟨_, _, _, rfl, hr, by omega, log2_small (by omega), fun j rl' hr' h0 h1 => ?_⟩
    refine ⟨sm, ?_⟩
    obtain ⟨x, e, hx⟩ := atI_lt (xs := z.cps.toList) h0 (by omega)
    show match atI z.cps.toList j with | some c => _ | none => False
    rw [e]
    refine ⟨rfl, ?_⟩
    exact k _ _ hr' (List.mem_map.mpr ⟨x, hx, rfl⟩)
  | _ => cases hi
def wReel : WS := (wSeq (wAsg 2 (wIf (tw2 gLt (wVar 1) (wB gLen (waCons (wVar 0) waNil))) (w2 gIx (wVar 0) (wVar 1)) (w2 gAdd (w2 gMul (wC (.int 59)) (wVar 1)) (wC (.int 13)))))
  (wSeq (wAsg 3 (w2 gMod (wB gInt (waCons (wB gAbs (waCons (wVar 2) waNil)) waNil)) (w2 gPow (w2 gPow (wC (.int 10)) (wC (.int 58))) (wC (.int 10)))))
  (wSeq (wAsg 4 (w2 gAdd (w2 gAdd (w2 gAdd (w2 gMul (w2 gMod (wB gInt (waCons (wVar 3) waNil)) (wC (.int 2147483477))) (wC (.int 50021))) (w2 gMul (wC (.int 4007)) (wVar 1))) (w2 gMul (wC (.int 29)) (wB gInt (waCons (w2 gLt (wVar 2) (wC (.int 0))) waNil)))) (wC (.int 61))))
  (wRet (wLst (waCons (wB gMax (waCons (wC (.int 0)) (waCons (w2 gSub (wVar 3) (w2 gPow (wC (.int 10)) (wC (.int 18)))) waNil))) (waCons (w2 gMod (wB gInt (waCons (wVar 4) waNil)) (wC (.int 2147483423))) (waCons (wC (.int 0)) waNil))))))))
theorem cpow_small {i j : Int} (h : 0 ≤ j ∧ (Builtin.Int.intBits i : Int) * j ≤ 2 ^ 27) : CPowB i j := h
theorem reel_w {as Q QE} (h : sp_reel as Q QE) : wReel (rho0 5 as) (bodyFl as Q QE) := by
  obtain ⟨ns, a, rfl, h0, h1, k⟩ := h
  have rest : ∀ c : Int, (wSeq (wAsg 3 (w2 gMod (wB gInt (waCons (wB gAbs (waCons (wVar 2) waNil)) waNil)) (w2 gPow (w2 gPow (wC (.int 10)) (wC (.int 58))) (wC (.int 10)))))
  (wSeq (wAsg 4 (w2 gAdd (w2 gAdd (w2 gAdd (w2 gMul (w2 gMod (wB gInt (waCons (wVar 3) waNil)) (wC (.int 2147483477))) (wC (.int 50021))) (w2 gMul (wC (.int 4007)) (wVar 1))) (w2 gMul (wC (.int 29)) (wB gInt (waCons (w2 gLt (wVar 2) (wC (.int 0))) waNil)))) (wC (.int 61))))
  (wRet (wLst (waCons (wB gMax (waCons (wC (.int 0)) (waCons (w2 gSub (wVar 3) (w2 gPow (wC (.int 10)) (wC (.int 18)))) waNil))) (waCons (w2 gMod (wB gInt (waCons (wVar 4) waNil)) (wC (.int 2147483423))) (waCons (wC (.int 0)) waNil))))))) [.sh (.rol (ns.map D.int)), .sh (.int a), .sh (.int c), .no, .no] (bodyFl [.sh (.rol (ns.map D.int)), .sh (.int a)] Q QE) := fun c => by
    refine ⟨cpow_small (by decide +kernel), ?_⟩
    refine ⟨cpow_small (by decide +kernel), ?_⟩
    refine ⟨by decide +kernel, ?_⟩
    refine ⟨by decide, ?_⟩
    refine ⟨mul64r (by decide), ?_⟩
    refine ⟨mul64 (by decide), ?_⟩
    refine ⟨mul64 (by decide), ?_⟩
    refine ⟨cpow_small (by decide +kernel), ?_⟩
    refine ⟨by decide, ?_⟩
    refine ⟨(show (3 : Nat) ≤ sizeLine from by decide), fun p => ?_⟩
    exact k _ ⟨_, _, _, rfl⟩
  refine ite2 (fun h => ?_) (fun h => ?_)
  · obtain ⟨x, e, hx⟩ := atI_lt (xs := ns.map D.int) h0 (of_decide_eq_true h)
    show match atI (ns.map D.int) a with | some d => _ | none => False
    rw [e]
    obtain ⟨c, _, rfl⟩ := List.mem_map.mp hx
    exact rest c
  · refine ⟨mul64 (by decide), ?_⟩
    exact rest _
end Z

/-! ZE: the ends: the law's promise under every top, no exception leaves. -/
namespace Z
open PySem L2
theorem iteD {p A B : Prop} [Decidable p] (hp : p) (h : A) : if decide p = true then A else B := by rw [if_pos (decide_eq_true hp)]; exact h
theorem iteN {p A B : Prop} [Decidable p] (hp : ¬ p) (h : B) : if decide p = true then A else B := by rw [if_neg (fun e => hp (of_decide_eq_true e))]; exact h
theorem ite2d {p A B : Prop} [Decidable p] (h1 : p → A) (h2 : ¬ p → B) : if decide p = true then A else B := by
  by_cases hp : p
  · exact iteD hp (h1 hp)
  · exact iteN hp (h2 hp)
theorem iteDn {p A B : Prop} [Decidable p] (hp : p) (h : B) : if (!decide p) = true then A else B := by rw [decide_eq_true hp]; exact h
theorem iteNn {p A B : Prop} [Decidable p] (hp : ¬ p) (h : A) : if (!decide p) = true then A else B := by rw [decide_eq_false hp]; exact h
theorem ite2n {p A B : Prop} [Decidable p] (h1 : ¬ p → A) (h2 : p → B) : if (!decide p) = true then A else B := by
  by_cases hp : p
  · exact iteDn hp (h2 hp)
  · exact iteNn hp (h1 hp)
theorem iteNo {A B : Prop} (h : B) : if false = true then A else B := by rw [if_neg (by decide)]; exact h
theorem yesQ (Q : LR → List Cell → Prop) {p : Prop} [Decidable p] {cs} (hp : p) (h : Q (.val (.bl true)) cs) : Q (.val (.bl (decide p))) cs := by rw [decide_eq_true hp]; exact h
theorem noQ (Q : LR → List Cell → Prop) {p : Prop} [Decidable p] {cs} (hp : ¬ p) (h : Q (.val (.bl false)) cs) : Q (.val (.bl (decide p))) cs := by rw [decide_eq_false hp]; exact h
theorem intQ (Q : LR → List Cell → Prop) {i j : Int} {cs} (e : i = j) (h : Q (.val (.int j)) cs) : Q (.val (.int i)) cs := by rw [e]; exact h
open PyProof.Rows (envOfC)
/-- a cut: here the state is written anew -/
structure Norm (r : Rho) (k : Rho → Prop) : Prop where
  h : k r
@[simp] def wCut (t u : WS) : WS := fun r F => t r { F with nx := fun r' => Norm r' fun r'' => u r'' F }
theorem ss_cut {X : Cx} {W : WX} {st : Stmt} {rest : List Stmt} {wt ws : WS} (h1 : SS X W st wt) (h2 : SSs X W rest ws) : SSs X W (st :: rest) (wCut wt ws) := by
  refine pss_imp (pss_cons h1 h2) fun D s H q => ?_
  obtain ⟨r, Hs, F, S, w, k⟩ := q
  exact ⟨r, Hs, _, S, w, fun r' s' Hs' H' h o => ⟨r', Hs', F, o.S, h.h, k.mono o⟩, k.rt, k.bk, k.ct, k.ex⟩
theorem nm1 {k : Rho → Prop} {a0 : Sl} (h : k [a0]) : Norm [a0] k := ⟨h⟩
theorem nm2 {k : Rho → Prop} {a0 a1 : Sl} (h : k [a0, a1]) : Norm [a0, a1] k := ⟨h⟩
theorem nm3 {k : Rho → Prop} {a0 a1 a2 : Sl} (h : k [a0, a1, a2]) : Norm [a0, a1, a2] k := ⟨h⟩
theorem nm4 {k : Rho → Prop} {a0 a1 a2 a3 : Sl} (h : k [a0, a1, a2, a3]) : Norm [a0, a1, a2, a3] k := ⟨h⟩
theorem nm5 {k : Rho → Prop} {a0 a1 a2 a3 a4 : Sl} (h : k [a0, a1, a2, a3, a4]) : Norm [a0, a1, a2, a3, a4] k := ⟨h⟩
theorem nm6 {k : Rho → Prop} {a0 a1 a2 a3 a4 a5 : Sl} (h : k [a0, a1, a2, a3, a4, a5]) : Norm [a0, a1, a2, a3, a4, a5] k := ⟨h⟩
theorem nm7 {k : Rho → Prop} {a0 a1 a2 a3 a4 a5 a6 : Sl} (h : k [a0, a1, a2, a3, a4, a5, a6]) : Norm [a0, a1, a2, a3, a4, a5, a6] k := ⟨h⟩
theorem nm8 {k : Rho → Prop} {a0 a1 a2 a3 a4 a5 a6 a7 : Sl} (h : k [a0, a1, a2, a3, a4, a5, a6, a7]) : Norm [a0, a1, a2, a3, a4, a5, a6, a7] k := ⟨h⟩
theorem nm9 {k : Rho → Prop} {a0 a1 a2 a3 a4 a5 a6 a7 a8 : Sl} (h : k [a0, a1, a2, a3, a4, a5, a6, a7, a8]) : Norm [a0, a1, a2, a3, a4, a5, a6, a7, a8] k := ⟨h⟩
theorem nm10 {k : Rho → Prop} {a0 a1 a2 a3 a4 a5 a6 a7 a8 a9 : Sl} (h : k [a0, a1, a2, a3, a4, a5, a6, a7, a8, a9]) : Norm [a0, a1, a2, a3, a4, a5, a6, a7, a8, a9] k := ⟨h⟩
theorem nm11 {k : Rho → Prop} {a0 a1 a2 a3 a4 a5 a6 a7 a8 a9 a10 : Sl} (h : k [a0, a1, a2, a3, a4, a5, a6, a7, a8, a9, a10]) : Norm [a0, a1, a2, a3, a4, a5, a6, a7, a8, a9, a10] k := ⟨h⟩
theorem nm12 {k : Rho → Prop} {a0 a1 a2 a3 a4 a5 a6 a7 a8 a9 a10 a11 : Sl} (h : k [a0, a1, a2, a3, a4, a5, a6, a7, a8, a9, a10, a11]) : Norm [a0, a1, a2, a3, a4, a5, a6, a7, a8, a9, a10, a11] k := ⟨h⟩
theorem nm13 {k : Rho → Prop} {a0 a1 a2 a3 a4 a5 a6 a7 a8 a9 a10 a11 a12 : Sl} (h : k [a0, a1, a2, a3, a4, a5, a6, a7, a8, a9, a10, a11, a12]) : Norm [a0, a1, a2, a3, a4, a5, a6, a7, a8, a9, a10, a11, a12] k := ⟨h⟩
theorem nm14 {k : Rho → Prop} {a0 a1 a2 a3 a4 a5 a6 a7 a8 a9 a10 a11 a12 a13 : Sl} (h : k [a0, a1, a2, a3, a4, a5, a6, a7, a8, a9, a10, a11, a12, a13]) : Norm [a0, a1, a2, a3, a4, a5, a6, a7, a8, a9, a10, a11, a12, a13] k := ⟨h⟩
theorem nm15 {k : Rho → Prop} {a0 a1 a2 a3 a4 a5 a6 a7 a8 a9 a10 a11 a12 a13 a14 : Sl} (h : k [a0, a1, a2, a3, a4, a5, a6, a7, a8, a9, a10, a11, a12, a13, a14]) : Norm [a0, a1, a2, a3, a4, a5, a6, a7, a8, a9, a10, a11, a12, a13, a14] k := ⟨h⟩
theorem nm16 {k : Rho → Prop} {a0 a1 a2 a3 a4 a5 a6 a7 a8 a9 a10 a11 a12 a13 a14 a15 : Sl} (h : k [a0, a1, a2, a3, a4, a5, a6, a7, a8, a9, a10, a11, a12, a13, a14, a15]) : Norm [a0, a1, a2, a3, a4, a5, a6, a7, a8, a9, a10, a11, a12, a13, a14, a15] k := ⟨h⟩
theorem nm17 {k : Rho → Prop} {a0 a1 a2 a3 a4 a5 a6 a7 a8 a9 a10 a11 a12 a13 a14 a15 a16 : Sl} (h : k [a0, a1, a2, a3, a4, a5, a6, a7, a8, a9, a10, a11, a12, a13, a14, a15, a16]) : Norm [a0, a1, a2, a3, a4, a5, a6, a7, a8, a9, a10, a11, a12, a13, a14, a15, a16] k := ⟨h⟩
theorem nm18 {k : Rho → Prop} {a0 a1 a2 a3 a4 a5 a6 a7 a8 a9 a10 a11 a12 a13 a14 a15 a16 a17 : Sl} (h : k [a0, a1, a2, a3, a4, a5, a6, a7, a8, a9, a10, a11, a12, a13, a14, a15, a16, a17]) : Norm [a0, a1, a2, a3, a4, a5, a6, a7, a8, a9, a10, a11, a12, a13, a14, a15, a16, a17] k := ⟨h⟩
theorem nm19 {k : Rho → Prop} {a0 a1 a2 a3 a4 a5 a6 a7 a8 a9 a10 a11 a12 a13 a14 a15 a16 a17 a18 : Sl} (h : k [a0, a1, a2, a3, a4, a5, a6, a7, a8, a9, a10, a11, a12, a13, a14, a15, a16, a17, a18]) : Norm [a0, a1, a2, a3, a4, a5, a6, a7, a8, a9, a10, a11, a12, a13, a14, a15, a16, a17, a18] k := ⟨h⟩
theorem nm20 {k : Rho → Prop} {a0 a1 a2 a3 a4 a5 a6 a7 a8 a9 a10 a11 a12 a13 a14 a15 a16 a17 a18 a19 : Sl} (h : k [a0, a1, a2, a3, a4, a5, a6, a7, a8, a9, a10, a11, a12, a13, a14, a15, a16, a17, a18, a19]) : Norm [a0, a1, a2, a3, a4, a5, a6, a7, a8, a9, a10, a11, a12, a13, a14, a15, a16, a17, a18, a19] k := ⟨h⟩
theorem nm21 {k : Rho → Prop} {a0 a1 a2 a3 a4 a5 a6 a7 a8 a9 a10 a11 a12 a13 a14 a15 a16 a17 a18 a19 a20 : Sl} (h : k [a0, a1, a2, a3, a4, a5, a6, a7, a8, a9, a10, a11, a12, a13, a14, a15, a16, a17, a18, a19, a20]) : Norm [a0, a1, a2, a3, a4, a5, a6, a7, a8, a9, a10, a11, a12, a13, a14, a15, a16, a17, a18, a19, a20] k := ⟨h⟩
theorem nm22 {k : Rho → Prop} {a0 a1 a2 a3 a4 a5 a6 a7 a8 a9 a10 a11 a12 a13 a14 a15 a16 a17 a18 a19 a20 a21 : Sl} (h : k [a0, a1, a2, a3, a4, a5, a6, a7, a8, a9, a10, a11, a12, a13, a14, a15, a16, a17, a18, a19, a20, a21]) : Norm [a0, a1, a2, a3, a4, a5, a6, a7, a8, a9, a10, a11, a12, a13, a14, a15, a16, a17, a18, a19, a20, a21] k := ⟨h⟩
theorem nm23 {k : Rho → Prop} {a0 a1 a2 a3 a4 a5 a6 a7 a8 a9 a10 a11 a12 a13 a14 a15 a16 a17 a18 a19 a20 a21 a22 : Sl} (h : k [a0, a1, a2, a3, a4, a5, a6, a7, a8, a9, a10, a11, a12, a13, a14, a15, a16, a17, a18, a19, a20, a21, a22]) : Norm [a0, a1, a2, a3, a4, a5, a6, a7, a8, a9, a10, a11, a12, a13, a14, a15, a16, a17, a18, a19, a20, a21, a22] k := ⟨h⟩
theorem nm24 {k : Rho → Prop} {a0 a1 a2 a3 a4 a5 a6 a7 a8 a9 a10 a11 a12 a13 a14 a15 a16 a17 a18 a19 a20 a21 a22 a23 : Sl} (h : k [a0, a1, a2, a3, a4, a5, a6, a7, a8, a9, a10, a11, a12, a13, a14, a15, a16, a17, a18, a19, a20, a21, a22, a23]) : Norm [a0, a1, a2, a3, a4, a5, a6, a7, a8, a9, a10, a11, a12, a13, a14, a15, a16, a17, a18, a19, a20, a21, a22, a23] k := ⟨h⟩
theorem nm25 {k : Rho → Prop} {a0 a1 a2 a3 a4 a5 a6 a7 a8 a9 a10 a11 a12 a13 a14 a15 a16 a17 a18 a19 a20 a21 a22 a23 a24 : Sl} (h : k [a0, a1, a2, a3, a4, a5, a6, a7, a8, a9, a10, a11, a12, a13, a14, a15, a16, a17, a18, a19, a20, a21, a22, a23, a24]) : Norm [a0, a1, a2, a3, a4, a5, a6, a7, a8, a9, a10, a11, a12, a13, a14, a15, a16, a17, a18, a19, a20, a21, a22, a23, a24] k := ⟨h⟩
theorem nm26 {k : Rho → Prop} {a0 a1 a2 a3 a4 a5 a6 a7 a8 a9 a10 a11 a12 a13 a14 a15 a16 a17 a18 a19 a20 a21 a22 a23 a24 a25 : Sl} (h : k [a0, a1, a2, a3, a4, a5, a6, a7, a8, a9, a10, a11, a12, a13, a14, a15, a16, a17, a18, a19, a20, a21, a22, a23, a24, a25]) : Norm [a0, a1, a2, a3, a4, a5, a6, a7, a8, a9, a10, a11, a12, a13, a14, a15, a16, a17, a18, a19, a20, a21, a22, a23, a24, a25] k := ⟨h⟩
theorem nm27 {k : Rho → Prop} {a0 a1 a2 a3 a4 a5 a6 a7 a8 a9 a10 a11 a12 a13 a14 a15 a16 a17 a18 a19 a20 a21 a22 a23 a24 a25 a26 : Sl} (h : k [a0, a1, a2, a3, a4, a5, a6, a7, a8, a9, a10, a11, a12, a13, a14, a15, a16, a17, a18, a19, a20, a21, a22, a23, a24, a25, a26]) : Norm [a0, a1, a2, a3, a4, a5, a6, a7, a8, a9, a10, a11, a12, a13, a14, a15, a16, a17, a18, a19, a20, a21, a22, a23, a24, a25, a26] k := ⟨h⟩
theorem nm28 {k : Rho → Prop} {a0 a1 a2 a3 a4 a5 a6 a7 a8 a9 a10 a11 a12 a13 a14 a15 a16 a17 a18 a19 a20 a21 a22 a23 a24 a25 a26 a27 : Sl} (h : k [a0, a1, a2, a3, a4, a5, a6, a7, a8, a9, a10, a11, a12, a13, a14, a15, a16, a17, a18, a19, a20, a21, a22, a23, a24, a25, a26, a27]) : Norm [a0, a1, a2, a3, a4, a5, a6, a7, a8, a9, a10, a11, a12, a13, a14, a15, a16, a17, a18, a19, a20, a21, a22, a23, a24, a25, a26, a27] k := ⟨h⟩
theorem nm29 {k : Rho → Prop} {a0 a1 a2 a3 a4 a5 a6 a7 a8 a9 a10 a11 a12 a13 a14 a15 a16 a17 a18 a19 a20 a21 a22 a23 a24 a25 a26 a27 a28 : Sl} (h : k [a0, a1, a2, a3, a4, a5, a6, a7, a8, a9, a10, a11, a12, a13, a14, a15, a16, a17, a18, a19, a20, a21, a22, a23, a24, a25, a26, a27, a28]) : Norm [a0, a1, a2, a3, a4, a5, a6, a7, a8, a9, a10, a11, a12, a13, a14, a15, a16, a17, a18, a19, a20, a21, a22, a23, a24, a25, a26, a27, a28] k := ⟨h⟩
theorem nm30 {k : Rho → Prop} {a0 a1 a2 a3 a4 a5 a6 a7 a8 a9 a10 a11 a12 a13 a14 a15 a16 a17 a18 a19 a20 a21 a22 a23 a24 a25 a26 a27 a28 a29 : Sl} (h : k [a0, a1, a2, a3, a4, a5, a6, a7, a8, a9, a10, a11, a12, a13, a14, a15, a16, a17, a18, a19, a20, a21, a22, a23, a24, a25, a26, a27, a28, a29]) : Norm [a0, a1, a2, a3, a4, a5, a6, a7, a8, a9, a10, a11, a12, a13, a14, a15, a16, a17, a18, a19, a20, a21, a22, a23, a24, a25, a26, a27, a28, a29] k := ⟨h⟩
/-- a comprehension whose state stays -/
theorem lc_map {g : WG} {t : TWt} {we : XW} {still : Rho → Prop} {vs : List Nat} {r : Rho} {P : List D → Rho → Prop} (f : D → Option D) : ∀ (ds acc : List D),
    (∀ d acc ds', d ∈ ds → (match f d with | some e => lcW g t we still vs ds' (acc ++ [e]) r P | none => lcW g t we still vs ds' acc r P) → lcW g t we still vs (d :: ds') acc r P) →
    P (acc ++ ds.filterMap f) r → lcW g t we still vs ds acc r P
  | [], acc, _, h => by rw [List.filterMap_nil, List.append_nil] at h; exact h
  | d :: ds, acc, st, h => by
    refine st d acc ds (List.mem_cons_self ..) ?_
    cases e : f d with
    | some x =>
      refine lc_map f ds (acc ++ [x]) (fun d acc ds' hd => st d acc ds' (List.mem_cons_of_mem _ hd)) ?_
      rw [List.filterMap_cons_some e] at h
      rw [List.append_assoc]
      exact h
    | none =>
      refine lc_map f ds acc (fun d acc ds' hd => st d acc ds' (List.mem_cons_of_mem _ hd)) ?_
      rw [List.filterMap_cons_none e] at h
      exact h
/-- a loop whose state stays -/
theorem for_fix {g : WG} {b : WS} {still : Rho → Prop} {r : Rho} {F : Fl} : ∀ (ds : List D), (∀ d ds', d ∈ ds → forW g b still ds' r F → forW g b still (d :: ds') r F) → F.nx r → forW g b still ds r F
  | [], _, h => h
  | d :: ds, st, h => st d ds (List.mem_cons_self ..) (for_fix ds (fun d ds' hd => st d ds' (List.mem_cons_of_mem _ hd)) h)
theorem for_inv {g : WG} {b : WS} {still : Rho → Prop} {F : Fl} (I : Rho → Prop) : ∀ (ds : List D) (r : Rho), I r → (∀ d ds' r, d ∈ ds → I r → (∀ r', I r' → forW g b still ds' r' F) → forW g b still (d :: ds') r F) → (∀ r, I r → F.nx r) → forW g b still ds r F
  | [], r, i, _, h => h r i
  | d :: ds, r, i, st, h => st d ds r (List.mem_cons_self ..) i fun r' i' => for_inv I ds r' i' (fun d ds' r hd => st d ds' r (List.mem_cons_of_mem _ hd)) h
theorem mem_rngD {lo : Int} {n : Nat} {d : D} (h : d ∈ rngD lo n) : ∃ i : Int, d = .int i ∧ lo ≤ i ∧ i < lo + n := by
  unfold rngD at h
  obtain ⟨i, hi, rfl⟩ := List.mem_map.mp h
  have := List.mem_range.mp hi
  exact ⟨_, rfl, by omega, by omega⟩
theorem fm_rng {lo : Int} {n : Nat} {f : D → Option D} {g : Nat → D} (h : ∀ i : Nat, f (.int (lo + (i : Int))) = some (g i)) : (rngD lo n).filterMap f = (List.range n).map g := by
  unfold rngD
  rw [List.filterMap_map, show (f ∘ fun (i : Nat) => D.int (lo + (i : Int))) = fun i => some (g i) from funext h]
  exact congrFun List.filterMap_eq_map' _
/-- the law: one read-only list of numbers; True is its answer -/
def sp_law : FSpec := fun as P _ => ∃ ns : List Int, as = [.sh (.rol (ns.map D.int))] ∧ ns.length ≤ 63 ∧ P (.val (.bl true)) []
def spLaw (K : PySem.W.Frag) : Sp := fun vs H Q E => ∀ mg, spF ⟨K, mg⟩ sp_law vs H Q E
theorem law_sp (K : PySem.W.Frag) (H : Hp) (a : Addr) (ns : List Int) (hl : ns.length ≤ 63) (hS : SqL K H a (ns.map V.int)) : spLaw K [.ref a] H (fun v _ => v = .bl true) fun _ _ _ => False := by
  intro mg
  refine ⟨[.sh (.rol (ns.map D.int))], H, fun d cs => d = .val (.bl true), fun _ _ => False, .sh (.rol hS (reps_ints ns)) .nil, (fun _ _ q => q), ?_, ⟨ns, rfl, hl, rfl⟩, ?_, ?_⟩
  · intro i j p c c' h
    cases i with
    | zero => simp at h
    | succ i => simp at h
  · rintro d cs v Hs' H' rfl e g r b
    cases r with
    | val r => cases r; rfl
  · intro x cs cls dd Hs' H' h
    exact h.elim
theorem law_fn {P : Program} {w : World} {K : PySem.W.Frag} {mg : Str → Option Value} {base : Heap} {CX : CXT} {k : Nat} {fa : Addr} {fd : FuncData} {ps : List Str} (F : FnOk P w K mg base CX k fa fd ps (spF ⟨K, mg⟩ sp_law)) : FnOk P w K mg base CX k fa fd ps (spLaw K) :=
  F.imp fun _ _ _ _ h => h mg
theorem walk {l : PySem.W.OpenLaw} {q : Program} {k : Nat} {loose : List Str} {XP : (Str → Option Value) → Heap → Prop} {YP : World → Heap → Prop} {d : DefRec} {K : Params → PySem.W.Frag} (hn : l.most = some 63) (hdf : d.params.defaults = []) (hr : Room k callerA)
    (hY : ∀ (w : World) (h : Heap), YP w h → (K w.params).In h)
    (F : ∀ (w : World) (mg : Str → Option Value) (fa : Addr) (h : Heap), (K w.params).In h → h.Ns mainGlobals mg → mg d.name = some (.ref fa) →
      ∃ fd : FuncData, (∀ (s : Shared) (u : Value), BindsTo s fd ⟨[u], []⟩ [("script", u)]) ∧ ∀ base : Heap, (K w.params).In base → base.Ns mainGlobals mg → FnOk l.prog w (K w.params) mg base (L2.CX l.prog w) k fa fd ["script"] (spLaw (K w.params))) :
    PySem.W.WalkO q loose XP YP l.row.toRowW d [] (fun f vs => PySem.call f vs) :=
  L2.walk_of (n := 63) (k := k) (x := "script") (CX := fun w => L2.CX l.prog w) (sp := fun w => spLaw (K w.params)) hn (by decide) hdf hr hY F (fun w H a ns hl _ hS => law_sp (K w.params) H a ns hl hS) fun w H s e s' h => by
    obtain ⟨a, B, H', cls, dd, _, _, _, _, _, _, _, h⟩ := h
    exact h
end Z

/-! ZF: plain data and its equality; a few drawn out of a list; a loop by the items that are left. -/
namespace Z
open PySem L2
open PyProof.Rows (envOfC)
theorem for_rel {g : WG} {b : WS} {still : Rho → Prop} {F : Fl} (I : List D → Rho → Prop) : ∀ (ds : List D) (r : Rho), I ds r → (∀ d ds' r, I (d :: ds') r → (∀ r', I ds' r' → forW g b still ds' r' F) → forW g b still (d :: ds') r F) → (∀ r, I [] r → F.nx r) → forW g b still ds r F
  | [], r, i, _, h => h r i
  | d :: ds, r, i, st, h => st d ds r i fun r' i' => for_rel I ds r' i' st h
theorem lc_rel {g : WG} {t : TWt} {we : XW} {still : Rho → Prop} {vs : List Nat} {P : List D → Rho → Prop} (I : List D → List D → Rho → Prop) : ∀ (ds acc : List D) (r : Rho), I ds acc r →
    (∀ d ds' acc r, I (d :: ds') acc r → (∀ acc' r', I ds' acc' r' → lcW g t we still vs ds' acc' r' P) → lcW g t we still vs (d :: ds') acc r P) → (∀ acc r, I [] acc r → P acc r) → lcW g t we still vs ds acc r P
  | [], acc, r, i, _, h => h acc r i
  | d :: ds, acc, r, i, st, h => st d ds acc r i fun acc' r' i' => lc_rel I ds acc' r' i' st h
def rngI (lo : Int) (n : Nat) : List Int := (List.range n).map fun (i : Nat) => lo + (i : Int)
theorem rngD_eq (lo : Int) (n : Nat) : rngD lo n = (rngI lo n).map D.int := by unfold rngD rngI; rw [List.map_map]; rfl
theorem mem_rngI {lo : Int} {n : Nat} {i : Int} (h : i ∈ rngI lo n) : lo ≤ i ∧ i < lo + n := by
  unfold rngI at h
  obtain ⟨k, hk, rfl⟩ := List.mem_map.mp h
  have := List.mem_range.mp hk
  exact ⟨by omega, by omega⟩
/-- a comprehension that keeps some of the items -/
theorem lc_keep {α : Type} {φ : α → D} {g : WG} {t : TWt} {we : XW} {still : Rho → Prop} {vs : List Nat} {r : Rho} {P : List D → Rho → Prop} (b : α → Bool) : ∀ (ns : List α) (acc : List D),
    (∀ i acc ds', i ∈ ns → (b i = true → lcW g t we still vs ds' (acc ++ [φ i]) r P) → (b i = false → lcW g t we still vs ds' acc r P) → lcW g t we still vs (φ i :: ds') acc r P) →
    P (acc ++ (ns.filter b).map φ) r → lcW g t we still vs (ns.map φ) acc r P
  | [], acc, _, h => by rw [List.filter_nil, List.map_nil, List.append_nil] at h; exact h
  | i :: ns, acc, st, h => by
    refine st i acc (ns.map φ) (List.mem_cons_self ..) (fun e => ?_) (fun e => ?_)
    · refine lc_keep b ns _ (fun i acc ds' hd => st i acc ds' (List.mem_cons_of_mem _ hd)) ?_
      rw [List.filter_cons_of_pos e] at h
      rw [List.append_assoc]
      exact h
    · refine lc_keep b ns _ (fun i acc ds' hd => st i acc ds' (List.mem_cons_of_mem _ hd)) ?_
      rw [List.filter_cons_of_neg (by rw [e]; decide)] at h
      exact h
/-- a comprehension that makes one of each -/
theorem lc_each {α : Type} {φ ψ : α → D} {g : WG} {t : TWt} {we : XW} {still : Rho → Prop} {vs : List Nat} {r : Rho} {P : List D → Rho → Prop} : ∀ (ns : List α) (acc : List D),
    (∀ i acc ds', i ∈ ns → lcW g t we still vs ds' (acc ++ [ψ i]) r P → lcW g t we still vs (φ i :: ds') acc r P) →
    P (acc ++ ns.map ψ) r → lcW g t we still vs (ns.map φ) acc r P
  | [], acc, _, h => by rw [List.map_nil, List.append_nil] at h; exact h
  | i :: ns, acc, st, h => by
    refine st i acc (ns.map φ) (List.mem_cons_self ..) (lc_each ns _ (fun i acc ds' hd => st i acc ds' (List.mem_cons_of_mem _ hd)) ?_)
    rw [List.append_assoc]
    exact h
/-- whole numbers, text, None, and tuples and lists of them -/
def pl : Nat → D → Bool
  | _, .non => true
  | _, .int _ => true
  | _, .str z => PyData.strOk z
  | n + 1, .tup xs => xs.all (pl n)
  | n + 1, .lst xs => xs.all (pl n)
  | _, _ => false
theorem pls_ok {n : Nat} (ih : ∀ d, pl n d = true → (py d).canLay0 = true ∧ (py d).depth ≤ n) : ∀ xs : List D, xs.all (pl n) = true → PyData.canLayAll0 (pys xs) = true ∧ PyData.depthAll (pys xs) ≤ n
  | [], _ => ⟨rfl, Nat.zero_le _⟩
  | x :: xs, h => by
    rw [List.all_cons, Bool.and_eq_true] at h
    obtain ⟨a, b⟩ := ih x h.1
    obtain ⟨c, d⟩ := pls_ok ih xs h.2
    refine ⟨?_, ?_⟩
    · show (PyData.canLay0 (py x) && PyData.canLayAll0 (pys xs)) = true
      rw [a, c]; rfl
    · show max (PyData.depth (py x)) (PyData.depthAll (pys xs)) ≤ n
      omega
theorem pl_ok : ∀ (n : Nat) (d : D), pl n d = true → (py d).canLay0 = true ∧ (py d).depth ≤ n
  | _, .non, _ => ⟨rfl, Nat.zero_le _⟩
  | _, .int _, _ => ⟨rfl, Nat.zero_le _⟩
  | n, .str z, h => by cases n <;> exact ⟨h, Nat.zero_le _⟩
  | n + 1, .tup xs, h => by
    obtain ⟨a, b⟩ := pls_ok (pl_ok n) xs h
    exact ⟨a, Nat.succ_le_succ b⟩
  | n + 1, .lst xs, h => by
    obtain ⟨a, b⟩ := pls_ok (pl_ok n) xs h
    exact ⟨a, Nat.succ_le_succ b⟩
  | 0, .tup xs, h => nomatch h
  | 0, .lst xs, h => nomatch h
  | n, .bl _, h => by cases n <;> cases h
  | n, .rol _, h => by cases n <;> cases h
  | n, .dic _, h => by cases n <;> cases h
  | n, .ins _ _, h => by cases n <;> cases h
  | n, .ty _, h => by cases n <;> cases h
theorem pl_okEq {n : Nat} {d : D} (h : pl n d = true) (hn : n ≤ 64) : okEq d = true := by
  obtain ⟨a, b⟩ := pl_ok n d h
  show (PyData.canLay0 (py d) && decide (PyData.depth (py d) ≤ 64)) = true
  rw [a, decide_eq_true (Nat.le_trans b hn)]; rfl
theorem pls_eq {n m : Nat} (ih : ∀ d e, pl n d = true → pl m e = true → ((py d).eqv (py e) = true ↔ d = e)) : ∀ xs ys : List D, xs.all (pl n) = true → ys.all (pl m) = true → (PyData.eqvAll (pys xs) (pys ys) = true ↔ xs = ys)
  | [], [], _, _ => ⟨fun _ => rfl, fun _ => rfl⟩
  | [], y :: ys, _, _ => ⟨fun h => Bool.noConfusion h, fun h => by cases h⟩
  | x :: xs, [], _, _ => ⟨fun h => Bool.noConfusion h, fun h => by cases h⟩
  | x :: xs, y :: ys, h1, h2 => by
    rw [List.all_cons, Bool.and_eq_true] at h1 h2
    show (PyData.eqv (py x) (py y) && PyData.eqvAll (pys xs) (pys ys)) = true ↔ _
    rw [Bool.and_eq_true, ih x y h1.1 h2.1, pls_eq ih xs ys h1.2 h2.2]
    constructor
    · rintro ⟨rfl, rfl⟩; rfl
    · intro h; cases h; exact ⟨rfl, rfl⟩
theorem pl_eq : ∀ (n : Nat) (d e : D) (m : Nat), pl n d = true → pl m e = true → ((py d).eqv (py e) = true ↔ d = e) := by
  intro n
  induction n with
  | zero =>
    intro d e m h1 h2
    cases d <;> first | (exact Bool.noConfusion h1) | skip
    all_goals (cases e <;> first | (cases m <;> exact Bool.noConfusion h2) | skip)
    all_goals first
      | exact ⟨fun _ => rfl, fun _ => rfl⟩
      | exact ⟨fun h => Bool.noConfusion h, fun h => by cases h⟩
      | exact ⟨fun h => congrArg D.int (eq_of_beq h), fun h => by obtain h := D.int.inj h; subst h; exact beq_self_eq_true _⟩
      | exact ⟨fun h => congrArg D.str (eq_of_beq h), fun h => by obtain h := D.str.inj h; subst h; exact beq_self_eq_true _⟩
  | succ n ih =>
    intro d e m h1 h2
    cases d <;> first | (exact Bool.noConfusion h1) | skip
    all_goals (cases e <;> first | (cases m <;> exact Bool.noConfusion h2) | skip)
    all_goals first
      | exact ⟨fun _ => rfl, fun _ => rfl⟩
      | exact ⟨fun h => Bool.noConfusion h, fun h => by cases h⟩
      | exact ⟨fun h => congrArg D.int (eq_of_beq h), fun h => by obtain h := D.int.inj h; subst h; exact beq_self_eq_true _⟩
      | exact ⟨fun h => congrArg D.str (eq_of_beq h), fun h => by obtain h := D.str.inj h; subst h; exact beq_self_eq_true _⟩
      | (cases m with
         | zero => exact Bool.noConfusion h2
         | succ m =>
           have := pls_eq (n := n) (m := m) (fun d e a b => ih d e m a b) _ _ h1 h2
           exact ⟨fun h => by rw [this.mp h], fun h => this.mpr (by injection h)⟩)
theorem pl_eqD {n m : Nat} {d e : D} (h1 : pl n d = true) (h2 : pl m e = true) : eqD d e = true ↔ d = e := pl_eq n d e m h1 h2
theorem pl_int (n : Nat) (i : Int) : pl n (.int i) = true := by cases n <;> rfl
theorem pl_ints (n : Nat) (ns : List Int) : (ns.map D.int).all (pl n) = true := List.all_eq_true.mpr fun d hd => by
  obtain ⟨i, _, rfl⟩ := List.mem_map.mp hd
  exact pl_int n i
/-- equality of plain data, as the words ask it -/
theorem iteEqD {n m : Nat} {d e : D} {A B : Prop} (h1 : pl n d = true) (h2 : pl m e = true) (hy : d = e → A) (hno : d ≠ e → B) : if eqD d e = true then A else B := by
  by_cases h : d = e
  · rw [if_pos ((pl_eqD h1 h2).mpr h)]; exact hy h
  · rw [if_neg fun z => h ((pl_eqD h1 h2).mp z)]; exact hno h
theorem iteNeD {n m : Nat} {d e : D} {A B : Prop} (h1 : pl n d = true) (h2 : pl m e = true) (hy : d ≠ e → A) (hno : d = e → B) : if (!eqD d e) = true then A else B := by
  by_cases h : d = e
  · rw [(pl_eqD h1 h2).mpr h]; exact hno h
  · rw [Bool.eq_false_iff.mpr fun z => h ((pl_eqD h1 h2).mp z)]; exact hy h
/-! a few of a list's items -/
def sp_few : FSpec := fun as P _ => ∃ p rl items ds, ∃ m : Int, as = [.own p rl, .sh items, .sh (.int m)] ∧ Reel rl ∧ seqD items = some ds ∧ ds.all (pl 8) = true ∧ ds.length ≤ 1000 ∧ ∀ rl' fs rest, Reel rl' → (fs ++ rest).Perm ds → (rest = [] ∨ m ≤ (fs.length : Int)) → P (.new (.lst fs)) [rl']
def wFew : WS := (wSeq (wPar 3 4 (waCons (wB gList (waCons (wVar 1) waNil)) (waCons (wLst waNil) waNil)))
  (wSeq (wWhile (twAnd (tw2 gNe (wVar 3) (wLst waNil)) (tw2 gLt (wB gLen (waCons (wVar 4) waNil)) (wVar 2))) (wDrop (wMu 4 gApp (waCons (wMu 3 gPopAt (waCons (wCall sp_spin [true, false] (waCons (wVar 0) (waCons (wB gLen (waCons (wVar 3) waNil)) waNil))) waNil)) waNil))))
  (wRet (wVar 4))))
theorem perm_erase {α : Type} : ∀ (l : List α) (k : Nat) (x : α), l[k]? = some x → (x :: l.eraseIdx k).Perm l
  | [], _, _, h => nomatch h
  | a :: l, 0, x, h => by
    cases h
    exact List.Perm.refl _
  | a :: l, k + 1, x, h => by
    have := perm_erase l k x (by simpa using h)
    rw [List.eraseIdx_cons_succ]
    exact (List.Perm.swap a x _).trans (this.cons a)
theorem few_w {as Q QE} (h : sp_few as Q QE) : wFew (rho0 5 as) (bodyFl as Q QE) := by
  obtain ⟨p, rl, items, ds, m, rfl, hr, hi, hp, hl, k⟩ := h
  refine ⟨ds, hi, ?_⟩
  intro p3
  refine ⟨show (0 : Nat) ≤ sizeLine from by decide, fun p4 => ?_⟩
  refine ⟨fun c r => ∃ rl left found, left.length = c ∧ Reel rl ∧ (found ++ left).Perm ds ∧ r = [.own p rl, .sh items, .sh (.int m), .own p3 (.lst left), .own p4 (.lst found)], ⟨_, rl, ds, [], rfl, hr, List.Perm.refl _, rfl⟩, ?_⟩
  rintro c r ⟨rl, left, found, rfl, hr, hperm, rfl⟩
  refine ⟨show (0 : Nat) ≤ sizeLine from by decide, fun p5 => ?_⟩
  have hlen : found.length + left.length = ds.length := by rw [← hperm.length_eq, List.length_append]
  have plL : left.all (pl 8) = true := List.all_eq_true.mpr fun x hx => List.all_eq_true.mp hp x (hperm.subset (List.mem_append_right _ hx))
  refine ⟨pl_okEq (n := 9) (d := .lst left) plL (by decide), pl_okEq (n := 1) (d := .lst []) rfl (by decide), ?_⟩
  refine iteNeD (n := 9) (m := 1) (d := .lst left) (e := .lst []) plL rfl (fun h0 => ?_) (fun h0 => ?_)
  · refine ite2d (fun h1 => ?_) (fun h1 => ?_)
    · have h0 : left ≠ [] := fun e => h0 (by rw [e])
      have pos := List.length_pos_iff.mpr h0
      refine ⟨_, _, _, rfl, hr, by omega, log2_small (by omega), fun j rl hr j0 j1 => ?_⟩
      obtain ⟨n, rfl⟩ := Int.eq_ofNat_of_zero_le j0
      have hn : n < left.length := by omega
      refine ⟨by omega, by omega, ?_⟩
      have e1 : seqIndex? (n : Int) left.length = some n := by
        unfold seqIndex?
        simp [show ¬ (n : Int) < 0 by omega, hn]
      rw [e1]
      show match left[n]? with | some d => _ | none => False
      rw [List.getElem?_eq_getElem hn]
      refine ⟨Nat.lt_of_le_of_lt (show found.length ≤ 1000 by omega) (by decide), ?_⟩
      refine ⟨(left.eraseIdx n).length, by rw [List.length_eraseIdx_of_lt hn]; omega, rl, left.eraseIdx n, found ++ [left[n]], rfl, hr, ?_, rfl⟩
      rw [List.append_assoc]
      exact ((perm_erase left n _ (List.getElem?_eq_getElem hn)).append_left found).trans hperm
    · refine ⟨rfl, ?_⟩
      exact k _ _ _ hr hperm (.inr (by omega))
  · refine ⟨rfl, ?_⟩
    exact k _ _ left hr hperm (.inl (by cases h0; rfl))
end Z

/-! ZG: text (repr, ord, str, join, upper), dict displays. -/
namespace Z
open PySem L2
open PyProof.Rows (envOfC)
section
variable {X : Cx} {W : WX} {a b e o : Expr} {es : List Expr} {wa wb w : XW} {pos : Pos}
theorem call_repr_bl : CallR X (.builtin "repr") (fun xs H Q => ∃ b, xs = [.bl b] ∧ Q (.str (if b then "True" else "False")) H) := by
  intro pins s σ H xs us Q I r h
  obtain ⟨i, rfl, q⟩ := h
  obtain ⟨u, rfl, rfl⟩ := vals1 r
  exact PySem.P.repr_of_bool ⟨.str _, H, I.tok _, ⟨_, rfl⟩, q⟩
def gRepr : GC
  | [.bl b], P => P (.val (.str (if b then "True" else "False")))
  | [.int i], P => i.natAbs.log2 < 1920 ∧ P (.val (.str (toString i)))
  | _, _ => False
theorem cg_repr : CaG X (.builtin "repr") gRepr := by
  refine ⟨_, CallR.or call_repr_bl SkE.call_repr_int, fun xs ds Hs H P Q e rs q k => ?_⟩
  unfold gRepr at q
  split at q
  · obtain ⟨v, rfl, rx⟩ := rs.one
    obtain rfl := rx.blv
    exact .inl ⟨_, rfl, k _ _ _ _ q (ret0 e (.str _))⟩
  · obtain ⟨v, rfl, rx⟩ := rs.one
    obtain rfl := rx.intv
    exact .inr ⟨_, rfl, q.1, k _ _ _ _ q.2 (ret0 e (.str _))⟩
  · exact q.elim
def gOrd : GC
  | [.str z], P => z.length = 1 ∧ P (.val (.int (z.cps.getD 0 0 : Nat)))
  | _, _ => False
theorem cg_ord : CaG X (.builtin "ord") gOrd := by
  refine ⟨_, call_ord, fun xs ds Hs H P Q e rs q k => ?_⟩
  unfold gOrd at q
  split at q
  · obtain ⟨v, rfl, rx⟩ := rs.one
    obtain rfl := rx.strv
    exact ⟨_, rfl, q.1, k _ _ _ _ q.2 (ret0 e (.int _))⟩
  · exact q.elim
def gStr : GC
  | [.int i], P => i.natAbs.log2 < 1920 ∧ P (.val (.str (toString i)))
  | [.str z], P => P (.val (.str z))
  | _, _ => False
theorem cg_str : CaG X (.type "str") gStr := by
  refine ⟨_, CallR.or call_str_int SkE.call_str_str, fun xs ds Hs H P Q e rs q k => ?_⟩
  unfold gStr at q
  split at q
  · obtain ⟨v, rfl, rx⟩ := rs.one
    obtain rfl := rx.intv
    exact .inl ⟨_, rfl, q.1, k _ _ _ _ q.2 (ret0 e (.str _))⟩
  · obtain ⟨v, rfl, rx⟩ := rs.one
    obtain rfl := rx.strv
    exact .inr ⟨_, rfl, k _ _ _ _ q (ret0 e (.str _))⟩
  · exact q.elim
/-! text methods -/
@[simp] def onStr (r : Rho) (l : Late) (k : Str → Prop) : Prop := withD r l fun d => match d with
  | .str z => k z
  | _ => False
theorem onStr_iff {r : Rho} {l : Late} {k : Str → Prop} (h : onStr r l k) : ∃ z, res r l = some (.str z) ∧ k z := by
  obtain ⟨d, ed, h⟩ := withD_iff h
  cases d <;> first | exact h.elim | exact ⟨_, ed, h⟩
@[simp] def wUpper (w : XW) : XW := fun r P PE => w r (fun l r1 => onStr r1 l fun z => z.length ≤ 5592405 ∧ P (.st (.str (Txt.upper z))) r1) PE
theorem se_upper {apos : Pos} (ho : SE X W o w) (hbase : attributeBase o "upper" X.env (eval o X.env) = eval o X.env := by rfl) (hline : (apos.endLine == pos.line) = true := by rfl) : SE X W (.Call (.Attribute o "upper" apos) [] [] pos) (wUpper w) := by
  refine pe_imp (pe_upper ho hbase hline) fun s H Q q => ?_
  obtain ⟨r, Hs, P, PE, S, w, k, ke⟩ := q
  refine ⟨r, Hs, _, PE, S, w, fun l r1 v Hs1 H1 p o lo n => ?_, ke⟩
  obtain ⟨z, ez, hl, p⟩ := onStr_iff p
  obtain rfl := (lo.res o.S ez).strv
  exact ⟨⟨_, rfl⟩, _, rfl, rfl, hl, k _ _ _ _ _ p o (.st (.str _)) (fun _ _ q => nomatch q)⟩
def strsD : List D → Option (List Str)
  | [] => some []
  | .str z :: ds => (strsD ds).map (z :: ·)
  | _ => none
theorem strsD_eq : ∀ {ds : List D} {zs : List Str}, strsD ds = some zs → ds = zs.map D.str
  | [], _, h => by simp [strsD] at h; subst h; rfl
  | .str z :: ds, zs, h => by
    simp only [strsD, Option.map_eq_some_iff] at h
    obtain ⟨a, h1, rfl⟩ := h
    rw [strsD_eq h1]; rfl
  | .non :: _, _, h => by simp [strsD] at h
  | .bl _ :: _, _, h => by simp [strsD] at h
  | .int _ :: _, _, h => by simp [strsD] at h
  | .tup _ :: _, _, h => by simp [strsD] at h
  | .lst _ :: _, _, h => by simp [strsD] at h
  | .rol _ :: _, _, h => by simp [strsD] at h
  | .dic _ :: _, _, h => by simp [strsD] at h
  | .ins _ _ :: _, _, h => by simp [strsD] at h
  | .ty _ :: _, _, h => by simp [strsD] at h
theorem strsD_map : ∀ zs : List Str, strsD (zs.map D.str) = some zs
  | [] => rfl
  | z :: zs => by simp [strsD, strsD_map zs]
theorem reps_strs {G : Gm} {H : Hp} : ∀ {zs : List Str} {vs : List V}, Reps G H vs (zs.map D.str) → vs = zs.map V.str
  | [], _, .nil => rfl
  | z :: zs, _, .cons a r => by
    cases a
    rw [reps_strs r]; rfl
@[simp] def wJoin (wa wb : XW) : XW := fun r P PE => wa r (fun la r1 => onStr r1 la fun z => wb r1 (fun lb r2 => withD r2 lb fun d => ∃ ds zs, seqL d = some ds ∧ strsD ds = some zs ∧ (zs.map (·.length)).sum + zs.length * z.length ≤ 16777216 ∧ P (.st (.str (Txt.join z zs))) r2) PE) PE
theorem se_join {apos : Pos} (ho : SE X W o wa) (he : SE X W e wb) (hs : starEach [e] X.env = [(false, eval e X.env)] := by rfl) (hbase : attributeBase o "join" X.env (eval o X.env) = eval o X.env := by rfl) (hline : (apos.endLine == pos.line) = true := by rfl) :
    SE X W (.Call (.Attribute o "join" apos) [e] [] pos) (wJoin wa wb) := by
  refine pe_imp (pe_join ho he hs hbase hline) fun s H Q q => ?_
  obtain ⟨r, Hs, P, PE, S, w, k, ke⟩ := q
  refine ⟨r, Hs, _, PE, S, w, fun l r1 v Hs1 H1 p o lo n => ?_, ke⟩
  obtain ⟨z, ez, p⟩ := onStr_iff p
  obtain rfl := (lo.res o.S ez).strv
  refine ⟨⟨_, rfl⟩, r1, Hs1, _, PE, o.S, p, fun l2 r2 v2 Hs2 H2 p2 o2 lo2 n2 => ?_, ke.mono o⟩
  obtain ⟨d, ed, ds, zs, e1, e2, hl, p2⟩ := withD_iff p2
  obtain ⟨q, vs, rfl, hs, rp⟩ := (lo2.res o2.S ed).seqLv e1 o2.S.ex
  rw [strsD_eq e2] at rp
  rw [reps_strs rp] at hs
  exact ⟨_, _, zs, rfl, rfl, .inl hs, hl, k _ _ _ _ _ p2 (o.trans o2) (.st (.str _)) (fun _ _ q => nomatch q)⟩
/-! dict displays -/
theorem Go.addOff {O O' : Addr → Prop} {Hs H Hs' H' : Hp} {p : Addr} {o o' : HO} (hp : H p = none) (g : Go O O' Hs (L2.upd H p o) Hs' H') (n : ¬ O' p) : Go O O' Hs H Hs' (L2.upd H' p o') := by
  refine ⟨g.ss, fun a u h q => ?_, fun a u h hs q => ?_, fun a h => ?_, fun a h => ?_⟩
  · have ne : a ≠ p := ne_of_none h hp
    rw [upd_ne ne]
    exact g.kp a u (by rw [upd_ne ne]; exact h) q
  · have ne : a ≠ p := ne_of_none h hp
    exact g.fr a u (by rw [upd_ne ne]; exact h) hs q
  · have ne : a ≠ p := fun e => n (e ▸ h)
    rcases g.ow a h with z | z
    · exact .inl z
    · rw [upd_ne ne] at z; exact .inr z
  · by_cases e : a = p
    · subst e; exact hp
    · rw [upd_ne e] at h
      have := g.th a h
      rwa [upd_ne e] at this
@[simp] def wDic0 : XW := fun r P _ => ∀ p, P (.nw p (.dic [])) r
theorem se_dic0 : SE X W (.Dict [] [] pos) wDic0 := by
  refine pe_imp pe_dnewK fun s H Q q => ?_
  obtain ⟨r, Hs, P, PE, S, w, k, ke⟩ := q
  intro p hp
  have rt := retK (G := gm X) S.ex hp .nil
  exact rt.out (P := P) S (w) k
def keyD : D → Option Key
  | .int i => some (.inl i)
  | .str z => some (.inr z)
  | _ => none
@[simp] def wDic1 (wk wv : XW) : XW := fun r P PE => wk r (fun l r1 => withD r1 l fun dk => ∃ k, keyD dk = some k ∧ wv r1 (fun l2 r2 => withF r2 l2 fun d r3 => ∀ p, P (.nw p (.dic [(k, d)])) r3) PE) PE
theorem se_dic1 {k v : Expr} {wk wv : XW} (hk : SE X W k wk) (hv : SE X W v wv) : SE X W (.Dict [some k] [v] pos) (wDic1 wk wv) := by
  refine pe_imp (pe_disp (pps_cons hk hv pps_nil) rfl rfl (by simp) (show 1 ≤ 15 by decide)) fun s H Q q => ?_
  obtain ⟨r, Hs, P, PE, S, w, kq, ke⟩ := q
  intro p hp
  have hs : Hs p = none := Evl.fresh_back S.ex hp
  have nO : ¬ Own r p := S.notOwn hp
  have o0 : Out (gm X) r s Hs H r Hs (L2.upd H p (.dK [])) := ⟨S.upd hs nO, (Go0.new S.ex hp).any⟩
  refine ⟨r, Hs, _, PE, o0.S, w, fun l r1 v1 Hs1 H1 p1 o1 l1 n1 => ?_, ke.mono o0⟩
  obtain ⟨dk, ek, key, hkey, p1⟩ := withD_iff p1
  refine ⟨r1, Hs1, _, PE, o1.S, p1, fun l2 r2 v2 Hs2 H2 p2 o2 lo2 n2 => ?_, (ke.mono o0).mono o1⟩
  obtain ⟨d, r3, ed, p2⟩ := withF_iff p2
  have ev : v1 = kV key := by
    have rb := l1.res o1.S ek
    cases dk <;> simp only [keyD, Option.some.injEq, reduceCtorEq] at hkey
    · subst hkey; exact rb.intv
    · subst hkey; exact rb.strv
  obtain ⟨Hs3, S3, rp, g3, _⟩ := lo2.frz o2.S (o1.trans o2).g (new_th o1 n2) ed
  have d2 : H2 p = some (.dK []) := g3.kp p _ upd_same nO
  have d3 : Hs3 p = none := g3.fr p _ upd_same hs nO
  have n3 : ¬ Own r3 p := fun h => (g3.ow p h).elim nO fun z => by rw [upd_same] at z; cases z
  refine ⟨d2, [(key, v2)], by rw [ev]; rfl, (show 1 ≤ 15 by decide), ?_⟩
  refine kq _ _ _ _ _ (p2 p) ⟨S3.upd d3 n3, g3.addOff hp n3⟩ (.nw d3 (.dic upd_same (.cons rp .nil)) n3) fun q c e => ?_
  cases e
  exact hp
end
end Z

/-! ZH: instances: fields, properties, methods, construction. -/
namespace Z
open PySem L2
open PyProof.Rows (envOfC)
open Evl (Ex ex_rd ex_l ex_t)
/-- what the top has of a class -/
def ClsD (K : PySem.W.Frag) (mg : Str → Option Value) (c : Str) : Prop := ∃ C, mg c = some (.ref C) ∧ Cls K C
def NoD (K : PySem.W.Frag) (mg : Str → Option Value) (c f : Str) : Prop := ∃ C, mg c = some (.ref C) ∧ NoAttr K C f
/-- a method (its self is kept data) -/
def MethD (P : Program) (w : World) (K : PySem.W.Frag) (mg : Str → Option Value) (base : Heap) (k : Nat) (c m : Str) (f : FSpec) : Prop := ∃ C g, mg c = some (.ref C) ∧ Meth K C m g ∧ FnR P w K mg base (L2.CX P w) k g (spF ⟨K, mg⟩ f)
def PropD (P : Program) (w : World) (K : PySem.W.Frag) (mg : Str → Option Value) (base : Heap) (k : Nat) (c m : Str) (f : FSpec) : Prop := ∃ C p g fd ps, mg c = some (.ref C) ∧ PropOf K C m p g ∧ FnOk P w K mg base (L2.CX P w) k g fd ps (spF ⟨K, mg⟩ f) ∧ Binds K fd ps []
def MakeD (P : Program) (w : World) (K : PySem.W.Frag) (mg : Str → Option Value) (base : Heap) (k : Nat) (c : Str) (f : FSpec) : Prop := ∃ C g fd ps, mg c = some (.ref C) ∧ Mk K C g ∧ FnOk P w K mg base (L2.CX P w) k g fd ps (spF ⟨K, mg⟩ f) ∧ Binds K fd ps []
section
variable {X : Cx} {W : WX} {a b e o : Expr} {es : List Expr} {wa wb w : XW} {ta : TAw} {pos apos : Pos} {f : FSpec} {k j : Nat} {c m x : Str}
theorem passF {X : Cx} : Passes (L2.CX X.prog X.w) X (fun _ _ _ => False) := fun pins σ H s e s' I h => by
  obtain ⟨_, _, _, _, _, _, _, _, _, _, _, _, h⟩ := h
  exact h.elim
theorem passFn {X : Cx} : Passes (L2.CX X.prog X.w) X.nox (fun _ _ _ => False) := fun pins σ H s e s' I h => by
  obtain ⟨_, _, _, _, _, _, _, _, _, _, _, _, h⟩ := h
  exact h.elim
@[simp] def onIns (c : Str) (d : D) (k : List (Str × D) → Prop) : Prop := match d with
  | .ins c' fs => c' = c ∧ k fs
  | _ => False
theorem onIns_iff {c : Str} {d : D} {k : List (Str × D) → Prop} (h : onIns c d k) : ∃ fs, d = .ins c fs ∧ k fs := by
  cases d <;> first | exact h.elim | (obtain ⟨rfl, h⟩ := h; exact ⟨_, rfl, h⟩)
theorem repF_look {G : Gm} {H : Hp} {f : Str} {d : D} : ∀ {vs : List (Str × V)} {ds : List (Str × D)}, RepF G H vs ds → ds.lookup f = some d → ∃ v, vs.lookup f = some v ∧ Rep G H v d
  | _, _, .nil, h => by cases h
  | (g, v) :: vs, (_, d') :: ds, .cons r rs, h => by
    rw [List.lookup_cons] at h
    rw [List.lookup_cons]
    cases e : f == g with
    | true => rw [e] at h; cases h; exact ⟨_, rfl, r⟩
    | false => rw [e] at h; exact repF_look rs h
theorem repF_none {G : Gm} {H : Hp} {f : Str} : ∀ {vs : List (Str × V)} {ds : List (Str × D)}, RepF G H vs ds → ds.lookup f = none → vs.lookup f = none
  | _, _, .nil, _ => rfl
  | (g, v) :: vs, (_, d') :: ds, .cons r rs, h => by
    rw [List.lookup_cons] at h ⊢
    cases e : f == g with
    | true => rw [e] at h; cases h
    | false => rw [e] at h; exact repF_none rs h
def putD (f : Str) (v : D) : List (Str × D) → List (Str × D)
  | [] => [(f, v)]
  | (g, x) :: r => if g = f then (g, v) :: r else (g, x) :: putD f v r
theorem repF_put {G : Gm} {H : Hp} {f : Str} {v : V} {d : D} (h : Rep G H v d) : ∀ {vs : List (Str × V)} {ds : List (Str × D)}, RepF G H vs ds → RepF G H (putF f v vs) (putD f d ds)
  | _, _, .nil => .cons h .nil
  | (g, x) :: vs, (_, d') :: ds, .cons r rs => by
    unfold putF putD
    by_cases e : g = f
    · rw [if_pos e, if_pos e]; exact .cons h rs
    · rw [if_neg e, if_neg e]; exact .cons r (repF_put h rs)
theorem repF_len {G : Gm} {H : Hp} : ∀ {vs : List (Str × V)} {ds : List (Str × D)}, RepF G H vs ds → vs.length = ds.length
  | _, _, .nil => rfl
  | _ :: _, _ :: _, .cons _ rs => congrArg (· + 1) (repF_len rs)
/-- e.f, a field -/
@[simp] def wFld (c f : Str) (w : XW) : XW := fun r P PE => w r (fun l r1 => withD r1 l fun d => onIns c d fun fs => match fs.lookup f with
  | some v => P (.st v) r1
  | none => False) PE
theorem se_fld {f : Str} (hc : ClsD X.K X.mg c) (hn : NoD X.K X.mg c f) (he : SE X W e w) (hb : attributeBase e f X.env (eval e X.env) = eval e X.env := by rfl) : SE X W (.Attribute e f pos) (wFld c f w) := by
  refine pe_imp (pe_fld he hb) fun s H Q q => ?_
  obtain ⟨r, Hs, P, PE, S, w, kq, ke⟩ := q
  refine ⟨r, Hs, _, PE, S, w, fun l r1 v Hs1 H1 p o lo n => ?_, ke⟩
  obtain ⟨d, ed, p⟩ := withD_iff p
  obtain ⟨fs, rfl, p2⟩ := onIns_iff p
  clear p
  have p := p2
  split at p
  · rename_i dv ev
    obtain ⟨q, C, dx, vs, rfl, hq, hm, rp⟩ := (lo.res o.S ed).insv o.S.ex
    obtain ⟨v1, lv, rv⟩ := repF_look rp ev
    obtain ⟨C1, m1, hc⟩ := hc
    obtain ⟨C2, m2, hn⟩ := hn
    cases m1.symm.trans hm
    cases m2.symm.trans hm
    exact ⟨q, C, dx, vs, v1, rfl, hq, hc, hn, lv, kq _ _ _ _ _ p o (.st rv) (fun _ _ q => nomatch q)⟩
  · exact p.elim
/-- e.f, a property -/
@[simp] def wProp (c : Str) (f : FSpec) (w : XW) : XW := fun r P PE => w r (fun l r1 => withF r1 l fun d r2 => (∃ fs, d = .ins c fs) ∧ f [.sh d] (fun d cs => d.out P r2) (fun _ _ => False)) PE
theorem se_prop (hc : ClsD X.K X.mg c) (hp : PropD X.prog X.w X.K X.mg X.base k c m f) (hr : Room j X.A) (hk : k + 1 ≤ j) (he : SE X W e w) (hb : attributeBase e m X.env (eval e X.env) = eval e X.env := by rfl) : SE X W (.Attribute e m pos) (wProp c f w) := by
  obtain ⟨C, p, g, fd, ps, mC, hp, F, hb2⟩ := hp
  obtain ⟨C1, m1, hc⟩ := hc
  cases m1.symm.trans mC
  refine pe_imp (pe_prop he hc hp F (hr.mono hk) hb2 .nil passFn hb) fun s H Q q => ?_
  obtain ⟨r, Hs, P, PE, S, w, kq, ke⟩ := q
  refine ⟨r, Hs, _, PE, S, w, fun l r1 v Hs1 H1 p o lo n => ?_, ke⟩
  obtain ⟨d, r2, ed, ⟨fs, rfl⟩, p⟩ := withF_iff p
  obtain ⟨Hs2, S2, rp, g2, kp⟩ := lo.frz o.S o.g n ed
  cases rp with
  | ins hq hm rf =>
    cases mC.symm.trans hm
    refine ⟨_, _, _, rfl, S2.ex _ _ hq, ?_⟩
    exact call_core (X := X) (f := f) (P := P) (PE := fun _ _ => False) (ms := [false]) (ls := [.st (.ins c fs)]) (r1 := r2) (Out.mk S2 g2) (.cons (.st (.ins hq hm rf)) (fun _ _ _ e => nomatch e) .nil) (fun l h => by cases List.mem_singleton.mp h; exact fun _ _ q => nomatch q) p kq (fun x r' cls d Hs' H' h => h.elim)
/-- o.m(..): self and the arguments -/
@[simp] def wMeth (c m : Str) (f : FSpec) (ms : List Bool) (w : XW) (t : TAw) : XW := fun r P PE => w r (fun l r1 => withF r1 l fun d r2 => onIns c d fun fs => fs.lookup m = none ∧ t r2 (fun ls r3 => withP ms ls r3 fun as r4 => f (.sh d :: as) (fun d cs => d.out P (give ls as cs r4)) (fun _ _ => False)) PE) PE
theorem pass_cons {ms : List Bool} {ls : List Late} {r : Rho} {d : D} {as : List Sl} {r' : Rho} (h : pass ms ls r = some (as, r')) : pass (false :: ms) (.st d :: ls) r = some (.sh d :: as, r') := by
  show ((pass ms ls r).map fun x => (Sl.sh d :: x.1, x.2)) = _
  rw [h]; rfl
theorem se_meth {pl : Sem Bool} (hc : ClsD X.K X.mg c) (hm : MethD X.prog X.w X.K X.mg X.base k c m f) (hr : Room j X.A) (hk : k ≤ j) (ms : List Bool) (ho : SE X W o w) (ha : SA X W (e :: es) ta)
    (hst : starEach (e :: es) X.env = (false, eval e X.env) :: starEach es X.env := by rfl) (hpl : (backTo pos (starEach es X.env)).any (·.1) = false := by rfl)
    (ht : eval (.Call (.Attribute o m apos) (e :: es) [] pos) X.env = (do
      let ov ← eval o X.env
      standAt apos.atName
      let (f, first) ← holding [ov] (getMethod ov m pl)
      callWith pos f first (backTo pos (starEach (e :: es) X.env)) (backToKw pos (keywordEach [] X.env))) := by rfl) : SE X W (.Call (.Attribute o m apos) (e :: es) [] pos) (wMeth c m f ms w ta) := by
  obtain ⟨C, g, mC, hm, F⟩ := hm
  obtain ⟨C1, m1, hc⟩ := hc
  cases m1.symm.trans mC
  refine pe_imp (pe_methR ho hc hm F (hr.mono hk) passF ha hst hpl ht) fun s H Q q => ?_
  obtain ⟨r, Hs, P, PE, S, w, kq, ke⟩ := q
  refine ⟨r, Hs, _, PE, S, w, fun l r1 v Hs1 H1 p o lo n => ?_, ke⟩
  obtain ⟨d, r2, ed, p2⟩ := withF_iff p
  obtain ⟨fs, rfl, l0, p3⟩ := onIns_iff p2
  obtain ⟨Hs2, S2, rp, g2, kp⟩ := lo.frz o.S o.g n ed
  have o2 : Out (gm X) r s Hs H r2 Hs2 H1 := ⟨S2, g2⟩
  cases rp with
  | ins hq hmm rf =>
    cases mC.symm.trans hmm
    refine ⟨_, _, _, rfl, S2.ex _ _ hq, repF_none rf l0, ?_⟩
    refine ⟨r2, Hs2, _, PE, S2, p3, fun ls r3 vs Hs3 H3 p4 o3 los ns => ?_, ke.mono o2⟩
    obtain ⟨as, r4, ep, q4⟩ := withP_iff p4
    refine call_core (X := X) (f := f) (P := P) (PE := fun _ _ => False) (ms := false :: ms) (ls := .st (.ins c fs) :: ls) (r1 := r3) (o2.trans o3) (.cons (.st ((Rep.ins hq hmm rf).mono o3.g.ss)) (fun _ _ _ e => nomatch e) los) (fun l h => ?_) ?_ kq (fun x r' cls d Hs' H' h => h.elim)
    · rcases List.mem_cons.mp h with rfl | h
      · exact fun _ _ q => nomatch q
      · exact new_th o2 (ns l h)
    · unfold withP
      rw [pass_cons ep]
      exact q4
theorem se_meth0 {pl : Sem Bool} (hc : ClsD X.K X.mg c) (hm : MethD X.prog X.w X.K X.mg X.base k c m f) (hr : Room j X.A) (hk : k ≤ j) (ho : SE X W o w)
    (ht : eval (.Call (.Attribute o m apos) [] [] pos) X.env = (do
      let ov ← eval o X.env
      standAt apos.atName
      let (f, first) ← holding [ov] (getMethod ov m pl)
      callWith pos f first (backTo pos (starEach [] X.env)) (backToKw pos (keywordEach [] X.env))) := by rfl) : SE X W (.Call (.Attribute o m apos) [] [] pos) (wMeth c m f [] w waNil) := by
  obtain ⟨C, g, mC, hm, F⟩ := hm
  obtain ⟨C1, m1, hc⟩ := hc
  cases m1.symm.trans mC
  refine ⟨fun pins s σ H Q I h => ?_⟩
  obtain ⟨r, Hs, P, PE, S, w, kq, ke⟩ := h
  refine PySem.W.methodCall_KW (pl := pl) (thn (ho.run pins s σ H (fun v H1 => ∃ a dx fs, v = .ref a ∧ H1 a = some (.ins C dx fs) ∧ fs.lookup m = none ∧ spF (gm X) f [.ref a] H1 Q (fun _ _ _ => False)) I ⟨r, Hs, _, PE, S, w, fun l r1 v Hs1 H1 p o lo n => ?_, ke⟩) fun u s1 ⟨x, H1, I1, rx, a, dx, fs, ex, ea, l, q⟩ => ?_) ht
  · obtain ⟨d, r2, ed, p2⟩ := withF_iff p
    obtain ⟨fs, rfl, l0, p3⟩ := onIns_iff p2
    obtain ⟨Hs2, S2, rp, g2, kp⟩ := lo.frz o.S o.g n ed
    cases rp with
    | ins hq hmm rf =>
      cases mC.symm.trans hmm
      refine ⟨_, _, _, rfl, S2.ex _ _ hq, repF_none rf l0, ?_⟩
      exact call_core (X := X) (f := f) (P := P) (PE := fun _ _ => False) (ms := [false]) (ls := [.st (.ins c fs)]) (r1 := r2) (Out.mk S2 g2) (.cons (.st (.ins hq hmm rf)) (fun _ _ _ e => nomatch e) .nil) (fun l h => by cases List.mem_singleton.mp h; exact fun _ _ q => nomatch q) p3 kq (fun x r' cls d Hs' H' h => h.elim)
  · subst ex
    obtain rfl : u = Value.ref a := rx
    refine getmeth_ok I1 ea hc hm l ?_
    refine PySem.W.callWith_K0 (first := [.ref a]) I1.kIn hm.kp ?_
    exact run_fnRS (us := [.ref a]) (vs := [.ref a]) F (hr.mono hk) (fun pins H s e s' I h => passF pins σ H s e s' I h) I1 (.cons rfl .nil) q
/-- self.f = e, self one's own -/
@[simp] def wSetF (c : Str) (i : Nat) (f : Str) (w : XW) : WS := fun r F => w r (fun l r1 => withF r1 l fun d r2 => match r2[i]? with
  | some (Sl.own p (.ins c' fs)) => c' = c ∧ fs.length < 1000 ∧ F.nx (r2.set i (.own p (.ins c (putD f d fs))))
  | _ => False) F.ex
theorem own_updC {G : Gm} {r : Rho} {s : St} {Hs H : Hp} {i : Nat} {p : Addr} {v : V} {c c' : Cell} {o : HO} (S : StOk G r s Hs H) (hv : s[i]? = some (some v)) (e : r[i]? = some (Sl.own p c)) (rs : CellAt G Hs (L2.upd H p o) p c') :
    v = .ref p ∧ CellAt G Hs H p c ∧ Out G r s Hs H (r.set i (.own p c')) Hs (L2.upd H p o) := by
  have z := S.sl i _ e
  rw [hv] at z
  cases z with
  | own y1 y2 =>
    have np := own_no S.nd e
    have S1 : StOk G (r.set i .no) s Hs (L2.upd H p o) := (S.put (x := .no) (by intro p c q; cases q) .no).upd y1 np
    have S2 := S1.putOwn (i := i) (p := p) (c := c') hv y1 rs np
    rw [List.set_set] at S2
    refine ⟨rfl, y2, S2, Ex.refl _, fun a u h n => ?_, fun a u _ h _ => h, fun a h => ?_, fun a h => ?_⟩
    · rw [upd_ne (fun e' => n ⟨i, _, e' ▸ e⟩)]; exact h
    · rcases own_putOwn h with rfl | h
      · exact .inl ⟨i, _, e⟩
      · exact .inl h
    · by_cases e' : a = p
      · subst e'; rw [upd_same] at h; cases h
      · rwa [upd_ne e'] at h
theorem ss_setF {f : Str} {px pos' : Pos} (i : Nat) (hc : ClsD X.K X.mg c) (hn : NoD X.K X.mg c f) (he : SE X W e w) (hN : X.N[i]? = some x := by rfl) (hv : Vis X.env.scope x := by first | exact Or.inl rfl | exact Or.inr (Or.inl rfl) | exact Or.inr (Or.inr rfl))
    (hd : (x == ("__debug__" : Str)) = false := by decide) (hcd : (x == ("__classdict__" : Str)) = false := by decide) (hs : swapsWith e (some (.Attribute (.Name x px) f pos')) pos.line X.env = pure false := by rfl) :
    SS X W (.Assign [.Attribute (.Name x px) f pos'] e pos) (wSetF c i f w) := by
  refine ps_imp (ps_fld (pe_var hN hv hd hcd) he hs) fun D s H q => ?_
  obtain ⟨r, Hs, F, S, w, k⟩ := q
  refine tw_run S w k fun l r1 v Hs1 H1 p o lo n => ?_
  obtain ⟨d, r2, ez, p2⟩ := withF_iff p
  clear p
  obtain ⟨Hs2, S2, rp, g2, _⟩ := lo.frz o.S o.g n ez
  split at p2
  · rename_i a0 c' fs e0
    obtain ⟨rfl, hl, p3⟩ := p2
    have z := S2.sl i _ e0
    have hex : s[i]? = some (some (.ref a0)) := by
      revert z
      generalize s[i]? = w
      intro z
      cases z; rfl
    rw [hex] at z
    cases z with
    | own y1 y2 =>
      cases y2 with
      | ins h1 h2 h3 =>
        rename_i C dx vs
        obtain ⟨C1, m1, hc⟩ := hc
        obtain ⟨C2, m2, hn⟩ := hn
        cases m1.symm.trans h2
        cases m2.symm.trans h2
        have u := own_updC (o := .ins C dx (putF f v vs)) S2 hex e0 (c' := .ins c' (putD f d fs)) (.ins upd_same h2 (repF_put rp h3))
        refine ⟨_, hex, a0, C, dx, vs, rfl, h1, hc, hn, by rw [repF_len h3]; exact hl, ?_⟩
        exact k.nx _ _ _ _ p3 (Out.outS (Out.trans ⟨S2, g2⟩ u.2.2))
  · exact p2.elim
/-- C(..): a new instance, handed to __init__ -/
@[simp] def wMake (c : Str) (f : FSpec) (ms : List Bool) (t : TAw) : XW := fun r P PE => t r (fun ls r1 => withP ms ls r1 fun as r2 => ∀ p, f (.own p (.ins c []) :: as) (fun d cs => d = .val .non ∧ ∃ fs cs', cs = .ins c fs :: cs' ∧ P (.nw p (.ins c fs)) (give ls as cs' r2)) (fun _ _ => False)) PE
theorem argsOk_up {G : Gm} {Hs H H' : Hp} (k : ∀ a o, H a = some o → H' a = some o) : ∀ {vs : List V} {as : List Sl}, ArgsOk G Hs H vs as → ArgsOk G Hs H' vs as
  | _, _, .nil => .nil
  | _, _, .sh a b => .sh a (argsOk_up k b)
  | _, _, .own a b c => .own a (b.go (Ex.refl _) fun o h => k _ o h) (argsOk_up k c)
theorem make_core {C : Addr} {ms : List Bool} {ls : List Late} {vs : List V} {r r1 : Rho} {s : St} {Hs H Hs1 H1 : Hp} {P : Late → Rho → Prop} {PE : Exc → Rho → Prop} {Q : VK} (mC : X.mg c = some (.ref C)) (o : Out (gm X) r s Hs H r1 Hs1 H1) (lo : LatesOk (gm X) r1 s Hs1 H1 vs ls) (nw : ∀ l ∈ ls, NewAt H l)
    (q : withP ms ls r1 fun as r2 => ∀ p, f (.own p (.ins c []) :: as) (fun d cs => d = .val .non ∧ ∃ fs cs', cs = .ins c fs :: cs' ∧ P (.nw p (.ins c fs)) (give ls as cs' r2)) (fun _ _ => False))
    (k : ∀ l r' v Hs' H', P l r' → Out (gm X) r s Hs H r' Hs' H' → LateOk (gm X) r' s Hs' H' v l → NewAt H l → Q v H') (x dx : Addr) (hx : H1 x = none) (hdx : H1 dx = none) (hne : dx ≠ x) :
    spF (gm X) f (.ref x :: vs) (upd (upd H1 dx (.own x)) x (.ins C dx [])) (fun v H2 => v = .non ∧ Q (.ref x) H2) (fun _ _ _ => False) := by
  obtain ⟨as, r2, ep, q⟩ := withP_iff q
  obtain ⟨Hs2, K⟩ := pass_ok (H0 := H) (Hs0 := Hs) (r0 := r) o.S lo ep
  have kp : ∀ a u, H1 a = some u → upd (upd H1 dx (.own x)) x (.ins C dx []) a = some u := fun a u h => by
    rw [upd_ne (ne_of_none h hx), upd_ne (ne_of_none h hdx)]; exact h
  have ex2 : Ex Hs2 (upd (upd H1 dx (.own x)) x (.ins C dx [])) := fun a u h => kp a u (K.S.ex a u h)
  have xs : Hs2 x = none := Evl.fresh_back K.S.ex hx
  have nA : ¬ Own as x := fun h => own_has K.ak h hx
  have th1 : ∀ a, upd (upd H1 dx (.own x)) x (.ins C dx []) a = none → H1 a = none := fun a h => by
    cases e : H1 a with
    | none => rfl
    | some u => rw [kp a u e] at h; cases h
  have g2 : Go (Own r) (fun a => Own r2 a ∨ Own (.own x (.ins c []) :: as) a) Hs H Hs2 (upd (upd H1 dx (.own x)) x (.ins C dx [])) := by
    refine ⟨o.g.ss.trans K.ss, fun a u h n => kp a u (o.g.kp a u h n), fun a u h1 h2 h3 => ?_, fun a h => ?_, fun a h => o.g.th a (th1 a h)⟩
    · refine K.pr a (o.g.fr a u h1 h2 h3) (fun z => ?_) (fun c z => ?_)
      · rcases o.g.ow a z with z | z
        · exact h3 z
        · rw [h1] at z; cases z
      · have := nw _ z a c rfl
        rw [h1] at this; cases this
    · rcases h with h | h
      · exact o.g.ow a (K.sb a h)
      · rcases own_cons.mp h with ⟨c2, e⟩ | h
        · cases e; exact .inr (o.g.th _ hx)
        · rcases K.fr a h with z | ⟨c, z⟩
          · exact o.g.ow a z
          · exact .inr (nw _ z a c rfl)
  refine ⟨.own x (.ins c []) :: as, Hs2, _, _, .own xs (.ins upd_same mC .nil) (argsOk_up kp K.ak), ex2, K.nd.cons (fun p c e => by cases e; exact nA), q x, fun d cs v Hs' H' pd ex g rp bk => ?_, fun x cs cls dd Hs' H' px => px.elim⟩
  obtain ⟨rfl, fs, cs', rfl, pk⟩ := pd
  cases bk with
  | own b1 b2 bk =>
    have n2 : ¬ Own r2 x := fun h => by
      obtain ⟨j, c, hj⟩ := h
      have z := K.S.sl j _ hj
      revert z
      generalize s[j]? = sv
      intro z
      cases z with
      | own y1 y2 =>
        obtain ⟨u, hu⟩ := y2.isv
        rw [hx] at hu; cases hu
    have S2 : StOk (gm X) r2 s Hs2 (upd (upd H1 dx (.own x)) x (.ins C dx [])) := K.S.go0 ⟨Ex.refl _, fun a u h _ => kp a u h, fun a u h h2 _ => h2, fun a h => h.elim, th1⟩ ex2
    have S3 : StOk (gm X) r2 s Hs' H' := S2.other g ex fun a h1 h2 => by
      rcases own_cons.mp h2 with ⟨c2, e⟩ | h2
      · cases e; exact n2 h1
      · exact K.dj a h2 h1
    obtain ⟨S4, ow⟩ := give_ok S3 lo K.ak K.nd K.dj bk
    have nG : ¬ Own (give ls as cs' r2) x := fun h => (ow x h).elim n2 nA
    refine ⟨by cases rp; rename_i h; cases h; rfl, ?_⟩
    refine k _ _ _ _ _ pk ⟨S4, g2.trans ⟨g.ss, fun a u h n => g.kp a u h fun z => n (.inr z), fun a u h h2 n => g.fr a u h h2 fun z => n (.inr z), fun a h => .inl ((ow a h).imp id fun h => own_cons.mpr (.inr h)), g.th⟩⟩ (.nw b1 b2 nG) fun q c e => ?_
    cases e
    exact o.g.th _ hx
theorem se_make {p : Pos} (hm : MakeD X.prog X.w X.K X.mg X.base k c f) (hr : Room j X.A) (hk : k + 1 ≤ j) (hg : Gl X c) (ms : List Bool) (ha : SA X W (e :: es) ta) (hdb : (c == ("__debug__" : Str)) = false := by decide)
    (he : starEach (e :: es) X.env = (false, eval e X.env) :: starEach es X.env := by rfl) (hpl : (backTo pos (starEach es X.env)).any (·.1) = false := by rfl) : SE X W (.Call (.Name c p) (e :: es) [] pos) (wMake c f ms ta) := by
  obtain ⟨C, g, fd, ps, mC, M, F, B⟩ := hm
  refine pe_imp (pe_make M F (hr.mono hk) hg mC B .nil passF ha hdb he hpl) fun s H Q q => ?_
  obtain ⟨r, Hs, P, PE, S, w, kq, ke⟩ := q
  refine ⟨r, Hs, _, PE, S, w, fun ls r1 vs Hs1 H1 p o lo nw => ?_, ke⟩
  intro x dx hx hdx hne
  rw [List.append_nil]
  exact make_core (PE := PE) mC o lo nw p kq x dx hx hdx hne
end
end Z

/-! ZI: own == and != of instances; isinstance of an own class. -/
namespace Z
open PySem L2
open PyProof.Rows (envOfC)
open Evl (Ex ex_rd ex_l ex_t)
section
open PySem.W
variable {prog : Program} {w : World} {A : Around} {E : Value → Shared → Prop} {s : Shared} {K : Frag} {x C f : Addr} {ox : Obj} {od : Option Obj} {b tb : Value}
theorem slotNe : Slot "object" "__ne__" "object.__ne__" := F.cmp_object.ne
theorem ne_body {Q : Fin → Shared → Prop} (hu : A.units < cLine) (X : K.In s.heap) (I : InstAt s.heap x ox C od) (he : findIn K (.ref C) "__eq__" = some (some (.ref f))) (hf : isFn K (.ref f) = true)
    (h : wpAny (model prog w) A (call (.ref f) [.ref x, b]) (fun v s' => ∃ r, v = .bool r ∧ Q (.done (.ret (.bool (!r)))) s') E s) : wpAny (model prog w) A (Builtin.«object.__ne__» ⟨[.ref x, b], []⟩) Q E s := by
  unfold Builtin.«object.__ne__»
  obtain ⟨hp, g, d, t, os⟩ := s
  repeat (first
    | with_reducible refine wpAny_cRoomFor hu ?_
    | refine wpAny_bind (m := callSpecialIfBound? (.ref x) (Str.ofString "__eq__") [b]) (ifBound_K X I he hf (wpAny_mono h (fun v s' z => ?_) fun _ _ z => z))
    | wp_step)
  obtain ⟨r, rfl, q⟩ := z
  show wpAny (model prog w) A (truthy (.bool r) >>= fun u => ret (.bool (!u))) Q E s'
  refine wpAny_bind (wpAny_truthy_bool ?_)
  first | exact q | exact wpAny_pure q | (repeat (first | exact q | wp_step))
theorem neK {h₀ : Heap} {L : Addr} {m : Str → Option Value} {Q : Value → Shared → Prop} (hu : A.units + 1 < cLine) (X : K.In s.heap) (I : InstAt s.heap x ox C od) (hb : Looks (model prog w) s.heap (typeOf b) tb) (hn : notFirst K C tb = true)
    (hs : findIn K (.ref C) "__ne__" = some (some (.builtin "object.__ne__"))) (he : findIn K (.ref C) "__eq__" = some (some (.ref f))) (hf : isFn K (.ref f) = true) (ho : mroIn K C (.type "object") = some true)
    (h : wpAny (model prog w) A.in1 (call (.ref f) [.ref x, b]) (fun v s' => ∃ r, v = .bool r ∧ Q (.bool (!r)) s') E s) : wpAny (model prog w) A (richCompare .NotEq (.ref x) b) Q E s := by
  have called : wpAny (model prog w) A (call (.builtin "object.__ne__") [.ref x, b]) (fun v s' => ∃ r, v = .bool (!r) ∧ Q (.bool (!r)) s') E s := by
    refine wpAny_call (codeAny_call_builtin slotNe.plain F.cmpEntry_ne (check_slot F.cmpKind_ne F.cmpSplit_ne (I.type.andThen (looks_mroIn X ho)) (F.cmpArgs_ne _ _) ?_))
    refine ne_body (A := A.in1) (by exact hu) X I he hf (wpAny_mono h (fun v s' z => ?_) fun _ _ z => z)
    obtain ⟨r, rfl, q⟩ := z
    exact ⟨r, rfl, r, rfl, q⟩
  have tried : wpAny (model prog w) A (tryCompare (.ref x) "__ne__" b) (fun r s' => ∃ u, r = some u ∧ Q u s') E s := by
    unfold tryCompare
    simp only [callSpecialIfBound?, bindSpecialIfBound?]
    refine wpAny_bind (wpAny_holding (wpAny_bind (wpAny_bind (wpAny_bind (I.type.here ((looks_findIn X hs).here ?_))))))
    simp only [slotNe.bind]
    have fin : ∀ {R : Option Value → Shared → Prop}, (∀ u s', Q u s' → R (some u) s') → wpAny (model prog w) A (do let u ← call (.builtin "object.__ne__") ([.ref x] ++ [b]); pure (some u)) (fun a s' => wpAny (model prog w) A (match a with
        | some .notImplemented => pure none
        | none => pure none
        | some v => pure (some v)) R E s') E s := fun hR => by
      refine wpAny_bind (wpAny_mono called (fun v s' z => ?_) fun _ _ z => z)
      obtain ⟨r, rfl, q⟩ := z
      exact wpAny_pure (wpAny_pure (hR _ _ q))
    refine wpAny_bind (wpAny_askSetting (wpAny_ite ?_))
    split
    · exact wpAny_bind (wpAny_pure (wpAny_pure (fin fun u s' q => ⟨u, rfl, q⟩)))
    · exact wpAny_tryCatch (wpAny_bind (wpAny_pure (wpAny_pure (fin fun u s' q => ⟨u, rfl, q⟩))))
  unfold richCompare
  simp only [oneThing_ref]
  rw [PySem.cmpInfo_NotEq]
  dsimp only
  refine wpAny_holding (wpAny_bind (wpAny_cRoomFor (Nat.lt_of_succ_lt hu) (wpAny_bind (I.type.here (wpAny_bind (hb.here ?_))))))
  have last : ∀ {R : Value → Shared → Prop}, (∀ u s', Q u s' → R u s') → wpAny (model prog w) A (tryCompare (.ref x) "__ne__" b) (fun r s' => ∃ u, r = some u ∧ R u s') E s := fun hR => wpAny_mono tried (fun r s' ⟨u, e, q⟩ => ⟨u, e, hR _ _ q⟩) fun _ _ z => z
  have fin2 : ∀ {R : Value → Shared → Prop}, (∀ u s', Q u s' → R u s') → ∀ k : Sem Value, wpAny (model prog w) A (tryCompare (.ref x) "__ne__" b >>= fun r => match r with
      | some v => pure v
      | _ => k) R E s := fun hR k => by
    refine wpAny_bind (wpAny_mono tried (fun r s' z => ?_) fun _ _ z => z)
    obtain ⟨u, rfl, q⟩ := z
    exact wpAny_pure (hR _ _ q)
  split
  · rename_i q
    have e : subIn K tb (.ref C) = some false := by
      unfold notFirst at hn
      cases h1 : tb == .ref C with
      | true => rw [beq_iff_eq.mp h1] at q; simp at q
      | false => rw [h1, Bool.false_or] at hn; exact beq_iff_eq.mp hn
    refine wpAny_bind ((looks_subIn X e).here ?_)
    rw [if_neg (by decide)]
    exact fin2 (fun _ _ q => q) _
  · refine wpAny_bind (wpAny_pure ?_)
    rw [if_neg (by decide)]
    exact fin2 (fun _ _ q => q) _
end
section
variable {X : Cx} {k j : Nat} {C f : Addr} {sp : Sp}
theorem run_in1 {pins : List (Addr × Obj)} {σ : St} {H : Hp} {s : Shared} {Q : VK} {us : List Value} {vs : List V} (F : FnR X.prog X.w X.K X.mg X.base (L2.CX X.prog X.w) k f sp) (hr : Room (k + 1) X.A) (I : Inv X pins σ H s) (r : Vals vs us) (h : sp vs H Q (fun _ _ _ => False)) :
    wpAny (model X.prog X.w) X.A.in1 (call (.ref f) us) (EP X pins σ Q) X.xe s := by
  refine wpAny_call (codeAny_mono (F X.A.in1 X.stack s H us vs Q _ hr.in1 I.env0.in1 r h) fun r s' hq => ?_)
  cases r with
  | error e =>
    obtain ⟨_, _, _, _, _, _, _, _, _, _, _, _, z⟩ := hq
    exact z.elim
  | ok fl =>
    cases fl with
    | ret u => exact I.after hq
    | next => exact False.elim hq
    | brk => exact False.elim hq
    | cont => exact False.elim hq
/-- x == y, x != y by the text's own == -/
def rOwn (K : PySem.W.Frag) (C : Addr) (sp : Sp) (neg : Bool) : R2 := fun x y H Q => ∃ a dx fs t, x = .ref a ∧ H a = some (.ins C dx fs) ∧ TyX K H y t ∧ PySem.W.notFirst K C t = true ∧ sp [x, y] H (fun v H' => ∃ b, v = .bl b ∧ Q (.bl (b != neg)) H') (fun _ _ _ => False)
theorem op_ownEq (F : FnR X.prog X.w X.K X.mg X.base (L2.CX X.prog X.w) k f sp) (hr : Room k X.A) (he : PySem.W.findIn X.K (.ref C) "__eq__" = some (some (.ref f))) (hf : PySem.W.isFn X.K (.ref f) = true) : OpR X (compareOp .Eq) (rOwn X.K C sp false) := by
  intro pins s σ H x y v u Q I rx ry hq
  obtain ⟨a, dx, fs, t, rfl, ha, ty, nf, q⟩ := hq
  obtain rfl : v = Value.ref a := rx
  obtain ⟨mA, J, _⟩ := ins_get I.hok ha
  obtain ⟨od, J, _⟩ := J.look
  obtain ⟨m, hF⟩ := I.fr
  obtain ⟨P, kx, hP, _⟩ := kit_of I ry ty
  show wpAny _ _ (richCompare .Eq (.ref a) u) _ _ _
  refine PySem.W.cmp_K (op := .Eq) (tb := t) hr.units0 hF I.ok.mod.kin J (kx.ty _ _ I.kIn hP) nf he hf ?_
  refine wpAny_mono (run_fnRS (us := [.ref a, u]) (vs := [.ref a, y]) F hr (fun pins H s e s' I h => passF pins σ H s e s' I h) I (.cons rfl (.cons ry .nil)) q) (fun r s' z => ?_) fun _ _ z => z
  obtain ⟨v, H', I', rv, b, rfl, q⟩ := z
  cases rv
  show EP X pins σ Q (.bool b) s'
  refine ⟨.bl b, H', I', rfl, ?_⟩
  have e : (b != false) = b := by cases b <;> rfl
  rw [e] at q
  exact q
theorem op_ownNe (F : FnR X.prog X.w X.K X.mg X.base (L2.CX X.prog X.w) k f sp) (hr : Room (k + 1) X.A) (he : PySem.W.findIn X.K (.ref C) "__eq__" = some (some (.ref f))) (hf : PySem.W.isFn X.K (.ref f) = true)
    (hs : PySem.W.findIn X.K (.ref C) "__ne__" = some (some (.builtin "object.__ne__"))) (ho : PySem.W.mroIn X.K C (.type "object") = some true) : OpR X (compareOp .NotEq) (rOwn X.K C sp true) := by
  intro pins s σ H x y v u Q I rx ry hq
  obtain ⟨a, dx, fs, t, rfl, ha, ty, nf, q⟩ := hq
  obtain rfl : v = Value.ref a := rx
  obtain ⟨mA, J, _⟩ := ins_get I.hok ha
  obtain ⟨od, J, _⟩ := J.look
  obtain ⟨P, kx, hP, _⟩ := kit_of I ry ty
  show wpAny _ _ (richCompare .NotEq (.ref a) u) _ _ _
  refine neK (h₀ := X.base) (L := a) (m := fun _ => none) (by have := hr.units; omega) I.kIn J (kx.ty _ _ I.kIn hP) nf hs he hf ho ?_
  refine wpAny_mono (run_in1 (us := [.ref a, u]) (vs := [.ref a, y]) F hr I (.cons rfl (.cons ry .nil)) q) (fun r s' z => ?_) fun _ _ z => z
  obtain ⟨v, H', I', rv, b, rfl, q⟩ := z
  cases rv
  refine ⟨b, rfl, .bl (!b), H', I', rfl, ?_⟩
  have e : (b != true) = !b := by cases b <;> rfl
  rw [e] at q
  exact q
end
def kindT : List String := ["NoneType", "bool", "int", "str", "tuple", "list", "dict"]
/-- an own class, as the top has it -/
structure OwnC (K : PySem.W.Frag) (C : Addr) : Prop where
  cls : Cls K C
  at_ : PySem.W.findIn K (.ref C) "__class__" = some (some (.builtin "object.__class__"))
  get : PySem.W.specialIn K (.builtin "object.__class__") "__get__" = some (some (.builtin "getset_descriptor.__get__"))
  tak : PySem.W.takesIn K (.builtin "object.__class__") = some true
  obj : PySem.W.mroIn K C (.type "object") = some true
  nf : ∀ T ∈ kindT, PySem.W.notFirst K C (.type T) = true
  ki : ∀ T ∈ kindT, PySem.W.kitOne K (.type T) (.ref C) = some false
def OwnD (K : PySem.W.Frag) (mg : Str → Option Value) (c : Str) : Prop := ∃ C, mg c = some (.ref C) ∧ OwnC K C
def EqD (P : Program) (w : World) (K : PySem.W.Frag) (mg : Str → Option Value) (base : Heap) (k : Nat) (c : Str) (f : FSpec) : Prop := ∃ C g, mg c = some (.ref C) ∧ OwnC K C ∧ PySem.W.findIn K (.ref C) "__eq__" = some (some (.ref g)) ∧ PySem.W.isFn K (.ref g) = true ∧ PySem.W.findIn K (.ref C) "__ne__" = some (some (.builtin "object.__ne__")) ∧ FnR P w K mg base (L2.CX P w) k g (spF ⟨K, mg⟩ f)
def kindOk (c : Str) (d : D) : Prop := (∃ fs, d = .ins c fs) ∨ ∃ t, tyName d = some t
theorem kind_mem {d : D} {t : String} (h : tyName d = some t) : t ∈ kindT := by
  cases d <;> cases h <;> decide
section
variable {X : Cx} {W : WX} {a b e : Expr} {wa wb w : XW} {pos : Pos} {f : FSpec} {k j : Nat} {c : Str}
theorem tyx_ins {G : Gm} {Hs H : Hp} {v : V} {C : Addr} {c : Str} {fs : List (Str × D)} (h : RepB G Hs H v (.ins c fs)) (e : Ex Hs H) (mC : G.mg c = some (.ref C)) (O : OwnC G.K C) : TyX G.K H v (.ref C) := by
  obtain ⟨p, C2, dx, vs, rfl, hp, m2, _⟩ := h.insv e
  cases m2.symm.trans mC
  exact .base (.ins hp O.cls O.at_ O.get O.tak O.obj)
@[simp] def wOwn (c : Str) (f : FSpec) (neg : Bool) (wa wb : XW) : XW := fun r P PE => wa r (fun la r1 => wb r1 (fun lb r2 => withFs r2 [la, lb] fun ds r3 => match ds with
  | [da, db] => (∃ fs, da = .ins c fs) ∧ kindOk c db ∧ f [.sh da, .sh db] (fun d cs => d.out (fun l r' => ∃ b, l = .st (.bl b) ∧ P (.st (.bl (b != neg))) r') r3) (fun _ _ => False)
  | _ => False) PE) PE
theorem own_core {neg : Bool} {C : Addr} {r : Rho} {s : St} {Hs H : Hp} {P : Late → Rho → Prop} {PE : Exc → Rho → Prop} {Q : VK} (mC : X.mg c = some (.ref C)) (O : OwnC X.K C) (S : StOk (gm X) r s Hs H)
    (q : wOwn c f neg wa wb r P PE) (k : ∀ l r' v Hs' H', P l r' → Out (gm X) r s Hs H r' Hs' H' → LateOk (gm X) r' s Hs' H' v l → NewAt H l → Q v H') (ke : EXC (gm X) W PE r s Hs H) :
    tOp (rOwn X.K C (spF (gm X) f) neg) (tW (gm X) W wa) (tW (gm X) W wb) s H Q := by
  refine ⟨r, Hs, _, PE, S, q, fun la r1 x Hs1 H1 p1 o1 l1 n1 => ?_, ke⟩
  refine ⟨r1, Hs1, _, PE, o1.S, p1, fun lb r2 y Hs2 H2 p2 o2 l2 n2 => ?_, ke.mono o1⟩
  obtain ⟨ds, r3, ed, p3⟩ := withFs_iff p2
  have los : LatesOk (gm X) r2 s Hs2 H2 [x, y] [la, lb] := .cons (l1.go o2.g) (fun a c c' e h => by
    subst e
    cases List.mem_singleton.mp h
    have z := n2 a c' rfl
    cases l1 with
    | nw _ h2 _ =>
      obtain ⟨o', ho'⟩ := h2.isv
      rw [z] at ho'; cases ho') (.cons l2 (fun _ _ _ _ h => nomatch h) .nil)
  obtain ⟨Hs3, S3, rp, g3, _⟩ := los.frz o2.S (o1.trans o2).g (fun l h => by
    rcases List.mem_cons.mp h with rfl | h
    · exact n1
    · cases List.mem_singleton.mp h; exact new_th o1 n2) ed
  cases rp with
  | cons rx rp =>
    cases rp with
    | cons ry rp =>
      cases rp
      rename_i da db
      obtain ⟨⟨fs, rfl⟩, kd, p4⟩ := p3
      cases rx with
      | ins hq hm rf =>
        cases mC.symm.trans hm
        have core := call_core (X := X) (f := f) (P := fun l r' => ∃ b, l = .st (.bl b) ∧ P (.st (.bl (b != neg))) r') (PE := fun _ _ => False) (Q := fun v H' => ∃ b, v = .bl b ∧ Q (.bl (b != neg)) H') (E := fun _ _ _ => False) (ms := [false, false]) (ls := [.st (.ins c fs), .st db]) (r1 := r3)
          (Out.mk S3 g3) (.cons (.st (.ins hq hm rf)) (fun _ _ _ e => nomatch e) (.cons (.st ry) (fun _ _ _ e => nomatch e) .nil)) (fun l h => by
            rcases List.mem_cons.mp h with rfl | h
            · exact fun _ _ q => nomatch q
            · cases List.mem_singleton.mp h; exact fun _ _ q => nomatch q) p4 (fun l r' v Hs' H' pl o' lo' nw' => by
              obtain ⟨b, rfl, pb⟩ := pl
              cases lo' with
              | st rb => cases rb; exact ⟨b, rfl, k _ _ _ _ _ pb o' (.st (.bl _)) (fun _ _ q => nomatch q)⟩) (fun x r' cls d Hs' H' h => h.elim)
        rcases kd with ⟨fs2, rfl⟩ | ⟨t, ht⟩
        · exact ⟨_, _, _, .ref C, rfl, S3.ex _ _ hq, tyx_ins (.st ry) S3.ex mC O, by simp [PySem.W.notFirst], core⟩
        · exact ⟨_, _, _, .type t, rfl, S3.ex _ _ hq, tyx_of (.st ry) S3.ex ht, O.nf t (kind_mem ht), core⟩
theorem se_ownEq (h : EqD X.prog X.w X.K X.mg X.base k c f) (hr : Room j X.A) (hk : k ≤ j) (ha : SE X W a wa) (hb : SE X W b wb) (hm : behindInMarks .Eq b = false := by first | exact nomark _ | rfl) : SE X W (.Compare a [.Eq] [b] pos) (wOwn c f false wa wb) := by
  obtain ⟨C, g, mC, O, e1, e2, e3, F⟩ := h
  refine pe_imp (pe_cmpR (op_ownEq F (hr.mono hk) e1 e2) ha hb hm) fun s H Q q => ?_
  obtain ⟨r, Hs, P, PE, S, w, kq, ke⟩ := q
  exact own_core mC O S w kq ke
theorem se_ownNe (h : EqD X.prog X.w X.K X.mg X.base k c f) (hr : Room j X.A) (hk : k + 1 ≤ j) (ha : SE X W a wa) (hb : SE X W b wb) (hm : behindInMarks .NotEq b = false := by first | exact nomark _ | rfl) : SE X W (.Compare a [.NotEq] [b] pos) (wOwn c f true wa wb) := by
  obtain ⟨C, g, mC, O, e1, e2, e3, F⟩ := h
  refine pe_imp (pe_cmpR (op_ownNe F (hr.mono hk) e1 e2 e3 O.obj) ha hb hm) fun s H Q q => ?_
  obtain ⟨r, Hs, P, PE, S, w, kq, ke⟩ := q
  exact own_core mC O S w kq ke
/-! isinstance(e, C) -/
def isC (d : D) : Bool := match d with
  | .ins _ _ => true
  | _ => false
@[simp] def wIsiC (c : Str) (w : XW) : XW := fun r P PE => w r (fun l r1 => withD r1 l fun d => kindOk c d ∧ P (.st (.bl (isC d))) r1) PE
theorem se_isiC {p p2 : Pos} (h : OwnD X.K X.mg c) (hg : Gl X "isinstance") (hm : X.mg "isinstance" = none) (hg2 : Gl X c) (he : SE X W e w) (hdc : (c == ("__debug__" : Str)) = false := by decide)
    (hs : starEach (e :: [.Name c p2]) X.env = (false, eval e X.env) :: starEach [.Name c p2] X.env := by rfl) (hpl : (backTo pos (starEach [.Name c p2] X.env)).any (·.1) = false := by rfl) (hs2 : starEach [.Name c p2] X.env = (false, eval (.Name c p2) X.env) :: starEach [] X.env := by rfl) :
    SE X W (.Call (.Name "isinstance" p) [e, .Name c p2] [] pos) (wIsiC c w) := by
  obtain ⟨C, mC, O⟩ := h
  refine pe_imp (pe_callB call_isi hg hm (by decide +kernel) (pa_cons he (pa_cons (pe_glob (v := .ref C) hg2 mC rfl hdc) pa_nil hs2) hs) (by decide) (by decide) hs hpl) fun s H Q q => ?_
  obtain ⟨r, Hs, P, PE, S, w, kq, ke⟩ := q
  refine ⟨r, Hs, _, PE, S, w, fun l r1 v Hs1 H1 p o lo n => ?_, ke⟩
  obtain ⟨d, ed, kd, p⟩ := withD_iff p
  have rb := lo.res o.S ed
  rcases kd with ⟨fs, rfl⟩ | ⟨t, ht⟩
  · exact ⟨_, _, .ref C, .ref C, true, rfl, .own C, tyx_ins rb o.S.ex mC O, by unfold PySem.W.kitOne; simp, kq _ _ _ _ _ p o (.st (.bl _)) (fun _ _ q => nomatch q)⟩
  · have e : isC d = false := by cases d <;> first | rfl | cases ht
    rw [e] at p
    exact ⟨_, _, .type t, .ref C, false, rfl, .own C, tyx_of rb o.S.ex ht, O.ki t (kind_mem ht), kq _ _ _ _ _ p o (.st (.bl _)) (fun _ _ q => nomatch q)⟩
end
end Z

/-! ZJ: defs that are called where no repr is under way. -/
namespace Z
open PySem L2
open PyProof.Rows (envOfC)
open Evl (Ex ex_rd ex_l ex_t)
section
variable {P : Program} {w : World} {K : PySem.W.Frag} {mg : Str → Option Value} {base : Heap} {k j : Nat}
def FnG (P : Program) (w : World) (K : PySem.W.Frag) (mg : Str → Option Value) (base : Heap) (k : Nat) (f : Addr) (sp : Sp) : Prop :=
  ∀ (B : Around) (out : List Env) (s : Shared) (H : Hp) (us : List Value) (vs : List V) (Q : VK) (E : XK), Room k B → B.guards = some [] → Env0 P w K mg base B out s H → Vals vs us → sp vs H Q E → codeAny (model P w) B (.call (.ref f) ⟨us, []⟩) (CR (L2.CX P w) out P w H s Q E) s
theorem FnG.mono {f : Addr} {sp : Sp} (F : FnG P w K mg base j f sp) (h : j ≤ k) : FnG P w K mg base k f sp := fun B out s H us vs Q E r => F B out s H us vs Q E (r.mono h)
theorem FnG.imp {f : Addr} {sp sp' : Sp} (F : FnG P w K mg base k f sp) (h : ∀ vs H Q E, sp' vs H Q E → sp vs H Q E) : FnG P w K mg base k f sp' := fun B out s H us vs Q E r g e v q => F B out s H us vs Q E r g e v (h _ _ _ _ q)
theorem fnG_of {x qual : Str} {st : Stmt} {f : Addr} {fd : FuncData} {N ps : List Str} {sp : Sp} (F : Fun K x qual st f fd) (S : FnScope N ps (defScope st)) (bd : Binds K fd ps []) (len : ∀ vs H Q E, sp vs H Q E → vs.length = ps.length)
    (body : ∀ (cdv : Value) (B : Around) (out : List Env) (s : Shared) (H : Hp) (vs : List V) (Q : VK) (E : XK), Room k (B.deeper (envOfC qual (defScope st) s.heap.objs.size f cdv)) → B.guards = some [] → sp vs H Q E →
      ∃ t, PSs (cxOf (L2.CX P w) P w K mg base N qual (defScope st) f cdv B out s H E) (defBody st) t ∧ t { nx := fun _ H' => Q .non H', rt := Q } (start N vs) H) : FnG P w K mg base (k + 1) f sp := by
  obtain ⟨oc, od, kV, doc, pm, an, cdv, ct, osl, rfl, lk, code⟩ := F.ex
  intro B out s H us vs Q E room gd env vals q
  have same := len _ _ _ _ q
  have inK : K.In s.heap := env.mod.kin.keeps fun b o h => (env.bs b o h).1
  have free : s.heap.NoLimit := env.mod.nolimit.keeps fun b o h => (env.bs b o h).1
  have kinds : ∀ y ∈ ps.zip us, (defScope st).names.lookup y.1 = some .local ∨ ((defScope st).names.lookup y.1 = some .cell ∧ ((cellsFrom (s.heap.objs.size + 1) (defScope st).names []).lookup y.1).isSome = true) := by
    rintro ⟨n, u⟩ hy
    exact (S.par n (List.of_mem_zip hy).1).imp id fun z => ⟨z, PySem.W.cellsFrom_some _ _ _ (.inl z)⟩
  have binds : BindsTo s (PySem.W.fnOf x qual (defArgs st) (defBody st) (defScope st) .none kV doc pm an cdv ct) ⟨us, []⟩ (ps.zip us) := by
    have z := bd s us inK (by rw [List.append_nil, ← vals.length]; exact same)
    rwa [List.append_nil] at z
  refine codeAny_call_function room.depth (inK _ _ lk) rfl S.co S.gen rfl (PySem.W.codeRec_of inK code) (binds _ _ _ _ ?_)
  refine wpAny_newFunctionEnv_cells S.kind kinds fun ev he s1 made => ?_
  subst he
  refine ⟨free.keeps made.toInCall.keep, codeAny_func ?_⟩
  obtain ⟨t, ht, hq⟩ := body cdv B out s H vs Q E (room.deeper _) gd q
  have I := inv_start (CX := L2.CX P w) (E := E) S room.hd env same vals made
  refine wpAny_mono (ht.run [] s1 (start N vs) H _ I hq) (fun fl s' z => ?_) fun _ _ z => z
  cases fl with
  | ret u =>
    obtain ⟨v, σ', H', J, rv, z⟩ := z
    exact ⟨v, H', J.os, J.bare, J.base, J.hok, rv, z⟩
  | next =>
    obtain ⟨σ', H', J, z⟩ := z
    exact ⟨V.non, H', J.os, J.bare, J.base, J.hok, rfl, z⟩
  | brk =>
    obtain ⟨_, _, _, z⟩ := z
    exact z.elim
  | cont =>
    obtain ⟨_, _, _, z⟩ := z
    exact z.elim
end
structure DefG (P : Program) (w : World) (K : PySem.W.Frag) (mg : Str → Option Value) (base : Heap) (k : Nat) (x : Str) (f : FSpec) : Prop where
  ex : ∃ (fa : Addr), FnG P w K mg base k fa (spF ⟨K, mg⟩ f) ∧ mg x = some (.ref fa) ∧ PySem.W.keepIn K (.ref fa) = true
section
variable {X : Cx} {W : WX} {e : Expr} {es : List Expr} {ta : TAw} {pos p : Pos} {x : Str} {k j : Nat} {f : FSpec}
theorem run_fnG {pins : List (Addr × Obj)} {σ : St} {H : Hp} {s : Shared} {fa : Addr} {sp : Sp} {E : XK} {Q : VK} {us : List Value} {vs : List V} (F : FnG X.prog X.w X.K X.mg X.base k fa sp) (hr : Room k X.A) (gd : X.A.guards = some []) (hx : PassesAt (L2.CX X.prog X.w) X σ E) (I : Inv X pins σ H s) (r : Vals vs us) (h : sp vs H Q E) :
    wpAny (model X.prog X.w) X.A (call (.ref fa) us) (EP X pins σ Q) X.xe s := by
  refine wpAny_call (codeAny_mono (F X.A X.stack s H us vs Q E hr gd I.env0 r h) fun r s' z => ?_)
  match r, z with
  | .error e, z => exact hx pins H s e s' I z
  | .ok (.ret u), z => exact I.after z
  | .ok .next, z => exact z.elim
  | .ok .brk, z => exact z.elim
  | .ok .cont, z => exact z.elim
theorem se_callG (F : DefG X.prog X.w X.K X.mg X.base k x f) (hr : Room j X.A) (gd : X.A.guards = some []) (hk : k ≤ j) (hg : Gl X x) (tk : Takes X W) (ms : List Bool) (ha : SA X W (e :: es) ta) (hdb : (x == ("__debug__" : Str)) = false := by decide)
    (he : starEach (e :: es) X.env = (false, eval e X.env) :: starEach es X.env := by rfl) (hpl : (backTo pos (starEach es X.env)).any (·.1) = false := by rfl) : SE X W (.Call (.Name x p) (e :: es) [] pos) (wCall f ms ta) := by
  obtain ⟨fa, F1, F2, F3⟩ := F.ex
  have rule : PE X (.Call (.Name x p) (e :: es) [] pos) (tCallS (spF (gm X) f) (fun σ => WE W σ) (tWA (gm X) W ta)) := by
    refine ⟨fun pins s σ H Q I h => ?_⟩
    refine wpAny_Call_Name_kw (ld_glob I hg F2 ?_ hdb)
    refine PySem.W.callWith_K (h₀ := X.base) I.ok.mod.kin F3 (thn (ha.run pos pins s σ H _ I h) fun us s1 ⟨vs, H1, I1, r, q⟩ => ⟨I1.kIn, ?_⟩) he hpl
    exact run_fnG F1 (hr.mono hk) gd (passAt tk σ) I1 r q
  refine pe_imp rule fun s H Q q => ?_
  obtain ⟨r, Hs, P, PE, S, w, kk, ke⟩ := q
  refine ⟨r, Hs, _, PE, S, w, fun ls r1 vs Hs1 H1 p o lo nw => ?_, ke⟩
  exact call_core o lo nw p kk ke
end
section
variable {P : Program} {w : World} {K : PySem.W.Frag} {mg : Str → Option Value} {base : Heap}
theorem def_okG {x qual : Str} {st : Stmt} {fa : Addr} {fd : FuncData} {N ps : List Str} {k : Nat} {f : FSpec} (F : Fun K x qual st fa fd) (S : FnScope N ps (defScope st)) (bd : Binds K fd ps []) (wb : WS) (hl : ∀ as Q QE, f as Q QE → as.length = ps.length)
    (hbody : ∀ (cdv : Value) (A : Around) (outer : List Env) (s : Shared) (H : Hp) (E : XK), Room k (A.deeper (envOfC qual (defScope st) s.heap.objs.size fa cdv)) → A.guards = some [] →
      SSs (cxOf (L2.CX P w) P w K mg base N qual (defScope st) fa cdv A outer s H E) (fun cls d _ H => E cls d H) (defBody st) wb)
    (hw : ∀ (as : List Sl) (Q : LR → List Cell → Prop) (QE : Exc → List Cell → Prop), f as Q QE → wb (rho0 N.length as) (bodyFl as Q QE)) : FnG P w K mg base (k + 1) fa (spF ⟨K, mg⟩ f) :=
  fnG_of F S bd (fun vs H Q E h => spF_len hl h) fun cdv A outer s H vs Q E hr gd h => ⟨_, hbody cdv A outer s H E hr gd, body_ok (K := K) (mg := mg) (qual := qual) (sc := defScope st) (body := defBody st) (fa := fa) (cdv := cdv) (A := A) (outer := outer) (s := s) (H0 := H) (E0 := E) (t := fun _ _ _ => True) hw h⟩
theorem defG {fa : Addr} {k : Nat} {x : Str} {f : FSpec} (F : FnG P w K mg base k fa (spF ⟨K, mg⟩ f)) (hm : mg x = some (.ref fa)) (kp : PySem.W.keepIn K (.ref fa) = true) : DefG P w K mg base k x f := ⟨fa, F, hm, kp⟩
theorem DefOk.g {k : Nat} {x : Str} {f : FSpec} (h : DefOk P w K mg base k x f) : DefG P w K mg base k x f :=
  let ⟨fa, a, b, c⟩ := h.ex; ⟨fa, fun B out s H us vs Q E r _ e v q => a B out s H us vs Q E r e v q, b, c⟩
end
end Z

/-! ZK: repr of data. -/
namespace Z
open PySem L2
open PyProof.Rows (envOfC)
open Evl (Ex ex_rd ex_l ex_t)
def keyPd : Key → PyData
  | .inl i => .int i
  | .inr x => .str x
mutual
def pyd : D → PyData
  | .non => .none
  | .bl b => .bool b
  | .int i => .int i
  | .str x => .str x
  | .tup xs => .tuple (pyds xs)
  | .lst xs => .list (pyds xs)
  | .rol xs => .list (pyds xs)
  | .dic kvs => .dict (pydK kvs)
  | .ins _ _ => .none
  | .ty _ => .none
def pyds : List D → List PyData
  | [] => []
  | x :: xs => pyd x :: pyds xs
def pydK : List (Key × D) → List (PyData × PyData)
  | [] => []
  | (k, x) :: xs => (keyPd k, pyd x) :: pydK xs
end
mutual
def okR : D → Bool
  | .non => true
  | .bl _ => true
  | .int _ => true
  | .str _ => true
  | .tup xs => okRs xs
  | .lst xs => okRs xs
  | .rol xs => okRs xs
  | .dic kvs => okRK kvs
  | .ins _ _ => false
  | .ty _ => false
def okRs : List D → Bool
  | [] => true
  | x :: xs => okR x && okRs xs
def okRK : List (Key × D) → Bool
  | [] => true
  | (_, x) :: xs => okR x && okRK xs
end
def SysD (base : Heap) : Prop := ∃ mm, base.Ns sysModules mm
section
variable {X : Cx} {pins : List (Addr × Obj)} {σ : St} {Hs H : Hp} {s : Shared} {j : Nat}
theorem list_not_sys (I : Inv X pins σ H s) (sy : SysD X.base) {a : Addr} {o : Obj} {vs : Array Value} {n : Nat} (h : s.heap.get? a = some o) (c : o.data = .seq vs n) : sysModules ≠ a := fun e => by
  subst e
  obtain ⟨mm, o2, es, ep, h2, d2, _⟩ := sy
  have := I.bk _ _ h2
  rw [h] at this
  cases this
  rw [c] at d2
  cases d2
mutual
theorem rep_reads (I : Inv X pins σ H s) (sy : SysD X.base) (e : Ex Hs H) : ∀ (d : D) (v : V) (u : Value), Rep (gm X) Hs v d → RelV v u → okR d = true → ∃ as, Reads s.heap u (pyd d) as ∧ sysModules ∉ as
  | .non, _, _, h, r, _ => by
    cases h; cases r
    exact ⟨_, .none, List.not_mem_nil⟩
  | .bl b, _, _, h, r, _ => by
    cases h; cases r
    exact ⟨_, .bool b, List.not_mem_nil⟩
  | .int i, _, _, h, r, _ => by
    cases h
    obtain ⟨t, rfl⟩ := r
    exact ⟨_, .int i t, List.not_mem_nil⟩
  | .str x, _, _, h, r, _ => by
    cases h
    obtain ⟨t, rfl⟩ := r
    exact ⟨_, .str x t, List.not_mem_nil⟩
  | .tup xs, _, _, h, r, ok => by
    cases h with
    | tup hs ha =>
      cases r
      obtain ⟨its, rv, ⟨o, ho, hc, n, hd⟩, _⟩ := I.tuple (ex_t e hs)
      obtain ⟨as, hr, na⟩ := reps_reads I sy e xs _ its ha rv ok
      exact ⟨_, .tuple ho hc hd hr, na⟩
  | .lst xs, _, _, h, r, ok => by
    cases h with
    | lst hs ha =>
      cases r
      obtain ⟨its, rv, ⟨o, n, ho, hc, _, hd⟩, _⟩ := I.list (.inl (.inl (e _ _ hs)))
      obtain ⟨as, hr, na⟩ := reps_reads I sy e xs _ its ha rv ok
      exact ⟨_, .list ho hc hd hr, fun z => (List.mem_cons.mp z).elim (list_not_sys I sy ho hd) na⟩
  | .rol xs, _, _, h, r, ok => by
    cases h with
    | rol hs ha =>
      cases r
      obtain ⟨its, rv, ⟨o, n, ho, hc, _, hd⟩, _⟩ := I.list (ex_l e hs)
      obtain ⟨as, hr, na⟩ := reps_reads I sy e xs _ its ha rv ok
      exact ⟨_, .list ho hc hd hr, fun z => (List.mem_cons.mp z).elim (list_not_sys I sy ho hd) na⟩
  | .dic kvs, _, _, h, r, ok => by
    cases h with
    | dic hs ha =>
      cases r
      obtain ⟨_, ns, vs, kv, o, es, ep, ho, hx, hd, _, pr, _⟩ := dk_rd I.hok (ex_rd e hs)
      obtain ⟨as, bs, h1, h2, n1, n2⟩ := repk_reads I sy e kvs _ _ _ ha kv pr ok
      refine ⟨_, .dict ho hx.1 hd h1 h2, fun z => ?_⟩
      rcases List.mem_cons.mp (List.cons_append .. ▸ z) with z | z
      · exact absurd (beq_iff_eq.mpr z.symm) (by rw [ns]; decide)
      · exact (List.mem_append.mp z).elim n1 n2
  | .ins _ _, _, _, _, _, ok => nomatch ok
  | .ty _, _, _, _, _, ok => nomatch ok
theorem reps_reads (I : Inv X pins σ H s) (sy : SysD X.base) (e : Ex Hs H) : ∀ (ds : List D) (vs : List V) (us : List Value), Reps (gm X) Hs vs ds → Vals vs us → okRs ds = true → ∃ as, ReadsAll s.heap us (pyds ds) as ∧ sysModules ∉ as
  | [], _, _, h, r, _ => by
    cases h; cases r
    exact ⟨_, .nil, List.not_mem_nil⟩
  | d :: ds, _, _, h, r, ok => by
    cases h with
    | cons h1 h2 =>
      cases r with
      | cons r1 r2 =>
        have ok : (okR d && okRs ds) = true := ok
        rw [Bool.and_eq_true] at ok
        obtain ⟨as, a1, n1⟩ := rep_reads I sy e d _ _ h1 r1 ok.1
        obtain ⟨bs, a2, n2⟩ := reps_reads I sy e ds _ _ h2 r2 ok.2
        exact ⟨_, .cons a1 a2, fun z => (List.mem_append.mp z).elim n1 n2⟩
theorem repk_reads (I : Inv X pins σ H s) (sy : SysD X.base) (e : Ex Hs H) : ∀ (ds : List (Key × D)) (vs : List (Key × V)) (us : List (Key × Value)) (es : List DictEntry), RepK (gm X) Hs vs ds → KV vs us → Pairs (mixKind X.prog X.w) es us → okRK ds = true →
    ∃ as bs, ReadsAll s.heap (es.map (·.key)) ((pydK ds).map (·.1)) as ∧ ReadsAll s.heap (es.map (·.val)) ((pydK ds).map (·.2)) bs ∧ sysModules ∉ as ∧ sysModules ∉ bs
  | [], _, _, _, h, r, p, _ => by
    cases h; cases r; cases p
    exact ⟨_, _, .nil, .nil, List.not_mem_nil, List.not_mem_nil⟩
  | _ :: _, _, _, [], h, r, p, ok => by
    cases h; cases r; cases p
  | (k, d) :: ds, _, _, en :: es, h, r, p, ok => by
    cases h with
    | cons h1 h2 =>
      cases r with
      | cons r1 r2 =>
        cases p with
        | cons p1 p2 p3 =>
          have ok : (okR d && okRK ds) = true := ok
          rw [Bool.and_eq_true] at ok
          obtain ⟨rk, rv⟩ := r1
          obtain ⟨bs, b1, n1⟩ := rep_reads I sy e d _ _ h1 rv ok.1
          obtain ⟨as2, bs2, a2, b2, m1, m2⟩ := repk_reads I sy e ds _ _ _ h2 r2 p3 ok.2
          have key : ∃ as, Reads s.heap en.key (keyPd k) as ∧ sysModules ∉ as := by
            have rk : k = _ := rk
            rw [← rk] at p1
            rcases keyIs_shape p1 with ⟨i, t, e1, e2⟩ | ⟨x, t, e1, e2⟩
            · rw [e2, e1]; exact ⟨_, .int i t, List.not_mem_nil⟩
            · rw [e2, e1]; exact ⟨_, .str x t, List.not_mem_nil⟩
          obtain ⟨as, a1, n0⟩ := key
          exact ⟨_, _, .cons a1 a2, .cons (by show Reads s.heap en.val (pyd d) bs; rw [p2]; exact b1) b2, fun z => (List.mem_append.mp z).elim n0 m1, fun z => (List.mem_append.mp z).elim n1 m2⟩
end
def seqK : D → Bool
  | .tup _ => true
  | .lst _ => true
  | .rol _ => true
  | .dic _ => true
  | _ => false
theorem repB_reads (I : Inv X pins σ H s) (sy : SysD X.base) (e : Ex Hs H) {d : D} {v : V} {u : Value} (h : RepB (gm X) Hs H v d) (r : RelV v u) (ok : okR d = true) : ∃ as, Reads s.heap u (pyd d) as ∧ sysModules ∉ as := by
  cases h with
  | st h => exact rep_reads I sy e d v u h r ok
  | own h =>
    cases h with
    | lst hp ha =>
      cases r
      obtain ⟨its, rv, ⟨o, n, ho, hc, _, hd⟩, _⟩ := I.list (.inl (.inl hp))
      obtain ⟨as, hr, na⟩ := reps_reads I sy e _ _ its ha rv ok
      exact ⟨_, .list ho hc hd hr, fun z => (List.mem_cons.mp z).elim (list_not_sys I sy ho hd) na⟩
    | dic hp ha =>
      cases r
      obtain ⟨_, ns, vs, kv, o, es, ep, ho, hx, hd, _, pr, _⟩ := dk_of I.hok hp
      obtain ⟨as, bs, h1, h2, n1, n2⟩ := repk_reads I sy e _ _ _ _ ha kv pr ok
      refine ⟨_, .dict ho hx.1 hd h1 h2, fun z => ?_⟩
      rcases List.mem_cons.mp (List.cons_append .. ▸ z) with z | z
      · exact absurd (beq_iff_eq.mpr z.symm) (by rw [ns]; decide)
      · exact (List.mem_append.mp z).elim n1 n2
    | ins _ _ _ => exact nomatch ok
theorem seqK_ref {G : Gm} {d : D} {v : V} (h : RepB G Hs H v d) (k : seqK d = true) : ∃ a, v = .ref a := by
  cases h with
  | st h => cases h <;> first | exact ⟨_, rfl⟩ | cases k
  | own h => exact ⟨_, rfl⟩
/-- repr of data -/
def gReprD : GC
  | [d], P => seqK d = true ∧ okR d = true ∧ (pyd d).showable = true ∧ (pyd d).shown.length ≤ sizeLine ∧ (pyd d).depth ≤ 8 ∧ P (.val (.str (pyd d).shown))
  | _, _ => False
theorem call_reprD (gd : X.A.guards = some []) (hr : Room j X.A) (sy : SysD X.base) : CallR X (.builtin "repr") (fun xs H Q => ∃ v d Hs, xs = [v] ∧ Ex Hs H ∧ RepB (gm X) Hs H v d ∧ seqK d = true ∧ okR d = true ∧ (pyd d).showable = true ∧ (pyd d).shown.length ≤ sizeLine ∧ (pyd d).depth ≤ 8 ∧ Q (.str (pyd d).shown) H) := by
  intro pins s σ H xs us Q I r h
  obtain ⟨v, d, Hs, rfl, e, rb, sk, ok, sh, sz, dp, q⟩ := h
  obtain ⟨u, rfl, rv⟩ := vals1 r
  obtain ⟨as, rd, na⟩ := repB_reads I sy e rb rv ok
  obtain ⟨a, rfl⟩ := seqK_ref rb sk
  obtain rfl : u = Value.ref a := rv
  exact repr_of_reads' rd sh (fun _ => na) gd (by have := hr.units; omega) (fun _ _ z => z) (fun h' t tk hk => ⟨.str _, H, I.kept hk, ⟨_, rfl⟩, q⟩) sz
theorem cg_reprD (gd : X.A.guards = some []) (hr : Room j X.A) (sy : SysD X.base) : CaG X (.builtin "repr") gReprD := by
  refine ⟨_, call_reprD gd hr sy, fun xs ds Hs H P Q e rs q k => ?_⟩
  unfold gReprD at q
  split at q
  · obtain ⟨v, rfl, rx⟩ := rs.one
    obtain ⟨q1, q2, q3, q4, q5, q⟩ := q
    exact ⟨v, _, Hs, rfl, e, rx, q1, q2, q3, q4, q5, k _ _ _ _ q (ret0 e (.str _))⟩
  · exact q.elim
end
end Z

/-! ZL: the law's own call where nothing is guarded. -/
namespace Z
open PySem PySem.Spec PyProof.Rows
open L2 hiding walk_of
section
variable {P : Program} {w : World} {K : PySem.W.Frag} {mg mb : Str → Option Value} {k : Nat} {fa a : Addr} {s1 : Shared} {us : List Value} {ns : List Int}
/-- what the law's call is to give -/
def Told (P : Program) (w : World) (fa a : Addr) (s1 : Shared) : Prop := codeAny (model P w) callerA (.call (.ref fa) ⟨[.ref a], []⟩) (fun r s' => r = .ok (.ret (.bool true)) ∧ OldK s1.heap s'.heap ∧ s'.os = s1.os ∧ AllBare s'.gens) s1
theorem told_at (inK : K.In s1.heap) (gl : s1.heap.Ns mainGlobals mg) (bl : s1.heap.Ns builtinsNs mb) (bb : ∀ x : Str, x ≠ "__name__" → mb x = bootBuiltins x) (nl : s1.heap.NoLimit) (g0 : s1.gens = #[])
    (ga : s1.heap.get? a = some { cls := .type "list", data := .seq us.toArray }) (room : Room k callerA) (sys : SysD s1.heap) (F : ∀ base : Heap, K.In base → base.Ns mainGlobals mg → SysD base → FnG P w K mg base k fa (spLaw K))
    (le : ns.length ≤ 63) {H : Hp} (on : Only H) (sq : SqL K H a (ns.map V.int)) (ok : HOk P w H s1.heap) (just : ∀ b, H b ≠ none → b = a) (off : H a ≠ none → K.lookup a = none) : Told P w fa a s1 := by
  have keep : ∀ {b : Addr} {o : Obj}, s1.heap.get? b = some o → H b = none → (hidT s1.heap H).get? b = some o := fun h n => hidT_get h n
  have out : ∀ {b : Addr} {o : Obj} {es : Array DictEntry} {ep : Nat}, s1.heap.get? b = some o → o.data = .dict es ep → H b = none := by
    intro b o es ep h d
    cases q : H b with
    | none => rfl
    | some u =>
      have hb : b = a := just b (by rw [q]; simp)
      subst hb
      rw [ga] at h
      cases h
      exact nomatch (show Data.seq us.toArray _ = Data.dict es ep from d)
  have nss : ∀ {b : Addr} {m : Str → Option Value}, s1.heap.Ns b m → (hidT s1.heap H).Ns b m := by
    rintro b m ⟨o, es, ep, h, d, r⟩
    exact ⟨o, es, ep, keep h (out h d), d, r⟩
  have base : K.In (hidT s1.heap H) := by
    intro b o h
    refine keep (inK b o h) ?_
    cases q : H b with
    | none => rfl
    | some u =>
      have hb : b = a := just b (by rw [q]; simp)
      subst hb
      rw [off (by rw [q]; simp)] at h
      cases h
  obtain ⟨mc, c1, c2⟩ := nl
  have sysB : SysD (hidT s1.heap H) := let ⟨mm, z⟩ := sys; ⟨mm, nss z⟩
  have md : Mod K mg (hidT s1.heap H) := ⟨base, nss gl, ⟨mb, nss bl, bb⟩, ⟨mc, nss c1, c2⟩⟩
  have start : Env0 P w K mg (hidT s1.heap H) callerA [] s1 H := ⟨rfl, md, fun b o h => of_hidT h, Nat.le_of_eq (hidT_size _ _), trivial, fun b hb => absurd hb List.not_mem_nil, ok, .of_eq g0⟩
  refine codeAny_mono (F _ base (nss gl) sysB callerA [] s1 H [.ref a] [.ref a] _ _ room rfl start (.cons rfl .nil) (law_sp K H a ns le sq)) fun r s' z => ?_
  match r, z with
  | .error e, z =>
    obtain ⟨_, _, _, _, _, _, _, _, _, _, _, _, z⟩ := z
    exact z.elim
  | .ok .next, z => exact z.elim
  | .ok .brk, z => exact z.elim
  | .ok .cont, z => exact z.elim
  | .ok (.ret u), z =>
    obtain ⟨v, H', os, bare, un, ok', rv, q⟩ := z
    have q : v = .bl true := q
    subst q
    obtain rfl : u = Value.bool true := rv
    refine ⟨rfl, OldK.of_keep fun b o h => ?_, os, bare⟩
    cases q : H b with
    | none => exact un.keep b o h q (fun z => absurd z List.not_mem_nil) List.not_mem_nil
    | some u =>
      rcases on b with z | ⟨ob, xs, z⟩
      · rw [q] at z; cases z
      · obtain ⟨o1, _⟩ := ok b _ z
        obtain ⟨o2, _⟩ := ok' b _ (un.frzs b ob _ z)
        rw [h] at o1
        cases o1
        exact o2
theorem told (inK : K.In s1.heap) (gl : s1.heap.Ns mainGlobals mg) (bl : s1.heap.Ns builtinsNs mb) (bb : ∀ x : Str, x ≠ "__name__" → mb x = bootBuiltins x) (nl : s1.heap.NoLimit) (g0 : s1.gens = #[])
    (ga : s1.heap.get? a = some { cls := .type "list", data := .seq us.toArray }) (room : Room k callerA) (sys : SysD s1.heap) (F : ∀ base : Heap, K.In base → base.Ns mainGlobals mg → SysD base → FnG P w K mg base k fa (spLaw K))
    (le : ns.length ≤ 63) (whole : IntsAre us ns) : Told P w fa a s1 := by
  have rv := vals_ints whole
  have ln := whole.length
  have lz : ns.length ≤ sizeLine := Nat.le_trans le (by decide)
  cases hk : K.lookup a with
  | some o =>
    have h := inK a o hk
    rw [ga] at h
    cases h
    refine told_at inK gl bl bb nl g0 ga room sys F le (H := fun _ => none) (fun _ => .inl rfl) (.inr ⟨_, us.toArray, _, hk, rfl, rfl, rfl, by rw [List.size_toArray, ln]; exact lz, by simpa using rv⟩) (fun b u z => nomatch (show (none : Option HO) = some u from z)) (fun b z => absurd rfl z) fun z => absurd rfl z
  | none =>
    refine told_at inK gl bl bb nl g0 ga room sys F le (H := fun b => if b = a then some (.frz { cls := .type "list", data := .seq us.toArray } (.lst (ns.map V.int))) else none) (fun b => ?_) (.inl (.inr ⟨_, if_pos rfl⟩)) (fun b u z => ?_) (fun b z => ?_) fun _ => hk
    · by_cases hb : b = a
      · exact .inr ⟨_, _, if_pos hb⟩
      · exact .inl (if_neg hb)
    · by_cases hb : b = a
      · cases (if_pos hb).symm.trans z
        subst hb
        exact ⟨ga, by rw [List.length_map]; exact lz, us, _, rv, ga⟩
      · cases (if_neg hb).symm.trans z
    · by_cases hb : b = a
      · exact hb
      · exact absurd (if_neg hb) z
end
theorem walkG {l : PySem.W.OpenLaw} {q : Program} {k : Nat} {loose : List Str} {XP : (Str → Option Value) → Heap → Prop} {YP : World → Heap → Prop} {d : DefRec} {K : Params → PySem.W.Frag} (hn : l.most = some 63) (hdf : d.params.defaults = []) (room : Room k callerA) (himp : importsNone q = true)
    (hY : ∀ (w : World) (h : Heap), YP w h → (K w.params).In h)
    (F : ∀ (w : World) (mg : Str → Option Value) (fa : Addr) (h : Heap), (K w.params).In h → h.Ns mainGlobals mg → mg d.name = some (.ref fa) → ∀ base : Heap, (K w.params).In base → base.Ns mainGlobals mg → SysD base → FnG l.prog w (K w.params) mg base k fa (spLaw (K w.params))) :
    PySem.W.WalkO q loose XP YP l.row.toRowW d [] (fun f vs => PySem.call f vs) := by
  refine Att.attach_call hn hdf fun w s0 s1 mg mb fa o pm cd doc a us ns G Y ho hd hcd hm hobj whole len g0 => ?_
  exact told (hY w _ Y) G.T.g G.T.b G.T.builtins G.T.nolimit g0 hobj room (let ⟨mm, z, _⟩ := (G.T.seer himp).mods; ⟨mm, z⟩) (F w mg fa _ (hY w _ Y) G.T.g hm) len whole
end Z

/-! ZM: a dict of the kept data while it is walked. -/
namespace Z
open PySem L2
open PyProof.Rows (envOfC)
open Evl (Ex ex_rd ex_l ex_t)
structure Lk (H H' : Hp) : Prop where
  rd : ∀ a u, (∀ o w, u ≠ .frz o w) → Rd H a u → Rd H' a u
  lst : ∀ a xs, H a = some (.lst xs) → H' a = some (.lst xs)
  ins : ∀ a C dx fs, H a = some (.ins C dx fs) → H' a = some (.ins C dx fs)
theorem Lk.t {K : PySem.W.Frag} {H H' : Hp} (k : Lk H H') {a : Addr} {xs : List V} (h : SqT K H a xs) : SqT K H' a xs := h.elim (fun h => .inl (k.rd _ _ (fun _ _ e => nomatch e) h)) .inr
theorem Lk.l {K : PySem.W.Frag} {H H' : Hp} (k : Lk H H') {a : Addr} {xs : List V} (h : SqL K H a xs) : SqL K H' a xs := h.elim (fun h => .inl (k.rd _ _ (fun _ _ e => nomatch e) h)) .inr
theorem Lk.dk {H H' : Hp} (k : Lk H H') {a : Addr} {vs : List (Key × V)} (h : Rd H a (.dK vs)) : Rd H' a (.dK vs) := k.rd _ _ (fun _ _ e => nomatch e) h
section
variable {G : Gm} {H H' : Hp}
mutual
theorem Rep.lk (e : Lk H H') : ∀ {v : V} {d : D}, Rep G H v d → Rep G H' v d
  | _, _, .non => .non
  | _, _, .bl b => .bl b
  | _, _, .int i => .int i
  | _, _, .str x => .str x
  | _, _, .ty x => .ty x
  | _, _, .tup h r => .tup (e.t h) (Reps.lk e r)
  | _, _, .lst h r => .lst (e.lst _ _ h) (Reps.lk e r)
  | _, _, .rol h r => .rol (e.l h) (Reps.lk e r)
  | _, _, .dic h r => .dic (e.dk h) (RepK.lk e r)
  | _, _, .ins h c r => .ins (e.ins _ _ _ _ h) c (RepF.lk e r)
theorem Reps.lk (e : Lk H H') : ∀ {v : List V} {d : List D}, Reps G H v d → Reps G H' v d
  | _, _, .nil => .nil
  | _, _, .cons h r => .cons (Rep.lk e h) (Reps.lk e r)
theorem RepK.lk (e : Lk H H') : ∀ {v : List (Key × V)} {d : List (Key × D)}, RepK G H v d → RepK G H' v d
  | _, _, .nil => .nil
  | _, _, .cons h r => .cons (Rep.lk e h) (RepK.lk e r)
theorem RepF.lk (e : Lk H H') : ∀ {v : List (Str × V)} {d : List (Str × D)}, RepF G H v d → RepF G H' v d
  | _, _, .nil => .nil
  | _, _, .cons h r => .cons (Rep.lk e h) (RepF.lk e r)
end
theorem lk_on {p : Addr} {vs : List (Key × V)} {od : Obj} (h : H p = some (.dK vs)) : Lk H (upd H p (.frz od (.dK vs))) := by
  refine ⟨fun a u nf q => ?_, fun a xs q => ?_, fun a C dx fs q => ?_⟩
  · by_cases e : a = p
    · subst e
      rcases q with q | ⟨o, q⟩
      · rw [h] at q; cases q; exact .inr ⟨od, upd_same⟩
      · rw [h] at q; cases q
    · exact q.imp (fun q => by rw [upd_ne e]; exact q) fun ⟨o, q⟩ => ⟨o, by rw [upd_ne e]; exact q⟩
  · rw [upd_ne (fun e => by subst e; rw [h] at q; cases q)]; exact q
  · rw [upd_ne (fun e => by subst e; rw [h] at q; cases q)]; exact q
theorem lk_off {p : Addr} {vs : List (Key × V)} {od : Obj} (h : H p = some (.frz od (.dK vs))) : Lk H (upd H p (.dK vs)) := by
  refine ⟨fun a u nf q => ?_, fun a xs q => ?_, fun a C dx fs q => ?_⟩
  · by_cases e : a = p
    · subst e
      rcases q with q | ⟨o, q⟩
      · rw [h] at q; cases q; exact absurd rfl (nf _ _)
      · rw [h] at q; cases q; exact .inl upd_same
    · exact q.imp (fun q => by rw [upd_ne e]; exact q) fun ⟨o, q⟩ => ⟨o, by rw [upd_ne e]; exact q⟩
  · rw [upd_ne (fun e => by subst e; rw [h] at q; cases q)]; exact q
  · rw [upd_ne (fun e => by subst e; rw [h] at q; cases q)]; exact q
theorem CellAt.lk {Hs Hs' : Hp} {p q : Addr} {c : Cell} {o : HO} (h : CellAt G Hs H p c) (k : Lk Hs Hs') (n : p ≠ q) : CellAt G Hs' (upd H q o) p c := by
  cases h with
  | lst h r => exact .lst (by rw [upd_ne n]; exact h) (r.lk k)
  | dic h r => exact .dic (by rw [upd_ne n]; exact h) (r.lk k)
  | ins h m r => exact .ins (by rw [upd_ne n]; exact h) m (r.lk k)
/-- the same state where one kept object is seen in another way -/
theorem StOk.lk {r : Rho} {s : St} {Hs : Hp} {q : Addr} {o o' : HO} (S : StOk G r s Hs H) (hq : Hs q = some o') (k : Lk Hs (L2.upd Hs q o)) : StOk G r s (L2.upd Hs q o) (L2.upd H q o) := by
  refine ⟨S.len, fun a u h => ?_, fun i x e => ?_, S.nd⟩
  · by_cases e : a = q
    · subst e; rw [upd_same] at h ⊢; exact h
    · rw [upd_ne e] at h ⊢; exact S.ex a u h
  · have z := S.sl i x e
    revert z
    generalize s[i]? = sv
    intro z
    cases z with
    | no => exact .no
    | sh h => exact .sh (h.lk k)
    | own h1 h2 =>
      rename_i p c
      have n : p ≠ q := fun e => by rw [e, hq] at h1; cases h1
      exact .own (by rw [upd_ne n]; exact h1) (h2.lk k n)
theorem LateOk.lk {r : Rho} {s : St} {Hs : Hp} {q : Addr} {o o' : HO} {v : V} {l : Late} (h : LateOk G r s Hs H v l) (hq : Hs q = some o') (k : Lk Hs (upd Hs q o)) : LateOk G r s (upd Hs q o) (upd H q o) v l := by
  cases h with
  | st h => exact .st (h.lk k)
  | sl h => exact .sl h
  | nw h1 h2 h3 =>
    rename_i p c
    have n : p ≠ q := fun e => by rw [e, hq] at h1; cases h1
    exact .nw (by rw [upd_ne n]; exact h1) (h2.lk k n) h3
/-- what went on under the lock, told without it -/
theorem Go.unlock {O O' : Addr → Prop} {Hs Hs1 H1 : Hp} {q : Addr} {u f : HO} (g : Go O O' (upd Hs q f) (upd H q f) Hs1 H1) (h1 : Hs q = some u) (h2 : H q = some u) : Go O O' Hs H (upd Hs1 q u) (upd H1 q u) := by
  refine ⟨fun a o h => ?_, fun a o h n => ?_, fun a o h hs n => ?_, fun a h => ?_, fun a h => ?_⟩
  · by_cases e : a = q
    · subst e; rw [h1] at h; rw [upd_same]; exact h
    · rw [upd_ne e]; exact g.ss a o (by rw [upd_ne e]; exact h)
  · by_cases e : a = q
    · subst e; rw [h2] at h; rw [upd_same]; exact h
    · rw [upd_ne e]; exact g.kp a o (by rw [upd_ne e]; exact h) n
  · by_cases e : a = q
    · subst e; rw [h1] at hs; cases hs
    · rw [upd_ne e]; exact g.fr a o (by rw [upd_ne e]; exact h) (by rw [upd_ne e]; exact hs) n
  · rcases g.ow a h with z | z
    · exact .inl z
    · by_cases e : a = q
      · subst e; rw [upd_same] at z; cases z
      · rw [upd_ne e] at z; exact .inr z
  · by_cases e : a = q
    · subst e; rw [upd_same] at h; cases h
    · rw [upd_ne e] at h
      have := g.th a h
      rwa [upd_ne e] at this
end
end Z

/-! ZN: comprehensions over a dict of kept data: its names, its pairs, its values. -/
namespace Z
open PySem L2
open PyProof.Rows (envOfC)
open Evl (Ex ex_rd ex_l ex_t)
def keyToD : Key → D
  | .inl i => .int i
  | .inr x => .str x
theorem rep_key {G : Gm} {H : Hp} (k : Key) : Rep G H (kV k) (keyToD k) := by
  cases k
  · exact .int _
  · exact .str _
def mkK (e : Key × D) : D := keyToD e.1
def mkI (e : Key × D) : D := .tup [keyToD e.1, e.2]
def mkV (e : Key × D) : D := e.2
theorem repK_get {G : Gm} {H : Hp} : ∀ {vs : List (Key × V)} {ds : List (Key × D)} {i : Nat} {k : Key} {d : D}, RepK G H vs ds → ds[i]? = some (k, d) → ∃ v, vs[i]? = some (k, v) ∧ Rep G H v d
  | _, _, _, _, _, .nil, h => nomatch h
  | _, _, 0, _, _, .cons a _, h => by
    simp at h
    obtain ⟨rfl, rfl⟩ := h
    exact ⟨_, rfl, a⟩
  | _, _, i + 1, _, _, .cons _ b, h => by
    obtain ⟨v, h1, h2⟩ := repK_get (i := i) b (by simpa using h)
    exact ⟨v, by simpa using h1, h2⟩
section
variable {G : Gm} {p : Addr} {od : Obj} {vs : List (Key × V)} {kvs : List (Key × D)} {still : Rho → Prop} {r1 : Rho} {Hs1 H1 : Hp}
theorem keptK (h1 : Hs1 p = some (.frz od (.dK vs))) (h2 : RepK G Hs1 vs kvs) : WalkOk G (Itk p od vs) (kvs.map mkK) still r1 Hs1 H1 := by
  have wk : Walk (Itk p od vs) (kvs.map mkK).length (fun H => H p = some (.frz od (.dK vs))) (fun i H x H' => H' = H ∧ ∃ k v, vs[i]? = some (k, v) ∧ x = kV k) := by
    rw [List.length_map, ← repK_length h2]; exact walk_keys
  refine ⟨_, _, wk, fun r' s' Hs' H' _ S' g => ⟨S'.ex _ _ (g.ss _ _ h1), fun i x H'' d hd y => ?_⟩⟩
  obtain ⟨rfl, k, v, hk, rfl⟩ := y
  rw [List.getElem?_map, Option.map_eq_some_iff] at hd
  obtain ⟨⟨k2, d2⟩, hd, rfl⟩ := hd
  obtain ⟨v2, e1, e2⟩ := repK_get h2 hd
  rw [hk] at e1
  cases e1
  exact ⟨_, ret0 S'.ex (rep_key k)⟩
theorem keptV (h1 : Hs1 p = some (.frz od (.dK vs))) (h2 : RepK G Hs1 vs kvs) : WalkOk G (Itd p od vs) (kvs.map mkV) still r1 Hs1 H1 := by
  have wk : Walk (Itd p od vs) (kvs.map mkV).length (fun H => H p = some (.frz od (.dK vs))) (fun i H x H' => H' = H ∧ ∃ k, vs[i]? = some (k, x)) := by
    rw [List.length_map, ← repK_length h2]; exact walk_values
  refine ⟨_, _, wk, fun r' s' Hs' H' _ S' g => ⟨S'.ex _ _ (g.ss _ _ h1), fun i x H'' d hd y => ?_⟩⟩
  obtain ⟨rfl, k, hk⟩ := y
  rw [List.getElem?_map, Option.map_eq_some_iff] at hd
  obtain ⟨⟨k2, d2⟩, hd, rfl⟩ := hd
  obtain ⟨v2, e1, e2⟩ := repK_get h2 hd
  rw [hk] at e1
  cases e1
  exact ⟨_, ret0 S'.ex (e2.mono g.ss)⟩
theorem keptI (h1 : Hs1 p = some (.frz od (.dK vs))) (h2 : RepK G Hs1 vs kvs) : WalkOk G (Iti p od vs) (kvs.map mkI) still r1 Hs1 H1 := by
  have wk : Walk (Iti p od vs) (kvs.map mkI).length (fun H => H p = some (.frz od (.dK vs))) (YPair (fun i => vs[i]?.map fun kv => kV kv.1) (fun i => vs[i]?.map Prod.snd)) := by
    rw [List.length_map, ← repK_length h2]; exact walk_items
  refine ⟨_, _, wk, fun r' s' Hs' H' _ S' g => ⟨S'.ex _ _ (g.ss _ _ h1), fun i x H'' d hd y => ?_⟩⟩
  obtain ⟨T, a, b, rfl, hT, rfl, ha, hb⟩ := y
  rw [List.getElem?_map, Option.map_eq_some_iff] at hd
  obtain ⟨⟨k2, d2⟩, hd, rfl⟩ := hd
  obtain ⟨v2, e1, e2⟩ := repK_get h2 hd
  have ha : (vs[i]?.map fun kv => kV kv.1) = some a := ha
  have hb : vs[i]?.map Prod.snd = some b := hb
  rw [e1] at ha hb
  cases ha
  cases hb
  exact ⟨_, retT S'.ex hT (.cons (rep_key k2) (.cons (e2.mono g.ss) .nil))⟩
end
/-- where a dict of the kept data stands: a name, a field of a name -/
structure PathOk (X : Cx) (td : TE) (pth : Rho → Option (Rho × List (Key × D))) : Prop where
  run : ∀ (r : Rho) (s : St) (Hs H : Hp) (r' : Rho) (kvs : List (Key × D)), StOk (gm X) r s Hs H → pth r = some (r', kvs) →
    ∃ Hs' p, StOk (gm X) r' s Hs' H ∧ Go (Own r) (Own r') Hs H Hs' H ∧ Rep (gm X) Hs' (.ref p) (.dic kvs) ∧ ∀ H1 Q, Lk H H1 → Q (.ref p) H1 → td s H1 Q
def pVar (i : Nat) (r : Rho) : Option (Rho × List (Key × D)) := match frz r (.sl i) with
  | some (.dic kvs, r') => some (r', kvs)
  | _ => none
def pFld (i : Nat) (c f : Str) (r : Rho) : Option (Rho × List (Key × D)) := match r[i]? with
  | some (.sh (.ins c' fs)) => if c' = c then match fs.lookup f with
    | some (.dic kvs) => some (r, kvs)
    | _ => none
    else none
  | _ => none
section
variable {X : Cx} {W : WX}
theorem path_var (i : Nat) : PathOk X (tVar i) (pVar i) := by
  refine ⟨fun r s Hs H r' kvs S h => ?_⟩
  unfold pVar at h
  split at h
  · rename_i kv2 r2 e
    cases h
    have hv : ∃ v, s[i]? = some (some v) := by
      simp only [frz] at e
      split at e
      · rename_i d ei
        have z := S.sl i _ ei
        revert z
        generalize s[i]? = sv
        intro z
        cases z
        exact ⟨_, rfl⟩
      · rename_i p c ei
        have z := S.sl i _ ei
        revert z
        generalize s[i]? = sv
        intro z
        cases z
        exact ⟨_, rfl⟩
      · cases e
    obtain ⟨v, hv⟩ := hv
    obtain ⟨Hs', S', rp, g, _⟩ := (LateOk.sl (G := gm X) (r := r) (Hs := Hs) (H := H) hv).frz S Go.refl (fun _ _ q => nomatch q) e
    cases rp with
    | dic hd rk => exact ⟨Hs', _, S', g, .dic hd rk, fun H1 Q _ q => ⟨_, hv, q⟩⟩
  · cases h
theorem path_fld {c f : Str} (i : Nat) (hc : ClsD X.K X.mg c) (hn : NoD X.K X.mg c f) : PathOk X (tFld X.K (tVar i) f) (pFld i c f) := by
  refine ⟨fun r s Hs H r' kvs S h => ?_⟩
  unfold pFld at h
  split at h
  · rename_i c' fs ei
    split at h
    · rename_i ec
      subst ec
      split at h
      · rename_i kv2 el
        cases h
        have z := S.sl i _ ei
        revert z
        generalize hsi : s[i]? = sv
        intro z
        cases z with
        | sh rp =>
          cases rp with
          | ins hq hm rf =>
            obtain ⟨v1, lv, rv⟩ := repF_look rf el
            obtain ⟨C1, m1, hc⟩ := hc
            obtain ⟨C2, m2, hn⟩ := hn
            cases m1.symm.trans hm
            cases m2.symm.trans hm
            cases rv with
            | dic hd rk => exact ⟨Hs, _, S, Go.refl, .dic hd rk, fun H1 Q k q => ⟨_, hsi, _, _, _, _, _, rfl, k.ins _ _ _ _ (S.ex _ _ hq), hc, hn, lv, q⟩⟩
      · cases h
    · cases h
  · cases h
/-- [elt for tg in d ..] -/
@[simp] def wLcD (mk : Key × D → D) (pth : Rho → Option (Rho × List (Key × D))) (g : WG) (t : TWt) (we : XW) (vs : List Nat) : XW := fun r P PE => match pth r with
  | some (r', kvs) => kvs.length ≤ sizeLine ∧ lcW g t we (fun _ => True) vs (kvs.map mk) [] (wipeR r' vs) fun acc r2 => ∀ p, P (.nw p (.lst acc)) (restR r' r2 vs)
  | none => False
theorem lcD_core {mk : Key × D → D} {pth : Rho → Option (Rho × List (Key × D))} {is : List Nat} {g : WG} {t : TWt} {we : XW} {vs : List Nat} {td : TE} {J : Addr → Obj → List (Key × V) → It} (hp : PathOk X td pth) (hv : ∀ i ∈ is, i ∈ vs)
    (hJ : ∀ {p : Addr} {od : Obj} {ws : List (Key × V)} {kvs : List (Key × D)} {still : Rho → Prop} {r1 : Rho} {Hs1 H1 : Hp}, Hs1 p = some (.frz od (.dK ws)) → RepK (gm X) Hs1 ws kvs → WalkOk (gm X) (J p od ws) (kvs.map mk) still r1 Hs1 H1)
    {ti : TI} (hti : ∀ s H p od ws R, (∀ Q, Q (.ref p) H → td s H Q) → H p = some (.frz od (.dK ws)) → R (J p od ws) H → ti s H R) {s : St} {H : Hp} {Q : VK} (q : tW (gm X) W (wLcD mk pth g t we vs) s H Q) :
    tLc ti (tWG (gm X) is g) (tWT (gm X) W0 t) (tW (gm X) W0 we) vs s H Q ∨ tLockE (tLc ti (tWG (gm X) is g) (tWT (gm X) W0 t) (tW (gm X) W0 we) vs) s H Q := by
  obtain ⟨r, Hs, P, PE, S, w, k, ke⟩ := q
  simp only [wLcD] at w
  split at w
  · rename_i r' kvs ep
    obtain ⟨Hs', p, S', g0, rp, htd⟩ := hp.run r s Hs H r' kvs S ep
    cases rp with
    | dic hd rk =>
      rename_i ws
      rcases hd with hd | ⟨od, hd⟩
      · refine .inr ⟨p, .dK ws, S'.ex _ _ hd, trivial, fun od => ?_⟩
        have on := lk_on (od := od) hd
        have onH := lk_on (od := od) (S'.ex _ _ hd)
        have S1 := S'.lk hd on
        refine hti _ _ p od ws _ (fun Q hq => htd _ Q onH hq) upd_same ?_
        refine lc_body (r := r') (r1 := r') (Hs := upd Hs' p (.frz od (.dK ws))) (P := P) (Q := fun v H' => H' p = some (.frz od (.dK ws)) ∧ Q v (upd H' p (.dK ws))) hv (Out.refl S1) (hJ upd_same (rk.lk on)) ⟨by rw [List.length_map]; exact w.1, trivial, w.2⟩ fun l r2 v Hs2 H2 pl o lo n => ?_
        have h2 : Hs2 p = some (.frz od (.dK ws)) := o.g.ss _ _ upd_same
        have off := lk_off h2
        refine ⟨o.S.ex _ _ h2, ?_⟩
        refine k l r2 v _ _ pl ⟨o.S.lk h2 off, g0.trans (o.g.unlock hd (S'.ex _ _ hd))⟩ (lo.lk h2 off) fun a c e => ?_
        have z := n a c e
        by_cases ea : a = p
        · subst ea; rw [upd_same] at z; cases z
        · rw [upd_ne ea] at z; exact g0.th a z
      · refine .inl (hti _ _ p od ws _ (fun Q hq => htd _ Q ⟨fun _ _ _ h => h, fun _ _ h => h, fun _ _ _ _ h => h⟩ hq) (S'.ex _ _ hd) ?_)
        exact lc_body (r := r) (r1 := r') (P := P) (Q := Q) hv ⟨S', g0⟩ (hJ hd rk) ⟨by rw [List.length_map]; exact w.1, trivial, w.2⟩ k
  · exact w.elim
theorem pe_orLock {e : Expr} {t : TE} (h : PE X e t) : PE X e (fun s H Q => t s H Q ∨ tLockE t s H Q) := ⟨fun pins s σ H Q I q => q.elim (fun q => h.run pins s σ H Q I q) fun q => (pe_lock h).run pins s σ H Q I q⟩
theorem se_lcK {elt tg iter : Expr} {ifs : List Expr} {scope : Scope} {own : List (Str × Nat)} {pos : Pos} {is : List Nat} {g : WG} {t : TWt} {we : XW} {pth : Rho → Option (Rho × List (Key × D))} {td : TE} (hc : X.calm = true) (hN : X.N.Nodup) (hi : PE X iter td) (hp : PathOk X td pth) (ok : BlkOk X.N X.env.scope scope own)
    (hg : ∀ (s : Shared) (H : Hp) (C : Addr) (cl : List (Str × Addr)) (fp : List Addr), SG (X.blk s H scope (compEnvC scope cl C X.env) fp) tg is g) (ht : ∀ (s : Shared) (H : Hp) (C : Addr) (cl : List (Str × Addr)) (fp : List Addr), STs (X.blk s H scope (compEnvC scope cl C X.env) fp) W0 ifs t)
    (he : ∀ (s : Shared) (H : Hp) (C : Addr) (cl : List (Str × Addr)) (fp : List Addr), SE (X.blk s H scope (compEnvC scope cl C X.env) fp) W0 elt we) (hv : ∀ i ∈ is, i ∈ own.map (·.2)) (hs : ∀ x, foldedSetIterable iter X.env x = pure x := by intro _; rfl) :
    SE X W (.ListComp elt [⟨tg, iter, ifs, 0⟩] scope pos) (wLcD mkK pth g t we (own.map (·.2))) :=
  pe_imp (pe_orLock (pe_lc (g := tWG (gm X) is g) (tt := tWT (gm X) W0 t) (te := tW (gm X) W0 we) hc hN (pi_keys hi) ok hg ht he hs)) fun s H Q q =>
    lcD_core (J := Itk) hp hv (fun h1 h2 => keptK h1 h2) (fun s H p od ws R h1 h2 h3 => h1 _ ⟨p, od, rfl, .inl ⟨ws, h2, h3⟩⟩) q
theorem se_lcI {elt e : Expr} {elts : List Expr} {kk : Nat} {tpos apos cpos pos : Pos} {ifs : List Expr} {scope : Scope} {own : List (Str × Nat)} {is : List Nat} {g : WG} {t : TWt} {we : XW} {pth : Rho → Option (Rho × List (Key × D))} {td : TE} (hc : X.calm = true) (hN : X.N.Nodup) (hi : PE X e td) (hp : PathOk X td pth) (ok : BlkOk X.N X.env.scope scope own)
    (hg : ∀ (s : Shared) (H : Hp) (C : Addr) (cl : List (Str × Addr)) (fp : List Addr), SG (X.blk s H scope (compEnvC scope cl C X.env) fp) (.Tuple elts kk tpos) is g) (ht : ∀ (s : Shared) (H : Hp) (C : Addr) (cl : List (Str × Addr)) (fp : List Addr), STs (X.blk s H scope (compEnvC scope cl C X.env) fp) W0 ifs t)
    (he : ∀ (s : Shared) (H : Hp) (C : Addr) (cl : List (Str × Addr)) (fp : List Addr), SE (X.blk s H scope (compEnvC scope cl C X.env) fp) W0 elt we) (hv : ∀ i ∈ is, i ∈ own.map (·.2)) (hbase : attributeBase e "items" X.env (eval e X.env) = eval e X.env := by rfl) (hline : (apos.endLine == cpos.line) = true := by rfl)
    (hs : ∀ x, foldedSetIterable (.Call (.Attribute e "items" apos) [] [] cpos) X.env x = pure x := by intro _; rfl) :
    SE X W (.ListComp elt [⟨.Tuple elts kk tpos, .Call (.Attribute e "items" apos) [] [] cpos, ifs, 0⟩] scope pos) (wLcD mkI pth g t we (own.map (·.2))) :=
  pe_imp (pe_orLock (pe_lc (g := tWG (gm X) is g) (tt := tWT (gm X) W0 t) (te := tW (gm X) W0 we) hc hN (pi_items hi hbase hline) ok hg ht he hs)) fun s H Q q =>
    lcD_core (J := Iti) hp hv (fun h1 h2 => keptI h1 h2) (fun s H p od ws R h1 h2 h3 => h1 _ ⟨p, od, ws, rfl, h2, h3⟩) q
end
end Z

/-! ZO: a dict asked, a dict written. -/
namespace Z
open PySem L2
open PyProof.Rows (envOfC)
open Evl (Ex ex_rd ex_l ex_t)
def valD (kvs : List (Key × D)) (k : Key) : Option D := (kvs.find? fun e => decide (e.1 = k)).map (·.2)
theorem repK_val {G : Gm} {H : Hp} {k : Key} : ∀ {vs : List (Key × V)} {ds : List (Key × D)}, RepK G H vs ds → (valV vs k = none ∧ valD ds k = none) ∨ ∃ v d, valV vs k = some v ∧ valD ds k = some d ∧ Rep G H v d
  | _, _, .nil => .inl ⟨rfl, rfl⟩
  | (k2, v) :: vs, (_, d) :: ds, .cons a b => by
    by_cases e : k2 = k
    · exact .inr ⟨v, d, by simp [valV, List.find?_cons, e], by simp [valD, List.find?_cons, e], a⟩
    · have h1 : valV ((k2, v) :: vs) k = valV vs k := by simp [valV, List.find?_cons, e]
      have h2 : valD ((k2, d) :: ds) k = valD ds k := by simp [valD, List.find?_cons, e]
      rw [h1, h2]
      exact repK_val b
def putKD (kvs : List (Key × D)) (k : Key) (d : D) : List (Key × D) :=
  if (kvs.any fun e => decide (e.1 = k)) = true then kvs.map (fun e => if e.1 = k then (e.1, d) else e) else kvs ++ [(k, d)]
theorem repK_any {G : Gm} {H : Hp} {k : Key} : ∀ {vs : List (Key × V)} {ds : List (Key × D)}, RepK G H vs ds → (vs.any fun e => decide (e.1 = k)) = ds.any fun e => decide (e.1 = k)
  | _, _, .nil => rfl
  | (k2, v) :: vs, (_, d) :: ds, .cons a b => by rw [List.any_cons, List.any_cons, repK_any b]
theorem repK_map {G : Gm} {H : Hp} {k : Key} {v : V} {d : D} (h : Rep G H v d) : ∀ {vs : List (Key × V)} {ds : List (Key × D)}, RepK G H vs ds → RepK G H (vs.map fun e => if e.1 = k then (e.1, v) else e) (ds.map fun e => if e.1 = k then (e.1, d) else e)
  | _, _, .nil => .nil
  | (k2, v2) :: vs, (_, d2) :: ds, .cons a b => by
    rw [List.map_cons, List.map_cons]
    by_cases e : k2 = k
    · rw [if_pos e, if_pos e]; exact .cons h (repK_map h b)
    · rw [if_neg e, if_neg e]; exact .cons a (repK_map h b)
theorem repK_snoc {G : Gm} {H : Hp} {k : Key} {v : V} {d : D} (h : Rep G H v d) : ∀ {vs : List (Key × V)} {ds : List (Key × D)}, RepK G H vs ds → RepK G H (vs ++ [(k, v)]) (ds ++ [(k, d)])
  | _, _, .nil => .cons h .nil
  | (k2, v2) :: vs, (_, d2) :: ds, .cons a b => .cons a (repK_snoc h b)
theorem repK_put {G : Gm} {H : Hp} {k : Key} {v : V} {d : D} {vs : List (Key × V)} {ds : List (Key × D)} (h : Rep G H v d) (r : RepK G H vs ds) : RepK G H (putK vs k v) (putKD ds k d) := by
  unfold putK putKD
  rw [repK_any r]
  split
  · exact repK_map h r
  · exact repK_snoc h r
@[simp] def onDic (d : D) (k : List (Key × D) → Prop) : Prop := match d with
  | .dic kvs => k kvs
  | _ => False
theorem onDic_iff {d : D} {k : List (Key × D) → Prop} (h : onDic d k) : ∃ kvs, d = .dic kvs ∧ k kvs := by
  cases d <;> first | exact h.elim | exact ⟨_, rfl, h⟩
theorem key_v {G : Gm} {Hs H : Hp} {v : V} {d : D} {k : Key} (h : RepB G Hs H v d) (e : keyD d = some k) : v = kV k := by
  cases d <;> simp only [keyD, Option.some.injEq, reduceCtorEq] at e
  · subst e; exact h.intv
  · subst e; exact h.strv
section
variable {X : Cx} {W : WX} {a b e o i : Expr} {wo wi w : XW} {pos : Pos} {j : Nat}
/-- o[i], o a dict -/
@[simp] def wDGet (wo wi : XW) : XW := fun r P PE => wo r (fun lo r1 => wi r1 (fun li r2 => withD r2 lo fun d => withD r2 li fun dk => onDic d fun kvs => ∃ k v, keyD dk = some k ∧ valD kvs k = some v ∧ P (.st v) r2) PE) PE
theorem se_dget (hr : Room j X.A) (ho : SE X W o wo) (hi : SE X W i wi) (hs : NoSl i := by intro _ _; rfl) : SE X W (.Subscript o i pos) (wDGet wo wi) := by
  refine pe_imp (pe_dget (by have := hr.units; omega) ho hi hs) fun s H Q q => ?_
  obtain ⟨r, Hs, P, PE, S, w, kq, ke⟩ := q
  refine ⟨r, Hs, _, PE, S, w, fun lo r1 x Hs1 H1 p1 o1 l1 n1 => ?_, ke⟩
  refine ⟨r1, Hs1, _, PE, o1.S, p1, fun li r2 y Hs2 H2 p2 o2 l2 n2 => ?_, ke.mono o1⟩
  obtain ⟨d, ed, p3⟩ := withD_iff p2
  obtain ⟨dk, ek, p4⟩ := withD_iff p3
  obtain ⟨kvs, rfl, k, v, hk, hv, p5⟩ := onDic_iff p4
  obtain ⟨p, vs, rfl, hp, rk⟩ := ((l1.go o2.g).res o2.S ed).dicv o2.S.ex
  obtain rfl := key_v (l2.res o2.S ek) hk
  rcases repK_val (k := k) rk with ⟨_, h⟩ | ⟨v1, d1, h1, h2, rv⟩
  · rw [hv] at h; cases h
  · rw [hv] at h2
    cases h2
    exact ⟨p, v1, rfl, .inl ⟨vs, k, hp, rfl, h1.symm⟩, kq _ _ _ _ _ p5 (o1.trans o2) (.st rv) (fun _ _ q => nomatch q)⟩
/-- i in o, o a dict -/
@[simp] def wDIn (neg : Bool) (wi wo : XW) : XW := fun r P PE => wi r (fun li r1 => wo r1 (fun lo r2 => withD r2 lo fun d => withD r2 li fun dk => onDic d fun kvs => ∃ k, keyD dk = some k ∧ P (.st (.bl ((valD kvs k).isSome != neg))) r2) PE) PE
theorem din_core {neg : Bool} {r : Rho} {s : St} {Hs H : Hp} {P : Late → Rho → Prop} {PE : Exc → Rho → Prop} {Q : VK} (S : StOk (gm X) r s Hs H) (w : wDIn neg wi wo r P PE) (kq : ∀ l r' v Hs' H', P l r' → Out (gm X) r s Hs H r' Hs' H' → LateOk (gm X) r' s Hs' H' v l → NewAt H l → Q v H') (ke : EXC (gm X) W PE r s Hs H) :
    tW (gm X) W wi s H fun y H1 => tW (gm X) W wo s H1 fun x H2 => ∃ a o, x = .ref a ∧ DGet H2 a y o ∧ Q (.bl (o.isSome != neg)) H2 := by
  refine ⟨r, Hs, _, PE, S, w, fun li r1 y Hs1 H1 p1 o1 l1 n1 => ?_, ke⟩
  refine ⟨r1, Hs1, _, PE, o1.S, p1, fun lo r2 x Hs2 H2 p2 o2 l2 n2 => ?_, ke.mono o1⟩
  obtain ⟨d, ed, p3⟩ := withD_iff p2
  obtain ⟨dk, ek, p4⟩ := withD_iff p3
  obtain ⟨kvs, rfl, k, hk, p5⟩ := onDic_iff p4
  obtain ⟨p, vs, rfl, hp, rk⟩ := (l2.res o2.S ed).dicv o2.S.ex
  obtain rfl := key_v ((l1.go o2.g).res o2.S ek) hk
  refine ⟨p, valV vs k, rfl, .inl ⟨vs, k, hp, rfl, rfl⟩, ?_⟩
  have e : (valV vs k).isSome = (valD kvs k).isSome := by
    rcases repK_val (k := k) rk with ⟨h1, h2⟩ | ⟨v1, d1, h1, h2, _⟩ <;> rw [h1, h2] <;> rfl
  rw [e]
  exact kq _ _ _ _ _ p5 (o1.trans o2) (.st (.bl _)) (fun _ _ q => nomatch q)
theorem se_din (hr : Room j X.A) (hi : SE X W i wi) (ho : SE X W o wo) (hm : behindInMarks .In o = false := by first | exact nobehind _ (by decide) (by decide) | rfl) : SE X W (.Compare i [.In] [o] pos) (wDIn false wi wo) := by
  refine pe_imp (pe_cmp (pc_din (by have := hr.units; omega) hi ho) hm) fun s H Q q => ?_
  obtain ⟨r, Hs, P, PE, S, w, kq, ke⟩ := q
  have z := din_core (W := W) S w kq ke
  have f : ∀ b : Bool, (b != false) = b := fun b => by cases b <;> rfl
  simp only [f] at z
  exact z
theorem se_dnotin (hr : Room j X.A) (hi : SE X W i wi) (ho : SE X W o wo) (hm : behindInMarks .NotIn o = false := by first | exact nobehind _ (by decide) (by decide) | rfl) : SE X W (.Compare i [.NotIn] [o] pos) (wDIn true wi wo) := by
  refine pe_imp (pe_cmp (pc_dnotin (by have := hr.units; omega) hi ho) hm) fun s H Q q => ?_
  obtain ⟨r, Hs, P, PE, S, w, kq, ke⟩ := q
  have z := din_core (W := W) S w kq ke
  have f : ∀ b : Bool, (b != true) = !b := fun b => by cases b <;> rfl
  simp only [f] at z
  exact z
/-- x[i] = e, x one's own dict -/
@[simp] def wSetD (n : Nat) (wi w : XW) : WS := fun r F => w r (fun l r1 => match r1[n]? with
  | some (Sl.own _ _) => wi r1 (fun li r2 => withD r2 li fun dk => withF r2 l fun d r3 => match r3[n]? with
    | some (Sl.own p (.dic kvs)) => ∃ k, keyD dk = some k ∧ kvs.length < sizeLine ∧ F.nx (r3.set n (.own p (.dic (putKD kvs k d))))
    | _ => False) F.ex
  | _ => False) F.ex
theorem ss_setD {x : Str} {px pos' : Pos} (n : Nat) (hr : Room j X.A) (he : SE X W e w) (hi : SE X W i wi) (hN : X.N[n]? = some x := by rfl) (hv : Vis X.env.scope x := by first | exact Or.inl rfl | exact Or.inr (Or.inl rfl) | exact Or.inr (Or.inr rfl))
    (hd : (x == ("__debug__" : Str)) = false := by decide) (hcd : (x == ("__classdict__" : Str)) = false := by decide) (hs : swapsWith e (some (.Subscript (.Name x px) i pos')) pos.line X.env = pure false := by rfl) : SS X W (.Assign [.Subscript (.Name x px) i pos'] e pos) (wSetD n wi w) := by
  refine ps_imp (ps_dput (by have := hr.units; omega) (pe_var hN hv hd hcd) hi he hs) fun D s H q => ?_
  obtain ⟨r, Hs, F, S, w, k⟩ := q
  refine tw_run S w k fun l r1 v Hs1 H1 p o lo n1 => ?_
  split at p
  · rename_i a0 c0 e0
    have hex : s[n]? = some (some (.ref a0)) := by
      have z := o.S.sl n _ e0
      revert z
      generalize s[n]? = sv
      intro z
      cases z; rfl
    refine ⟨_, hex, ?_⟩
    refine tw_run o.S p (k.mono o.outS) fun li r2 vi Hs2 H2 p2 o2 l2 n2 => ?_
    obtain ⟨dk, ek, p3⟩ := withD_iff p2
    obtain ⟨d, r3, ez, p4⟩ := withF_iff p3
    have oo := o.trans o2
    have rki := l2.res o2.S ek
    obtain ⟨Hs3, S3, rp, g3, _⟩ := (lo.go o2.g).frz o2.S oo.g n1 ez
    split at p4
    · rename_i p' kvs e'
      obtain ⟨kk, hk, hl, p5⟩ := p4
      obtain rfl := key_v rki hk
      have z := S3.sl n _ e'
      rw [hex] at z
      cases z with
      | own y1 y2 =>
        cases y2 with
        | dic h1 h2 =>
          rename_i vs
          have u := own_updC (o := .dK (putK vs kk v)) S3 hex e' (c' := .dic (putKD kvs kk d)) (.dic upd_same (repK_put rp h2))
          refine ⟨a0, _, rfl, .inl ⟨vs, kk, h1, rfl, by rw [repK_length h2]; exact hl, rfl⟩, ?_⟩
          exact k.nx _ _ _ _ p5 (Out.outS (Out.trans ⟨S3, g3⟩ u.2.2))
    · exact p4.elim
  · exact p.elim
end
end Z

/-! ZP: list, dict, sorted of dicts and texts. -/
namespace Z
open PySem L2
open PyProof.Rows (envOfC sortedS)
open Evl (Ex ex_rd ex_l ex_t)
section
variable {X : Cx}
theorem reps_keys {G : Gm} {H : Hp} : ∀ {vs : List (Key × V)} {kvs : List (Key × D)}, RepK G H vs kvs → Reps G H (vs.map fun kv => kV kv.1) (kvs.map mkK)
  | _, _, .nil => .nil
  | (k, v) :: vs, (_, d) :: kvs, .cons a b => .cons (rep_key k) (reps_keys b)
def gListA : GC
  | [d], P => match d with
    | .dic kvs => P (.new (.lst (kvs.map mkK)))
    | d => ∃ ds, seqD d = some ds ∧ P (.new (.lst ds))
  | _, _ => False
theorem cg_listA (hc : X.calm = true) : CaG X (.type "list") gListA := by
  obtain ⟨rr, h1, h2⟩ := cg_list (X := X)
  refine ⟨_, CallR.or h1 (call_listD hc), fun xs ds Hs H P Q e rs q k => ?_⟩
  unfold gListA at q
  split at q
  · rename_i d
    split at q
    · obtain ⟨v, rfl, rx⟩ := rs.one
      obtain ⟨p, vs, rfl, hp, rk⟩ := rx.dicv e
      exact .inr ⟨p, vs, rfl, hp, fun l hl => k _ _ _ _ q (retL e hl (reps_keys rk))⟩
    · exact .inl (h2 _ _ _ _ _ _ e rs q k)
  · exact q.elim
/-- dict(d), a copy -/
def gDictC : GC
  | [.dic kvs], P => P (.new (.dic kvs))
  | _, _ => False
theorem cg_dictC : CaG X (.type "dict") gDictC := by
  refine ⟨_, call_dictD, fun xs ds Hs H P Q e rs q k => ?_⟩
  unfold gDictC at q
  split at q
  · obtain ⟨v, rfl, rx⟩ := rs.one
    obtain ⟨p, vs, rfl, hp, rk⟩ := rx.dicv e
    exact ⟨p, vs, rfl, hp, fun l hl => k _ _ _ _ q (retK e hl rk)⟩
  · exact q.elim
/-- dict(pairs) -/
def pairsD : List D → Option (List (Key × D))
  | [] => some []
  | .tup [dk, d] :: ds => match keyD dk, pairsD ds with
    | some k, some r => some ((k, d) :: r)
    | _, _ => none
  | _ => none
def mergeKD (more : List (Key × D)) : List (Key × D) := more.foldl (fun acc e => putKD acc e.1 e.2) []
theorem repK_merge {G : Gm} {H : Hp} : ∀ {ms : List (Key × V)} {es : List (Key × D)} {vs : List (Key × V)} {kvs : List (Key × D)}, RepK G H ms es → RepK G H vs kvs → RepK G H (ms.foldl (fun acc kv => putK acc kv.1 kv.2) vs) (es.foldl (fun acc e => putKD acc e.1 e.2) kvs)
  | _, _, _, _, .nil, h => h
  | (k, v) :: ms, (_, d) :: es, vs, kvs, .cons a b, h => repK_merge (vs := putK vs k v) (kvs := putKD kvs k d) b (repK_put a h)
theorem pairs_v {G : Gm} {Hs H : Hp} (e : Ex Hs H) : ∀ {ds : List D} {vs : List V} {kvs : List (Key × D)}, Reps G Hs vs ds → pairsD ds = some kvs → ∃ (ps : List Addr) (ms : List (Key × V)), vs = ps.map V.ref ∧ Paired (fun p kv => SqT G.K H p [kV kv.1, kv.2]) ps ms ∧ RepK G Hs ms kvs
  | [], _, _, .nil, h => by
    simp [pairsD] at h
    subst h
    exact ⟨[], [], rfl, .nil, .nil⟩
  | d :: ds, _, kvs, .cons a b, h => by
    unfold pairsD at h
    split at h
    · cases h
      contradiction
    · rename_i dk d2 ds2 eq
      cases eq
      split at h
      · rename_i k r hk hr
        cases h
        obtain ⟨ps, ms, rfl, pr, rk⟩ := pairs_v e b hr
        cases a with
        | tup hs ha =>
          rename_i p ws
          cases ha with
          | cons a1 ha =>
            cases ha with
            | cons a2 ha =>
              cases ha
              obtain rfl := key_v (RepB.st (H := H) a1) hk
              exact ⟨p :: ps, (k, _) :: ms, rfl, .cons (ex_t e hs) pr, .cons a2 rk⟩
      · cases h
    · cases h
def gDictP : GC
  | [d], P => ∃ ds kvs, seqL d = some ds ∧ pairsD ds = some kvs ∧ P (.new (.dic (mergeKD kvs)))
  | _, _ => False
theorem cg_dictP (hc : X.calm = true) : CaG X (.type "dict") gDictP := by
  refine ⟨_, call_dictP hc, fun xs ds Hs H P Q e rs q k => ?_⟩
  unfold gDictP at q
  split at q
  · obtain ⟨ds, kvs, h1, h2, q⟩ := q
    obtain ⟨v, rfl, rx⟩ := rs.one
    obtain ⟨p, vs, rfl, hs, rp⟩ := rx.seqLv h1 e
    obtain ⟨ps, ms, rfl, pr, rk⟩ := pairs_v e rp h2
    exact ⟨p, ps, ms, rfl, hs, pr, fun l hl => k _ _ _ _ q (retK e hl (repK_merge rk .nil))⟩
  · exact q.elim
/-- sorted of texts, of a dict's names -/
def gSorted : GC
  | [d], P => ∃ zs : List Str, ((∃ ds, seqL d = some ds ∧ strsD ds = some zs) ∨ ∃ kvs, d = .dic kvs ∧ kvs.map (·.1) = zs.map Sum.inr) ∧ zs.length < 64 ∧ ∀ ys : List Str, ys.Perm zs → sortedS ys = true → P (.new (.lst (ys.map D.str)))
  | _, _ => False
theorem reps_ofStrs {G : Gm} {H : Hp} : ∀ zs : List Str, Reps G H (zs.map V.str) (zs.map D.str)
  | [] => .nil
  | z :: zs => .cons (.str z) (reps_ofStrs zs)
theorem repK_keys {G : Gm} {H : Hp} : ∀ {vs : List (Key × V)} {kvs : List (Key × D)}, RepK G H vs kvs → vs.map (·.1) = kvs.map (·.1)
  | _, _, .nil => rfl
  | (k, v) :: vs, (_, d) :: kvs, .cons a b => by rw [List.map_cons, List.map_cons, repK_keys b]
theorem cg_sorted (hc : X.calm = true) : CaG X (.builtin "sorted") gSorted := by
  refine ⟨_, CallR.or cr_sortedS (call_sortedD hc), fun xs ds Hs H P Q e rs q k => ?_⟩
  unfold gSorted at q
  split at q
  · obtain ⟨zs, how, hl, q⟩ := q
    obtain ⟨v, rfl, rx⟩ := rs.one
    rcases how with ⟨ds, h1, h2⟩ | ⟨kvs, rfl, h1⟩
    · obtain ⟨p, vs, rfl, hs, rp⟩ := rx.seqLv h1 e
      rw [strsD_eq h2] at rp
      rw [reps_strs rp] at hs
      exact .inl ⟨p, zs, rfl, hs, hl, fun ys l pm so hn => k _ _ _ _ (q ys pm so) (retL e hn (reps_ofStrs ys))⟩
    · obtain ⟨p, vs, rfl, hp, rk⟩ := rx.dicv e
      exact .inr ⟨p, vs, zs, rfl, hp, (repK_keys rk).trans h1, hl, fun ys l pm so hn => k _ _ _ _ (q ys pm so) (retL e hn (reps_ofStrs ys))⟩
  · exact q.elim
end
end Z

/-! ZQ: dict comprehensions. -/
namespace Z
open PySem L2
open PyProof.Rows (envOfC)
open Evl (Ex ex_rd ex_l ex_t)
section
variable {J : It} {n : Nat} {GG : Hp → Prop} {Y : Nat → Hp → V → Hp → Prop}
/-- the turns of a dict comprehension, by what holds ahead of each -/
theorem dc_turns (w : Walk J n GG Y) {g : TG} {tt : TT} {tk tv : TE} {vs : List Nat} {σ : St} {H1 : Hp} {D : Addr} {Qd : Hp → Prop} (Pv : Nat → Hp → Prop) (h0 : Pv 0 (upd H1 D (.dK []))) (hG : ∀ i H, i ≤ n → Pv i H → GG H)
    (hs : ∀ i x H H', i < n → Pv i H → Y i H x H' → g x (wipe σ vs) H' fun σ2 H2 => wipe σ2 vs = wipe σ vs ∧ tt σ2 H2 fun b H3 =>
      if b = true then tk σ2 H3 fun y H4 => tv σ2 H4 fun z H5 => ∃ kvs k, y = kV k ∧ H5 D = some (.dK kvs) ∧ kvs.length < sizeLine ∧ Pv (i + 1) (upd H5 D (.dK (putK kvs k z))) else Pv (i + 1) H3) (hd : ∀ H, Pv n H → Qd H) :
    ∃ W : Nat → Nat → Hp → Prop, (∃ m, W 0 m (upd H1 D (.dK []))) ∧ ∀ i m H, W i m H →
      (J.stop i H ∧ Qd H) ∨ (J.go i H ∧ ∃ Nx : Hp → Prop, (∀ H', Nx H' → ∃ m', m' < m ∧ W (i + 1) m' H') ∧ ∀ x H', J.yld i H x H' → g x (wipe σ vs) H' fun σ2 H2 => wipe σ2 vs = wipe σ vs ∧ tt σ2 H2 fun b H3 =>
        if b = true then tk σ2 H3 fun y H4 => tv σ2 H4 fun z H5 => ∃ kvs k, y = kV k ∧ H5 D = some (.dK kvs) ∧ kvs.length < sizeLine ∧ Nx (upd H5 D (.dK (putK kvs k z))) else Nx H3) := by
  refine ⟨fun i m H => m = n - i ∧ i ≤ n ∧ Pv i H, ⟨n, rfl, Nat.zero_le _, h0⟩, fun i m H hw => ?_⟩
  obtain ⟨rfl, hi, p⟩ := hw
  rcases Nat.lt_or_ge i n with lt | ge
  · exact .inr ⟨w.goes i H lt (hG i H hi p), Pv (i + 1), fun H' p' => ⟨n - (i + 1), by omega, rfl, lt, p'⟩, fun x H' y => hs i x H H' lt p (w.yields i H x H' lt (hG i H hi p) y)⟩
  · obtain rfl : i = n := by omega
    exact .inl ⟨w.stops H (hG i H hi p), hd H p⟩
end
def dcW (g : WG) (t : TWt) (wk wv : XW) (still : Rho → Prop) (vs : List Nat) : List D → List (Key × D) → Rho → (List (Key × D) → Rho → Prop) → Prop
  | [], acc, r, P => P acc r
  | d :: ds, acc, r, P => g d r fun r1 => t r1 (fun k r2 => if k = true then wk r2 (fun l r3 => withD r3 l fun dk => ∃ key, keyD dk = some key ∧ wv r3 (fun l2 r4 => withF r4 l2 fun e r5 => still (wipeR r5 vs) ∧ dcW g t wk wv still vs ds (putKD acc key e) (wipeR r5 vs) P) (fun _ _ => False)) (fun _ _ => False)
    else still (wipeR r2 vs) ∧ dcW g t wk wv still vs ds acc (wipeR r2 vs) P) (fun _ _ => False)
theorem putKD_len (kvs : List (Key × D)) (k : Key) (d : D) : (putKD kvs k d).length ≤ kvs.length + 1 := by
  unfold putKD
  split
  · rw [List.length_map]; omega
  · rw [List.length_append]; exact Nat.le_refl _
section
variable {X : Cx} {W : WX}
theorem dc_body {is : List Nat} {g : WG} {t : TWt} {wk wv : XW} {vs : List Nat} (hv : ∀ i ∈ is, i ∈ vs) {r r1 : Rho} {s : St} {Hs H Hs1 H1 : Hp} {P : Late → Rho → Prop} {Q : VK} {items : List D} {still : Rho → Prop} {J : It}
    (o : Out (gm X) r s Hs H r1 Hs1 H1) (wk' : WalkOk (gm X) J items still r1 Hs1 H1) (p : items.length ≤ sizeLine ∧ still (wipeR r1 vs) ∧ dcW g t wk wv still vs items [] (wipeR r1 vs) fun acc r2 => ∀ p, P (.nw p (.dic acc)) (restR r1 r2 vs))
    (k : ∀ l r' v Hs' H', P l r' → Out (gm X) r s Hs H r' Hs' H' → LateOk (gm X) r' s Hs' H' v l → NewAt H l → Q v H') :
    tDc (fun _ _ R => R J H1) (tWG (gm X) is g) (tWT (gm X) W0 t) (tW (gm X) W0 wk) (tW (gm X) W0 wv) vs s H1 Q := by
  obtain ⟨GG, Y, wk', st⟩ := wk'
  obtain ⟨hsz, hst, p⟩ := p
  intro Dl hD
  have hDs : Hs1 Dl = none := Evl.fresh_back o.S.ex hD
  have nD : ¬ Own (wipeR r1 vs) Dl := fun h => o.S.notOwn hD (own_wipe h)
  let Inv : Nat → Hp → Prop := fun i H' => ∃ (r' : Rho) (Hs' : Hp) (acc : List (Key × D)) (va : List (Key × V)), still r' ∧ dcW g t wk wv still vs (items.drop i) acc r' (fun acc r2 => ∀ p, P (.nw p (.dic acc)) (restR r1 r2 vs)) ∧
    StOk (gm X) r' (L2.wipe s vs) Hs' H' ∧ Go (fun a => Own (wipeR r1 vs) a ∨ a = Dl) (fun a => Own r' a ∨ a = Dl) Hs1 (L2.upd H1 Dl (.dK [])) Hs' H' ∧ H' Dl = some (.dK va) ∧ RepK (gm X) Hs' va acc ∧ acc.length ≤ i ∧ Hs' Dl = none ∧ ¬ Own r' Dl
  have goR : ∀ {r' : Rho} {Hs' H' : Hp}, Go (fun a => Own (wipeR r1 vs) a ∨ a = Dl) (fun a => Own r' a ∨ a = Dl) Hs1 (L2.upd H1 Dl (.dK [])) Hs' H' → Hs' Dl = none → ¬ Own r' Dl → Go (Own r1) (Own r') Hs1 H1 Hs' H' := fun {r' Hs' H'} g h1 h2 => by
    refine ⟨g.ss, fun a u h n => ?_, fun a u h hs n => ?_, fun a h => ?_, fun a h => ?_⟩
    · have ne : a ≠ Dl := ne_of_none h hD
      exact g.kp a u (by rw [upd_ne ne]; exact h) fun z => z.elim (fun z => n (own_wipe z)) ne
    · have ne : a ≠ Dl := ne_of_none h hD
      exact g.fr a u (by rw [upd_ne ne]; exact h) hs fun z => z.elim (fun z => n (own_wipe z)) ne
    · have ne : a ≠ Dl := fun e => h2 (e ▸ h)
      rcases g.ow a (.inl h) with (z | z) | z
      · exact .inl (own_wipe z)
      · exact absurd z ne
      · rw [upd_ne ne] at z; exact .inr z
    · have ne : a ≠ Dl := fun e => by
        have := g.th a h
        rw [e, upd_same] at this; cases this
      have := g.th a h
      rwa [upd_ne ne] at this
  refine dc_turns (D := Dl) wk' Inv ⟨_, Hs1, [], [], hst, p, (o.S.wipe vs).upd hDs nD, Go.refl, upd_same, .nil, Nat.le_refl _, hDs, nD⟩
    (fun i H' _ ⟨r', Hs', acc, va, y1, y2, y3, y4, y5, y6, y7, y8, y9⟩ => (st r' _ Hs' H' y1 y3 (goR y4 y8 y9)).1) ?_ ?_
  · intro i x H' H'' hi ⟨r', Hs', acc, va, y1, y2, y3, y4, y5, y6, y7, y8, y9⟩ y
    rw [List.drop_eq_getElem_cons hi] at y2
    obtain ⟨Hs2, rt⟩ := (st r' _ Hs' H' y1 y3 (goR y4 y8 y9)).2 i x H'' items[i] (by simp [hi]) y
    cases rt with
    | val g0 ex rp =>
      have S2 := y3.go0 g0 ex
      refine ⟨r', Hs2, _, _, S2, rp, y2, fun r3 s3 p3 S3 ow wi => ?_⟩
      have e3 : L2.wipe s3 vs = L2.wipe s vs := (wi vs hv).trans (wipe_wipe s vs)
      refine ⟨e3.trans (wipe_wipe s vs).symm ▸ (wipe_wipe s vs).symm ▸ rfl, ?_⟩
      have d2 : H'' Dl = some (.dK va) := g0.kp _ _ y5 fun q => q
      have d3 : Hs2 Dl = none := g0.fr _ _ y5 y8 fun q => q
      have n3 : ¬ Own r3 Dl := fun h => y9 (ow _ h)
      refine ⟨r3, Hs2, _, _, S3, p3, fun b r4 Hs4 H4 p4 o4 => ?_, fun x r' cls d Hs' H' p _ _ => p⟩
      have d4 : H4 Dl = some (.dK va) := o4.g.kp _ _ d2 n3
      have d4s : Hs4 Dl = none := o4.g.fr _ _ d2 d3 n3
      have n4 : ¬ Own r4 Dl := fun h => (o4.g.ow _ h).elim n3 fun z => by rw [d2] at z; cases z
      have g4 : Go (Own r') (Own r4) Hs' H' Hs4 H4 := (g0.any.sub ow).trans o4.g
      have fin : ∀ {r5 : Rho} {Hs5 H5 : Hp} {acc' : List (Key × D)} {va' : List (Key × V)} {s5 : St}, StOk (gm X) r5 s5 Hs5 H5 → L2.wipe s5 vs = L2.wipe s vs → Go (Own r') (Own r5) Hs' H' Hs5 H5 → H5 Dl = some (.dK va) → Hs5 Dl = none → ¬ Own r5 Dl → RepK (gm X) Hs5 va' acc' → acc'.length ≤ i + 1 →
          still (wipeR r5 vs) → dcW g t wk wv still vs (items.drop (i + 1)) acc' (wipeR r5 vs) (fun acc r2 => ∀ p, P (.nw p (.dic acc)) (restR r1 r2 vs)) → Inv (i + 1) (L2.upd H5 Dl (.dK va')) := by
        intro r5 Hs5 H5 acc' va' s5 S5 e5 g5 z1 z2 z3 z4 z5 z6 z7
        have S6 : StOk (gm X) (wipeR r5 vs) (L2.wipe s vs) Hs5 H5 := e5 ▸ S5.wipe vs
        have n6 : ¬ Own (wipeR r5 vs) Dl := fun h => z3 (own_wipe h)
        refine ⟨_, Hs5, acc', va', z6, z7, S6.upd z2 n6, y4.trans ⟨g5.ss, fun a u h n => ?_, fun a u h hs n => ?_, fun a h => ?_, fun a h => ?_⟩, upd_same, z4, z5, z2, n6⟩
        · rw [upd_ne (fun e => n (.inr e))]; exact g5.kp a u h fun z => n (.inl z)
        · exact g5.fr a u h hs fun z => n (.inl z)
        · rcases h with h | h
          · exact (g5.ow a (own_wipe h)).imp .inl id
          · exact .inl (.inr h)
        · by_cases e : a = Dl
          · subst e; rw [upd_same] at h; cases h
          · rw [upd_ne e] at h; exact g5.th a h
      cases b with
      | true =>
        rw [if_pos rfl] at p4
        refine iteT ⟨r4, Hs4, _, _, o4.S, p4, fun l r5 v Hs5 H5 p5 o5 l5 n5 => ?_, fun x r' cls d Hs' H' p _ _ => p⟩
        obtain ⟨dk, ek, key, hkey, p6⟩ := withD_iff p5
        have n5' : ¬ Own r5 Dl := fun h => (o5.g.ow _ h).elim n4 fun z => by rw [d4] at z; cases z
        have d5 : H5 Dl = some (.dK va) := o5.g.kp _ _ d4 n4
        have d5s : Hs5 Dl = none := o5.g.fr _ _ d4 d4s n4
        refine ⟨r5, Hs5, _, _, o5.S, p6, fun l2 r6 v2 Hs6 H6 p7 o6 l6 n6 => ?_, fun x r' cls d Hs' H' p _ _ => p⟩
        obtain ⟨e, r7, ez, z1, z2⟩ := withF_iff p7
        have oo := o5.trans o6
        obtain ⟨Hs7, S7, rp7, g7, _⟩ := l6.frz o6.S oo.g (new_th o5 n6) ez
        have d6 : H6 Dl = some (.dK va) := o6.g.kp _ _ d5 n5'
        have d7 : Hs7 Dl = none := g7.fr _ _ d4 d4s n4
        have n7 : ¬ Own r7 Dl := fun h => (g7.ow _ h).elim n4 fun z => by rw [d4] at z; cases z
        have ss7 : Ex Hs' Hs7 := g4.ss.trans g7.ss
        have rk := y6.mono ss7
        refine ⟨va, key, key_v (l5.res o5.S ek) hkey, d6, by rw [repK_length y6]; omega, fin S7 e3 (g4.trans g7) d6 d7 n7 (repK_put rp7 rk) (Nat.le_trans (putKD_len _ _ _) (by omega)) z1 z2⟩
      | false =>
        rw [if_neg (by simp)] at p4
        refine iteF ?_
        have z := fin (va' := va) o4.S e3 g4 d4 d4s n4 (y6.mono g4.ss) (by omega) p4.1 p4.2
        have e : L2.upd H4 Dl (.dK va) = H4 := by
          funext a
          by_cases h : a = Dl
          · subst h; rw [upd_same, d4]
          · rw [upd_ne h]
        rwa [e] at z
  · intro H' ⟨r', Hs', acc, va, y1, y2, y3, y4, y5, y6, y7, y8, y9⟩
    rw [List.drop_length] at y2
    have g := goR y4 y8 y9
    refine k _ _ _ _ _ (y2 Dl) (o.trans ⟨o.S.rest g.ss y3, g.sub fun a => own_rest⟩) (.nw y8 (.dic y5 y6) fun h => y9 (own_rest h)) fun p c e => ?_
    cases e
    exact o.g.th _ hD
/-- {k: v for tg in d ..} -/
@[simp] def wDcD (mk : Key × D → D) (pth : Rho → Option (Rho × List (Key × D))) (g : WG) (t : TWt) (wk wv : XW) (vs : List Nat) : XW := fun r P PE => match pth r with
  | some (r', kvs) => kvs.length ≤ sizeLine ∧ dcW g t wk wv (fun _ => True) vs (kvs.map mk) [] (wipeR r' vs) fun acc r2 => ∀ p, P (.nw p (.dic acc)) (restR r' r2 vs)
  | none => False
theorem dcD_core {mk : Key × D → D} {pth : Rho → Option (Rho × List (Key × D))} {is : List Nat} {g : WG} {t : TWt} {wk wv : XW} {vs : List Nat} {td : TE} {J : Addr → Obj → List (Key × V) → It} (hp : PathOk X td pth) (hv : ∀ i ∈ is, i ∈ vs)
    (hJ : ∀ {p : Addr} {od : Obj} {ws : List (Key × V)} {kvs : List (Key × D)} {still : Rho → Prop} {r1 : Rho} {Hs1 H1 : Hp}, Hs1 p = some (.frz od (.dK ws)) → RepK (gm X) Hs1 ws kvs → WalkOk (gm X) (J p od ws) (kvs.map mk) still r1 Hs1 H1)
    {ti : TI} (hti : ∀ s H p od ws R, (∀ Q, Q (.ref p) H → td s H Q) → H p = some (.frz od (.dK ws)) → R (J p od ws) H → ti s H R) {s : St} {H : Hp} {Q : VK} (q : tW (gm X) W (wDcD mk pth g t wk wv vs) s H Q) :
    tDc ti (tWG (gm X) is g) (tWT (gm X) W0 t) (tW (gm X) W0 wk) (tW (gm X) W0 wv) vs s H Q ∨ tLockE (tDc ti (tWG (gm X) is g) (tWT (gm X) W0 t) (tW (gm X) W0 wk) (tW (gm X) W0 wv) vs) s H Q := by
  obtain ⟨r, Hs, P, PE, S, w, k, ke⟩ := q
  simp only [wDcD] at w
  split at w
  · rename_i r' kvs ep
    obtain ⟨Hs', p, S', g0, rp, htd⟩ := hp.run r s Hs H r' kvs S ep
    cases rp with
    | dic hd rk =>
      rename_i ws
      rcases hd with hd | ⟨od, hd⟩
      · refine .inr ⟨p, .dK ws, S'.ex _ _ hd, trivial, fun od => ?_⟩
        have on := lk_on (od := od) hd
        have onH := lk_on (od := od) (S'.ex _ _ hd)
        have S1 := S'.lk hd on
        refine hti _ _ p od ws _ (fun Q hq => htd _ Q onH hq) upd_same ?_
        refine dc_body (r := r') (r1 := r') (Hs := upd Hs' p (.frz od (.dK ws))) (P := P) (Q := fun v H' => H' p = some (.frz od (.dK ws)) ∧ Q v (upd H' p (.dK ws))) hv (Out.refl S1) (hJ upd_same (rk.lk on)) ⟨by rw [List.length_map]; exact w.1, trivial, w.2⟩ fun l r2 v Hs2 H2 pl o lo n => ?_
        have h2 : Hs2 p = some (.frz od (.dK ws)) := o.g.ss _ _ upd_same
        have off := lk_off h2
        refine ⟨o.S.ex _ _ h2, ?_⟩
        refine k l r2 v _ _ pl ⟨o.S.lk h2 off, g0.trans (o.g.unlock hd (S'.ex _ _ hd))⟩ (lo.lk h2 off) fun a c e => ?_
        have z := n a c e
        by_cases ea : a = p
        · subst ea; rw [upd_same] at z; cases z
        · rw [upd_ne ea] at z; exact g0.th a z
      · refine .inl (hti _ _ p od ws _ (fun Q hq => htd _ Q ⟨fun _ _ _ h => h, fun _ _ h => h, fun _ _ _ _ h => h⟩ hq) (S'.ex _ _ hd) ?_)
        exact dc_body (r := r) (r1 := r') (P := P) (Q := Q) hv ⟨S', g0⟩ (hJ hd rk) ⟨by rw [List.length_map]; exact w.1, trivial, w.2⟩ k
  · exact w.elim
@[simp] def wDc (it : WI) (g : WG) (t : TWt) (wk wv : XW) (vs : List Nat) : XW := fun r P PE => it r (fun items still r1 => items.length ≤ sizeLine ∧ still (wipeR r1 vs) ∧ dcW g t wk wv still vs items [] (wipeR r1 vs) fun acc r2 => ∀ p, P (.nw p (.dic acc)) (restR r1 r2 vs)) PE
theorem se_dc {kx vx tg iter : Expr} {ifs : List Expr} {scope : Scope} {own : List (Str × Nat)} {pos : Pos} {it : WI} {is : List Nat} {g : WG} {t : TWt} {wk wv : XW} (hc : X.calm = true) (hN : X.N.Nodup) (hi : SI X W tg iter it) (ok : BlkOk X.N X.env.scope scope own)
    (hg : ∀ (s : Shared) (H : Hp) (C : Addr) (cl : List (Str × Addr)) (fp : List Addr), SG (X.blk s H scope (compEnvC scope cl C X.env) fp) tg is g) (ht : ∀ (s : Shared) (H : Hp) (C : Addr) (cl : List (Str × Addr)) (fp : List Addr), STs (X.blk s H scope (compEnvC scope cl C X.env) fp) W0 ifs t)
    (hk : ∀ (s : Shared) (H : Hp) (C : Addr) (cl : List (Str × Addr)) (fp : List Addr), SE (X.blk s H scope (compEnvC scope cl C X.env) fp) W0 kx wk) (he : ∀ (s : Shared) (H : Hp) (C : Addr) (cl : List (Str × Addr)) (fp : List Addr), SE (X.blk s H scope (compEnvC scope cl C X.env) fp) W0 vx wv)
    (hv : ∀ i ∈ is, i ∈ own.map (·.2)) (hs : ∀ x, foldedSetIterable iter X.env x = pure x := by intro _; rfl) : SE X W (.DictComp kx vx [⟨tg, iter, ifs, 0⟩] scope pos) (wDc it g t wk wv (own.map (·.2))) := by
  refine pe_imp (pe_dc (g := tWG (gm X) is g) (tt := tWT (gm X) W0 t) (tk := tW (gm X) W0 wk) (tv := tW (gm X) W0 wv) hc hN hi ok hg ht hk he hs) fun s H Q q => ?_
  obtain ⟨r, Hs, P, PE, S, w, k, ke⟩ := q
  exact ⟨r, Hs, _, PE, S, w, fun items still r1 Hs1 H1 J p o wk => dc_body hv o wk p k, ke⟩
theorem se_dcI {kx vx e : Expr} {elts : List Expr} {kk : Nat} {tpos apos cpos pos : Pos} {ifs : List Expr} {scope : Scope} {own : List (Str × Nat)} {is : List Nat} {g : WG} {t : TWt} {wk wv : XW} {pth : Rho → Option (Rho × List (Key × D))} {td : TE} (hc : X.calm = true) (hN : X.N.Nodup) (hi : PE X e td) (hp : PathOk X td pth) (ok : BlkOk X.N X.env.scope scope own)
    (hg : ∀ (s : Shared) (H : Hp) (C : Addr) (cl : List (Str × Addr)) (fp : List Addr), SG (X.blk s H scope (compEnvC scope cl C X.env) fp) (.Tuple elts kk tpos) is g) (ht : ∀ (s : Shared) (H : Hp) (C : Addr) (cl : List (Str × Addr)) (fp : List Addr), STs (X.blk s H scope (compEnvC scope cl C X.env) fp) W0 ifs t)
    (hk : ∀ (s : Shared) (H : Hp) (C : Addr) (cl : List (Str × Addr)) (fp : List Addr), SE (X.blk s H scope (compEnvC scope cl C X.env) fp) W0 kx wk) (he : ∀ (s : Shared) (H : Hp) (C : Addr) (cl : List (Str × Addr)) (fp : List Addr), SE (X.blk s H scope (compEnvC scope cl C X.env) fp) W0 vx wv)
    (hv : ∀ i ∈ is, i ∈ own.map (·.2)) (hbase : attributeBase e "items" X.env (eval e X.env) = eval e X.env := by rfl) (hline : (apos.endLine == cpos.line) = true := by rfl) (hs : ∀ x, foldedSetIterable (.Call (.Attribute e "items" apos) [] [] cpos) X.env x = pure x := by intro _; rfl) :
    SE X W (.DictComp kx vx [⟨.Tuple elts kk tpos, .Call (.Attribute e "items" apos) [] [] cpos, ifs, 0⟩] scope pos) (wDcD mkI pth g t wk wv (own.map (·.2))) :=
  pe_imp (pe_orLock (pe_dc (g := tWG (gm X) is g) (tt := tWT (gm X) W0 t) (tk := tW (gm X) W0 wk) (tv := tW (gm X) W0 wv) hc hN (pi_items hi hbase hline) ok hg ht hk he hs)) fun s H Q q =>
    dcD_core (J := Iti) hp hv (fun h1 h2 => keptI h1 h2) (fun s H p od ws R h1 h2 h3 => h1 _ ⟨p, od, ws, rfl, h2, h3⟩) q
theorem se_dcK {kx vx tg iter : Expr} {ifs : List Expr} {scope : Scope} {own : List (Str × Nat)} {pos : Pos} {is : List Nat} {g : WG} {t : TWt} {wk wv : XW} {pth : Rho → Option (Rho × List (Key × D))} {td : TE} (hc : X.calm = true) (hN : X.N.Nodup) (hi : PE X iter td) (hp : PathOk X td pth) (ok : BlkOk X.N X.env.scope scope own)
    (hg : ∀ (s : Shared) (H : Hp) (C : Addr) (cl : List (Str × Addr)) (fp : List Addr), SG (X.blk s H scope (compEnvC scope cl C X.env) fp) tg is g) (ht : ∀ (s : Shared) (H : Hp) (C : Addr) (cl : List (Str × Addr)) (fp : List Addr), STs (X.blk s H scope (compEnvC scope cl C X.env) fp) W0 ifs t)
    (hk : ∀ (s : Shared) (H : Hp) (C : Addr) (cl : List (Str × Addr)) (fp : List Addr), SE (X.blk s H scope (compEnvC scope cl C X.env) fp) W0 kx wk) (he : ∀ (s : Shared) (H : Hp) (C : Addr) (cl : List (Str × Addr)) (fp : List Addr), SE (X.blk s H scope (compEnvC scope cl C X.env) fp) W0 vx wv)
    (hv : ∀ i ∈ is, i ∈ own.map (·.2)) (hs : ∀ x, foldedSetIterable iter X.env x = pure x := by intro _; rfl) : SE X W (.DictComp kx vx [⟨tg, iter, ifs, 0⟩] scope pos) (wDcD mkK pth g t wk wv (own.map (·.2))) :=
  pe_imp (pe_orLock (pe_dc (g := tWG (gm X) is g) (tt := tWT (gm X) W0 t) (tk := tW (gm X) W0 wk) (tv := tW (gm X) W0 wv) hc hN (pi_keys hi) ok hg ht hk he hs)) fun s H Q q =>
    dcD_core (J := Itk) hp hv (fun h1 h2 => keptK h1 h2) (fun s H p od ws R h1 h2 h3 => h1 _ ⟨p, od, rfl, .inl ⟨ws, h2, h3⟩⟩) q
end
end Z

/-! ZS: x in o, o[x], len(o), str(o) of an own class. -/
namespace Z
open PySem L2
open PyProof.Rows (envOfC)
open Evl (Ex ex_rd ex_l ex_t)
section
variable {X : Cx} {k j : Nat} {C f : Addr} {sp : Sp}
def rIn (C : Addr) (sp : Sp) (neg : Bool) : R2 := fun x y H Q => ∃ a dx fs, y = .ref a ∧ H a = some (.ins C dx fs) ∧ sp [y, x] H (fun v H' => ∃ b, v = .bl b ∧ Q (.bl (b != neg)) H') (fun _ _ _ => False)
theorem op_ownIn (F : FnR X.prog X.w X.K X.mg X.base (L2.CX X.prog X.w) k f sp) (hr : Room k X.A) (he : PySem.W.findIn X.K (.ref C) "__contains__" = some (some (.ref f))) (hf : PySem.W.isFn X.K (.ref f) = true) : OpR X (compareOp .In) (rIn C sp false) := by
  intro pins s σ H x y v u Q I rx ry hq
  obtain ⟨a, dx, fs, rfl, ha, q⟩ := hq
  obtain rfl : u = Value.ref a := ry
  obtain ⟨mA, J, _⟩ := ins_get I.hok ha
  obtain ⟨od, J, _⟩ := J.look
  obtain ⟨m, hF⟩ := I.fr
  refine PySem.W.in_K hF I.ok.mod.kin J he hf (wpAny_mono (run_fnRS (us := [.ref a, v]) (vs := [.ref a, x]) F hr (fun pins H s e s' I h => passF pins σ H s e s' I h) I (.cons rfl (.cons rx .nil)) q) (fun r s' z => ?_) fun _ _ z => z)
  obtain ⟨v, H', I', rv, b, rfl, q⟩ := z
  cases rv
  refine wpAny_truthy_bool ⟨.bl b, H', I', rfl, ?_⟩
  have e : (b != false) = b := by cases b <;> rfl
  rw [e] at q
  exact q
theorem op_ownNotIn (F : FnR X.prog X.w X.K X.mg X.base (L2.CX X.prog X.w) k f sp) (hr : Room k X.A) (he : PySem.W.findIn X.K (.ref C) "__contains__" = some (some (.ref f))) (hf : PySem.W.isFn X.K (.ref f) = true) : OpR X (compareOp .NotIn) (rIn C sp true) := by
  intro pins s σ H x y v u Q I rx ry hq
  obtain ⟨a, dx, fs, rfl, ha, q⟩ := hq
  obtain rfl : u = Value.ref a := ry
  obtain ⟨mA, J, _⟩ := ins_get I.hok ha
  obtain ⟨od, J, _⟩ := J.look
  obtain ⟨m, hF⟩ := I.fr
  refine PySem.W.notIn_K hF I.ok.mod.kin J he hf (wpAny_mono (run_fnRS (us := [.ref a, v]) (vs := [.ref a, x]) F hr (fun pins H s e s' I h => passF pins σ H s e s' I h) I (.cons rfl (.cons rx .nil)) q) (fun r s' z => ?_) fun _ _ z => z)
  obtain ⟨v, H', I', rv, b, rfl, q⟩ := z
  cases rv
  refine wpAny_truthy_bool ⟨.bl (!b), H', I', rfl, ?_⟩
  have e : (b != true) = !b := by cases b <;> rfl
  rw [e] at q
  exact q
/-- len(o) -/
def rLen (C : Addr) (sp : Sp) : List V → Hp → VK → Prop := fun xs H Q => ∃ a dx fs, xs = [.ref a] ∧ H a = some (.ins C dx fs) ∧ sp [.ref a] H (fun v H' => ∃ n : Nat, v = .int n ∧ n ≤ sizeLine ∧ Q (.int n) H') (fun _ _ _ => False)
theorem call_ownLen (F : FnR X.prog X.w X.K X.mg X.base (L2.CX X.prog X.w) k f sp) (hr : Room (k + 1) X.A) (he : PySem.W.findIn X.K (.ref C) "__len__" = some (some (.ref f))) (hf : PySem.W.isFn X.K (.ref f) = true) : CallR X (.builtin "len") (rLen C sp) := by
  intro pins s σ H xs us Q I r hq
  obtain ⟨a, dx, fs, rfl, ha, q⟩ := hq
  obtain ⟨u, rfl, rv⟩ := vals1 r
  obtain rfl : u = Value.ref a := rv
  obtain ⟨mA, J, _⟩ := ins_get I.hok ha
  obtain ⟨od, J, _⟩ := J.look
  obtain ⟨m, hF⟩ := I.fr
  refine PySem.W.len_K hF I.ok.mod.kin J he hf (wpAny_mono (run_in1 (us := [.ref a]) (vs := [.ref a]) F hr I (.cons rfl .nil) q) (fun r s' z => ?_) fun _ _ z => z)
  obtain ⟨v, H', I', rv, n, rfl, hn, q⟩ := z
  obtain ⟨t, rfl⟩ := rv
  have small : sizeLine < 2 ^ 62 := by decide
  exact ⟨⟨Int.natCast_nonneg n, by omega⟩, .int n, H', I'.tok _, ⟨_, rfl⟩, q⟩
/-- str(o) -/
def rStr (C : Addr) (sp : Sp) : List V → Hp → VK → Prop := fun xs H Q => ∃ a dx fs, xs = [.ref a] ∧ H a = some (.ins C dx fs) ∧ sp [.ref a] H (fun v H' => ∃ z, v = .str z ∧ Q (.str z) H') (fun _ _ _ => False)
theorem run_in2 {pins : List (Addr × Obj)} {σ : St} {H : Hp} {s : Shared} {Q : VK} {us : List Value} {vs : List V} (F : FnR X.prog X.w X.K X.mg X.base (L2.CX X.prog X.w) k f sp) (hr : Room (k + 2) X.A) (I : Inv X pins σ H s) (r : Vals vs us) (h : sp vs H Q (fun _ _ _ => False)) :
    wpAny (model X.prog X.w) X.A.in1.in1 (call (.ref f) us) (EP X pins σ Q) X.xe s := by
  refine wpAny_call (codeAny_mono (F X.A.in1.in1 X.stack s H us vs Q _ hr.in1.in1 I.env0.in1.in1 r h) fun r s' z => ?_)
  match r, z with
  | .error e, z =>
    obtain ⟨_, _, _, _, _, _, _, _, _, _, _, _, z⟩ := z
    exact z.elim
  | .ok (.ret u), z => exact I.after z
  | .ok .next, z => exact z.elim
  | .ok .brk, z => exact z.elim
  | .ok .cont, z => exact z.elim
theorem call_ownStr (F : FnR X.prog X.w X.K X.mg X.base (L2.CX X.prog X.w) k f sp) (hr : Room (k + 2) X.A) (he : PySem.W.findIn X.K (.ref C) "__str__" = some (some (.ref f))) (hf : PySem.W.isFn X.K (.ref f) = true) : CallR X (.type "str") (rStr C sp) := by
  intro pins s σ H xs us Q I r hq
  obtain ⟨a, dx, fs, rfl, ha, q⟩ := hq
  obtain ⟨u, rfl, rv⟩ := vals1 r
  obtain rfl : u = Value.ref a := rv
  obtain ⟨mA, J, _⟩ := ins_get I.hok ha
  obtain ⟨od, J, _⟩ := J.look
  refine PySem.W.kso_call (by have := hr.units; show X.A.units + 1 + 1 < cLine; omega) I.kIn J he hf (wpAny_mono (run_in2 (us := [.ref a]) (vs := [.ref a]) F hr I (.cons rfl .nil) q) (fun r s' z => ?_) fun _ _ z => z)
  obtain ⟨v, H', I', rv, n, rfl, q⟩ := z
  obtain ⟨t, rfl⟩ := rv
  exact ⟨.str n, H', I', ⟨_, rfl⟩, q⟩
end
section
variable {X : Cx} {W : WX} {a b e : Expr} {wa wb w : XW} {pos : Pos} {f : FSpec} {k j : Nat} {c : Str}
@[simp] def wOwnIn (c : Str) (f : FSpec) (neg : Bool) (wa wb : XW) : XW := fun r P PE => wa r (fun la r1 => wb r1 (fun lb r2 => withFs r2 [la, lb] fun ds r3 => match ds with
  | [da, db] => (∃ fs, db = .ins c fs) ∧ f [.sh db, .sh da] (fun d cs => d.out (fun l r' => ∃ b, l = .st (.bl b) ∧ P (.st (.bl (b != neg))) r') r3) (fun _ _ => False)
  | _ => False) PE) PE
theorem own_coreIn {neg : Bool} {C : Addr} {r : Rho} {s : St} {Hs H : Hp} {P : Late → Rho → Prop} {PE : Exc → Rho → Prop} {Q : VK} (mC : X.mg c = some (.ref C)) (S : StOk (gm X) r s Hs H)
    (q : wOwnIn c f neg wa wb r P PE) (k : ∀ l r' v Hs' H', P l r' → Out (gm X) r s Hs H r' Hs' H' → LateOk (gm X) r' s Hs' H' v l → NewAt H l → Q v H') (ke : EXC (gm X) W PE r s Hs H) :
    tOp (rIn C (spF (gm X) f) neg) (tW (gm X) W wa) (tW (gm X) W wb) s H Q := by
  refine ⟨r, Hs, _, PE, S, q, fun la r1 x Hs1 H1 p1 o1 l1 n1 => ?_, ke⟩
  refine ⟨r1, Hs1, _, PE, o1.S, p1, fun lb r2 y Hs2 H2 p2 o2 l2 n2 => ?_, ke.mono o1⟩
  obtain ⟨ds, r3, ed, p3⟩ := withFs_iff p2
  have los : LatesOk (gm X) r2 s Hs2 H2 [x, y] [la, lb] := .cons (l1.go o2.g) (fun a c c' e h => by
    subst e
    cases List.mem_singleton.mp h
    have z := n2 a c' rfl
    cases l1 with
    | nw _ h2 _ =>
      obtain ⟨o', ho'⟩ := h2.isv
      rw [z] at ho'; cases ho') (.cons l2 (fun _ _ _ _ h => nomatch h) .nil)
  obtain ⟨Hs3, S3, rp, g3, _⟩ := los.frz o2.S (o1.trans o2).g (fun l h => by
    rcases List.mem_cons.mp h with rfl | h
    · exact n1
    · cases List.mem_singleton.mp h; exact new_th o1 n2) ed
  cases rp with
  | cons rx rp =>
    cases rp with
    | cons ry rp =>
      cases rp
      rename_i da db
      obtain ⟨⟨fs, rfl⟩, p4⟩ := p3
      cases ry with
      | ins hq hm rf =>
        cases mC.symm.trans hm
        have core := call_core (X := X) (f := f) (P := fun l r' => ∃ b, l = .st (.bl b) ∧ P (.st (.bl (b != neg))) r') (PE := fun _ _ => False) (Q := fun v H' => ∃ b, v = .bl b ∧ Q (.bl (b != neg)) H') (E := fun _ _ _ => False) (ms := [false, false]) (ls := [.st (.ins c fs), .st da]) (r1 := r3)
          (Out.mk S3 g3) (.cons (.st (.ins hq hm rf)) (fun _ _ _ e => nomatch e) (.cons (.st rx) (fun _ _ _ e => nomatch e) .nil)) (fun l h => by
            rcases List.mem_cons.mp h with rfl | h
            · exact fun _ _ q => nomatch q
            · cases List.mem_singleton.mp h; exact fun _ _ q => nomatch q) p4 (fun l r' v Hs' H' pl o' lo' nw' => by
              obtain ⟨b, rfl, pb⟩ := pl
              cases lo' with
              | st rb => cases rb; exact ⟨b, rfl, k _ _ _ _ _ pb o' (.st (.bl _)) (fun _ _ q => nomatch q)⟩) (fun x r' cls d Hs' H' h => h.elim)
        exact ⟨_, _, _, rfl, S3.ex _ _ hq, core⟩
def SpecD (P : Program) (w : World) (K : PySem.W.Frag) (mg : Str → Option Value) (base : Heap) (k : Nat) (c m : Str) (f : FSpec) : Prop := ∃ C g, mg c = some (.ref C) ∧ PySem.W.findIn K (.ref C) m = some (some (.ref g)) ∧ PySem.W.isFn K (.ref g) = true ∧ FnR P w K mg base (L2.CX P w) k g (spF ⟨K, mg⟩ f)
theorem se_ownIn (h : SpecD X.prog X.w X.K X.mg X.base k c "__contains__" f) (hr : Room j X.A) (hk : k ≤ j) (ha : SE X W a wa) (hb : SE X W b wb) (hm : behindInMarks .In b = false := by first | exact nomark _ | exact nobehind _ (by decide) (by decide) | rfl) : SE X W (.Compare a [.In] [b] pos) (wOwnIn c f false wa wb) := by
  obtain ⟨C, g, mC, e1, e2, F⟩ := h
  refine pe_imp (pe_cmpR (op_ownIn F (hr.mono hk) e1 e2) ha hb hm) fun s H Q q => ?_
  obtain ⟨r, Hs, P, PE, S, w, kq, ke⟩ := q
  exact own_coreIn mC S w kq ke
theorem se_ownNotIn (h : SpecD X.prog X.w X.K X.mg X.base k c "__contains__" f) (hr : Room j X.A) (hk : k ≤ j) (ha : SE X W a wa) (hb : SE X W b wb) (hm : behindInMarks .NotIn b = false := by first | exact nomark _ | exact nobehind _ (by decide) (by decide) | rfl) : SE X W (.Compare a [.NotIn] [b] pos) (wOwnIn c f true wa wb) := by
  obtain ⟨C, g, mC, e1, e2, F⟩ := h
  refine pe_imp (pe_cmpR (op_ownNotIn F (hr.mono hk) e1 e2) ha hb hm) fun s H Q q => ?_
  obtain ⟨r, Hs, P, PE, S, w, kq, ke⟩ := q
  exact own_coreIn mC S w kq ke
@[simp] def wOwn1 (c : Str) (f : FSpec) (chk : D → Prop) (w : XW) : XW := fun r P PE => w r (fun l r1 => withF r1 l fun d r2 => (∃ fs, d = .ins c fs) ∧ f [.sh d] (fun d cs => d.out (fun l r' => (∃ v, l = .st v ∧ chk v) ∧ P l r') r2) (fun _ _ => False)) PE
def chkN (d : D) : Prop := ∃ n : Nat, d = .int n ∧ n ≤ sizeLine
def chkS (d : D) : Prop := ∃ z : Str, d = .str z
theorem own1_core {C : Addr} {chk : D → Prop} {chkV : V → Prop} (hch : ∀ (Hs : Hp) (v : V) (d : D), Rep (gm X) Hs v d → chk d → chkV v) {r r1 : Rho} {s : St} {Hs H Hs1 H1 : Hp} {l : Late} {v : V} {P : Late → Rho → Prop} {Q : VK} (mC : X.mg c = some (.ref C)) (o : Out (gm X) r s Hs H r1 Hs1 H1) (lo : LateOk (gm X) r1 s Hs1 H1 v l) (n : NewAt H l)
    (p : withF r1 l fun d r2 => (∃ fs, d = .ins c fs) ∧ f [.sh d] (fun d cs => d.out (fun l r' => (∃ v, l = .st v ∧ chk v) ∧ P l r') r2) (fun _ _ => False)) (k : ∀ l r' v Hs' H', P l r' → Out (gm X) r s Hs H r' Hs' H' → LateOk (gm X) r' s Hs' H' v l → NewAt H l → Q v H') :
    ∃ a dx fs, v = .ref a ∧ H1 a = some (.ins C dx fs) ∧ spF (gm X) f [.ref a] H1 (fun v H' => chkV v ∧ Q v H') (fun _ _ _ => False) := by
  obtain ⟨d, r2, ez, ⟨fs, rfl⟩, p⟩ := withF_iff p
  obtain ⟨Hs2, S2, rp, g2, _⟩ := lo.frz o.S o.g n ez
  cases rp with
  | ins hq hm rf =>
    cases mC.symm.trans hm
    refine ⟨_, _, _, rfl, S2.ex _ _ hq, ?_⟩
    refine call_core (X := X) (f := f) (P := fun l r' => (∃ v, l = .st v ∧ chk v) ∧ P l r') (PE := fun _ _ => False) (ms := [false]) (ls := [.st (.ins c fs)]) (r1 := r2) (Out.mk S2 g2) (.cons (.st (.ins hq hm rf)) (fun _ _ _ e => nomatch e) .nil) (fun l h => by cases List.mem_singleton.mp h; exact fun _ _ q => nomatch q) p (fun l r' v Hs' H' pl o' lo' nw' => ?_) (fun x r' cls d Hs' H' h => h.elim)
    obtain ⟨⟨dv, rfl, hc⟩, pl⟩ := pl
    cases lo' with
    | st rb => exact ⟨hch _ _ _ rb hc, k _ _ _ _ _ pl o' (.st rb) nw'⟩
theorem spF_imp {G : Gm} {vs : List V} {H : Hp} {Q Q' : VK} {E : XK} (h : spF G f vs H Q E) (i : ∀ v H, Q v H → Q' v H) : spF G f vs H Q' E := by
  obtain ⟨as, Hs, P, PE, h1, h2, h3, h4, h5, h6⟩ := h
  exact ⟨as, Hs, P, PE, h1, h2, h3, h4, fun d cs v Hs' H' a b c r e => i _ _ (h5 d cs v Hs' H' a b c r e), h6⟩
theorem se_ownLen {p : Pos} (h : SpecD X.prog X.w X.K X.mg X.base k c "__len__" f) (hr : Room j X.A) (hk : k + 1 ≤ j) (hg : Gl X "len") (hm : X.mg "len" = none) (he : SE X W e w) (hs : starEach [e] X.env = (false, eval e X.env) :: starEach [] X.env := by rfl) : SE X W (.Call (.Name "len" p) [e] [] pos) (wOwn1 c f chkN w) := by
  obtain ⟨C, g, mC, e1, e2, F⟩ := h
  refine pe_imp (pe_callB (call_ownLen F (hr.mono hk) e1 e2) hg hm (by decide +kernel) (pa_cons he pa_nil hs) (by decide) (by decide) hs) fun s H Q q => ?_
  obtain ⟨r, Hs, P, PE, S, w, kq, ke⟩ := q
  refine ⟨r, Hs, _, PE, S, w, fun l r1 v Hs1 H1 p o lo n => ?_, ke⟩
  obtain ⟨a, dx, fs, rfl, ha, sp⟩ := own1_core (chkV := fun v => ∃ n : Nat, v = .int n ∧ n ≤ sizeLine) (fun Hs v d rp hc => by
    obtain ⟨n, rfl, hn⟩ := hc
    cases rp
    exact ⟨n, rfl, hn⟩) mC o lo n p kq
  exact ⟨a, dx, fs, rfl, ha, spF_imp sp fun v H ⟨⟨n, e, hn⟩, q⟩ => ⟨n, e, hn, e ▸ q⟩⟩
theorem se_ownStr {p : Pos} (h : SpecD X.prog X.w X.K X.mg X.base k c "__str__" f) (hr : Room j X.A) (hk : k + 2 ≤ j) (hg : Gl X "str") (hm : X.mg "str" = none) (he : SE X W e w) (hs : starEach [e] X.env = (false, eval e X.env) :: starEach [] X.env := by rfl) : SE X W (.Call (.Name "str" p) [e] [] pos) (wOwn1 c f chkS w) := by
  obtain ⟨C, g, mC, e1, e2, F⟩ := h
  refine pe_imp (pe_callTy (call_ownStr F (hr.mono hk) e1 e2) hg hm (by decide +kernel) (pa_cons he pa_nil hs) (by decide) (by decide) hs) fun s H Q q => ?_
  obtain ⟨r, Hs, P, PE, S, w, kq, ke⟩ := q
  refine ⟨r, Hs, _, PE, S, w, fun l r1 v Hs1 H1 p o lo n => ?_, ke⟩
  obtain ⟨a, dx, fs, rfl, ha, sp⟩ := own1_core (chkV := fun v => ∃ z : Str, v = .str z) (fun Hs v d rp hc => by
    obtain ⟨z, rfl⟩ := hc
    cases rp
    exact ⟨z, rfl⟩) mC o lo n p kq
  exact ⟨a, dx, fs, rfl, ha, spF_imp sp fun v H ⟨⟨n, e⟩, q⟩ => ⟨n, e, e ▸ q⟩⟩
end
end Z

/-! ZT: o[x] of an own class. -/
namespace Z
open PySem L2
open PyProof.Rows (envOfC)
open Evl (Ex ex_rd ex_l ex_t)
section
variable {X : Cx} {W : WX} {k j : Nat} {C g : Addr} {sp : Sp} {o i : Expr} {to ti : TE} {pos : Pos} {wo wi : XW} {f : FSpec} {c : Str}
theorem pe_ownSub (F : FnR X.prog X.w X.K X.mg X.base (L2.CX X.prog X.w) k g sp) (hr : Room (k + 1) X.A) (he : PySem.W.findIn X.K (.ref C) "__getitem__" = some (some (.ref g))) (hf : PySem.W.fnIn X.K g = true) (hfn : PySem.W.isFn X.K (.ref g) = true) (ho : PE X o to) (hi : PE X i ti)
    (hsl : ∀ (a : Addr) (v : Value), subscripted i true (.ref a) v = runValue (.builtin "lifetime.subscript" ⟨[.ref a, v], []⟩) := by intro _ _; with_unfolding_all rfl) :
    PE X (.Subscript o i pos) (fun σ H Q => to σ H fun x H1 => ti σ H1 fun y H2 => ∃ a dx fs, x = .ref a ∧ H2 a = some (.ins C dx fs) ∧ sp [x, y] H2 Q (fun _ _ _ => False)) := by
  refine ⟨fun pins s σ H Q I h => ?_⟩
  refine PyProof.Rows.Subscript_ (thn (ho.run pins s σ H _ I h) fun u s1 ⟨x, H1, I1, rx, q1⟩ => thn (hi.run pins s1 σ H1 _ I1 q1) fun v s2 ⟨y, H2, I2, ry, a, dx, fs, ex, ha, q⟩ => ?_)
  subst ex
  obtain rfl : u = Value.ref a := rx
  obtain ⟨mA, J, _⟩ := ins_get I2.hok ha
  obtain ⟨od, J, _⟩ := J.look
  obtain ⟨m, hF⟩ := I2.fr
  exact PySem.W.sub_K hF I2.ok.mod.kin J he hf hfn (run_in1 (us := [.ref a, v]) (vs := [.ref a, y]) F hr I2 (.cons rfl (.cons ry .nil)) q) (hsl a v)
@[simp] def wOwnItem (c : Str) (f : FSpec) (wo wi : XW) : XW := fun r P PE => wo r (fun lo r1 => wi r1 (fun li r2 => withFs r2 [lo, li] fun ds r3 => match ds with
  | [d, di] => (∃ fs, d = .ins c fs) ∧ f [.sh d, .sh di] (fun d cs => d.out P r3) (fun _ _ => False)
  | _ => False) PE) PE
def ItemD (P : Program) (w : World) (K : PySem.W.Frag) (mg : Str → Option Value) (base : Heap) (k : Nat) (c : Str) (f : FSpec) : Prop := ∃ C g, mg c = some (.ref C) ∧ PySem.W.findIn K (.ref C) "__getitem__" = some (some (.ref g)) ∧ PySem.W.fnIn K g = true ∧ PySem.W.isFn K (.ref g) = true ∧ FnR P w K mg base (L2.CX P w) k g (spF ⟨K, mg⟩ f)
theorem se_ownItem (h : ItemD X.prog X.w X.K X.mg X.base k c f) (hr : Room j X.A) (hk : k + 1 ≤ j) (ho : SE X W o wo) (hi : SE X W i wi)
    (hsl : ∀ (a : Addr) (v : Value), subscripted i true (.ref a) v = runValue (.builtin "lifetime.subscript" ⟨[.ref a, v], []⟩) := by intro _ _; with_unfolding_all rfl) : SE X W (.Subscript o i pos) (wOwnItem c f wo wi) := by
  obtain ⟨C, g, mC, e1, e2, e3, F⟩ := h
  refine pe_imp (pe_ownSub F (hr.mono hk) e1 e2 e3 ho hi hsl) fun s H Q q => ?_
  obtain ⟨r, Hs, P, PE, S, w, kq, ke⟩ := q
  refine ⟨r, Hs, _, PE, S, w, fun la r1 x Hs1 H1 p1 o1 l1 n1 => ?_, ke⟩
  refine ⟨r1, Hs1, _, PE, o1.S, p1, fun lb r2 y Hs2 H2 p2 o2 l2 n2 => ?_, ke.mono o1⟩
  obtain ⟨ds, r3, ed, p3⟩ := withFs_iff p2
  have los : LatesOk (gm X) r2 s Hs2 H2 [x, y] [la, lb] := .cons (l1.go o2.g) (fun a c c' e h => by
    subst e
    cases List.mem_singleton.mp h
    have z := n2 a c' rfl
    cases l1 with
    | nw _ h2 _ =>
      obtain ⟨o', ho'⟩ := h2.isv
      rw [z] at ho'; cases ho') (.cons l2 (fun _ _ _ _ h => nomatch h) .nil)
  obtain ⟨Hs3, S3, rp, g3, _⟩ := los.frz o2.S (o1.trans o2).g (fun l h => by
    rcases List.mem_cons.mp h with rfl | h
    · exact n1
    · cases List.mem_singleton.mp h; exact new_th o1 n2) ed
  cases rp with
  | cons rx rp =>
    cases rp with
    | cons ry rp =>
      cases rp
      rename_i d di
      obtain ⟨⟨fs, rfl⟩, p4⟩ := p3
      cases rx with
      | ins hq hm rf =>
        cases mC.symm.trans hm
        refine ⟨_, _, _, rfl, S3.ex _ _ hq, ?_⟩
        exact call_core (X := X) (f := f) (P := P) (PE := fun _ _ => False) (ms := [false, false]) (ls := [.st (.ins c fs), .st di]) (r1 := r3) (Out.mk S3 g3) (.cons (.st (.ins hq hm rf)) (fun _ _ _ e => nomatch e) (.cons (.st ry) (fun _ _ _ e => nomatch e) .nil)) (fun l h => by
          rcases List.mem_cons.mp h with rfl | h
          · exact fun _ _ q => nomatch q
          · cases List.mem_singleton.mp h; exact fun _ _ q => nomatch q) p4 kq (fun x r' cls d Hs' H' h => h.elim)
end
end Z

/-! ZU: f-strings. -/
namespace Z
open PySem L2
open PyProof.Rows (envOfC)
open Evl (Ex ex_rd ex_l ex_t)
section
variable {X : Cx} {W : WX} {e : Expr} {es : List Expr} {w : XW} {pos : Pos}
/-- {e}: a text or a whole number -/
@[simp] def wFmt (w : XW) : XW := fun r P PE => w r (fun l r1 => withD r1 l fun d => match d with
  | .str z => z.length ≤ sizeLine ∧ P (.st (.str z)) r1
  | .int i => i.natAbs.log2 < 1920 ∧ P (.st (.str (toString i))) r1
  | _ => False) PE
theorem se_fmt (he : SE X W e w) : SE X W (.FormattedValue e (-1) none pos) (wFmt w) := by
  refine pe_imp (pe_fmt he) fun s H Q q => ?_
  obtain ⟨r, Hs, P, PE, S, w, k, ke⟩ := q
  refine ⟨r, Hs, _, PE, S, w, fun l r1 v Hs1 H1 p o lo n => ?_, ke⟩
  obtain ⟨d, ed, p⟩ := withD_iff p
  split at p
  · obtain rfl := (lo.res o.S ed).strv
    exact .inl ⟨_, rfl, p.1, k _ _ _ _ _ p.2 o (.st (.str _)) (fun _ _ q => nomatch q)⟩
  · obtain rfl := (lo.res o.S ed).intv
    exact .inr ⟨_, rfl, p.1, k _ _ _ _ _ p.2 o (.st (.str _)) (fun _ _ q => nomatch q)⟩
  · exact p.elim
/-- the parts, one behind another -/
def jsW : List XW → Str → Rho → (Str → Rho → Prop) → (Exc → Rho → Prop) → Prop
  | [], acc, r, P, _ => P acc r
  | w :: ws, acc, r, P, PE => w r (fun l r1 => onStr r1 l fun z => (acc ++ z).length ≤ sizeLine ∧ jsW ws (acc ++ z) r1 P PE) PE
inductive SJ (X : Cx) (W : WX) : List Expr → List XW → Prop
  | nil : SJ X W [] []
  | cons {e es w ws} : SE X W e w → SJ X W es ws → SJ X W (e :: es) (w :: ws)
theorem SJ.pj {ws : List XW} (h : SJ X W es ws) : PJ X es (ws.map fun w => tW (gm X) W w) := by
  induction h with
  | nil => exact .nil
  | cons a _ ih => exact .cons a ih
theorem js_core : ∀ (ws : List XW) {acc : Str} {r r1 : Rho} {s : St} {Hs H Hs1 H1 : Hp} {P : Late → Rho → Prop} {PE : Exc → Rho → Prop} {Q : VK}, Out (gm X) r s Hs H r1 Hs1 H1 → jsW ws acc r1 (fun z r' => P (.st (.str z)) r') PE →
    (∀ l r' v Hs' H', P l r' → Out (gm X) r s Hs H r' Hs' H' → LateOk (gm X) r' s Hs' H' v l → NewAt H l → Q v H') → EXC (gm X) W PE r s Hs H → tJs (ws.map fun w => tW (gm X) W w) acc s H1 fun out H2 => Q (.str out) H2
  | [], acc, r, r1, s, Hs, H, Hs1, H1, P, PE, Q, o, p, k, _ => k _ _ _ _ _ p o (.st (.str _)) (fun _ _ q => nomatch q)
  | w :: ws, acc, r, r1, s, Hs, H, Hs1, H1, P, PE, Q, o, p, k, ke => by
    refine ⟨r1, Hs1, _, PE, o.S, p, fun l r2 v Hs2 H2 p2 o2 l2 n2 => ?_, ke.mono o⟩
    obtain ⟨z, ez, hl, p3⟩ := onStr_iff p2
    obtain rfl := (l2.res o2.S ez).strv
    exact ⟨z, rfl, hl, js_core ws (o.trans o2) p3 k ke⟩
@[simp] def wJs (ws : List XW) : XW := fun r P PE => jsW ws Str.empty r (fun z r' => P (.st (.str z)) r') PE
theorem se_js {v1 v2 : Expr} {rest : List Expr} {ws : List XW} (h : SJ X W (v1 :: v2 :: rest) ws) : SE X W (.JoinedStr (v1 :: v2 :: rest) pos) (wJs ws) := by
  refine pe_imp (pe_joined h.pj) fun s H Q q => ?_
  obtain ⟨r, Hs, P, PE, S, w, k, ke⟩ := q
  exact js_core ws (Out.refl S) w k ke
theorem se_js1 (h : SE X W e w) : SE X W (.JoinedStr [e] pos) w := pe_imp (pe_joined1 h) fun s H Q q => q
end
end Z

/-! ZV: the drawing helpers of the laws with trays. -/
namespace Z
open PySem L2
open PyProof.Rows (envOfC)
def wRoll : WS := (wCut (wIfS (tw2 gGt (w2 gIx (wVar 0) (wC (.int 0))) (wC (.int 0))) (wSeq (wAsg 2 (w2 gMod (wB gInt (waCons (w2 gIx (wVar 0) (wC (.int 0))) waNil)) (wVar 1)))
  (wSeq (wSetL 0 (wC (.int 0)) (w2 gDiv (w2 gIx (wVar 0) (wC (.int 0))) (wVar 1)))
  (wRet (wVar 2)))) wNext)
  (wCut (wSetL 0 (wC (.int 2)) (w2 gAdd (w2 gIx (wVar 0) (wC (.int 2))) (wC (.int 1))))
  (wCut (wAsg 3 (w2 gMod (wB gInt (waCons (w2 gAdd (w2 gIx (wVar 0) (wC (.int 1))) (w2 gMul (wC (.int 922337203)) (w2 gIx (wVar 0) (wC (.int 2))))) waNil)) (wC (.int 2305843009213693951))))
  (wCut (wAsg 4 (w2 gAdd (w2 gMul (w2 gMod (wB gInt (waCons (w2 gMul (wVar 3) (wVar 3)) waNil)) (wC (.int 1152921504606846697))) (wVar 3)) (w2 gMul (wC (.int 6047)) (w2 gIx (wVar 0) (wC (.int 2))))))
  (wRet (w2 gMod (wB gInt (waCons (w2 gDiv (w2 gMod (wB gInt (waCons (w2 gAdd (wVar 4) (w2 gIx (wVar 0) (wC (.int 1)))) waNil)) (wC (.int 4398046511093))) (wC (.int 128))) waNil)) (wVar 1)))))))
theorem roll_w {as Q QE} (h : sp_spin as Q QE) : wRoll (rho0 5 as) (bodyFl as Q QE) := by
  obtain ⟨p, rl, t, rfl, ⟨a, b, e, rfl⟩, ht, hl, k⟩ := h
  refine ite2d (fun h => ?_) (fun h => ?_)
  · refine ⟨ht, ?_⟩
    refine ⟨⟨ht, hl⟩, ?_⟩
    refine ⟨rfl, ?_⟩
    exact k _ _ ⟨_, _, _, rfl⟩ (Int.emod_nonneg _ (by omega)) (Int.emod_lt_of_pos _ ht)
  · refine nm5 ?_
    refine nm5 ?_
    refine ⟨mul64 (by decide), ?_⟩
    refine ⟨by decide, ?_⟩
    have h1 : ∀ x : Int, 0 ≤ x % 2305843009213693951 ∧ x % 2305843009213693951 < 2305843009213693951 := fun x => ⟨Int.emod_nonneg _ (by decide), Int.emod_lt_of_pos _ (by decide)⟩
    have h2 : ∀ x : Int, 0 ≤ x % 1152921504606846697 ∧ x % 1152921504606846697 < 1152921504606846697 := fun x => ⟨Int.emod_nonneg _ (by decide), Int.emod_lt_of_pos _ (by decide)⟩
    refine nm5 ?_
    generalize b + 922337203 * (e + 1) = y
    refine ⟨mul64 (by have := h1 y; omega), ?_⟩
    refine ⟨by decide, ?_⟩
    refine ⟨mul64 (by have := h2 (y % 2305843009213693951 * (y % 2305843009213693951)); omega), ?_⟩
    refine ⟨mul64 (by decide), ?_⟩
    refine nm5 ?_
    refine ⟨by decide, ?_⟩
    refine ⟨⟨by decide, by decide⟩, ?_⟩
    refine ⟨ht, ?_⟩
    refine ⟨rfl, ?_⟩
    exact k _ _ ⟨_, _, _, rfl⟩ (Int.emod_nonneg _ (by omega)) (Int.emod_lt_of_pos _ ht)
def wTray : WS := (wCut (wAsg 2 (wIf (tw2 gLt (wVar 1) (wB gLen (waCons (wVar 0) waNil))) (w2 gIx (wVar 0) (wVar 1)) (w2 gAdd (w2 gMul (wC (.int 59)) (wVar 1)) (wC (.int 23)))))
  (wCut (wAsg 3 (w2 gMod (wB gInt (waCons (wB gAbs (waCons (wVar 2) waNil)) waNil)) (w2 gPow (w2 gPow (wC (.int 10)) (wC (.int 61))) (wC (.int 9)))))
  (wCut (wAsg 4 (w2 gAdd (w2 gAdd (w2 gAdd (w2 gMul (wVar 3) (wC (.int 1000033))) (w2 gMul (wC (.int 6151)) (wVar 1))) (w2 gMul (wC (.int 29)) (wB gInt (waCons (w2 gLt (wVar 2) (wC (.int 0))) waNil)))) (wC (.int 13))))
  (wRet (wLst (waCons (wB gMax (waCons (wC (.int 0)) (waCons (w2 gSub (wVar 3) (w2 gPow (wC (.int 10)) (wC (.int 18)))) waNil))) (waCons (w2 gMod (wB gInt (waCons (wVar 4) waNil)) (wC (.int 2305843009213693907))) (waCons (wC (.int 0)) waNil))))))))
theorem tray_w {as Q QE} (h : sp_reel as Q QE) : wTray (rho0 5 as) (bodyFl as Q QE) := by
  obtain ⟨ns, a, rfl, h0, h1, k⟩ := h
  have rest : ∀ c : Int, (wCut (wAsg 3 (w2 gMod (wB gInt (waCons (wB gAbs (waCons (wVar 2) waNil)) waNil)) (w2 gPow (w2 gPow (wC (.int 10)) (wC (.int 61))) (wC (.int 9)))))
  (wCut (wAsg 4 (w2 gAdd (w2 gAdd (w2 gAdd (w2 gMul (wVar 3) (wC (.int 1000033))) (w2 gMul (wC (.int 6151)) (wVar 1))) (w2 gMul (wC (.int 29)) (wB gInt (waCons (w2 gLt (wVar 2) (wC (.int 0))) waNil)))) (wC (.int 13))))
  (wRet (wLst (waCons (wB gMax (waCons (wC (.int 0)) (waCons (w2 gSub (wVar 3) (w2 gPow (wC (.int 10)) (wC (.int 18)))) waNil))) (waCons (w2 gMod (wB gInt (waCons (wVar 4) waNil)) (wC (.int 2305843009213693907))) (waCons (wC (.int 0)) waNil))))))) [.sh (.rol (ns.map D.int)), .sh (.int a), .sh (.int c), .no, .no] (bodyFl [.sh (.rol (ns.map D.int)), .sh (.int a)] Q QE) := fun c => by
    refine ⟨cpow_small (by decide +kernel), ?_⟩
    refine ⟨cpow_small (by decide +kernel), ?_⟩
    refine ⟨by decide +kernel, ?_⟩
    refine nm5 ?_
    refine ⟨mul64r (by decide), ?_⟩
    refine ⟨mul64 (by decide), ?_⟩
    refine ⟨mul64 (by decide), ?_⟩
    refine nm5 ?_
    refine ⟨cpow_small (by decide +kernel), ?_⟩
    refine ⟨by decide, ?_⟩
    refine ⟨(show (3 : Nat) ≤ sizeLine from by decide), fun p => ?_⟩
    exact k _ ⟨_, _, _, rfl⟩
  refine ite2d (fun h => ?_) (fun h => ?_)
  · obtain ⟨x, e, hx⟩ := atI_lt (xs := ns.map D.int) h0 h
    show match atI (ns.map D.int) a with | some d => _ | none => False
    rw [e]
    obtain ⟨c, _, rfl⟩ := List.mem_map.mp hx
    refine nm5 ?_
    exact rest c
  · refine ⟨mul64 (by decide), ?_⟩
    refine nm5 ?_
    exact rest _
/-! a few of a list's items, as many as are asked or there -/
def sp_few2 : FSpec := fun as P _ => ∃ p rl items ds, ∃ m : Nat, as = [.own p rl, .sh items, .sh (.int m)] ∧ Reel rl ∧ seqD items = some ds ∧ ds.length ≤ 1000 ∧ ∀ rl' fs rest, Reel rl' → (fs ++ rest).Perm ds → fs.length = min m ds.length → P (.new (.lst fs)) [rl']
def wFew2 : WS := (wSeq (wPar 3 4 (waCons (wB gList (waCons (wVar 1) waNil)) (waCons (wLst waNil) waNil)))
  (wSeq (wFor (wiR1 (waCons (wB gMin (waCons (wVar 2) (waCons (wB gLen (waCons (wVar 3) waNil)) waNil))) waNil)) (gN 5) (wDrop (wMu 4 gApp (waCons (wMu 3 gPopAt (waCons (wCall sp_spin [true, false] (waCons (wVar 0) (waCons (wB gLen (waCons (wVar 3) waNil)) waNil))) waNil)) waNil))))
  (wRet (wVar 4))))
theorem few2_w {as Q QE} (h : sp_few2 as Q QE) : wFew2 (rho0 6 as) (bodyFl as Q QE) := by
  obtain ⟨p, rl, items, ds, m, rfl, hr, hi, hl, k⟩ := h
  refine ⟨ds, hi, ?_⟩
  intro p3
  refine ⟨show (0 : Nat) ≤ sizeLine from by decide, fun p4 => ?_⟩
  refine ⟨⟨by split <;> omega, by split <;> omega⟩, ?_⟩
  refine ⟨trivial, ?_⟩
  have hn : (if ((ds.length : Nat) : Int) < (m : Int) then ((ds.length : Nat) : Int) else (m : Int)).toNat = min m ds.length := by split <;> omega
  refine for_rel (fun its r => ∃ rl left found x, found.length + its.length = min m ds.length ∧ Reel rl ∧ (found ++ left).Perm ds ∧ r = [.own p rl, .sh items, .sh (.int m), .own p3 (.lst left), .own p4 (.lst found), x]) _ _ ⟨rl, ds, [], _, ?_, hr, List.Perm.refl _, rfl⟩ ?_ ?_
  · rw [rngD_len]
    have e := hn
    simp only [List.length_nil, Nat.zero_add]
    exact e
  · rintro d its r ⟨rl, left, found, x, hc, hr, hperm, rfl⟩ go
    have hlen : found.length + left.length = ds.length := by rw [← hperm.length_eq, List.length_append]
    rw [List.length_cons] at hc
    refine ⟨_, _, _, rfl, hr, by omega, log2_small (by omega), fun j rl hr j0 j1 => ?_⟩
    obtain ⟨n, rfl⟩ := Int.eq_ofNat_of_zero_le j0
    have hn : n < left.length := by omega
    refine ⟨by omega, by omega, ?_⟩
    have e1 : seqIndex? (n : Int) left.length = some n := by
      unfold seqIndex?
      simp [show ¬ (n : Int) < 0 by omega, hn]
    rw [e1]
    show match left[n]? with | some d => _ | none => False
    rw [List.getElem?_eq_getElem hn]
    refine ⟨Nat.lt_of_le_of_lt (show found.length ≤ 1000 by omega) (by decide), ?_⟩
    refine ⟨trivial, go _ ⟨rl, left.eraseIdx n, found ++ [left[n]], _, by rw [List.length_append, List.length_singleton]; omega, hr, ?_, rfl⟩⟩
    rw [List.append_assoc]
    exact ((perm_erase left n _ (List.getElem?_eq_getElem hn)).append_left found).trans hperm
  · rintro r ⟨rl, left, found, x, hc, hr, hperm, rfl⟩
    refine ⟨rfl, ?_⟩
    exact k _ _ left hr hperm (by simpa using hc)
end Z

/-! ZW: text * int. -/
namespace Z
open PySem L2
open PyProof.Rows (envOfC mulOk_of)
section
variable {X : Cx} {W : WX}
theorem op_mul_str : OpR X (binaryOp .Mult) (fun x y H Q => ∃ z i, x = .str z ∧ y = .int i ∧ z.length ≤ 16 ∧ -(2 ^ 63) ≤ i ∧ i ≤ 1048576 ∧ Q (.str (Txt.mul z i)) H) := by
  intro pins s σ H x y v u Q I rx ry h
  obtain ⟨z, i, rfl, rfl, hz, lo, hi, q⟩ := h
  obtain ⟨t, rfl⟩ := rx
  obtain ⟨t', rfl⟩ := ry
  exact PySem.SB.mul (mulOk_of 16 1048576 hz (by omega) (by omega) (by decide) (by decide)) fun t' k => ⟨.str (Txt.mul z i), H, I.tok _, ⟨_, rfl⟩, q⟩
def gMulA : G2
  | .str z, .int n, P => z.length ≤ 16 ∧ -(2 ^ 63) ≤ n ∧ n ≤ 1048576 ∧ P (.val (.str (Txt.mul z n)))
  | x, y, P => gMul x y P
theorem og_mulA : OpG X (binaryOp .Mult) gMulA := by
  obtain ⟨rr, h1, h2⟩ := og_mul (X := X)
  refine ⟨_, OpR.or h1 op_mul_str, fun x y dx dy Hs H P Q e rx ry q k => ?_⟩
  unfold gMulA at q
  split at q
  · obtain rfl := rx.strv; obtain rfl := ry.intv
    exact .inr ⟨_, _, rfl, rfl, q.1, q.2.1, q.2.2.1, k _ _ _ _ q.2.2.2 (ret0 e (.str _))⟩
  · exact .inl (h2 _ _ _ _ _ _ _ _ e rx ry q k)
end
end Z

/-! ZX: == and != of dicts. -/
namespace Z
open PySem L2
open PyProof.Rows (envOfC)
open Evl (Ex ex_rd ex_l ex_t)
def okEqK (ds : List (Key × D)) : Bool := ds.all fun p => okEq p.2
def hitK (es : List (Key × D)) (p : Key × D) : Bool := match valD es p.1 with
  | some d => eqD p.2 d
  | none => false
def eqK (ds es : List (Key × D)) : Bool := ds.length == es.length && ds.all (hitK es)
section
variable {X : Cx} {pins : List (Addr × Obj)} {σ : St} {Hs H : Hp} {s : Shared} {j : Nat}
theorem okEqK_val {es : List (Key × D)} {k : Key} {d : D} (h : okEqK es = true) (e : valD es k = some d) : okEq d = true := by
  unfold valD at e
  obtain ⟨p, hp, rfl⟩ := Option.map_eq_some_iff.mp e
  exact List.all_eq_true.mp h p (List.mem_of_find?_eq_some hp)
theorem hitsK (I : Inv X pins σ H s) (e : Ex Hs H) (hu : X.A.in1.units + 64 < cLine) {ls : List (Key × V)} {ub : List (Key × Value)} {es : List (Key × D)} (rb : KV ls ub) (rl : RepK (gm X) Hs ls es) (oe : okEqK es = true) :
    ∀ {ds : List (Key × D)} {ks : List (Key × V)} {ua : List (Key × Value)}, RepK (gm X) Hs ks ds → KV ks ua → okEqK ds = true → PySem.W.KeqHits X.A.in1 s ub ua (ds.all (hitK es))
  | [], _, _, h, r, _ => by
    cases h; cases r
    exact .nil
  | (k, d) :: ds, _, _, h, r, ok => by
    cases h with
    | cons h1 h2 =>
      cases r with
      | @cons _ q _ _ r1 r2 =>
        have ok : (okEq d && okEqK ds) = true := ok
        rw [Bool.and_eq_true] at ok
        have ih := hitsK I e hu rb rl oe h2 r2 ok.2
        obtain ⟨k2, u⟩ := q
        obtain ⟨e1, rv⟩ := r1
        obtain rfl : k = k2 := e1
        show PySem.W.KeqHits X.A.in1 s ub ((k, u) :: _) (hitK es (k, d) && ds.all (hitK es))
        have rr := rb.val k
        rcases repK_val (k := k) rl with ⟨n1, n2⟩ | ⟨v2, d2, n1, n2, rp⟩
        · rw [n1] at rr
          have : valueAt ub k = none := by
            cases q : valueAt ub k with
            | none => rfl
            | some y => rw [q] at rr; cases rr
          have z : hitK es (k, d) = false := by simp [hitK, n2]
          rw [z]
          exact .miss this
        · rw [n1] at rr
          obtain ⟨y, hy, ry⟩ := rr.some_of
          have z : hitK es (k, d) = eqD d d2 := by simp [hitK, n2]
          rw [z]
          have ok2 := okEqK_val oe n2
          obtain ⟨as, a1⟩ := Dp.reads I _ _ _ (Rep.dp e h1 (SeqAt.canLay_of_shaped ok.1)) rv
          obtain ⟨bs, a2⟩ := Dp.reads I _ _ _ (Rep.dp e rp (SeqAt.canLay_of_shaped ok2)) ry
          exact .hit hy (PySem.W.keq_at a1 a2 ok.1 ok2 hu) ih
def rEqK (X : Cx) (neg : Bool) : R2 := fun x y H Q => ∃ a b ks ls Hs ds es, x = .ref a ∧ y = .ref b ∧ Rd H a (.dK ks) ∧ Rd H b (.dK ls) ∧ Ex Hs H ∧ RepK (gm X) Hs ks ds ∧ RepK (gm X) Hs ls es ∧ okEqK ds = true ∧ okEqK es = true ∧ Q (.bl (eqK ds es != neg)) H
theorem op_eqK (hu : X.A.in1.units + 64 < cLine) (hu0 : X.A.units < cLine) : OpR X (compareOp .Eq) (rEqK X false) := by
  intro pins s σ H x y v u Q I rx ry h
  obtain ⟨a, b, ks, ls, Hs, ds, es, rfl, rfl, ha, hb, e, ra, rb, oa, ob, q⟩ := h
  obtain rfl : v = Value.ref a := rx
  obtain rfl : u = Value.ref b := ry
  obtain ⟨_, ya, va, ka, da⟩ := dk_rd I.hok ha
  obtain ⟨_, yb, vb, kb, db⟩ := dk_rd I.hok hb
  refine PySem.W.keq_eq (knd := mixKind X.prog X.w) (r := ds.all (hitK es)) ya yb da db hu0 (fun _ => hitsK I e hu kb rb ob ra ka oa) ⟨.bl _, H, I, rfl, ?_⟩
  have l1 : va.length = ds.length := by rw [← repK_length ra]; exact (Paired.length ka).symm
  have l2 : vb.length = es.length := by rw [← repK_length rb]; exact (Paired.length kb).symm
  rw [l1, l2]
  simpa [eqK] using q
theorem op_neK (hu : X.A.in1.units + 64 < cLine) (hu0 : X.A.units < cLine) : OpR X (compareOp .NotEq) (rEqK X true) := by
  intro pins s σ H x y v u Q I rx ry h
  obtain ⟨a, b, ks, ls, Hs, ds, es, rfl, rfl, ha, hb, e, ra, rb, oa, ob, q⟩ := h
  obtain rfl : v = Value.ref a := rx
  obtain rfl : u = Value.ref b := ry
  obtain ⟨_, ya, va, ka, da⟩ := dk_rd I.hok ha
  obtain ⟨_, yb, vb, kb, db⟩ := dk_rd I.hok hb
  refine PySem.W.keq_ne (knd := mixKind X.prog X.w) (r := ds.all (hitK es)) ya yb da db hu0 (fun _ => hitsK I e hu kb rb ob ra ka oa) ⟨.bl _, H, I, rfl, ?_⟩
  have l1 : va.length = ds.length := by rw [← repK_length ra]; exact (Paired.length ka).symm
  have l2 : vb.length = es.length := by rw [← repK_length rb]; exact (Paired.length kb).symm
  rw [l1, l2]
  simpa [eqK] using q
def gEqK (neg : Bool) : G2
  | .dic ds, .dic es, P => okEqK ds = true ∧ okEqK es = true ∧ P (.val (.bl (eqK ds es != neg)))
  | x, y, P => if neg then gNe x y P else gEq x y P
theorem og_eqK (hr : Room j X.A) : OpG X (compareOp .Eq) (gEqK false) := by
  have hu := hr.units
  have h1 : X.A.in1.units + 64 < cLine := by have u := hr.un; show X.A.units + 1 + 64 < cLine; omega
  obtain ⟨rr, a1, a2⟩ := og_eq (X := X) (by omega)
  refine ⟨_, OpR.or a1 (op_eqK h1 (by omega)), fun x y dx dy Hs H P Q e rx ry q k => ?_⟩
  unfold gEqK at q
  split at q
  · obtain ⟨p, vs, rfl, hp, rk⟩ := rx.dicv e
    obtain ⟨p2, vs2, rfl, hp2, rk2⟩ := ry.dicv e
    exact .inr ⟨_, _, _, _, Hs, _, _, rfl, rfl, hp, hp2, e, rk, rk2, q.1, q.2.1, k _ _ _ _ q.2.2 (ret0 e (.bl _))⟩
  · exact .inl (a2 _ _ _ _ _ _ _ _ e rx ry q k)
theorem og_neK (hr : Room j X.A) : OpG X (compareOp .NotEq) (gEqK true) := by
  have hu := hr.units
  have h1 : X.A.in1.units + 64 < cLine := by have u := hr.un; show X.A.units + 1 + 64 < cLine; omega
  obtain ⟨rr, a1, a2⟩ := og_ne (X := X) (by omega)
  refine ⟨_, OpR.or a1 (op_neK h1 (by omega)), fun x y dx dy Hs H P Q e rx ry q k => ?_⟩
  unfold gEqK at q
  split at q
  · obtain ⟨p, vs, rfl, hp, rk⟩ := rx.dicv e
    obtain ⟨p2, vs2, rfl, hp2, rk2⟩ := ry.dicv e
    exact .inr ⟨_, _, _, _, Hs, _, _, rfl, rfl, hp, hp2, e, rk, rk2, q.1, q.2.1, k _ _ _ _ q.2.2 (ret0 e (.bl _))⟩
  · exact .inl (a2 _ _ _ _ _ _ _ _ e rx ry q k)
end
end Z

/-! ZY: d.clear(). -/
namespace Z
open PySem L2
open PyProof.Rows (envOfC)
open Evl (Ex ex_rd ex_l ex_t)
section
variable {X : Cx} {W : WX}
/-- x.clear(), x a slot with its own dict -/
@[simp] def wDClear (i : Nat) : XW := fun r P PE => match r[i]? with
  | some (Sl.own p (.dic _)) => P (.st .non) (r.set i (.own p (.dic [])))
  | _ => False
theorem se_dclear {x : Str} {px apos cpos : Pos} (i : Nat)
    (hN : X.N[i]? = some x := by rfl) (hv : Vis X.env.scope x := by first | exact Or.inl rfl | exact Or.inr (Or.inl rfl) | exact Or.inr (Or.inr rfl)) (hd : (x == ("__debug__" : Str)) = false := by decide) (hcd : (x == ("__classdict__" : Str)) = false := by decide)
    (hbase : attributeBase (.Name x px) "clear" X.env (eval (.Name x px) X.env) = eval (.Name x px) X.env := by rfl)
    (hline : (apos.endLine == cpos.line) = true := by rfl) :
    SE X W (.Call (.Attribute (.Name x px) "clear" apos) [] [] cpos) (wDClear i) := by
  refine pe_imp (pe_dclear (pe_var hN hv hd hcd) hbase hline) fun s H Q q => ?_
  obtain ⟨r, Hs, P, PE, S, w, k, ke⟩ := q
  simp only [wDClear] at w
  split at w
  · rename_i p c e0
    have z := S.sl i _ e0
    revert z
    generalize hv : s[i]? = o
    intro z
    cases z with
    | own y1 y2 =>
      cases y2 with
      | dic h1 h2 =>
        have u := own_updC (o := .dK []) S hv e0 (c' := .dic []) (.dic upd_same .nil)
        exact ⟨_, hv, .inr (.inr (.inl ⟨rfl, .inl ⟨_, h1⟩⟩)), ⟨_, _, rfl, rfl, h1, k _ _ _ _ _ w u.2.2 (.st .non) (fun _ _ q => nomatch q)⟩⟩
  · exact w.elim
end
end Z

/-! ZZ: list(text). -/
namespace Z
open PySem L2
open PyProof.Rows (envOfC)
open Evl (Ex ex_rd ex_l ex_t)
def one (c : Nat) : Str := ⟨#[c]⟩
section
variable {X : Cx} {W : WX}
theorem vals_signs : ∀ {cs : List Nat} {us : List Value}, us.length = cs.length → (∀ (j : Nat) v, us[j]? = some v → ∃ c u, cs[j]? = some c ∧ v = .str ⟨#[c]⟩ u) → Vals (cs.map fun c => V.str (one c)) us
  | [], [], _, _ => .nil
  | [], _ :: _, h, _ => by cases h
  | _ :: _, [], h, _ => by cases h
  | c :: cs, u :: us, h, k => by
    obtain ⟨c2, t, e1, e2⟩ := k 0 u rfl
    have e1 : c = c2 := by simpa using e1
    subst e1
    refine .cons ⟨t, e2⟩ (vals_signs (by simpa using h) fun j v e => ?_)
    obtain ⟨c3, t3, a, b⟩ := k (j + 1) v (by simpa using e)
    exact ⟨c3, t3, by simpa using a, b⟩
theorem call_listS (hc : X.calm = true) : CallR X (.type "list") (fun xs H Q => ∃ z, xs = [.str z] ∧ z.cps.size ≤ sizeLine ∧ ∀ p, H p = none → Q (.ref p) (upd H p (.lst (z.cps.toList.map fun c => V.str (one c))))) := by
  intro pins s σ H xs us Q I r q
  obtain ⟨z, rfl, hz, q⟩ := q
  obtain ⟨u, rfl, t, rfl⟩ := vals1 r
  refine call_list_str (I.ok.hd hc) z t (fun h' tk acc c' hk hS hacc => ?_) hz
  have hv : Vals (z.cps.toList.map fun c => V.str (one c)) acc.toList := vals_signs (by rw [Array.length_toList, Array.length_toList]; exact hacc.1) fun j v e => by
    obtain ⟨c, u, a, b⟩ := hacc.2 j v (by rw [← Array.getElem?_toList]; exact e)
    exact ⟨c, u, by rw [Array.getElem?_toList]; exact a, b⟩
  exact ⟨.ref s.heap.objs.size, _, I.laid (t' := tk) hk (Nat.le_refl _)
    (show ObjOk X.prog X.w _ _ _ (.lst (z.cps.toList.map fun c => V.str (one c))) from ⟨by rw [List.length_map, Array.length_toList]; exact hz, acc.toList, c', hv, by rw [Array.toArray_toList]; exact hS⟩), rfl, q _ (I.hok.fresh (Nat.le_refl _))⟩
def gListS : GC
  | [.str z], P => z.cps.size ≤ sizeLine ∧ P (.new (.lst (z.cps.toList.map fun c => D.str (one c))))
  | xs, P => gListA xs P
theorem reps_one {G : Gm} {H : Hp} : ∀ cs : List Nat, Reps G H (cs.map fun c => V.str (one c)) (cs.map fun c => D.str (one c))
  | [] => .nil
  | c :: cs => .cons (.str _) (reps_one cs)
theorem cg_listS (hc : X.calm = true) : CaG X (.type "list") gListS := by
  obtain ⟨rr, h1, h2⟩ := cg_listA (X := X) hc
  refine ⟨_, CallR.or h1 (call_listS hc), fun xs ds Hs H P Q e rs q k => ?_⟩
  unfold gListS at q
  split at q
  · obtain ⟨v, rfl, rx⟩ := rs.one
    obtain rfl := rx.strv
    exact .inr ⟨_, rfl, q.1, fun l hl => k _ _ _ _ q.2 (retL e hl (reps_one _))⟩
  · exact .inl (h2 _ _ _ _ _ _ e rs q k)
end
end Z

/-! YA: list(d.items()), d read (kept or own). -/
namespace Z
open PySem L2 LiI PySem.Spec PyProof.Rows
open Evl (Ex ex_rd ex_l ex_t)
section
variable {X : Cx} {W : WX} {o : Expr} {wo : XW}
/-- what the kit's rule says of an own dict, for one that is read -/
def rItemsR : V → Hp → VK → Prop := fun x H Q => ∃ (d : Addr) (kvs : List (Key × V)), x = .ref d ∧ Rd H d (.dK kvs) ∧
  ∀ (H' : Hp) (p : Addr) (ts : List Addr), Ex H H' → H p = none → (∀ t ∈ ts, H t = none) → p ∉ ts → H' p = some (.lst (ts.map V.ref)) → Paired (fun (t : Addr) (q : Key × V) => H' t = some (.tup [kV q.1, q.2])) ts kvs → Q (.ref p) H'
theorem pe_itemsR {te : TE} {p apos cpos pos : Pos} (hc : X.calm = true) (he : PE X o te) (hg : Gl X "list") (hm : X.mg "list" = none) (hv : bootBuiltins "list" = some (.type "list")) (hb : attributeBase o "items" X.env (eval o X.env) = eval o X.env) (hl : (apos.endLine == cpos.line) = true)
    (hs : starEach [.Call (.Attribute o "items" apos) [] [] cpos] X.env = (false, eval (.Call (.Attribute o "items" apos) [] [] cpos) X.env) :: starEach [] X.env) :
    PE X (.Call (.Name "list" p) [.Call (.Attribute o "items" apos) [] [] cpos] [] pos) (fun σ H Q => te σ H fun x H1 => rItemsR x H1 Q) := by
  constructor
  intro pins s σ H Q I hq
  refine wpAny_Call_Name_kw (ld_blt I hg hm hv (callWith_type1 ?_ hs rfl))
  rw [hs]
  refine Calls.spliced_cons (wpAny_Call_method (T := "dict") (id := "dict.items") hb rfl hl F.plainAttrs_dict F.slot_dict_items F.type_dict_items (thn (he.run pins s σ H _ I hq) ?_))
  rintro u s1 ⟨x, H1, I1, rx, d, kvs, rfl, hd, q⟩
  cases rx
  obtain ⟨hz, ns, vs, kv, dd⟩ := dk_rd I1.hok hd
  obtain ⟨ep, at1⟩ := dd.dictAt
  have len : kvs.length = vs.length := Paired.length kv
  have I2 : Inv X pins σ H1 { s1 with heap := s1.heap.push { cls := .type "dict_items", data := .fields #[.ref d] } } := I1.kept (t' := s1.toks) fun b ob q => Heap.get?_push_of_some _ q
  refine ⟨dd.typeIs, dd.mapOf.noDict, method_meetsIn F.slot_dict_items F.entry_dict_items rfl (PySem.evalArgs_none ⟨rfl, dd.typeIs, F.args_dict_items_1 _, _, meets_dict_items (mixKind X.prog X.w) d ns, ⟨vs, dd⟩, Calls.spliced_nil ?_⟩)⟩
  refine PySem.W.kdx_call (knd := mixKind X.prog X.w) (kvs := vs) (ep := ep) (I1.ok.hd hc) ⟨_, Heap.get?_push_size _ rfl, rfl, rfl⟩ (at1.push _) (by omega) fun h' tk acc c as hk hS hl hG ha => ?_
  obtain ⟨H', k1, k2, k3, k4, k5, k6, J⟩ := items_laid (tk := tk) I2 hz kv hk hS hl hG ha
  exact ⟨.ref _, H', J, rfl, q H' _ as k1 k2 k3 k4 k5 k6⟩
theorem reps_items {G : Gm} {Hs Hs' : Hp} (ss : Ex Hs Hs') : ∀ {ts : List Addr} {vs : List (Key × V)} {kvs : List (Key × D)}, RepK G Hs vs kvs → Paired (fun (t : Addr) (q : Key × V) => Hs' t = some (.tup [kV q.1, q.2])) ts vs → Reps G Hs' (ts.map V.ref) (kvs.map mkI)
  | [], _, _, r, h => by
    cases h; cases r; exact .nil
  | t :: ts, _, _, r, h => by
    cases h with
    | cons h1 h2 =>
      cases r with
      | cons r1 r2 => exact .cons (.tup (Evl.st_of h1) (.cons (rep_key _) (.cons (r1.mono ss) .nil))) (reps_items ss r2 h2)
theorem paired_imp {α β : Type} {F F' : α → β → Prop} : ∀ {xs : List α} {ys : List β}, Paired F xs ys → (∀ a ∈ xs, ∀ b, F a b → F' a b) → Paired F' xs ys
  | _, _, .nil, _ => .nil
  | _, _, .cons h t, k => .cons (k _ (List.mem_cons_self ..) _ h) (paired_imp t fun a m b => k a (List.mem_cons_of_mem _ m) b)
open Classical in
theorem ret_items {G : Gm} {Hs H H' : Hp} {p : Addr} {ts : List Addr} {vs : List (Key × V)} {kvs : List (Key × D)} (e : Ex Hs H) (k : Ex H H') (hp : H p = none) (ht : ∀ t ∈ ts, H t = none) (np : p ∉ ts) (hl : H' p = some (.lst (ts.map V.ref))) (pr : Paired (fun (t : Addr) (q : Key × V) => H' t = some (.tup [kV q.1, q.2])) ts vs) (r : RepK G Hs vs kvs) :
    Ret G Hs H (.ref p) (.new (.lst (kvs.map mkI))) (fun a => if a ∈ ts then H' a else Hs a) H' := by
  have ss : Ex Hs (fun a => if a ∈ ts then H' a else Hs a) := fun a u q => by
    show (if a ∈ ts then H' a else Hs a) = some u
    split
    · exact k a u (e a u q)
    · exact q
  refine .new ⟨ss, fun a u q _ => k a u q, fun a u q n _ => ?_, fun a q => q.elim, fun a q => ?_⟩ (fun a u q => ?_) hp ?_ (.lst hl (reps_items ss r (paired_imp pr fun a m b h => ?_)))
  · show (if a ∈ ts then H' a else Hs a) = none
    split
    · rename_i m
      rw [ht a m] at q; cases q
    · exact n
  · cases z : H a with
    | none => rfl
    | some u => rw [k a u z] at q; cases q
  · revert q
    show (if a ∈ ts then H' a else Hs a) = some u → _
    split
    · exact fun q => q
    · exact fun q => k a u (e a u q)
  · show (if p ∈ ts then H' p else Hs p) = none
    rw [if_neg np]
    exact Evl.fresh_back e hp
  · show (if a ∈ ts then H' a else Hs a) = _
    rw [if_pos m]; exact h
/-- list(o.items()) -/
@[simp] def wItems (wo : XW) : XW := fun r P PE => wo r (fun lo r1 => withD r1 lo fun d => onDic d fun kvs => ∀ p, P (.nw p (.lst (kvs.map mkI))) r1) PE
theorem se_items {p apos cpos pos : Pos} (hc : X.calm = true) (ho : SE X W o wo) (hg : Gl X "list") (hm : X.mg "list" = none) (hv : bootBuiltins "list" = some (.type "list") := by first | rfl | decide +kernel) (hb : attributeBase o "items" X.env (eval o X.env) = eval o X.env := by rfl) (hl : (apos.endLine == cpos.line) = true := by rfl)
    (hs : starEach [.Call (.Attribute o "items" apos) [] [] cpos] X.env = (false, eval (.Call (.Attribute o "items" apos) [] [] cpos) X.env) :: starEach [] X.env := by rfl) : SE X W (.Call (.Name "list" p) [.Call (.Attribute o "items" apos) [] [] cpos] [] pos) (wItems wo) := by
  refine pe_imp (pe_itemsR hc ho hg hm hv hb hl hs) fun s H Q q => ?_
  obtain ⟨r, Hs, P, PE, S, w, kq, ke⟩ := q
  refine ⟨r, Hs, _, PE, S, w, fun lo r1 x Hs1 H1 p1 o1 l1 n1 => ?_, ke⟩
  obtain ⟨d, ed, p3⟩ := withD_iff p1
  obtain ⟨kvs, rfl, p5⟩ := onDic_iff p3
  obtain ⟨a, vs, rfl, hp, rk⟩ := (l1.res o1.S ed).dicv o1.S.ex
  refine ⟨a, vs, rfl, hp, fun H' p ts k1 k2 k3 k4 k5 k6 => ?_⟩
  exact (ret_items o1.S.ex k1 k2 k3 k4 k5 k6 rk).out o1.S p5 fun l r' v Hs' H2 pl oo lo n => kq l r' v Hs' H2 pl (o1.trans oo) lo fun q c e => o1.g.th _ (n q c e)
end
end Z

/-! YB: list(d.values()), d read (kept or own). -/
namespace Z
open PySem L2 LiI PySem.Spec PyProof.Rows
open Evl (Ex ex_rd ex_l ex_t)
section
variable {X : Cx} {W : WX} {o : Expr} {wo : XW}
def rValsR : V → Hp → VK → Prop := fun x H Q => ∃ (d : Addr) (kvs : List (Key × V)), x = .ref d ∧ Rd H d (.dK kvs) ∧ ∀ p, H p = none → Q (.ref p) (upd H p (.lst (kvs.map (·.2))))
theorem vals_at : ∀ {kvs : List (Key × V)} {vs : List (Key × Value)} {us : List Value}, KV kvs vs → us.length = vs.length → (∀ (j : Nat) v, us[j]? = some v → ∃ k, vs[j]? = some (k, v)) → Vals (kvs.map (·.2)) us
  | [], _, [], h, _, _ => by cases h; exact .nil
  | [], _, _ :: _, h, l, _ => by cases h; cases l
  | _ :: _, _, [], h, l, _ => by cases h; cases l
  | p :: kvs, _, u :: us, h, l, k => by
    cases h with
    | @cons _ q _ qs h1 h2 =>
      obtain ⟨k0, e⟩ := k 0 u rfl
      have e : q = (k0, u) := by simpa using e
      subst e
      exact .cons h1.2 (vals_at h2 (by simpa using l) fun j v e => by
        obtain ⟨k1, z⟩ := k (j + 1) v (by simpa using e)
        exact ⟨k1, by simpa using z⟩)
theorem pe_valsR {te : TE} {p apos cpos pos : Pos} (hc : X.calm = true) (he : PE X o te) (hg : Gl X "list") (hm : X.mg "list" = none) (hv : bootBuiltins "list" = some (.type "list")) (hb : attributeBase o "values" X.env (eval o X.env) = eval o X.env) (hl : (apos.endLine == cpos.line) = true)
    (hs : starEach [.Call (.Attribute o "values" apos) [] [] cpos] X.env = (false, eval (.Call (.Attribute o "values" apos) [] [] cpos) X.env) :: starEach [] X.env) :
    PE X (.Call (.Name "list" p) [.Call (.Attribute o "values" apos) [] [] cpos] [] pos) (fun σ H Q => te σ H fun x H1 => rValsR x H1 Q) := by
  constructor
  intro pins s σ H Q I hq
  refine wpAny_Call_Name_kw (ld_blt I hg hm hv (callWith_type1 ?_ hs rfl))
  rw [hs]
  refine Calls.spliced_cons (wpAny_Call_method (T := "dict") (id := "dict.values") hb rfl hl F.plainAttrs_dict F.slot_dict_values F.type_dict_values (thn (he.run pins s σ H _ I hq) ?_))
  rintro u s1 ⟨x, H1, I1, rx, d, kvs, rfl, hd, q⟩
  cases rx
  obtain ⟨hz, ns, vs, kv, dd⟩ := dk_rd I1.hok hd
  obtain ⟨ep, at1⟩ := dd.dictAt
  have len : kvs.length = vs.length := Paired.length kv
  have I2 : Inv X pins σ H1 { s1 with heap := s1.heap.push { cls := .type "dict_values", data := .fields #[.ref d] } } := I1.kept (t' := s1.toks) fun b ob q => Heap.get?_push_of_some _ q
  refine ⟨dd.typeIs, dd.mapOf.noDict, method_meetsIn F.slot_dict_values F.entry_dict_values rfl (PySem.evalArgs_none ⟨rfl, dd.typeIs, F.args_dict_values_1 _, _, meets_dict_values (mixKind X.prog X.w) d ns, ⟨vs, dd⟩, Calls.spliced_nil ?_⟩)⟩
  refine PySem.W.kdl_call (PySem.W.kdl_values (knd := mixKind X.prog X.w) (kvs := vs) (ep := ep)) (I1.ok.hd hc) ⟨⟨_, Heap.get?_push_size _ rfl, rfl, rfl⟩, at1.push _⟩ (by omega) fun h' tk acc c hk hS ha => ?_
  have hv : Vals (kvs.map (·.2)) acc.toList := vals_at kv (by rw [Array.length_toList]; exact ha.1) fun j v e => ha.2 j v (by rw [← Array.getElem?_toList]; exact e)
  exact ⟨.ref _, _, I2.laid (t' := tk) hk (Nat.le_refl _) (show ObjOk X.prog X.w _ _ _ (.lst (kvs.map (·.2))) from ⟨by rw [List.length_map]; exact hz, acc.toList, c, hv, by rw [Array.toArray_toList]; exact hS⟩), rfl, q _ (I2.hok.fresh (Nat.le_refl _))⟩
theorem reps_vals {G : Gm} {H : Hp} : ∀ {vs : List (Key × V)} {kvs : List (Key × D)}, RepK G H vs kvs → Reps G H (vs.map (·.2)) (kvs.map mkV)
  | _, _, .nil => .nil
  | _, _, .cons a b => .cons a (reps_vals b)
/-- list(o.values()) -/
@[simp] def wVals (wo : XW) : XW := fun r P PE => wo r (fun lo r1 => withD r1 lo fun d => onDic d fun kvs => ∀ p, P (.nw p (.lst (kvs.map mkV))) r1) PE
theorem se_vals {p apos cpos pos : Pos} (hc : X.calm = true) (ho : SE X W o wo) (hg : Gl X "list") (hm : X.mg "list" = none) (hv : bootBuiltins "list" = some (.type "list") := by first | rfl | decide +kernel) (hb : attributeBase o "values" X.env (eval o X.env) = eval o X.env := by rfl) (hl : (apos.endLine == cpos.line) = true := by rfl)
    (hs : starEach [.Call (.Attribute o "values" apos) [] [] cpos] X.env = (false, eval (.Call (.Attribute o "values" apos) [] [] cpos) X.env) :: starEach [] X.env := by rfl) : SE X W (.Call (.Name "list" p) [.Call (.Attribute o "values" apos) [] [] cpos] [] pos) (wVals wo) := by
  refine pe_imp (pe_valsR hc ho hg hm hv hb hl hs) fun s H Q q => ?_
  obtain ⟨r, Hs, P, PE, S, w, kq, ke⟩ := q
  refine ⟨r, Hs, _, PE, S, w, fun lo r1 x Hs1 H1 p1 o1 l1 n1 => ?_, ke⟩
  obtain ⟨d, ed, p3⟩ := withD_iff p1
  obtain ⟨kvs, rfl, p5⟩ := onDic_iff p3
  obtain ⟨a, vs, rfl, hp, rk⟩ := (l1.res o1.S ed).dicv o1.S.ex
  refine ⟨a, vs, rfl, hp, fun p k2 => ?_⟩
  exact (retL o1.S.ex k2 (reps_vals rk)).out o1.S p5 fun l r' v Hs' H2 pl oo lo n => kq l r' v Hs' H2 pl (o1.trans oo) lo fun q c e => o1.g.th _ (n q c e)
end
end Z

/-! YC: repr of whole numbers, truth values and data in one rule. -/
namespace Z
open PySem L2
section
variable {X : Cx} {j : Nat}
def gReprA : GC := fun xs P => match xs with
  | [.bl b] => gRepr [.bl b] P
  | [.int i] => gRepr [.int i] P
  | xs => gReprD xs P
theorem cg_reprA (gd : X.A.guards = some []) (hr : Room j X.A) (sy : SysD X.base) : CaG X (.builtin "repr") gReprA := by
  obtain ⟨r1, a1, a2⟩ := cg_repr (X := X)
  obtain ⟨r2, b1, b2⟩ := cg_reprD (X := X) gd hr sy
  refine ⟨_, CallR.or a1 b1, fun xs ds Hs H P Q e rs q k => ?_⟩
  unfold gReprA at q
  split at q
  · exact .inl (a2 _ _ _ _ _ _ e rs q k)
  · exact .inl (a2 _ _ _ _ _ _ e rs q k)
  · exact .inr (b2 _ _ _ _ _ _ e rs q k)
end
end Z

/-! YD: {k: v, ..}. -/
namespace Z
open PySem L2
section
variable {X : Cx} {W : WX} {pos : Pos}
def dicW : List (XW × XW) → List (Key × D) → Rho → (List (Key × D) → Rho → Prop) → (Exc → Rho → Prop) → Prop
  | [], acc, r, P, _ => P acc r
  | (wk, wv) :: ws, acc, r, P, PE => wk r (fun l r1 => withD r1 l fun dk => ∃ k, keyD dk = some k ∧ wv r1 (fun l2 r2 => withF r2 l2 fun d r3 => dicW ws (acc ++ [(k, d)]) r3 P PE) PE) PE
inductive SPs (X : Cx) (W : WX) : List (Option Expr) → List Expr → List (XW × XW) → Prop
  | nil : SPs X W [] [] []
  | cons {k v ks vs wk wv ws} : SE X W k wk → SE X W v wv → SPs X W ks vs ws → SPs X W (some k :: ks) (v :: vs) ((wk, wv) :: ws)
theorem SPs.pps {ks : List (Option Expr)} {vs : List Expr} {ws : List (XW × XW)} (h : SPs X W ks vs ws) : PPs X pos ks vs (ws.map fun w => (tW (gm X) W w.1, tW (gm X) W w.2)) := by
  induction h with
  | nil => exact pps_nil
  | cons a b _ ih => exact pps_cons a b ih
theorem dic_core {r0 : Rho} {s : St} {Hs0 H0 : Hp} {P : List (Key × D) → Rho → Prop} {PE : Exc → Rho → Prop} : ∀ (ws : List (XW × XW)) {acc : List (Key × D)} {r : Rho} {Hs H : Hp} {vacc : List (Key × V)} {Q : List (V × V) → Hp → Prop}, Out (gm X) r0 s Hs0 H0 r Hs H → RepK (gm X) Hs vacc acc → dicW ws acc r P PE →
    (∀ acc' r' Hs' H' vs', P acc' r' → Out (gm X) r0 s Hs0 H0 r' Hs' H' → RepK (gm X) Hs' (vacc ++ vs') acc' → Q (vs'.map fun kv => (kV kv.1, kv.2)) H') → EXC (gm X) W PE r0 s Hs0 H0 → tPairs (ws.map fun w => (tW (gm X) W w.1, tW (gm X) W w.2)) s H Q
  | [], acc, r, Hs, H, vacc, Q, o, rp, w, k, _ => by
    exact k _ _ _ _ [] w o (by rw [List.append_nil]; exact rp)
  | (wk, wv) :: ws, acc, r, Hs, H, vacc, Q, o, rp, w, k, ke => by
    refine ⟨r, Hs, _, PE, o.S, w, fun l r1 v1 Hs1 H1 p1 o1 l1 n1 => ?_, ke.mono o⟩
    obtain ⟨dk, ek, key, hkey, p1⟩ := withD_iff p1
    refine ⟨r1, Hs1, _, PE, o1.S, p1, fun l2 r2 v2 Hs2 H2 p2 o2 lo2 n2 => ?_, (ke.mono o).mono o1⟩
    obtain ⟨d, r3, ed, p2⟩ := withF_iff p2
    have ev : v1 = kV key := by
      have rb := l1.res o1.S ek
      cases dk <;> simp only [keyD, Option.some.injEq, reduceCtorEq] at hkey
      · subst hkey; exact rb.intv
      · subst hkey; exact rb.strv
    obtain ⟨Hs3, S3, rv, g3, _⟩ := lo2.frz o2.S (o1.trans o2).g (new_th o1 n2) ed
    have o3 : Out (gm X) r0 s Hs0 H0 r3 Hs3 H2 := o.trans ⟨S3, g3⟩
    refine dic_core ws (vacc := vacc ++ [(key, v2)]) o3 (repK_snoc rv (rp.mono g3.ss)) p2 (fun acc' r' Hs' H' vs' pl oo rr => ?_) ke
    have := k acc' r' Hs' H' ((key, v2) :: vs') pl oo (by rw [List.append_assoc] at rr; exact rr)
    rw [ev]
    exact this
@[simp] def wDic (ws : List (XW × XW)) : XW := fun r P PE => dicW ws [] r (fun acc r' => acc.length ≤ 15 ∧ ∀ p, P (.nw p (.dic (mergeKD acc))) r') PE
theorem se_dic {ks : List (Option Expr)} {vs : List Expr} {ws : List (XW × XW)} (h : SPs X W ks vs ws) (h1 : ks.all (·.isSome) = true := by rfl) (h2 : ks.length = vs.length := by rfl) (h3 : ks ≠ [] := by simp) (h4 : ks.length ≤ 15 := by decide) : SE X W (.Dict ks vs pos) (wDic ws) := by
  refine pe_imp (pe_disp h.pps h1 h2 h3 h4) fun s H Q q => ?_
  obtain ⟨r, Hs, P, PE, S, w, kq, ke⟩ := q
  intro p hp
  have hs : Hs p = none := Evl.fresh_back S.ex hp
  have nO : ¬ Own r p := S.notOwn hp
  have o0 : Out (gm X) r s Hs H r Hs (L2.upd H p (.dK [])) := ⟨S.upd hs nO, (Go0.new S.ex hp).any⟩
  refine dic_core ws (vacc := []) (Out.refl o0.S) .nil w (fun acc r3 Hs3 H2 vs' pl o rp => ?_) (ke.mono o0)
  have g3 := o.g
  have d2 : H2 p = some (.dK []) := g3.kp p _ upd_same nO
  have d3 : Hs3 p = none := g3.fr p _ upd_same hs nO
  have n3 : ¬ Own r3 p := fun h => (g3.ow p h).elim nO fun z => by rw [upd_same] at z; cases z
  refine ⟨d2, vs', rfl, by have := repK_length rp; simp at this; rw [this]; exact pl.1, ?_⟩
  refine kq _ _ _ _ _ (pl.2 p) ⟨o.S.upd d3 n3, g3.addOff hp n3⟩ (.nw d3 (.dic upd_same (repK_merge rp .nil)) n3) fun q c e => ?_
  cases e
  exact hp
end
end Z

/-! YE: nested targets; isinstance of instances and built-in classes; small helps of the printed texts. -/
namespace Z
open PySem L2
open Evl (Ex ex_rd ex_l ex_t)
def Ones (gs : List D → Rho → (Rho → Prop) → Prop) : Prop := ∀ ds r P, gs ds r P → ∃ r', P r'
theorem ones_nil : Ones gsNil := fun ds r P h => by
  cases ds with
  | nil => exact ⟨r, h⟩
  | cons d ds => exact h.elim
theorem ones_c {g : WG} {gs : List D → Rho → (Rho → Prop) → Prop} (a : One g) (b : Ones gs) : Ones (gsCons g gs) := fun ds r P h => by
  cases ds with
  | nil => exact h.elim
  | cons d ds =>
    obtain ⟨r1, h⟩ := a _ _ _ h
    exact b _ _ _ h
theorem one_gT {gs : List D → Rho → (Rho → Prop) → Prop} (b : Ones gs) : One (gT gs) := fun d r P h => by
  cases d with
  | tup ds => exact b _ _ _ h
  | _ => exact h.elim
theorem kind7 {p : String → Prop} (h1 : p "NoneType") (h2 : p "bool") (h3 : p "int") (h4 : p "str") (h5 : p "tuple") (h6 : p "list") (h7 : p "dict") : ∀ T ∈ kindT, p T := by
  intro T h
  simp only [kindT, List.mem_cons, List.not_mem_nil, or_false] at h
  rcases h with rfl | rfl | rfl | rfl | rfl | rfl | rfl
  · exact h1
  · exact h2
  · exact h3
  · exact h4
  · exact h5
  · exact h6
  · exact h7
theorem FnOk.fnR {P : Program} {w : World} {K : PySem.W.Frag} {mg : Str → Option Value} {base : Heap} {fa : Addr} {fd : FuncData} {ps : List Str} {k : Nat} {f : FSpec} (F : FnOk P w K mg base (L2.CX P w) k fa fd ps (spF ⟨K, mg⟩ f)) (b : Binds K fd ps []) : FnR P w K mg base (L2.CX P w) k fa (spF ⟨K, mg⟩ f) :=
  (F.raw b .nil).imp fun vs H Q E h => by rw [List.append_nil]; exact h
/-- an own class: what it is, and that it is none of the built-in kinds -/
def OwnX (K : PySem.W.Frag) (mg : Str → Option Value) (c : Str) : Prop := ∃ C, mg c = some (.ref C) ∧ OwnC K C ∧ ∀ T ∈ kindT, PySem.W.kitOne K (.ref C) (.type T) = some false
/-- isinstance(x, T), x a value of a built-in kind or an instance of one of the classes cs -/
def gIsiO (cs : List Str) : GC := fun xs P => match xs with
  | [.ins c _, .ty n] => c ∈ cs ∧ n ∈ kindT ∧ P (.val (.bl false))
  | xs => gIsi xs P
theorem cg_isiO {X : Cx} {cs : List Str} (h : ∀ c ∈ cs, OwnX X.K X.mg c) : CaG X (.builtin "isinstance") (gIsiO cs) := by
  obtain ⟨rr, c1, c2⟩ := cg_isi (X := X)
  refine ⟨_, CallR.or c1 call_isi, fun xs ds Hs H P Q e rs q k => ?_⟩
  unfold gIsiO at q
  split at q
  · rename_i c fs n
    obtain ⟨hc, hn, q⟩ := q
    obtain ⟨v, v', rfl, rx, ry⟩ := rs.two
    obtain rfl := ry.tyv
    obtain ⟨C, mC, O, kt⟩ := h c hc
    exact .inr ⟨v, _, _, _, false, rfl, .ty n, tyx_ins rx e mC O, kt n hn, k _ _ _ _ q (ret0 e (.bl _))⟩
  · exact .inl (c2 _ _ _ _ _ _ e rs q k)
end Z

/-! YF: ==, !=, in, not in of instances and dicts as tests. -/
namespace Z
open PySem L2
open Evl (Ex ex_rd ex_l ex_t)
@[simp] def twX (w : XW) : TWt := fun r P PE => w r (fun l r1 => onBl r1 l fun b => P b r1) PE
variable {X : Cx} {W : WX} {a b i o : Expr} {wa wb wi wo : XW} {pos : Pos} {f : FSpec} {k j : Nat} {c : Str}
theorem st_ownEq (h : EqD X.prog X.w X.K X.mg X.base k c f) (hr : Room j X.A) (hk : k ≤ j) (ha : SE X W a wa) (hb : SE X W b wb) (hm : behindInMarks .Eq b = false := by first | exact nomark _ | rfl) : ST X W (.Compare a [.Eq] [b] pos) (twX (wOwn c f false wa wb)) := by
  obtain ⟨C, g, mC, O, e1, e2, e3, F⟩ := h
  refine pt_imp (pt_cmpR (op_ownEq F (hr.mono hk) e1 e2) ha hb hm) fun s H Q q => ?_
  obtain ⟨r, Hs, P, PE, S, w, kq, ke⟩ := q
  exact own_core mC O S w (fun l r' v Hs' H' p o lo n => by obtain ⟨b, rfl, rfl, p⟩ := onBl_iff p lo; exact ⟨b, rfl, kq _ _ _ _ p o⟩) ke
theorem st_ownNe (h : EqD X.prog X.w X.K X.mg X.base k c f) (hr : Room j X.A) (hk : k + 1 ≤ j) (ha : SE X W a wa) (hb : SE X W b wb) (hm : behindInMarks .NotEq b = false := by first | exact nomark _ | rfl) : ST X W (.Compare a [.NotEq] [b] pos) (twX (wOwn c f true wa wb)) := by
  obtain ⟨C, g, mC, O, e1, e2, e3, F⟩ := h
  refine pt_imp (pt_cmpR (op_ownNe F (hr.mono hk) e1 e2 e3 O.obj) ha hb hm) fun s H Q q => ?_
  obtain ⟨r, Hs, P, PE, S, w, kq, ke⟩ := q
  exact own_core mC O S w (fun l r' v Hs' H' p o lo n => by obtain ⟨b, rfl, rfl, p⟩ := onBl_iff p lo; exact ⟨b, rfl, kq _ _ _ _ p o⟩) ke
theorem st_ownIn (h : SpecD X.prog X.w X.K X.mg X.base k c "__contains__" f) (hr : Room j X.A) (hk : k ≤ j) (ha : SE X W a wa) (hb : SE X W b wb) (hm : behindInMarks .In b = false := by first | exact nomark _ | exact nobehind _ (by decide) (by decide) | rfl) : ST X W (.Compare a [.In] [b] pos) (twX (wOwnIn c f false wa wb)) := by
  obtain ⟨C, g, mC, e1, e2, F⟩ := h
  refine pt_imp (pt_cmpR (op_ownIn F (hr.mono hk) e1 e2) ha hb hm) fun s H Q q => ?_
  obtain ⟨r, Hs, P, PE, S, w, kq, ke⟩ := q
  exact own_coreIn mC S w (fun l r' v Hs' H' p o lo n => by obtain ⟨b, rfl, rfl, p⟩ := onBl_iff p lo; exact ⟨b, rfl, kq _ _ _ _ p o⟩) ke
theorem st_ownNotIn (h : SpecD X.prog X.w X.K X.mg X.base k c "__contains__" f) (hr : Room j X.A) (hk : k ≤ j) (ha : SE X W a wa) (hb : SE X W b wb) (hm : behindInMarks .NotIn b = false := by first | exact nomark _ | exact nobehind _ (by decide) (by decide) | rfl) : ST X W (.Compare a [.NotIn] [b] pos) (twX (wOwnIn c f true wa wb)) := by
  obtain ⟨C, g, mC, e1, e2, F⟩ := h
  refine pt_imp (pt_cmpR (op_ownNotIn F (hr.mono hk) e1 e2) ha hb hm) fun s H Q q => ?_
  obtain ⟨r, Hs, P, PE, S, w, kq, ke⟩ := q
  exact own_coreIn mC S w (fun l r' v Hs' H' p o lo n => by obtain ⟨b, rfl, rfl, p⟩ := onBl_iff p lo; exact ⟨b, rfl, kq _ _ _ _ p o⟩) ke
theorem st_din (hr : Room j X.A) (hi : SE X W i wi) (ho : SE X W o wo) (hm : behindInMarks .In o = false := by first | exact nobehind _ (by decide) (by decide) | rfl) : ST X W (.Compare i [.In] [o] pos) (twX (wDIn false wi wo)) := by
  refine pt_imp (pt_cmp (pc_din (by have := hr.units; omega) hi ho) hm) fun s H Q q => ?_
  obtain ⟨r, Hs, P, PE, S, w, kq, ke⟩ := q
  have z := din_core (W := W) (Q := fun v H' => ∃ b, v = .bl b ∧ Q b H') S w (fun l r' v Hs' H' p o lo n => by obtain ⟨b, rfl, rfl, p⟩ := onBl_iff p lo; exact ⟨b, rfl, kq _ _ _ _ p o⟩) ke
  have f : ∀ b : Bool, (b != false) = b := fun b => by cases b <;> rfl
  simp only [f] at z
  exact z
theorem st_dnotin (hr : Room j X.A) (hi : SE X W i wi) (ho : SE X W o wo) (hm : behindInMarks .NotIn o = false := by first | exact nobehind _ (by decide) (by decide) | rfl) : ST X W (.Compare i [.NotIn] [o] pos) (twX (wDIn true wi wo)) := by
  refine pt_imp (pt_cmp (pc_dnotin (by have := hr.units; omega) hi ho) hm) fun s H Q q => ?_
  obtain ⟨r, Hs, P, PE, S, w, kq, ke⟩ := q
  have z := din_core (W := W) (Q := fun v H' => ∃ b, v = .bl b ∧ Q b H') S w (fun l r' v Hs' H' p o lo n => by obtain ⟨b, rfl, rfl, p⟩ := onBl_iff p lo; exact ⟨b, rfl, kq _ _ _ _ p o⟩) ke
  have f : ∀ b : Bool, (b != true) = !b := fun b => by cases b <;> rfl
  simp only [f] at z
  exact z
end Z

/-! YG: name = {..}, name = [.. for .. in d], the name no cell. -/
namespace Z
open PySem L2
open PyProof.Rows
open Evl (Ex ex_rd ex_l ex_t)
variable {X : Cx} {W : WX}
theorem ps_setDc {i : Nat} {y : Str} {py : Pos} {kx vx tg iter : Expr} {ifs : List Expr} {scope : Scope} {own : List (Str × Nat)} {pos spos : Pos} {wi : TI} {g : TG} {tt : TT} {tk tv : TE} (hc : X.calm = true) (hN : X.N.Nodup) (hy : X.N[i]? = some y) (hyl : X.env.scope.names.lookup y = some .local)
    (hsw : swapsWith (.DictComp kx vx [⟨tg, iter, ifs, 0⟩] scope pos) (some (.Name y py)) spos.line X.env = pure true) (hi : PI X tg iter wi) (ok : BlkOk X.N X.env.scope scope own)
    (hg : ∀ (s : Shared) (H : Hp) (C : Addr) (cl : List (Str × Addr)) (fp : List Addr), PG (X.blk s H scope (compEnvC scope cl C X.env) fp) tg g) (ht : ∀ (s : Shared) (H : Hp) (C : Addr) (cl : List (Str × Addr)) (fp : List Addr), PTs (X.blk s H scope (compEnvC scope cl C X.env) fp) ifs tt)
    (hk : ∀ (s : Shared) (H : Hp) (C : Addr) (cl : List (Str × Addr)) (fp : List Addr), PE (X.blk s H scope (compEnvC scope cl C X.env) fp) kx tk)
    (he : ∀ (s : Shared) (H : Hp) (C : Addr) (cl : List (Str × Addr)) (fp : List Addr), PE (X.blk s H scope (compEnvC scope cl C X.env) fp) vx tv) (hs : ∀ x, foldedSetIterable iter X.env x = pure x := by intro _; rfl) :
    PS X (.Assign [.Name y py] (.DictComp kx vx [⟨tg, iter, ifs, 0⟩] scope pos) spos) (tAsg (tDc wi g tt tk tv (own.map (·.2))) (gName i)) := by
  refine ⟨fun pins s σ H D I h => ?_⟩
  rw [exec_Assign_Name_used _ _ _ _ hsw]
  refine wpAny_bind (wpAny_standAt (wpAny_bind ?_))
  show wpAny _ X.A (do let _ ← comprehension (.DictComp kx vx [⟨tg, iter, ifs, 0⟩] scope pos) scope X.env (firstIterPos [⟨tg, iter, ifs, 0⟩] pos) newDict false (eval iter X.env) (some (assign (.Name y py) X.env))) _ _ s
  have h : tDc wi g tt tk tv (own.map (·.2)) σ H (fun x H1 => gName i x σ H1 D.nx) := h
  refine wpAny_bind (thn (dc_core (Qf := fun _ s' => SP X pins D .next s') hc hN I hi ok hg ht hk he hs h fun L C s' m H' I' q hn f => ?_) fun _ s' hq => wpAny_pure (wpAny_pure hq))
  show wpAny _ _ (assign (.Name y py) X.env (.ref L)) _ _ _
  refine wpAny_assign_Name (store_ok2 (v := V.ref L) I' hN hy (.inl hyl) rfl (fun s2 I2 ⟨a, sb, ha⟩ => ?_) (.inr hyl))
  obtain ⟨f0, f1, f2, f3, f4, f5⟩ := f
  have haC : C ≠ a := by
    rcases ha with z | z
    · rw [z]; exact f1
    · exact fun e => f4 y a z e.symm
  refine ⟨m, hn.sameBut sb haC, fun h3 sb3 => ?_⟩
  exact ⟨_, H', I2.turned (t' := s2.toks) (fun b o hb e => (sb3.2 b hb).trans e) f0 f1 f3 f4 f5, q⟩
theorem sw_trueD {kx vx : Expr} {gs : List Comprehension} {scope : Scope} {pos py : Pos} {y : Str} {l : Nat} {env : Env} (hk : env.scope.kind = .function) (hy : env.scope.names.lookup y = some .local) (hl : (py.line == pos.line) = true)
    (ha : (scope.names.any fun (n, k) => n == y && (k == .local || k == .cell)) = false) : swapsWith (.DictComp kx vx gs scope pos) (some (.Name y py)) l env = pure true := by
  have ky : env.kindOf y = some .local := hy
  have hb : env.blockKind = .function := by unfold Env.blockKind; rw [hk]; rfl
  unfold swapsWith
  simp only [hb, ky, ha, Expr.pos, hl]
  rfl
theorem ps_orLock {st : Stmt} {t : TS} (h : PS X st t) : PS X st (fun D s H => t D s H ∨ tLock t D s H) :=
  ⟨fun pins s σ H D I hw => hw.elim (h.run pins s σ H D I) ((ps_lock h).run pins s σ H D I)⟩
theorem asg_lock {t : TE} {i : Nat} {D : Ends} {s : L2.St} {H : Hp} (h : t s H (fun x H1 => gName i x s H1 D.nx) ∨ tLockE t s H (fun x H1 => gName i x s H1 D.nx)) : tAsg t (gName i) D s H ∨ tLock (tAsg t (gName i)) D s H := by
  rcases h with h | ⟨d, u, h1, h2, h3⟩
  · exact .inl h
  · exact .inr ⟨d, u, h1, h2, h3⟩
section
variable {i : Nat} {y : Str} {py spos : Pos} {kx vx tg iter elt e : Expr} {ifs elts : List Expr} {scope : Scope} {own : List (Str × Nat)} {pos : Pos} {it : WI} {is : List Nat} {g : WG} {t : TWt} {wk wv we : XW} {pth : Rho → Option (Rho × List (Key × D))} {td : TE} {kk : Nat} {tpos apos cpos : Pos}
theorem ss_setDc (hc : X.calm = true) (hN : X.N.Nodup) (hi : SI X W tg iter it) (ok : BlkOk X.N X.env.scope scope own)
    (hg : ∀ (s : Shared) (H : Hp) (C : Addr) (cl : List (Str × Addr)) (fp : List Addr), SG (X.blk s H scope (compEnvC scope cl C X.env) fp) tg is g) (ht : ∀ (s : Shared) (H : Hp) (C : Addr) (cl : List (Str × Addr)) (fp : List Addr), STs (X.blk s H scope (compEnvC scope cl C X.env) fp) W0 ifs t)
    (hk : ∀ (s : Shared) (H : Hp) (C : Addr) (cl : List (Str × Addr)) (fp : List Addr), SE (X.blk s H scope (compEnvC scope cl C X.env) fp) W0 kx wk) (he : ∀ (s : Shared) (H : Hp) (C : Addr) (cl : List (Str × Addr)) (fp : List Addr), SE (X.blk s H scope (compEnvC scope cl C X.env) fp) W0 vx wv)
    (hv : ∀ i ∈ is, i ∈ own.map (·.2)) (hy : X.N[i]? = some y := by rfl) (hyl : X.env.scope.names.lookup y = some .local := by rfl)
    (hsw : swapsWith (.DictComp kx vx [⟨tg, iter, ifs, 0⟩] scope pos) (some (.Name y py)) spos.line X.env = pure true := by exact sw_trueD rfl rfl rfl (by decide +kernel)) (hs : ∀ x, foldedSetIterable iter X.env x = pure x := by intro _; rfl) :
    SS X W (.Assign [.Name y py] (.DictComp kx vx [⟨tg, iter, ifs, 0⟩] scope pos) spos) (wAsg i (wDc it g t wk wv (own.map (·.2)))) := by
  refine ps_imp (ps_setDc (g := tWG (gm X) is g) (tt := tWT (gm X) W0 t) (tk := tW (gm X) W0 wk) (tv := tW (gm X) W0 wv) hc hN hy hyl hsw hi ok hg ht hk he hs) fun D s H q => ?_
  obtain ⟨r, Hs, F, S, w, k⟩ := q
  obtain ⟨r0, Hs0, P0, PE0, S0, w0, kq, ke⟩ := tw_run (Q := fun x H1 => gName i x s H1 D.nx) S w k fun l r1 v Hs1 H1 p o lo n => by
    obtain ⟨r', Hs', q, o'⟩ := put_ok o lo n p
    exact k.nx _ _ _ _ q o'
  exact ⟨r0, Hs0, _, PE0, S0, w0, fun items still r1 Hs1 H1 J p o wk' => dc_body hv o wk' p kq, ke⟩
theorem ss_setDcI (hc : X.calm = true) (hN : X.N.Nodup) (hi : PE X e td) (hp : PathOk X td pth) (ok : BlkOk X.N X.env.scope scope own)
    (hg : ∀ (s : Shared) (H : Hp) (C : Addr) (cl : List (Str × Addr)) (fp : List Addr), SG (X.blk s H scope (compEnvC scope cl C X.env) fp) (.Tuple elts kk tpos) is g) (ht : ∀ (s : Shared) (H : Hp) (C : Addr) (cl : List (Str × Addr)) (fp : List Addr), STs (X.blk s H scope (compEnvC scope cl C X.env) fp) W0 ifs t)
    (hk : ∀ (s : Shared) (H : Hp) (C : Addr) (cl : List (Str × Addr)) (fp : List Addr), SE (X.blk s H scope (compEnvC scope cl C X.env) fp) W0 kx wk) (he : ∀ (s : Shared) (H : Hp) (C : Addr) (cl : List (Str × Addr)) (fp : List Addr), SE (X.blk s H scope (compEnvC scope cl C X.env) fp) W0 vx wv)
    (hv : ∀ i ∈ is, i ∈ own.map (·.2)) (hbase : attributeBase e "items" X.env (eval e X.env) = eval e X.env := by rfl) (hline : (apos.endLine == cpos.line) = true := by rfl) (hy : X.N[i]? = some y := by rfl) (hyl : X.env.scope.names.lookup y = some .local := by rfl)
    (hsw : swapsWith (.DictComp kx vx [⟨.Tuple elts kk tpos, .Call (.Attribute e "items" apos) [] [] cpos, ifs, 0⟩] scope pos) (some (.Name y py)) spos.line X.env = pure true := by exact sw_trueD rfl rfl rfl (by decide +kernel)) (hs : ∀ x, foldedSetIterable (.Call (.Attribute e "items" apos) [] [] cpos) X.env x = pure x := by intro _; rfl) :
    SS X W (.Assign [.Name y py] (.DictComp kx vx [⟨.Tuple elts kk tpos, .Call (.Attribute e "items" apos) [] [] cpos, ifs, 0⟩] scope pos) spos) (wAsg i (wDcD mkI pth g t wk wv (own.map (·.2)))) := by
  refine ps_imp (ps_orLock (ps_setDc (g := tWG (gm X) is g) (tt := tWT (gm X) W0 t) (tk := tW (gm X) W0 wk) (tv := tW (gm X) W0 wv) hc hN hy hyl hsw (pi_items hi hbase hline) ok hg ht hk he hs)) fun D s H q => asg_lock ?_
  obtain ⟨r, Hs, F, S, w, k⟩ := q
  refine dcD_core (J := Iti) hp hv (fun h1 h2 => keptI h1 h2) (fun s H p od ws R h1 h2 h3 => h1 _ ⟨p, od, ws, rfl, h2, h3⟩) (tw_run S w k fun l r1 v Hs1 H1 p o lo n => ?_)
  obtain ⟨r', Hs', q, o'⟩ := put_ok o lo n p
  exact k.nx _ _ _ _ q o'
theorem ss_setDcK (hc : X.calm = true) (hN : X.N.Nodup) (hi : PE X iter td) (hp : PathOk X td pth) (ok : BlkOk X.N X.env.scope scope own)
    (hg : ∀ (s : Shared) (H : Hp) (C : Addr) (cl : List (Str × Addr)) (fp : List Addr), SG (X.blk s H scope (compEnvC scope cl C X.env) fp) tg is g) (ht : ∀ (s : Shared) (H : Hp) (C : Addr) (cl : List (Str × Addr)) (fp : List Addr), STs (X.blk s H scope (compEnvC scope cl C X.env) fp) W0 ifs t)
    (hk : ∀ (s : Shared) (H : Hp) (C : Addr) (cl : List (Str × Addr)) (fp : List Addr), SE (X.blk s H scope (compEnvC scope cl C X.env) fp) W0 kx wk) (he : ∀ (s : Shared) (H : Hp) (C : Addr) (cl : List (Str × Addr)) (fp : List Addr), SE (X.blk s H scope (compEnvC scope cl C X.env) fp) W0 vx wv)
    (hv : ∀ i ∈ is, i ∈ own.map (·.2)) (hy : X.N[i]? = some y := by rfl) (hyl : X.env.scope.names.lookup y = some .local := by rfl)
    (hsw : swapsWith (.DictComp kx vx [⟨tg, iter, ifs, 0⟩] scope pos) (some (.Name y py)) spos.line X.env = pure true := by exact sw_trueD rfl rfl rfl (by decide +kernel)) (hs : ∀ x, foldedSetIterable iter X.env x = pure x := by intro _; rfl) :
    SS X W (.Assign [.Name y py] (.DictComp kx vx [⟨tg, iter, ifs, 0⟩] scope pos) spos) (wAsg i (wDcD mkK pth g t wk wv (own.map (·.2)))) := by
  refine ps_imp (ps_orLock (ps_setDc (g := tWG (gm X) is g) (tt := tWT (gm X) W0 t) (tk := tW (gm X) W0 wk) (tv := tW (gm X) W0 wv) hc hN hy hyl hsw (pi_keys hi) ok hg ht hk he hs)) fun D s H q => asg_lock ?_
  obtain ⟨r, Hs, F, S, w, k⟩ := q
  refine dcD_core (J := Itk) hp hv (fun h1 h2 => keptK h1 h2) (fun s H p od ws R h1 h2 h3 => h1 _ ⟨p, od, rfl, .inl ⟨ws, h2, h3⟩⟩) (tw_run S w k fun l r1 v Hs1 H1 p o lo n => ?_)
  obtain ⟨r', Hs', q, o'⟩ := put_ok o lo n p
  exact k.nx _ _ _ _ q o'
theorem ss_setLcI (hc : X.calm = true) (hN : X.N.Nodup) (hi : PE X e td) (hp : PathOk X td pth) (ok : BlkOk X.N X.env.scope scope own)
    (hg : ∀ (s : Shared) (H : Hp) (C : Addr) (cl : List (Str × Addr)) (fp : List Addr), SG (X.blk s H scope (compEnvC scope cl C X.env) fp) (.Tuple elts kk tpos) is g) (ht : ∀ (s : Shared) (H : Hp) (C : Addr) (cl : List (Str × Addr)) (fp : List Addr), STs (X.blk s H scope (compEnvC scope cl C X.env) fp) W0 ifs t)
    (he : ∀ (s : Shared) (H : Hp) (C : Addr) (cl : List (Str × Addr)) (fp : List Addr), SE (X.blk s H scope (compEnvC scope cl C X.env) fp) W0 elt we)
    (hv : ∀ i ∈ is, i ∈ own.map (·.2)) (hbase : attributeBase e "items" X.env (eval e X.env) = eval e X.env := by rfl) (hline : (apos.endLine == cpos.line) = true := by rfl) (hy : X.N[i]? = some y := by rfl) (hyl : X.env.scope.names.lookup y = some .local := by rfl)
    (hsw : swapsWith (.ListComp elt [⟨.Tuple elts kk tpos, .Call (.Attribute e "items" apos) [] [] cpos, ifs, 0⟩] scope pos) (some (.Name y py)) spos.line X.env = pure true := by exact sw_true rfl rfl rfl (by decide +kernel)) (hs : ∀ x, foldedSetIterable (.Call (.Attribute e "items" apos) [] [] cpos) X.env x = pure x := by intro _; rfl) :
    SS X W (.Assign [.Name y py] (.ListComp elt [⟨.Tuple elts kk tpos, .Call (.Attribute e "items" apos) [] [] cpos, ifs, 0⟩] scope pos) spos) (wAsg i (wLcD mkI pth g t we (own.map (·.2)))) := by
  refine ps_imp (ps_orLock (ps_setLc (g := tWG (gm X) is g) (tt := tWT (gm X) W0 t) (te := tW (gm X) W0 we) hc hN hy hyl hsw (pi_items hi hbase hline) ok hg ht he hs)) fun D s H q => asg_lock ?_
  obtain ⟨r, Hs, F, S, w, k⟩ := q
  refine lcD_core (J := Iti) hp hv (fun h1 h2 => keptI h1 h2) (fun s H p od ws R h1 h2 h3 => h1 _ ⟨p, od, ws, rfl, h2, h3⟩) (tw_run S w k fun l r1 v Hs1 H1 p o lo n => ?_)
  obtain ⟨r', Hs', q, o'⟩ := put_ok o lo n p
  exact k.nx _ _ _ _ q o'
theorem ss_setLcK (hc : X.calm = true) (hN : X.N.Nodup) (hi : PE X iter td) (hp : PathOk X td pth) (ok : BlkOk X.N X.env.scope scope own)
    (hg : ∀ (s : Shared) (H : Hp) (C : Addr) (cl : List (Str × Addr)) (fp : List Addr), SG (X.blk s H scope (compEnvC scope cl C X.env) fp) tg is g) (ht : ∀ (s : Shared) (H : Hp) (C : Addr) (cl : List (Str × Addr)) (fp : List Addr), STs (X.blk s H scope (compEnvC scope cl C X.env) fp) W0 ifs t)
    (he : ∀ (s : Shared) (H : Hp) (C : Addr) (cl : List (Str × Addr)) (fp : List Addr), SE (X.blk s H scope (compEnvC scope cl C X.env) fp) W0 elt we)
    (hv : ∀ i ∈ is, i ∈ own.map (·.2)) (hy : X.N[i]? = some y := by rfl) (hyl : X.env.scope.names.lookup y = some .local := by rfl)
    (hsw : swapsWith (.ListComp elt [⟨tg, iter, ifs, 0⟩] scope pos) (some (.Name y py)) spos.line X.env = pure true := by exact sw_true rfl rfl rfl (by decide +kernel)) (hs : ∀ x, foldedSetIterable iter X.env x = pure x := by intro _; rfl) :
    SS X W (.Assign [.Name y py] (.ListComp elt [⟨tg, iter, ifs, 0⟩] scope pos) spos) (wAsg i (wLcD mkK pth g t we (own.map (·.2)))) := by
  refine ps_imp (ps_orLock (ps_setLc (g := tWG (gm X) is g) (tt := tWT (gm X) W0 t) (te := tW (gm X) W0 we) hc hN hy hyl hsw (pi_keys hi) ok hg ht he hs)) fun D s H q => asg_lock ?_
  obtain ⟨r, Hs, F, S, w, k⟩ := q
  refine lcD_core (J := Itk) hp hv (fun h1 h2 => keptK h1 h2) (fun s H p od ws R h1 h2 h3 => h1 _ ⟨p, od, rfl, .inl ⟨ws, h2, h3⟩⟩) (tw_run S w k fun l r1 v Hs1 H1 p o lo n => ?_)
  obtain ⟨r', Hs', q, o'⟩ := put_ok o lo n p
  exact k.nx _ _ _ _ q o'
end
end Z

/-! YH: a, b = e1, e2 by a tuple (a target is a cell). -/
namespace Z
open PySem L2
open Evl (Ex ex_rd ex_l ex_t)
variable {X : Cx} {W : WX} {pos : Pos}
theorem ss_par2 {i j : Nat} {x y : Str} {a b : Expr} {ta : TAw} {px py pt : Pos} {kt k2 pt2} (hc : X.calm = true) (hN : X.N.Nodup) (ha : SA X W [a, b] ta) (hi : X.N[i]? = some x := by rfl) (hj : X.N[j]? = some y := by rfl)
    (hx : Loc X.env.scope x := by first | exact Or.inl rfl | exact Or.inr rfl) (hy : Loc X.env.scope y := by first | exact Or.inl rfl | exact Or.inr rfl)
    (fx : X.fn x = true ∨ X.env.scope.names.lookup x = some .local := by first | exact .inl rfl | exact .inr rfl) (fy : X.fn y = true ∨ X.env.scope.names.lookup y = some .local := by first | exact .inl rfl | exact .inr rfl)
    (hs : swapsWithSole [.Tuple [.Name x px, .Name y py] kt pt] (.Tuple [a, b] k2 pt2) pos.line X.env = pure false := by rfl)
    (hw : swappedStores [.Tuple [.Name x px, .Name y py] kt pt] (.Tuple [a, b] k2 pt2) X.env = pure none := by rfl)
    (h1 : (assignEach [.Tuple [.Name x px, .Name y py] kt pt] X.env).map (·.2) = [assign (.Tuple [.Name x px, .Name y py] kt pt) X.env] := by rfl)
    (hn : (assignEach [.Name x px, .Name y py] X.env).length = 2 := by rfl) (hst : (assignEach [.Name x px, .Name y py] X.env).findIdx? (·.1) = none := by rfl)
    (hsa : (assignEach (.Name x px :: [.Name y py]) X.env).map (·.2) = assign (.Name x px) X.env :: (assignEach [.Name y py] X.env).map (·.2) := by rfl) (hsb : (assignEach (.Name y py :: []) X.env).map (·.2) = assign (.Name y py) X.env :: (assignEach [] X.env).map (·.2) := by rfl) :
    SS X W (.Assign [.Tuple [.Name x px, .Name y py] kt pt] (.Tuple [a, b] k2 pt2) pos) (wPar i j ta) := by
  refine ps_imp (ps_asg (pe_tup ha) (pg_tup hc (pgs_cons (pg_name hN hi hx fx) (pgs_cons (pg_name hN hj hy fy) pgs_nil hsb) hsa) hn hst) hs hw h1) fun D s H q => ?_
  obtain ⟨r, Hs, F, S, w, k⟩ := q
  refine ⟨r, Hs, _, F.ex, S, w, fun ls r1 vs Hs1 H1 p o lo n => ?_, fun x r' cls d Hs' H' p o e => k.ex x r' s cls d Hs' H' p o.outS e⟩
  split at p
  · cases lo with
    | cons l1 n1 lo => cases lo with
      | cons l2 n2 lo => cases lo with
        | nil =>
          rename_i v1 v2
          refine ⟨(by decide : 2 ≤ sizeLine), fun t ht => ?_⟩
          have g : Go0 Hs1 H1 Hs1 (upd H1 t (.tup [v1, v2])) := Go0.new o.S.ex ht
          have o2 : Out (gm X) r s Hs H r1 Hs1 (upd H1 t (.tup [v1, v2])) := o.trans ⟨o.S.go0 g (ex_new1 o.S.ex ht), g.any⟩
          cases l2 with
          | st rp =>
            obtain ⟨r', Hs', q, o'⟩ := put_ok2 (v2 := v2) o2 (l1.go g.any) (n _ (List.mem_cons_self ..)) p (.inl ⟨_, rfl, rp⟩)
            exact ⟨t, _, rfl, Evl.st_of upd_same, rfl, _, _, rfl, _, _, rfl, rfl, k.nx _ _ _ _ q o'⟩
  · rename_i la q0 c0
    cases lo with
    | cons l1 n1 lo => cases lo with
      | cons l2 n2 lo => cases lo with
        | nil =>
          rename_i v1 v2
          refine ⟨(by decide : 2 ≤ sizeLine), fun t ht => ?_⟩
          have g : Go0 Hs1 H1 Hs1 (upd H1 t (.tup [v1, v2])) := Go0.new o.S.ex ht
          have o2 : Out (gm X) r s Hs H r1 Hs1 (upd H1 t (.tup [v1, v2])) := o.trans ⟨o.S.go0 g (ex_new1 o.S.ex ht), g.any⟩
          have l2' := l2.go (g.any (O := Own r1))
          cases l2' with
          | nw z1 z2 z3 =>
            obtain ⟨r', Hs', q, o'⟩ := put_ok2 o2 (l1.go g.any) (n _ (List.mem_cons_self ..)) p (.inr ⟨_, _, rfl, rfl, z1, z2, z3, n _ (List.mem_cons_of_mem _ (List.mem_cons_self ..)) _ _ rfl, fun c' e => n1 _ _ _ e (List.mem_cons_self ..)⟩)
            exact ⟨t, _, rfl, Evl.st_of upd_same, rfl, _, _, rfl, _, _, rfl, rfl, k.nx _ _ _ _ q o'⟩
  · exact p.elim
end Z

/-! YI: == and != of texts without a look at their signs. -/
namespace Z
open PySem L2
variable {X : Cx} {j : Nat}
def gEqZ (neg : Bool) : G2 := fun x y P => match x, y with
  | .str a, .str b => if neg then P (.val (.bl (!decide (a = b)))) else P (.val (.bl (decide (a = b))))
  | x, y => gEqK neg x y P
theorem dec_str {a b : Str} : decide (V.str a = V.str b) = decide (a = b) := by
  by_cases h : a = b
  · simp [h]
  · simp [h]
theorem og_eqZ (hr : Room j X.A) : OpG X (compareOp .Eq) (gEqZ false) := by
  obtain ⟨rr, a1, a2⟩ := og_eqK (X := X) hr
  refine ⟨_, OpR.or a1 op_eq, fun x y dx dy Hs H P Q e rx ry q k => ?_⟩
  unfold gEqZ at q
  split at q
  · obtain rfl := rx.strv; obtain rfl := ry.strv
    exact .inr ⟨rfl, by rw [dec_str]; exact k _ _ _ _ q (ret0 e (.bl _))⟩
  · exact .inl (a2 _ _ _ _ _ _ _ _ e rx ry q k)
theorem og_neZ (hr : Room j X.A) : OpG X (compareOp .NotEq) (gEqZ true) := by
  obtain ⟨rr, a1, a2⟩ := og_neK (X := X) hr
  refine ⟨_, OpR.or a1 op_ne, fun x y dx dy Hs H P Q e rx ry q k => ?_⟩
  unfold gEqZ at q
  split at q
  · obtain rfl := rx.strv; obtain rfl := ry.strv
    exact .inr ⟨rfl, by rw [dec_str]; exact k _ _ _ _ q (ret0 e (.bl _))⟩
  · exact .inl (a2 _ _ _ _ _ _ _ _ e rx ry q k)
end Z

/-! YJ: an own object lent as a kept one while an expression with a plain value is told. -/
namespace Z
open PySem L2
open Evl (Ex ex_rd ex_l ex_t)
@[simp] def hid : Sl → Sl
  | .own _ _ => .no
  | x => x
@[simp] def hideR (i : Nat) (d : D) (r : Rho) : Rho := (r.map hid).set i (.sh d)
@[simp] def wBorrow (i : Nat) (w : XW) : XW := fun r P PE => match r[i]? with
  | some (.own _ c) => w (hideR i c.toD r) (fun l r1 => ∃ d, l = .st d ∧ flatD d = true ∧ P (.st d) r) (fun _ _ => False)
  | _ => w r P PE
section
variable {G : Gm} {r : Rho} {s : St} {Hs H : Hp}
theorem hid_own {a : Addr} : ¬ Own (r.map hid) a := fun ⟨i, c, h⟩ => by
  rw [List.getElem?_map] at h
  obtain ⟨x, hx, e⟩ := Option.map_eq_some_iff.mp h
  cases x <;> cases e
theorem StOk.hid (S : StOk G r s Hs H) : StOk G (r.map Z.hid) s Hs H := by
  refine ⟨by rw [List.length_map]; exact S.len, S.ex, fun i x q => ?_, fun i j p c c' h1 h2 => (hid_own ⟨i, c, h1⟩).elim⟩
  rw [List.getElem?_map] at q
  obtain ⟨y, hy, rfl⟩ := Option.map_eq_some_iff.mp q
  have z := S.sl i y hy
  cases y with
  | no => exact .no
  | own p c => exact .no
  | sh d => exact z
theorem rep_flat {Hs' : Hp} {v : V} {d : D} (h : Rep G Hs v d) (f : flatD d = true) : Rep G Hs' v d := by
  cases d <;> first | (cases f; done) | (cases h; constructor)
end
section
variable {X : Cx} {W : WX} {e : Expr} {w : XW}
theorem se_borrow (i : Nat) (h : SE X W e w) : SE X W e (wBorrow i w) := by
  refine pe_imp h fun s H Q q => ?_
  obtain ⟨r, Hs, P, PE, S, q, k, ke⟩ := q
  simp only [wBorrow] at q
  split at q
  · rename_i p c ei
    have z := S.sl i _ ei
    generalize hs : s[i]? = si at z
    cases z with
    | own h1 h2 =>
    obtain ⟨o, ho⟩ := h2.isv
    have S1 : StOk (gm X) (hideR i c.toD r) s (upd Hs p o) H := by
      refine (S.hid.add h1 ho hid_own).put (fun _ _ q => by cases q) ?_
      rw [hs]
      exact .sh (h2.rep (Ex.new h1) (fun u hu => by rw [ho] at hu; cases hu; exact upd_same))
    have no : ∀ a, ¬ Own (hideR i c.toD r) a := fun a ⟨j, c', hj⟩ => by
      unfold hideR at hj
      by_cases e : i = j
      · subst e
        by_cases hl : i < (r.map hid).length
        · rw [List.getElem?_set_self hl] at hj; cases hj
        · rw [List.getElem?_eq_none (by rw [List.length_set]; omega)] at hj; cases hj
      · rw [List.getElem?_set_ne e] at hj
        exact hid_own ⟨j, c', hj⟩
    refine ⟨_, _, _, _, S1, q, fun l r' v Hs' H' ⟨d, hl, fd, pd⟩ o' lo na => ?_, fun x r' cls d Hs' H' f => f.elim⟩
    subst hl
    have kp : ∀ a u, H a = some u → H' a = some u := fun a u hu => o'.g.kp a u hu (no a)
    refine k _ r v Hs H' pd ⟨⟨S.len, fun a u hu => ?_, fun j x hx => ?_, S.nd⟩, Ex.refl _, fun a u hu _ => kp a u hu, fun _ _ _ h _ => h, fun a h => .inl h, o'.g.th⟩ ?_ (fun _ _ q => by cases q)
    · exact kp a u (S.ex a u hu)
    · have z := S.sl j x hx
      revert z
      generalize s[j]? = sj
      intro z
      cases z with
      | no => exact .no
      | sh h => exact .sh h
      | own a1 a2 => exact .own a1 (a2.go (Ex.refl _) fun u hu => kp _ u hu)
    · cases lo with
      | st hr => exact .st (rep_flat hr fd)
  · exact ⟨r, Hs, P, PE, S, q, k, ke⟩
end
end Z

/-! Q1: names, whole numbers, values of any kind; dicts from names to pairs; the order of names. Plain laws. -/
namespace Q
open PySem L2 Z
open PySem.Spec (ltCps)
theorem sz {n : Nat} (h : n ≤ 1000) : n ≤ sizeLine := Nat.le_trans h (by decide)
theorem sz6 {n : Nat} (h : n ≤ 1000000) : n ≤ sizeLine := Nat.le_trans h (by decide)
/-- text of at most n signs, each one a sign -/
def okS (n : Nat) (z : Str) : Prop := z.length ≤ n ∧ PyData.strOk z = true
/-- a value of a known kind, or an instance of a known class -/
def okV (cs : List Str) : D → Prop
  | .str z => okS 1000 z
  | .ins c _ => c ∈ cs
  | .ty _ => False
  | _ => True
def low (c : Nat) : Bool := decide (97 ≤ c) && decide (c ≤ 122)
def nameB (z : Str) : Bool := decide (1 ≤ z.length) && decide (z.length ≤ 8) && z.cps.toList.all low
def isNm : D → Bool
  | .str z => nameB z
  | _ => false
def inL (i : Int) : Bool := decide (-1000000000000 < i) && decide (i < 1000000000000)
def isIn : D → Bool
  | .int i => inL i
  | _ => false
def isWi (d : D) (a b : Int) : Bool := match d with
  | .int i => inL i && decide (a ≤ i) && decide (i ≤ b)
  | _ => false
theorem inL_iff {i : Int} : inL i = true ↔ -1000000000000 < i ∧ i < 1000000000000 := by
  unfold inL; rw [Bool.and_eq_true, decide_eq_true_iff, decide_eq_true_iff]
theorem nameB_iff {z : Str} : nameB z = true ↔ (1 ≤ z.length ∧ z.length ≤ 8) ∧ ∀ c ∈ z.cps.toList, 97 ≤ c ∧ c ≤ 122 := by
  unfold nameB low
  rw [Bool.and_eq_true, Bool.and_eq_true, decide_eq_true_iff, decide_eq_true_iff, List.all_eq_true]
  simp only [Bool.and_eq_true, decide_eq_true_iff]
theorem okS_chars {n : Nat} {z : Str} (h : okS n z) : ∀ c ∈ z.cps.toList, c < 1114112 := fun c hc => by
  have := Array.all_eq_true'.mp h.2 c (Array.mem_toList_iff.mp hc)
  exact of_decide_eq_true this
theorem letters_low (c : Nat) : decide (c ∈ ("abcdefghijklmnopqrstuvwxyz" : Str).cps.toList) = low c := by
  have e : ("abcdefghijklmnopqrstuvwxyz" : Str).cps.toList = List.range' 97 26 := by decide +kernel
  rw [e]
  unfold low
  by_cases h1 : 97 ≤ c
  · by_cases h2 : c ≤ 122
    · rw [decide_eq_true h1, decide_eq_true h2, decide_eq_true (List.mem_range'_1.mpr ⟨h1, by omega⟩)]; rfl
    · rw [decide_eq_false h2, Bool.and_false, decide_eq_false (fun z => h2 (by have := List.mem_range'_1.mp z; omega))]
  · rw [decide_eq_false h1, Bool.false_and, decide_eq_false (fun z => h1 (List.mem_range'_1.mp z).1)]
theorem len_app (a b : Str) : (a ++ b).length = a.length + b.length := Array.size_append
theorem okS_app {n m : Nat} {a b : Str} (h1 : okS n a) (h2 : okS m b) : okS (n + m) (a ++ b) := by
  refine ⟨by rw [len_app]; have := h1.1; have := h2.1; omega, ?_⟩
  show (a.cps ++ b.cps).all _ = true
  rw [Array.all_append]
  exact Bool.and_eq_true_iff.mpr ⟨h1.2, h2.2⟩
theorem okS_list {n : Nat} {z : Str} : okS n z ↔ z.cps.toList.length ≤ n ∧ ∀ c ∈ z.cps.toList, c < 1114112 := by
  constructor
  · intro h; exact ⟨h.1, okS_chars h⟩
  · intro h
    refine ⟨h.1, ?_⟩
    show z.cps.all _ = true
    rw [← Array.all_toList]
    exact List.all_eq_true.mpr fun c hc => decide_eq_true (h.2 c hc)
theorem okS_cut {n : Nat} {z : Str} (h : okS n z) (lo hi : Option Int) : okS n (cutS z lo hi) := by
  rw [okS_list] at h ⊢
  unfold cutS
  refine ⟨?_, fun c hc => h.2 c (List.mem_of_mem_drop (List.mem_of_mem_take hc))⟩
  show (List.take _ (List.drop _ z.cps.toList)).length ≤ n
  rw [List.length_take, List.length_drop]
  have := h.1
  omega
theorem okS_le {n m : Nat} {z : Str} (h : okS n z) (l : n ≤ m) : okS m z := ⟨Nat.le_trans h.1 l, h.2⟩
theorem name_ok {z : Str} (h : nameB z = true) : okS 8 z := by
  have h := nameB_iff.mp h
  rw [okS_list]
  exact ⟨h.1.2, fun c hc => by have := h.2 c hc; omega⟩
theorem okV_str {cs : List Str} {z : Str} (h : okV cs (.str z)) : okS 1000 z := h
/-! the order of texts -/
def ltS (a b : Str) : Bool := ltCps a.cps.toList b.cps.toList
theorem ltC_irr : ∀ a : List Nat, ltCps a a = false
  | [] => rfl
  | x :: a => by simp [ltCps, ltC_irr a]
theorem ltC_asym : ∀ a b : List Nat, ltCps a b = true → ltCps b a = false
  | [], [], h => by simp [ltCps] at h
  | [], _ :: _, _ => rfl
  | _ :: _, [], h => by simp [ltCps] at h
  | x :: a, y :: b, h => by
    have := ltC_asym a b
    simp only [ltCps] at h ⊢
    grind
theorem ltC_tot : ∀ a b : List Nat, ltCps a b = false → ltCps b a = false → a = b
  | [], [], _, _ => rfl
  | [], _ :: _, h, _ => by simp [ltCps] at h
  | _ :: _, [], _, h => by simp [ltCps] at h
  | x :: a, y :: b, h1, h2 => by
    have := ltC_tot a b
    simp only [ltCps] at h1 h2
    grind
theorem ltC_trans : ∀ a b c : List Nat, ltCps a b = true → ltCps b c = true → ltCps a c = true
  | [], [], _, h, _ => by simp [ltCps] at h
  | [], _ :: _, [], _, h => by simp [ltCps] at h
  | [], _ :: _, _ :: _, _, _ => rfl
  | _ :: _, [], _, h, _ => by simp [ltCps] at h
  | _ :: _, _ :: _, [], _, h => by simp [ltCps] at h
  | x :: a, y :: b, z :: c, h1, h2 => by
    have := ltC_trans a b c
    simp only [ltCps] at h1 h2 ⊢
    grind
end Q

/-! Q2: ascending rows of texts; dicts whose names are texts. Plain laws. -/
namespace Q
open PySem L2 Z
open PySem.Spec (ltCps)
open PyProof.Rows (sortedS risingS)
theorem str_eq {a b : Str} (h : a.cps.toList = b.cps.toList) : a = b := by
  cases a; cases b; simp at h; simp [h]
theorem ltS_irr (a : Str) : ltS a a = false := ltC_irr _
theorem ltS_asym {a b : Str} (h : ltS a b = true) : ltS b a = false := ltC_asym _ _ h
theorem ltS_tot {a b : Str} (h : ltS a b = false) (h2 : ltS b a = false) : a = b := str_eq (ltC_tot _ _ h h2)
theorem ltS_trans {a b c : Str} (h : ltS a b = true) (h2 : ltS b c = true) : ltS a c = true := ltC_trans _ _ _ h h2
theorem ltS_ne {a b : Str} (h : ltS a b = true) : a ≠ b := fun e => by subst e; rw [ltS_irr] at h; cases h
theorem ltS_neg_trans {a b c : Str} (h : ltS b a = false) (h2 : ltS c b = false) : ltS c a = false := by
  cases e : ltS c a with
  | false => rfl
  | true =>
    cases e2 : ltS a b with
    | true => have := ltS_trans e e2; rw [h2] at this; cases this
    | false => rw [ltS_tot e2 h] at e; rw [h2] at e; cases e
/-- ascending, each once -/
def Asc (zs : List Str) : Prop := zs.Pairwise fun a b => ltS a b = true
theorem rising_pw : ∀ (zs : List Str) (p : Str), risingS p zs = true → (∀ x ∈ zs, ltS x p = false) ∧ zs.Pairwise fun a b => ltS b a = false
  | [], _, _ => ⟨fun _ h => (nomatch h), .nil⟩
  | x :: r, p, h => by
    have h : (!ltCps x.cps.toList p.cps.toList && risingS x r) = true := h
    rw [Bool.and_eq_true] at h
    obtain ⟨h1, h2⟩ := rising_pw r x h.2
    have hx : ltS x p = false := by have := h.1; unfold ltS; simpa using this
    exact ⟨fun y hy => by
      rcases List.mem_cons.mp hy with rfl | hy
      · exact hx
      · exact ltS_neg_trans hx (h1 y hy), .cons h1 h2⟩
theorem sorted_asc {zs : List Str} (h : sortedS zs = true) (nd : zs.Nodup) : Asc zs := by
  have : zs.Pairwise fun a b => ltS b a = false := by
    cases zs with
    | nil => exact .nil
    | cons x r =>
      obtain ⟨h1, h2⟩ := rising_pw r x h
      exact .cons h1 h2
  have := List.Pairwise.and this nd
  refine this.imp fun {a b} h => ?_
  cases e : ltS a b with
  | true => rfl
  | false => exact absurd (ltS_tot e h.1) h.2
theorem Asc.nodup {zs : List Str} (h : Asc zs) : zs.Nodup := h.imp fun h => ltS_ne h
theorem asc_uniq : ∀ {xs ys : List Str}, Asc xs → Asc ys → (∀ z, z ∈ xs ↔ z ∈ ys) → xs = ys
  | [], [], _, _, _ => rfl
  | [], y :: ys, _, _, h => by have := (h y).mpr (List.mem_cons_self ..); cases this
  | x :: xs, [], _, _, h => by have := (h x).mp (List.mem_cons_self ..); cases this
  | x :: xs, y :: ys, hx, hy, h => by
    cases hx with
    | cons hx1 hx2 =>
      cases hy with
      | cons hy1 hy2 =>
        have e : x = y := by
          rcases List.mem_cons.mp ((h x).mp (List.mem_cons_self ..)) with e | e
          · exact e
          · rcases List.mem_cons.mp ((h y).mpr (List.mem_cons_self ..)) with e2 | e2
            · exact e2.symm
            · have a := hx1 _ e2
              have b := hy1 _ e
              rw [ltS_asym a] at b; cases b
        subst e
        congr 1
        refine asc_uniq hx2 hy2 fun z => ⟨fun hz => ?_, fun hz => ?_⟩
        · rcases List.mem_cons.mp ((h z).mp (List.mem_cons_of_mem _ hz)) with rfl | e
          · have := hx1 _ hz; rw [ltS_irr] at this; cases this
          · exact e
        · rcases List.mem_cons.mp ((h z).mpr (List.mem_cons_of_mem _ hz)) with rfl | e
          · have := hy1 _ hz; rw [ltS_irr] at this; cases this
          · exact e
variable {α : Type}
/-- put into an ascending row of rows -/
def insK (e : Str × α) : List (Str × α) → List (Str × α)
  | [] => [e]
  | f :: r => if ltS f.1 e.1 = true then f :: insK e r else e :: f :: r
def sortK : List (Str × α) → List (Str × α)
  | [] => []
  | e :: r => insK e (sortK r)
theorem insK_perm (e : Str × α) : ∀ r : List (Str × α), (insK e r).Perm (e :: r)
  | [] => .refl _
  | f :: r => by
    unfold insK
    split
    · exact ((insK_perm e r).cons f).trans (.swap _ _ _)
    · exact .refl _
theorem sortK_perm : ∀ r : List (Str × α), (sortK r).Perm r
  | [] => .refl _
  | e :: r => (insK_perm e _).trans ((sortK_perm r).cons e)
abbrev keys (r : List (Str × α)) : List Str := r.map (·.1)
theorem insK_asc (e : Str × α) : ∀ {r : List (Str × α)}, Asc (keys r) → e.1 ∉ keys r → Asc (keys (insK e r))
  | [], _, _ => .cons (fun _ h => (nomatch h)) .nil
  | f :: r, h, n => by
    have h' : Asc (f.1 :: keys r) := h
    unfold insK
    cases h' with
    | cons h1 h2 =>
      split
      · rename_i q
        refine .cons (fun z hz => ?_) (insK_asc e h2 fun m => n (List.mem_cons_of_mem _ m))
        have := ((insK_perm e r).map (·.1)).mem_iff.mp hz
        rcases List.mem_cons.mp this with rfl | m
        · exact q
        · exact h1 z m
      · rename_i q
        have q : ltS e.1 f.1 = true := by
          cases g : ltS e.1 f.1 with
          | true => rfl
          | false => exact absurd (ltS_tot g (by simpa using q)) fun z => n (by rw [z]; exact List.mem_cons_self ..)
        refine .cons (fun z hz => ?_) h
        rcases List.mem_cons.mp hz with rfl | m
        · exact q
        · exact ltS_trans q (h1 z m)
theorem sortK_asc : ∀ {r : List (Str × α)}, (keys r).Nodup → Asc (keys (sortK r))
  | [], _ => .nil
  | e :: r, h => by
    cases h with
    | cons h1 h2 =>
      refine insK_asc e (sortK_asc h2) fun m => ?_
      exact h1 e.1 (((sortK_perm r).map (·.1)).mem_iff.mp m) rfl
theorem sort_keys {r : List (Str × α)} {ys : List Str} (nd : (keys r).Nodup) (p : ys.Perm (keys r)) (h : sortedS ys = true) : ys = keys (sortK r) := by
  refine asc_uniq (sorted_asc h (p.nodup_iff.mpr nd)) (sortK_asc nd) fun z => ?_
  rw [p.mem_iff]
  exact (((sortK_perm r).map (·.1)).mem_iff).symm
theorem insK_front (e : Str × α) : ∀ {r : List (Str × α)}, Asc (keys (e :: r)) → insK e r = e :: r
  | [], _ => rfl
  | f :: r, h => by
    cases h with
    | cons h1 h2 =>
      unfold insK
      rw [if_neg (by rw [ltS_asym (h1 f.1 (List.mem_cons_self ..))]; decide)]
theorem sortK_id : ∀ {r : List (Str × α)}, Asc (keys r) → sortK r = r
  | [], _ => rfl
  | e :: r, h => by
    have h2 : Asc (keys r) := by cases h with | cons _ h => exact h
    show insK e (sortK r) = _
    rw [sortK_id h2, insK_front e h]
theorem asc_rows : ∀ {xs ys : List (Str × α)}, Asc (keys xs) → Asc (keys ys) → (∀ e, e ∈ xs ↔ e ∈ ys) → xs = ys
  | [], [], _, _, _ => rfl
  | [], y :: ys, _, _, h => by have := (h y).mpr (List.mem_cons_self ..); cases this
  | x :: xs, [], _, _, h => by have := (h x).mp (List.mem_cons_self ..); cases this
  | x :: xs, y :: ys, hx, hy, h => by
    cases hx with
    | cons hx1 hx2 =>
      cases hy with
      | cons hy1 hy2 =>
        have hm : ∀ {e : Str × α} {l : List (Str × α)}, e ∈ l → e.1 ∈ keys l := fun h => List.mem_map_of_mem h
        have e : x = y := by
          rcases List.mem_cons.mp ((h x).mp (List.mem_cons_self ..)) with e | e
          · exact e
          · rcases List.mem_cons.mp ((h y).mpr (List.mem_cons_self ..)) with e2 | e2
            · exact e2.symm
            · have a := hx1 _ (hm e2)
              have b := hy1 _ (hm e)
              rw [ltS_asym a] at b; cases b
        subst e
        congr 1
        refine asc_rows hx2 hy2 fun z => ⟨fun hz => ?_, fun hz => ?_⟩
        · rcases List.mem_cons.mp ((h z).mp (List.mem_cons_of_mem _ hz)) with rfl | e
          · have := hx1 _ (hm hz); rw [ltS_irr] at this; cases this
          · exact e
        · rcases List.mem_cons.mp ((h z).mpr (List.mem_cons_of_mem _ hz)) with rfl | e
          · have := hy1 _ (hm hz); rw [ltS_irr] at this; cases this
          · exact e
theorem sortK_eq {xs ys : List (Str × α)} (nd : (keys xs).Nodup) (p : xs.Perm ys) : sortK xs = sortK ys := by
  refine asc_rows (sortK_asc nd) (sortK_asc ((p.map (·.1)).nodup_iff.mp nd)) fun e => ?_
  rw [(sortK_perm xs).mem_iff, (sortK_perm ys).mem_iff, p.mem_iff]
/-! dicts -/
def kvS (f : α → D) (r : List (Str × α)) : List (Key × D) := r.map fun e => (.inr e.1, f e.2)
def dicS (f : α → D) (r : List (Str × α)) : D := .dic (kvS f r)
def getS (r : List (Str × α)) (z : Str) : Option α := (r.find? fun e => decide (e.1 = z)).map (·.2)
def putS (r : List (Str × α)) (z : Str) (a : α) : List (Str × α) := if z ∈ keys r then r.map fun e => if e.1 = z then (e.1, a) else e else r ++ [(z, a)]
theorem valD_kvS (f : α → D) (z : Str) : ∀ r : List (Str × α), valD (kvS f r) (.inr z) = (getS r z).map f
  | [] => rfl
  | e :: r => by
    have ih := valD_kvS f z r
    by_cases h : e.1 = z
    · have h1 : valD (kvS f (e :: r)) (.inr z) = some (f e.2) := by simp [kvS, valD, List.find?_cons, h]
      rw [h1]; simp [getS, List.find?_cons, h]
    · have h1 : valD (kvS f (e :: r)) (.inr z) = valD (kvS f r) (.inr z) := by simp [kvS, valD, List.find?_cons, h]
      have h2 : getS (e :: r) z = getS r z := by simp [getS, List.find?_cons, h]
      rw [h1, h2, ih]
theorem putKD_kvS (f : α → D) (z : Str) (a : α) (r : List (Str × α)) : putKD (kvS f r) (.inr z) (f a) = kvS f (putS r z a) := by
  unfold putKD putS
  have e : ((kvS f r).any fun e => decide (e.1 = (.inr z : Key))) = decide (z ∈ keys r) := by
    induction r with
    | nil => rfl
    | cons e r ih =>
      show (decide ((.inr e.1 : Key) = .inr z) || (kvS f r).any _) = decide (z ∈ e.1 :: keys r)
      rw [ih]
      by_cases h : e.1 = z
      · simp [h]
      · simp [h, Ne.symm h]
  rw [e]
  by_cases h : z ∈ keys r
  · rw [if_pos (decide_eq_true h), if_pos h]
    unfold kvS
    rw [List.map_map, List.map_map]
    refine List.map_congr_left fun e _ => ?_
    by_cases q : e.1 = z
    · simp [q]
    · simp [q]
  · rw [if_neg (by simp [h]), if_neg h]
    simp [kvS]
theorem getS_mem {r : List (Str × α)} {z : Str} {a : α} (h : getS r z = some a) : (z, a) ∈ r := by
  unfold getS at h
  rw [Option.map_eq_some_iff] at h
  obtain ⟨e, h1, rfl⟩ := h
  have := List.find?_some h1
  have e1 : e.1 = z := by simpa using this
  have := List.mem_of_find?_eq_some h1
  rw [← e1]; exact this
theorem getS_of_mem : ∀ {r : List (Str × α)} {z : Str} {a : α}, (keys r).Nodup → (z, a) ∈ r → getS r z = some a
  | [], _, _, _, h => by cases h
  | e :: r, z, a, nd, h => by
    cases nd with
    | cons n1 n2 =>
      rcases List.mem_cons.mp h with rfl | h
      · simp [getS, List.find?_cons]
      · have : e.1 ≠ z := n1 z (List.mem_map_of_mem (f := (·.1)) h)
        have := getS_of_mem n2 h
        simp [getS, List.find?_cons, *] at this ⊢
        exact this
theorem getS_none {r : List (Str × α)} {z : Str} : getS r z = none ↔ z ∉ keys r := by
  unfold getS
  rw [Option.map_eq_none_iff, List.find?_eq_none]
  constructor
  · intro h m
    obtain ⟨e, he, rfl⟩ := List.mem_map.mp m
    exact h e he (by simp)
  · intro h e he
    simp only [decide_eq_true_iff]
    rintro rfl
    exact h (List.mem_map_of_mem (f := (·.1)) he)
theorem getS_some {r : List (Str × α)} {z : Str} (h : z ∈ keys r) : ∃ a, getS r z = some a := by
  cases e : getS r z with
  | some a => exact ⟨a, rfl⟩
  | none => exact absurd h (getS_none.mp e)
theorem getS_isSome (r : List (Str × α)) (z : Str) : (getS r z).isSome = decide (z ∈ keys r) := by
  by_cases h : z ∈ keys r
  · obtain ⟨a, e⟩ := getS_some h; rw [e]; simp [h]
  · rw [getS_none.mpr h]; simp [h]
theorem getS_perm {xs ys : List (Str × α)} (nd : (keys xs).Nodup) (p : xs.Perm ys) (z : Str) : getS xs z = getS ys z := by
  cases e : getS xs z with
  | none =>
    rw [getS_none] at e
    exact (getS_none.mpr fun m => e ((p.map (·.1)).mem_iff.mpr m)).symm
  | some a =>
    exact (getS_of_mem ((p.map (·.1)).nodup_iff.mp nd) (p.mem_iff.mp (getS_mem e))).symm
theorem putS_keys (r : List (Str × α)) (z : Str) (a : α) : keys (putS r z a) = if z ∈ keys r then keys r else keys r ++ [z] := by
  unfold putS
  split
  · show List.map _ (List.map _ r) = _
    rw [List.map_map]
    refine List.map_congr_left fun e _ => ?_
    show (if e.1 = z then (e.1, a) else e).1 = e.1
    split <;> rfl
  · simp [keys]
theorem putS_new {r : List (Str × α)} {z : Str} {a : α} (h : z ∉ keys r) : putS r z a = r ++ [(z, a)] := by
  unfold putS; rw [if_neg h]
theorem putS_nodup {r : List (Str × α)} {z : Str} {a : α} (h : (keys r).Nodup) : (keys (putS r z a)).Nodup := by
  rw [putS_keys]
  split
  · exact h
  · rename_i n
    rw [List.nodup_append]
    exact ⟨h, List.nodup_cons.mpr ⟨List.not_mem_nil, List.nodup_nil⟩, fun a ha b hb => by
      rcases List.mem_singleton.mp hb with rfl
      rintro rfl; exact n ha⟩
theorem keys_kvS (f : α → D) (r : List (Str × α)) : (kvS f r).map (·.1) = (keys r).map Sum.inr := by
  unfold kvS keys; rw [List.map_map, List.map_map]; rfl
theorem mkK_kvS (f : α → D) (r : List (Str × α)) : (kvS f r).map mkK = (keys r).map D.str := by
  unfold kvS keys; rw [List.map_map, List.map_map]; rfl
theorem mkI_kvS (f : α → D) (r : List (Str × α)) : (kvS f r).map mkI = r.map fun e => D.tup [.str e.1, f e.2] := by
  unfold kvS; rw [List.map_map]; rfl
theorem mkV_kvS (f : α → D) (r : List (Str × α)) : (kvS f r).map mkV = r.map fun e => f e.2 := by
  unfold kvS; rw [List.map_map]; rfl
theorem mkK_rows (f : α → D) (r : List (Str × α)) : (kvS f r).map mkK = r.map fun e => D.str e.1 := by unfold kvS; rw [List.map_map]; rfl
theorem kvS_len (f : α → D) (r : List (Str × α)) : (kvS f r).length = r.length := by unfold kvS; rw [List.length_map]
/-- a dict comprehension that makes one pair of each -/
theorem dc_each {β : Type} {φ : β → D} {κ : β → Key} {ψ : β → D} {g : WG} {t : TWt} {wk wv : XW} {still : Rho → Prop} {vs : List Nat} {r : Rho} {P : List (Key × D) → Rho → Prop} : ∀ (ns : List β) (acc : List (Key × D)),
    (∀ i acc ds', i ∈ ns → dcW g t wk wv still vs ds' (putKD acc (κ i) (ψ i)) r P → dcW g t wk wv still vs (φ i :: ds') acc r P) →
    P (ns.foldl (fun a i => putKD a (κ i) (ψ i)) acc) r → dcW g t wk wv still vs (ns.map φ) acc r P
  | [], acc, _, h => h
  | i :: ns, acc, st, h => by
    refine st i acc (ns.map φ) (List.mem_cons_self ..) (dc_each ns _ (fun i acc ds' hd => st i acc ds' (List.mem_cons_of_mem _ hd)) ?_)
    exact h
theorem foldl_put {β : Type} (f : α → D) (nm : β → Str) (v : β → α) : ∀ (ns : List β) (a0 : List (Str × α)), (keys a0 ++ ns.map nm).Nodup → ns.foldl (fun a i => putKD a (.inr (nm i)) (f (v i))) (kvS f a0) = kvS f (a0 ++ ns.map fun i => (nm i, v i))
  | [], a0, _ => by rw [List.map_nil, List.append_nil]; rfl
  | i :: ns, a0, h => by
    have n : nm i ∉ keys a0 := fun m => by
      rw [List.map_cons, List.nodup_append] at h
      exact h.2.2 _ m _ (List.mem_cons_self ..) rfl
    rw [List.foldl_cons, putKD_kvS, putS_new n, foldl_put f nm v ns _ (by
      rw [show keys (a0 ++ [(nm i, v i)]) = keys a0 ++ [nm i] from by simp [keys], List.append_assoc]; exact h)]
    rw [List.append_assoc]; rfl
/-! equality of dicts -/
theorem perm_sub {β : Type} [DecidableEq β] : ∀ {xs ys : List β}, xs.Nodup → (∀ x ∈ xs, x ∈ ys) → ys.length ≤ xs.length → xs.Perm ys
  | [], ys, _, _, h => by
    have : ys = [] := List.length_eq_zero_iff.mp (Nat.le_zero.mp h)
    rw [this]
  | x :: xs, ys, nd, h, hl => by
    cases nd with
    | cons n1 n2 =>
      have hx : x ∈ ys := h x (List.mem_cons_self ..)
      refine ((perm_sub (ys := ys.erase x) n2 (fun y hy => ?_) ?_).cons x).trans (List.perm_cons_erase hx).symm
      · exact (List.mem_erase_of_ne (n1 y hy).symm).mpr (h y (List.mem_cons_of_mem _ hy))
      · rw [List.length_erase_of_mem hx]
        rw [List.length_cons] at hl; omega
theorem eqK_kvS [DecidableEq α] {f : α → D} (hf : ∀ a b, eqD (f a) (f b) = true ↔ a = b) {r r' : List (Str × α)} (nd : (keys r).Nodup) (nd' : (keys r').Nodup) : eqK (kvS f r) (kvS f r') = true ↔ r.Perm r' := by
  unfold eqK
  rw [Bool.and_eq_true, kvS_len, kvS_len, beq_iff_eq, List.all_eq_true]
  have hh : ∀ e : Str × α, hitK (kvS f r') (.inr e.1, f e.2) = true ↔ e ∈ r' := fun e => by
    show (match valD (kvS f r') (.inr e.1) with | some d => eqD (f e.2) d | none => false) = true ↔ _
    rw [valD_kvS]
    cases q : getS r' e.1 with
    | none =>
      rw [getS_none] at q
      exact ⟨fun h => Bool.noConfusion h, fun h => absurd (List.mem_map_of_mem (f := (·.1)) h) q⟩
    | some a =>
      show eqD (f e.2) (f a) = true ↔ _
      rw [hf]
      constructor
      · intro h; have := getS_mem q; rw [← h] at this; exact this
      · intro h; have := getS_of_mem nd' (show (e.1, e.2) ∈ r' from h); rw [q] at this; exact (Option.some.inj this).symm
  have ndr : r.Nodup := by
    unfold keys List.Nodup at nd
    rw [List.pairwise_map] at nd
    exact nd.imp fun h e => h (by rw [e])
  constructor
  · rintro ⟨h1, h2⟩
    refine perm_sub ndr (fun e he => ?_) (by omega)
    exact (hh e).mp (h2 _ (List.mem_map_of_mem (f := fun e : Str × α => ((.inr e.1 : Key), f e.2)) he))
  · intro p
    refine ⟨p.length_eq, fun e he => ?_⟩
    obtain ⟨x, hx, rfl⟩ := List.mem_map.mp he
    exact (hh x).mpr (p.mem_iff.mp hx)
theorem eqK_asc [DecidableEq α] {f : α → D} (hf : ∀ a b, eqD (f a) (f b) = true ↔ a = b) {r r' : List (Str × α)} (h : Asc (keys r)) (h' : Asc (keys r')) : eqK (kvS f r) (kvS f r') = decide (r = r') := by
  have := eqK_kvS hf h.nodup h'.nodup
  by_cases e : r = r'
  · rw [decide_eq_true e]; exact this.mpr (e ▸ .refl _)
  · rw [decide_eq_false e]
    cases q : eqK (kvS f r) (kvS f r') with
    | false => rfl
    | true => exact absurd (asc_rows h h' fun x => (this.mp q).mem_iff) e
theorem okEqK_kvS {f : α → D} (hf : ∀ a, okEq (f a) = true) (r : List (Str × α)) : okEqK (kvS f r) = true := by
  refine List.all_eq_true.mpr fun e he => ?_
  obtain ⟨x, hx, rfl⟩ := List.mem_map.mp he
  exact hf _
theorem empty_app (z : Str) : Str.empty ++ z = z := by
  cases z; show (⟨#[] ++ _⟩ : Str) = _; simp
/-! tests on truth values -/
theorem iteB2 {b : Bool} {A B : Prop} (h1 : b = true → A) (h2 : b = false → B) : if b = true then A else B := by
  cases b with
  | true => exact h1 rfl
  | false => exact h2 rfl
theorem iteBn {b : Bool} {A B : Prop} (h1 : b = false → A) (h2 : b = true → B) : if (!b) = true then A else B := by
  cases b with
  | true => exact h2 rfl
  | false => exact h1 rfl
theorem iteBt {b : Bool} {A B : Prop} (e : b = true) (h1 : A) : if b = true then A else B := by rw [if_pos e]; exact h1
theorem iteBf {b : Bool} {A B : Prop} (e : b = false) (h1 : B) : if b = true then A else B := by rw [if_neg (by rw [e]; decide)]; exact h1
theorem iteNt {b : Bool} {A B : Prop} (e : b = true) (h1 : B) : if (!b) = true then A else B := by rw [if_neg (by rw [e]; decide)]; exact h1
theorem iteNf {b : Bool} {A B : Prop} (e : b = false) (h1 : A) : if (!b) = true then A else B := by rw [if_pos (by rw [e]; rfl)]; exact h1
theorem blsD_all {α : Type} (f : α → Bool) (r : List α) : blsD (r.map fun e => D.bl (f e)) = some (r.map f) := by
  rw [show (r.map fun e => D.bl (f e)) = (r.map f).map D.bl from by rw [List.map_map]; rfl]; exact blsD_map _
theorem intsD_all {α : Type} (f : α → Int) (r : List α) : intsD (r.map fun e => D.int (f e)) = some (r.map f) := by
  rw [show (r.map fun e => D.int (f e)) = (r.map f).map D.int from by rw [List.map_map]; rfl]; exact intsD_map _
theorem strsD_all {α : Type} (f : α → Str) (r : List α) : strsD (r.map fun e => D.str (f e)) = some (r.map f) := by
  rw [show (r.map fun e => D.str (f e)) = (r.map f).map D.str from by rw [List.map_map]; rfl]; exact strsD_map _
end Q

/-! Q3: pairs, orders of a list, cuts, joined texts. Plain laws. -/
namespace Q
open PySem L2 Z
variable {α β : Type}
theorem pairsD_rows (f : α → D) : ∀ r : List (Str × α), pairsD (r.map fun e => .tup [.str e.1, f e.2]) = some (kvS f r)
  | [] => rfl
  | e :: r => by
    show (match keyD (.str e.1), pairsD (r.map fun e => .tup [.str e.1, f e.2]) with | some k, some r => some ((k, f e.2) :: r) | _, _ => none) = _
    rw [pairsD_rows f r]; rfl
theorem mergeKD_rows (f : α → D) {r : List (Str × α)} (nd : (keys r).Nodup) : mergeKD (kvS f r) = kvS f r := by
  unfold mergeKD
  have := foldl_put f (fun e : Str × α => e.1) (fun e => e.2) r [] nd
  rw [List.nil_append, show (r.map fun i => (i.1, i.2)) = r from List.map_id _] at this
  refine Eq.trans ?_ this
  show (kvS f r).foldl (fun acc e => putKD acc e.1 e.2) (kvS f []) = _
  generalize kvS f [] = acc
  unfold kvS
  rw [List.foldl_map]
theorem getS_cons (e : Str × α) (r : List (Str × α)) (z : Str) : getS (e :: r) z = if e.1 = z then some e.2 else getS r z := by
  by_cases h : e.1 = z
  · rw [if_pos h]; simp [getS, List.find?_cons, h]
  · rw [if_neg h]; simp [getS, List.find?_cons, h]
theorem getS_map (z : Str) (a : α) (z' : Str) : ∀ r : List (Str × α), getS (r.map fun e => if e.1 = z then (e.1, a) else e) z' = if z' = z then (if z' ∈ keys r then some a else none) else getS r z'
  | [] => by
    show none = _
    split
    · rw [if_neg (show z' ∉ keys ([] : List (Str × α)) from List.not_mem_nil)]
    · rfl
  | e :: r => by
    rw [List.map_cons, getS_cons, getS_map z a z' r, getS_cons]
    by_cases h1 : e.1 = z
    · rw [if_pos h1]
      by_cases h2 : z' = z
      · subst h2
        rw [if_pos h1, if_pos rfl, if_pos (show z' ∈ keys (e :: r) from by rw [← h1]; exact List.mem_cons_self ..)]
      · rw [if_neg h2, if_neg h2, if_neg (show ¬ e.1 = z' from fun h => h2 (by rw [← h, h1])), if_neg (show ¬ e.1 = z' from fun h => h2 (by rw [← h, h1]))]
    · rw [if_neg h1]
      by_cases h2 : z' = z
      · subst h2
        have : (z' ∈ keys (e :: r)) = (z' ∈ keys r) := by
          apply propext
          show z' ∈ e.1 :: keys r ↔ _
          rw [List.mem_cons]
          exact ⟨fun h => h.resolve_left fun h => h1 h.symm, .inr⟩
        rw [if_neg h1, if_pos rfl, if_pos rfl]
        simp only [this]
      · rw [if_neg h2, if_neg h2]
theorem getS_app (r s : List (Str × α)) (z : Str) : getS (r ++ s) z = if z ∈ keys r then getS r z else getS s z := by
  induction r with
  | nil => rw [if_neg (show z ∉ keys ([] : List (Str × α)) from List.not_mem_nil)]; rfl
  | cons e r ih =>
    rw [List.cons_append, getS_cons, ih, getS_cons]
    by_cases h : e.1 = z
    · rw [if_pos h, if_pos h, if_pos (show z ∈ keys (e :: r) from by rw [← h]; exact List.mem_cons_self ..)]
    · rw [if_neg h, if_neg h]
      by_cases h2 : z ∈ keys r
      · rw [if_pos h2, if_pos (show z ∈ keys (e :: r) from List.mem_cons_of_mem _ h2)]
      · rw [if_neg h2, if_neg (show z ∉ keys (e :: r) from fun m => by
          rcases List.mem_cons.mp m with q | q
          · exact h q.symm
          · exact h2 q)]
theorem getS_putS (r : List (Str × α)) (z : Str) (a : α) (z' : Str) : getS (putS r z a) z' = if z' = z then some a else getS r z' := by
  unfold putS
  by_cases h : z ∈ keys r
  · rw [if_pos h, getS_map]
    by_cases h2 : z' = z
    · subst h2; rw [if_pos rfl, if_pos h, if_pos rfl]
    · rw [if_neg h2, if_neg h2]
  · rw [if_neg h, getS_app]
    by_cases h2 : z' = z
    · subst h2
      rw [if_neg h, if_pos rfl, getS_cons, if_pos rfl]
    · rw [if_neg h2]
      by_cases h3 : z' ∈ keys r
      · rw [if_pos h3]
      · rw [if_neg h3, getS_none.mpr h3, getS_cons, if_neg (fun e => h2 e.symm)]; rfl
theorem putS_mem {r : List (Str × α)} {z : Str} {a : α} {e : Str × α} (hz : z ∈ keys r) (h : e ∈ putS r z a) : (e.1 = z ∧ e.2 = a) ∨ e ∈ r := by
  unfold putS at h
  rw [if_pos hz] at h
  obtain ⟨x, hx, rfl⟩ := List.mem_map.mp h
  by_cases q : x.1 = z
  · left; rw [if_pos q]; exact ⟨q, rfl⟩
  · right; rw [if_neg q]; exact hx
theorem putS_len {r : List (Str × α)} {z : Str} {a : α} (hz : z ∈ keys r) : (putS r z a).length = r.length := by
  unfold putS; rw [if_pos hz, List.length_map]
theorem perm_map_inv (f : α → β) : ∀ (xs : List α) (l : List β), l.Perm (xs.map f) → ∃ ys : List α, ys.Perm xs ∧ l = ys.map f
  | [], l, h => ⟨[], .refl _, by simpa using h.eq_nil⟩
  | x :: xs, l, h => by
    have hx : f x ∈ l := h.mem_iff.mpr (List.mem_cons_self ..)
    obtain ⟨a, b, rfl⟩ := List.append_of_mem hx
    have h2 : (a ++ b).Perm (xs.map f) := by
      have : (f x :: (a ++ b)).Perm (f x :: xs.map f) := (List.perm_middle.symm).trans h
      exact this.cons_inv
    obtain ⟨ys, hp, he⟩ := perm_map_inv f xs _ h2
    obtain ⟨ya, yb, rfl, rfl, rfl⟩ := List.append_eq_map_iff.mp he
    exact ⟨ya ++ x :: yb, List.perm_middle.trans (hp.cons x), by simp⟩
theorem perm_app_inv (f : α → β) {xs : List α} {a b : List β} (h : (a ++ b).Perm (xs.map f))   : ∃ ya yb : List α, (ya ++ yb).Perm xs ∧ a = ya.map f ∧ b = yb.map f := by
  obtain ⟨ys, hp, he⟩ := perm_map_inv f xs _ h
  obtain ⟨ya, yb, rfl, rfl, rfl⟩ := List.append_eq_map_iff.mp he
  exact ⟨ya, yb, hp, rfl, rfl⟩
theorem cutD_dropLast (xs : List D) : cutD xs none (some (-1)) = xs.dropLast := by
  unfold cutD
  rw [HT.sIx_none, List.drop_zero, List.dropLast_eq_take, Nat.sub_zero]
  have : HT.sIx xs.length xs.length (some (-1)) = xs.length - 1 := by
    show (if (-1 : Int) < 0 then (-1 + (xs.length : Int)).toNat else min (-1 : Int).toNat xs.length) = _
    rw [if_pos (by decide)]
    omega
  rw [this]
theorem cutD_take {xs : List D} {k : Nat} : cutD xs none (some (k : Int)) = xs.take k := by
  unfold cutD
  rw [HT.sIx_nat, HT.sIx_none, List.drop_zero, Nat.sub_zero]
  rw [List.take_eq_take_iff]; omega
theorem inD_strs (z : Str) : ∀ ws : List Str, inD (.str z) (ws.map D.str) = decide (z ∈ ws)
  | [] => rfl
  | w :: ws => by
    show (eqF (.str w) (.str z) || inD (.str z) (ws.map D.str)) = _
    rw [inD_strs z ws]
    show ((w == z) || decide (z ∈ ws)) = decide (z ∈ w :: ws)
    by_cases h : w = z
    · simp [h]
    · simp [h, Ne.symm h]
theorem flat_strs (ws : List Str) : (ws.map D.str).all flatD = true := by
  rw [List.all_map]; exact List.all_eq_true.mpr fun _ _ => rfl
theorem log9 {i : Int} (h : 0 ≤ i ∧ i ≤ 1000) : i.natAbs.log2 < 9000 := by
  obtain ⟨n, rfl⟩ := Int.eq_ofNat_of_zero_le h.1
  exact log2_small (by omega)
theorem pl_strs {n : Nat} {ws : List Str} (h : ∀ z ∈ ws, PyData.strOk z = true) : (ws.map D.str).all (pl n) = true := by
  rw [List.all_map]
  refine List.all_eq_true.mpr fun z hz => ?_
  cases n <;> exact h z hz
/-! joined texts -/
theorem joinL_flat : ∀ ws : List (List Nat), TL.joinL [] ws = ws.flatten
  | [] => rfl
  | [w] => by simp [TL.joinL]
  | w :: v :: r => by
    show w ++ ([] ++ TL.joinL [] (v :: r)) = _
    rw [joinL_flat (v :: r)]; simp
theorem join_cps (ws : List Str) : (Txt.join "" ws).cps.toList = (ws.map fun w => w.cps.toList).flatten := by
  rw [show Txt.join "" ws = Str.join "" ws from PySem.StrLaws.glued_eq_join _ _]
  rw [show (Str.join "" ws).cps.toList = _ from TL.tl_join "" _]
  exact joinL_flat _
theorem join_ones (cs : List Nat) : (Txt.join "" (cs.map one)).cps.toList = cs := by
  rw [join_cps, List.map_map]
  induction cs with
  | nil => rfl
  | cons c cs ih => rw [List.map_cons, List.flatten_cons, ih]; rfl
theorem ones_sum (cs : List Nat) : ((cs.map one).map (·.length)).sum + (cs.map one).length * ("" : Str).length = cs.length := by
  rw [show ("" : Str).length = 0 from by decide +kernel, Nat.mul_zero, Nat.add_zero, List.map_map]
  induction cs with
  | nil => rfl
  | cons c cs ih => rw [List.map_cons, List.sum_cons, ih, List.length_cons]; show 1 + _ = _; omega
theorem str_len (z : Str) : z.length = z.cps.toList.length := rfl
theorem app_cps (a b : Str) : (a ++ b).cps.toList = a.cps.toList ++ b.cps.toList := by
  show (a.cps ++ b.cps).toList = _; simp
theorem cutS_take (z : Str) (k : Nat) : (cutS z none (some (k : Int))).cps.toList = z.cps.toList.take k := by
  unfold cutS
  rw [HT.sIx_nat, HT.sIx_none, List.drop_zero, Nat.sub_zero]
  show List.take _ _ = _
  rw [List.take_eq_take_iff]
  rw [str_len]; omega
end Q

/-! Q4: how long the text of a value is. -/
namespace Q
open PySem L2 Z
variable {α : Type}
theorem len2 : ((", " : String) : Str).length = 2 := rfl
theorem textFrom_le : ∀ (ts : List Str) (k : Nat) (acc : Str), (textFrom k acc ts).length ≤ acc.length + piled ts
  | [], k, acc => Nat.le_refl _
  | t :: r, k, acc => by
    have ih := textFrom_le r (k + 1) (acc ++ (if k > 0 then ", " else "" : String) ++ t)
    have e : (acc ++ (if k > 0 then ", " else "" : String) ++ t).length = acc.length + (if k > 0 then 2 else 0) + t.length := by
      rw [len_app, len_app]
      split <;> rfl
    rw [e] at ih
    show (textFrom (k + 1) _ r).length ≤ _
    rw [piled_cons]
    have : (if k > 0 then 2 else 0 : Nat) ≤ 2 := by split <;> decide
    omega
theorem listText_le (ts : List Str) : (listText ts).length ≤ piled ts + 2 := by
  have h := textFrom_le ts 0 "["
  unfold listText
  rw [len_app]
  have e1 : (("[" : String) : Str).length = 1 := rfl
  have e2 : (("]" : String) : Str).length = 1 := rfl
  rw [e1] at h
  rw [e2]; omega
theorem join_le (ts : List Str) : (Str.join ", " ts).length ≤ piled ts := by
  by_cases h : ts = []
  · subst h; exact Nat.le_refl _
  · have := join_length_add ts h; omega
theorem tupleText_le (ts : List Str) : (tupleText ts).length ≤ piled ts + 3 := by
  unfold tupleText
  rw [len_app, len_app]
  have h := join_le ts
  have e1 : (("(" : String) : Str).length = 1 := rfl
  have e3 : (((if ts.length == 1 then ",)" else ")" : String) : Str)).length ≤ 2 := by split <;> decide
  rw [e1]; omega
theorem dictText_le (ts : List Str) : (dictText ts).length ≤ piled ts + 2 := by
  unfold dictText
  rw [len_app, len_app]
  have h := join_le ts
  have e1 : (("{" : String) : Str).length = 1 := rfl
  have e2 : (("}" : String) : Str).length = 1 := rfl
  rw [e1, e2]; omega
/-- a value with a text of at most n signs, at most k deep -/
structure Sh (n k : Nat) (d : D) : Prop where
  ok : okR d = true
  sw : (pyd d).showable = true
  ln : (pyd d).shown.length ≤ n
  dp : (pyd d).depth ≤ k
theorem Sh.mono {n k n' k' : Nat} {d : D} (h : Sh n k d) (a : n ≤ n') (b : k ≤ k') : Sh n' k' d := ⟨h.ok, h.sw, Nat.le_trans h.ln a, Nat.le_trans h.dp b⟩
theorem sh_non {k : Nat} : Sh 4 k .non := ⟨rfl, rfl, by decide +kernel, Nat.zero_le _⟩
theorem sh_bl {b : Bool} {k : Nat} : Sh 5 k (.bl b) := ⟨rfl, rfl, by cases b <;> decide +kernel, Nat.zero_le _⟩
theorem sh_int {i : Int} {k : Nat} (h : -(10 ^ 40) < i ∧ i < 10 ^ 40) : Sh 41 k (.int i) := by
  refine ⟨rfl, ?_, ?_, Nat.zero_le _⟩
  · show decide (i.natAbs.log2 < 1920) = true
    refine decide_eq_true ?_
    have : i.natAbs < 2 ^ 1920 := Nat.lt_of_lt_of_le (show i.natAbs < 10 ^ 40 by omega) (by decide +kernel)
    by_cases z : i.natAbs = 0
    · rw [z]; decide
    · exact (Nat.log2_lt z).mpr this
  · show (Str.ofString (toString i)).length ≤ 41
    by_cases h0 : 0 ≤ i
    · exact Nat.le_trans (PyProof.Rows.toString_length_le h0 (k := 40) (by decide) (by omega)) (by decide)
    · rw [PyProof.Rows.len_text_neg (by omega)]
      have := PyProof.Rows.toString_length_le (v := 0 - i) (by omega) (k := 40) (by decide) (by omega)
      omega
theorem sh_str {z : Str} {n k : Nat} (h : okS n z) : Sh (10 * n + 2) k (.str z) := by
  refine ⟨rfl, rfl, ?_, Nat.zero_le _⟩
  have := PySem.StrLaws.reprText_len z (fun c hc => Nat.lt_trans (okS_chars h c hc) (by decide))
  have h1 := h.1
  show (reprText z).length ≤ _
  omega
theorem okRs_all {xs : List D} (h : ∀ x ∈ xs, okR x = true) : okRs xs = true := by
  induction xs with
  | nil => rfl
  | cons x xs ih =>
    show (okR x && okRs xs) = true
    rw [h x (List.mem_cons_self ..), ih fun y hy => h y (List.mem_cons_of_mem _ hy)]; rfl
theorem shs {n k m : Nat} : ∀ {xs : List D}, (∀ x ∈ xs, Sh n k x) → okRs xs = true ∧ PyData.showableAll (pyds xs) = true ∧ piled (PyData.shownAll (pyds xs)) ≤ xs.length * (n + 2) ∧ PyData.depthAll (pyds xs) ≤ k
  | [], _ => ⟨rfl, rfl, by simp [pyds, PyData.shownAll, piled], Nat.zero_le _⟩
  | x :: xs, h => by
    obtain ⟨a, b, c, d⟩ := shs (n := n) (k := k) (m := m) (xs := xs) fun y hy => h y (List.mem_cons_of_mem _ hy)
    have hx := h x (List.mem_cons_self ..)
    refine ⟨?_, ?_, ?_, ?_⟩
    · show (okR x && okRs xs) = true; rw [hx.ok, a]; rfl
    · show (PyData.showable (pyd x) && PyData.showableAll (pyds xs)) = true; rw [hx.sw, b]; rfl
    · show piled (PyData.shown (pyd x) :: PyData.shownAll (pyds xs)) ≤ _
      rw [piled_cons, List.length_cons, Nat.succ_mul]
      have := hx.ln; omega
    · show max (PyData.depth (pyd x)) (PyData.depthAll (pyds xs)) ≤ k
      exact Nat.max_le.mpr ⟨hx.dp, d⟩
theorem sh_tup {n k m : Nat} {xs : List D} (h : ∀ x ∈ xs, Sh n k x) (hl : xs.length ≤ m) : Sh (m * (n + 2) + 3) (k + 1) (.tup xs) := by
  obtain ⟨a, b, c, d⟩ := shs (m := 0) h
  refine ⟨a, b, ?_, Nat.succ_le_succ d⟩
  show (tupleText (PyData.shownAll (pyds xs))).length ≤ _
  have := tupleText_le (PyData.shownAll (pyds xs))
  have := Nat.mul_le_mul_right (n + 2) hl
  omega
theorem sh_lst {n k m : Nat} {xs : List D} (h : ∀ x ∈ xs, Sh n k x) (hl : xs.length ≤ m) : Sh (m * (n + 2) + 3) (k + 1) (.lst xs) := by
  obtain ⟨a, b, c, d⟩ := shs (m := 0) h
  refine ⟨a, b, ?_, Nat.succ_le_succ d⟩
  show (listText (PyData.shownAll (pyds xs))).length ≤ _
  have := listText_le (PyData.shownAll (pyds xs))
  have := Nat.mul_le_mul_right (n + 2) hl
  omega
theorem shK {a n k : Nat} {f : α → D} : ∀ {r : List (Str × α)}, (∀ e ∈ r, okS a e.1) → (∀ e ∈ r, Sh n k (f e.2)) → okRK (kvS f r) = true ∧ PyData.showableKv (pydK (kvS f r)) = true ∧ piled (PyData.shownKv (pydK (kvS f r))) ≤ r.length * (10 * a + n + 6) ∧ PyData.depthKv (pydK (kvS f r)) ≤ k
  | [], _, _ => ⟨rfl, rfl, by simp [kvS, pydK, PyData.shownKv, piled], Nat.zero_le _⟩
  | e :: r, h1, h2 => by
    obtain ⟨p, q, c, d⟩ := shK (a := a) (n := n) (k := k) (r := r) (fun y hy => h1 y (List.mem_cons_of_mem _ hy)) (fun y hy => h2 y (List.mem_cons_of_mem _ hy))
    have hk := sh_str (k := 0) (h1 e (List.mem_cons_self ..))
    have hx := h2 e (List.mem_cons_self ..)
    refine ⟨?_, ?_, ?_, ?_⟩
    · show (okR (f e.2) && okRK (kvS f r)) = true; rw [hx.ok, p]; rfl
    · show (PyData.showable (.str e.1) && PyData.showable (pyd (f e.2)) && PyData.showableKv (pydK (kvS f r))) = true
      rw [hx.sw, q]; rfl
    · show piled ((PyData.shown (.str e.1) ++ ": " ++ PyData.shown (pyd (f e.2))) :: PyData.shownKv (pydK (kvS f r))) ≤ _
      rw [piled_cons, len_app, len_app, List.length_cons, Nat.succ_mul]
      have e2 : ((": " : String) : Str).length = 2 := rfl
      have h3 : (PyData.shown (.str e.1)).length ≤ 10 * a + 2 := hk.ln
      have := hx.ln; omega
    · show max (max 0 (PyData.depth (pyd (f e.2)))) (PyData.depthKv (pydK (kvS f r))) ≤ k
      exact Nat.max_le.mpr ⟨Nat.max_le.mpr ⟨Nat.zero_le _, hx.dp⟩, d⟩
theorem sh_dic {a n k m : Nat} {f : α → D} {r : List (Str × α)} (h1 : ∀ e ∈ r, okS a e.1) (h2 : ∀ e ∈ r, Sh n k (f e.2)) (hl : r.length ≤ m) : Sh (m * (10 * a + n + 6) + 2) (k + 1) (.dic (kvS f r)) := by
  obtain ⟨p, b, c, d⟩ := shK h1 h2
  refine ⟨p, b, ?_, Nat.succ_le_succ d⟩
  show (dictText (PyData.shownKv (pydK (kvS f r)))).length ≤ _
  have := dictText_le (PyData.shownKv (pydK (kvS f r)))
  have := Nat.mul_le_mul_right (10 * a + n + 6) hl
  omega
theorem reprD {n k : Nat} {d : D} {P : LR → Prop} (S : Sh n k d) (hs : seqK d = true) (p : P (.val (.str (pyd d).shown))) (hn : n ≤ 1000000 := by decide) (hk : k ≤ 8 := by decide) : gReprD [d] P :=
  ⟨hs, S.ok, S.sw, sz6 (Nat.le_trans S.ln hn), Nat.le_trans S.dp hk, p⟩
end Q

/-! Q5: texts in great letters; filters. -/
namespace Q
open PySem L2 Z
theorem up_low : ∀ c < 123, 97 ≤ c → Unicode.upperOf c = [c - 32] := by decide +kernel
theorem upper_list {z : Str} (h : z.cps.toList.all low = true) : (Txt.upper z).cps.toList = z.cps.toList.map fun c => c - 32 := by
  have hl : ∀ c ∈ z.cps.toList, Unicode.upperOf c = [c - 32] := fun c hc => by
    have := List.all_eq_true.mp h c hc
    unfold low at this
    rw [Bool.and_eq_true, decide_eq_true_iff, decide_eq_true_iff] at this
    exact up_low c (by omega) this.1
  have e : (z.cps.mapIdx fun i c => (Unicode.upperOf c).toArray) = z.cps.map fun c => #[c - 32] := by
    apply Array.ext
    · simp
    · intro i h1 h2
      simp only [Array.getElem_mapIdx, Array.getElem_map]
      rw [hl _ (Array.mem_toList_iff.mpr (Array.getElem_mem _))]
  show ((z.cps.mapIdx fun i c => (Unicode.upperOf c).toArray).flatten).toList = _
  rw [e]
  rw [Array.toList_flatten, Array.toList_map]
  generalize z.cps.toList = l
  induction l with
  | nil => rfl
  | cons a l ih => show (a - 32) :: _ = _; rw [List.map_cons, ← ih]; rfl
theorem upper_ok {z : Str} (h : nameB z = true) : okS 8 (Txt.upper z) := by
  have ok := okS_list.mp (name_ok h)
  have h2 : z.cps.toList.all low = true := by
    unfold nameB at h; rw [Bool.and_eq_true] at h; exact h.2
  rw [okS_list, upper_list h2]
  refine ⟨by rw [List.length_map]; exact ok.1, fun c hc => ?_⟩
  obtain ⟨x, hx, rfl⟩ := List.mem_map.mp hc
  have := ok.2 x hx
  omega
/-- a comprehension that lets some of the values through -/
theorem lc_filter {g : WG} {t : TWt} {we : XW} {still : Rho → Prop} {vs : List Nat} {r : Rho} {P : List D → Rho → Prop} (b : D → Bool) (ns acc : List D)
    (st : ∀ d acc ds', d ∈ ns → (b d = true → lcW g t we still vs ds' (acc ++ [d]) r P) → (b d = false → lcW g t we still vs ds' acc r P) → lcW g t we still vs (d :: ds') acc r P)
    (h : P (acc ++ ns.filter b) r) : lcW g t we still vs ns acc r P := by
  have := lc_keep (φ := fun d : D => d) (g := g) (t := t) (we := we) (still := still) (vs := vs) (r := r) (P := P) b ns acc st (by rw [List.map_id']; exact h)
  rw [List.map_id'] at this; exact this
end Q

/-! PS1: what the defs of numbers and of spans promise. -/
namespace Pk
open PySem L2 Z Q
section
variable (cs : List Str)
def sp_is_name : FSpec := fun as P _ => ∃ d, as = [.sh d] ∧ okV cs d ∧ P (.val (.bl (isNm d))) []
def sp_is_integer : FSpec := fun as P _ => ∃ d, as = [.sh d] ∧ okV cs d ∧ P (.val (.bl (isIn d))) []
def sp_is_within : FSpec := fun as P _ => ∃ d a b, as = [.sh d, .sh (.int a), .sh (.int b)] ∧ okV cs d ∧ P (.val (.bl (isWi d a b))) []
def sp_require_integer : FSpec := fun as P _ => ∃ d, as = [.sh d] ∧ okV cs d ∧ isIn d = true ∧ P (.val .non) []
def sp_require_within : FSpec := fun as P _ => ∃ d a b, as = [.sh d, .sh (.int a), .sh (.int b)] ∧ okV cs d ∧ isWi d a b = true ∧ P (.val .non) []
def sp_require_interval : FSpec := fun as P _ => ∃ d, as = [.sh d] ∧ okV cs d ∧ isWi d 1 32 = true ∧ P (.val .non) []
end
def sp_slot_in : FSpec := fun as P _ => ∃ t n, as = [.sh (.int t), .sh (.int n)] ∧ 0 < n ∧ P (.val (.int (t % n))) []
def times (b e t n : Int) : Int := (e - t + n - 1) / n - (b - t + n - 1) / n
def sp_times_in : FSpec := fun as P _ => ∃ b e t n, as = [.sh (.int b), .sh (.int e), .sh (.int t), .sh (.int n)] ∧ (1 ≤ n ∧ n ≤ 1000) ∧ P (.val (.int (times b e t n))) []
/-! spans -/
abbrev Rows := List (Str × (Int × Int))
def spanD (s : Int × Int) : D := .tup [.int s.1, .int s.2]
/-- a span of at most eight intervals -/
def spanOk (T : Int) (s : Int × Int) : Prop := inL s.1 = true ∧ inL s.2 = true ∧ 1 ≤ s.2 - s.1 ∧ s.2 - s.1 ≤ 8 * T
def isSpan (d : D) (T : Int) : Bool := match d with
  | .tup [.int b, .int e] => inL b && inL e && decide (1 ≤ e - b) && decide (e - b ≤ 8 * T)
  | _ => false
theorem isSpan_iff {T : Int} {s : Int × Int} : isSpan (spanD s) T = true ↔ spanOk T s := by
  obtain ⟨b, e⟩ := s
  show (inL b && inL e && decide (1 ≤ e - b) && decide (e - b ≤ 8 * T)) = true ↔ _
  unfold spanOk
  simp only [Bool.and_eq_true, decide_eq_true_iff]
  grind
/-- rows as they are kept or passed -/
structure RowsOk (T : Int) (rows : Rows) : Prop where
  l1 : 1 ≤ rows.length
  l8 : rows.length ≤ 8
  nd : (keys rows).Nodup
  nm : ∀ e ∈ rows, nameB e.1 = true
  sp : ∀ e ∈ rows, spanOk T e.2
def rowsD (rows : Rows) : D := dicS spanD rows
/-- spans as they are kept -/
def spansD (T : Int) (rows : Rows) : D := .ins "Spans" [("own_interval", .int T), ("own_rows", rowsD rows)]
structure SpOk (T : Int) (rows : Rows) : Prop where
  t1 : 1 ≤ T
  t2 : T ≤ 32
  ok : RowsOk T rows
  asc : Asc (keys rows)
section
variable (cs : List Str)
def elOk (cs : List Str) : D → Prop
  | .tup xs => ∀ x ∈ xs, okV cs x
  | _ => True
def sp_is_span : FSpec := fun as P _ => ∃ d T, as = [.sh d, .sh (.int T)] ∧ okV cs d ∧ elOk cs d ∧ 1 ≤ T ∧ T ≤ 32 ∧ P (.val (.bl (isSpan d T))) []
def sp_are_rows : FSpec := fun as P _ => ∃ rows T, as = [.sh (rowsD rows), .sh (.int T)] ∧ 1 ≤ T ∧ T ≤ 32 ∧ (keys rows).Nodup ∧ (∀ e ∈ rows, okS 1000 e.1) ∧ P (.val (.bl (decide (1 ≤ rows.length) && decide (rows.length ≤ 8) && rows.all fun e => nameB e.1 && isSpan (spanD e.2) T))) []
/-- a dict kept or lent; what comes back of it -/
def Lent (s : Sl) (kvs : List (Key × D)) (cs : List Cell) : Prop := (s = .sh (.dic kvs) ∧ cs = []) ∨ ∃ p, s = .own p (.dic kvs) ∧ cs = [.dic kvs]
def sp_Spans___init__ : FSpec := fun as P _ => ∃ p T rows s kcs, as = [.own p (.ins "Spans" []), .sh (.int T), s] ∧ Lent s (kvS spanD rows) kcs ∧ 1 ≤ T ∧ T ≤ 32 ∧ RowsOk T rows ∧ P (.val .non) (.ins "Spans" [("own_interval", .int T), ("own_rows", rowsD (sortK rows))] :: kcs)
end
def sp_Spans_interval : FSpec := fun as P _ => ∃ T rows, as = [.sh (spansD T rows)] ∧ P (.val (.int T)) []
def sp_Spans_names : FSpec := fun as P _ => ∃ T rows, as = [.sh (spansD T rows)] ∧ P (.val (.tup ((keys rows).map .str))) []
def sp_Spans_rows : FSpec := fun as P _ => ∃ T rows, as = [.sh (spansD T rows)] ∧ P (.new (.dic (kvS spanD rows))) []
def totalR (rows : Rows) : Int := (rows.map fun e => e.2.2 - e.2.1).sum
def sp_Spans_total : FSpec := fun as P _ => ∃ T rows, as = [.sh (spansD T rows)] ∧ rows.length ≤ 1000 ∧ P (.val (.int (totalR rows))) []
def sp_Spans___len__ : FSpec := fun as P _ => ∃ T rows, as = [.sh (spansD T rows)] ∧ P (.val (.int rows.length)) []
def hasR (rows : Rows) : D → Bool
  | .str z => nameB z && decide (z ∈ keys rows)
  | _ => false
def sp_Spans___contains__ (cs : List Str) : FSpec := fun as P _ => ∃ T rows d, as = [.sh (spansD T rows), .sh d] ∧ okV cs d ∧ P (.val (.bl (hasR rows d))) []
def sp_Spans___getitem__ (cs : List Str) : FSpec := fun as P _ => ∃ T rows z s, as = [.sh (spansD T rows), .sh (.str z)] ∧ nameB z = true ∧ getS rows z = some s ∧ P (.val (spanD s)) []
/-- the spans that begin in slots -/
def normR (T : Int) (rows : Rows) : Rows := rows.map fun e => (e.1, (e.2.1 % T, e.2.1 % T + (e.2.2 - e.2.1)))
def sp_Spans_normal : FSpec := fun as P _ => ∃ T rows, as = [.sh (spansD T rows)] ∧ SpOk T rows ∧ P (.new (.ins "Spans" [("own_interval", .int T), ("own_rows", rowsD (normR T rows))])) []
def eqSp (T : Int) (rows : Rows) : D → Bool
  | .ins "Spans" [(_, .int T'), (_, .dic kvs)] => decide (T = T') && eqK (kvS spanD rows) kvs
  | _ => false
def sp_Spans___eq__ : FSpec := fun as P _ => ∃ T rows d b, as = [.sh (spansD T rows), .sh d] ∧ SpOk T rows ∧ ((∃ T' rows', d = spansD T' rows' ∧ SpOk T' rows' ∧ b = decide (T = T' ∧ rows = rows')) ∨ (tyName d).isSome = true ∧ b = false) ∧ P (.val (.bl b)) []
def strSp (T : Int) (n : Nat) : Str := Str.empty ++ ("spans of " : Str) ++ toString (n : Int) ++ (" names in " : Str) ++ toString T ++ (" ticks" : Str)
def sp_Spans___str__ : FSpec := fun as P _ => ∃ T rows, as = [.sh (spansD T rows)] ∧ SpOk T rows ∧ P (.val (.str (strSp T rows.length))) []
end Pk

/-! PW1: the words of the defs of numbers and of spans (printed by gen2.py --words). -/
namespace Pk
open PySem L2 Z Q
def w_is_integer (cs : List Str) : WS := (wRet (wAnd (wB (gIsiO cs) (waCons (wVar 0) (waCons (wC (.ty "int")) waNil))) (wAnd (wNot (wB (gIsiO cs) (waCons (wVar 0) (waCons (wC (.ty "bool")) waNil)))) (wCh gLt gLt (wNeg (wC (.int (1000000000000)))) (wVar 0) (wC (.int (1000000000000)))))))
def w_is_within (cs : List Str) : WS := (wRet (wAnd (wCall (Pk.sp_is_integer cs) [false] (waCons (wVar 0) waNil)) (wCh gLe gLe (wVar 1) (wVar 0) (wVar 2))))
def w_require_integer (cs : List Str) : WS := (wIfS (twNot (tVal (wCall (Pk.sp_is_integer cs) [false] (waCons (wVar 0) waNil)))) wNever wNext)
def w_require_within (cs : List Str) : WS := (wIfS (twNot (tVal (wCall (Pk.sp_is_within cs) [false, false, false] (waCons (wVar 0) (waCons (wVar 1) (waCons (wVar 2) waNil)))))) wNever wNext)
def w_require_interval (cs : List Str) : WS := (wDrop (wCall (Pk.sp_require_within cs) [false, false, false] (waCons (wVar 0) (waCons (wC (.int 1)) (waCons (wC (.int (32))) waNil)))))
def w_is_name (cs : List Str) : WS := (wSeq (wIfS (twOr (twNot (tVal (wB (gIsiO cs) (waCons (wVar 0) (waCons (wC (.ty "str")) waNil))))) (twNot (twCh gLe gLe (wC (.int 1)) (wB gLen (waCons (wVar 0) waNil)) (wC (.int (8)))))) (wRet (wC (.bl false))) wNext)
  (wRet (wB gAll (waCons (wLc (wiSeq (wVar 0)) (gN 1) twYes (w2 gIn (wVar 1) (wC (.str "abcdefghijklmnopqrstuvwxyz"))) [1]) waNil))))
def w_is_span (cs : List Str) : WS := (wSeq (wIfS (twOr (twNot (tVal (wB (gIsiO cs) (waCons (wVar 0) (waCons (wC (.ty "tuple")) waNil))))) (twOr (tw2 (gEqZ true) (wB gLen (waCons (wVar 0) waNil)) (wC (.int 2))) (twOr (twNot (tVal (wCall (Pk.sp_is_integer cs) [false] (waCons (w2 gIx (wVar 0) (wC (.int 0))) waNil)))) (twNot (tVal (wCall (Pk.sp_is_integer cs) [false] (waCons (w2 gIx (wVar 0) (wC (.int 1))) waNil))))))) (wRet (wC (.bl false))) wNext)
  (wRet (wCh gLe gLe (wC (.int 1)) (w2 gSub (w2 gIx (wVar 0) (wC (.int 1))) (w2 gIx (wVar 0) (wC (.int 0)))) (w2 gMulA (wC (.int (8))) (wVar 1)))))
def w_are_rows (cs : List Str) : WS := (wSeq (wIfS (twOr (twNot (tVal (wB (gIsiO cs) (waCons (wVar 0) (waCons (wC (.ty "dict")) waNil))))) (twNot (twCh gLe gLe (wC (.int 1)) (wB gLen (waCons (wVar 0) waNil)) (wC (.int (8)))))) (wRet (wC (.bl false))) wNext)
  (wRet (wB gAll (waCons (wLcD mkK (pVar 0) (gN 2) twYes (wAnd (wCall (Pk.sp_is_name cs) [false] (waCons (wVar 2) waNil)) (wCall (Pk.sp_is_span cs) [false, false] (waCons (wDGet (wVar 0) (wVar 2)) (waCons (wVar 1) waNil)))) [2]) waNil))))
def w_Spans___init__ (cs : List Str) : WS := (wCut (wDrop (wCall (Pk.sp_require_interval cs) [false] (waCons (wVar 1) waNil)))
  (wCut (wIfS (twNot (tVal (wBorrow 2 (wCall Pk.sp_are_rows [false, false] (waCons (wVar 2) (waCons (wVar 1) waNil)))))) wNever wNext)
  (wCut (wSetF "Spans" 0 "own_interval" (wVar 1))
  (wSetF "Spans" 0 "own_rows" (wDc (wiSeq (wB gSorted (waCons (wB gListS (waCons (wVar 2) waNil)) waNil))) (gN 3) twYes (wVar 3) (wDGet (wVar 2) (wVar 3)) [3])))))
def w_Spans_names : WS := (wRet (wB gTuple (waCons (wB gListS (waCons (wFld "Spans" "own_rows" (wVar 0)) waNil)) waNil)))
def w_Spans_rows : WS := (wRet (wB gDictC (waCons (wFld "Spans" "own_rows" (wVar 0)) waNil)))
def w_Spans_total : WS := (wRet (wB gSum (waCons (wLc (wiSeq (wVals (wFld "Spans" "own_rows" (wVar 0)))) (gT (gsCons (gN 1) (gsCons (gN 2) gsNil))) twYes (w2 gSub (wVar 2) (wVar 1)) [1, 2]) waNil)))
def w_Spans___len__ : WS := (wRet (wB gLen (waCons (wFld "Spans" "own_rows" (wVar 0)) waNil)))
def w_Spans___contains__ (cs : List Str) : WS := (wRet (wAnd (wCall (Pk.sp_is_name cs) [false] (waCons (wVar 1) waNil)) (wDIn false (wVar 1) (wFld "Spans" "own_rows" (wVar 0)))))
def w_Spans___getitem__ (cs : List Str) : WS := (wSeq (wIfS (twX (wOwnIn "Spans" (Pk.sp_Spans___contains__ cs) true (wVar 1) (wVar 0))) wNever wNext)
  (wRet (wDGet (wFld "Spans" "own_rows" (wVar 0)) (wVar 1))))
def w_slot_in : WS := (wRet (w2 gMod (wVar 0) (wVar 1)))
def w_times_in : WS := (wRet (w2 gSub (w2 gDiv (w2 gSub (w2 gAdd (w2 gSub (wVar 1) (wVar 2)) (wVar 3)) (wC (.int 1))) (wVar 3)) (w2 gDiv (w2 gSub (w2 gAdd (w2 gSub (wVar 0) (wVar 2)) (wVar 3)) (wC (.int 1))) (wVar 3))))
def w_Spans_normal : WS := (wCut (wAsg 1 (wDcD mkI (pFld 0 "Spans" "own_rows") (gT (gsCons (gN 3) (gsCons (gT (gsCons (gN 4) (gsCons (gN 5) gsNil))) gsNil))) twYes (wVar 3) (w2 gSub (wCall Pk.sp_slot_in [false, false] (waCons (wVar 4) (waCons (wFld "Spans" "own_interval" (wVar 0)) waNil))) (wVar 4)) [3, 4, 5]))
  (wCut (wAsg 2 (wDcD mkI (pFld 0 "Spans" "own_rows") (gT (gsCons (gN 3) (gsCons (gT (gsCons (gN 4) (gsCons (gN 5) gsNil))) gsNil))) twYes (wVar 3) (wTup (waCons (w2 gAdd (wVar 4) (wDGet (wVar 1) (wVar 3))) (waCons (w2 gAdd (wVar 5) (wDGet (wVar 1) (wVar 3))) waNil))) [3, 4, 5]))
  (wRet (wMake "Spans" Pk.sp_Spans___init__ [false, true] (waCons (wFld "Spans" "own_interval" (wVar 0)) (waCons (wVar 2) waNil))))))
def w_Spans___eq__ : WS := (wSeq (wIfS (twNot (tVal (wIsiC "Spans" (wVar 1)))) (wRet (wC (.bl false))) wNext)
  (wRet (wAnd (w2 (gEqZ false) (wFld "Spans" "own_interval" (wVar 0)) (wFld "Spans" "own_interval" (wVar 1))) (w2 (gEqZ false) (wFld "Spans" "own_rows" (wVar 0)) (wFld "Spans" "own_rows" (wVar 1))))))
def w_Spans___str__ : WS := (wRet (wJs [(wC (.str "spans of ")), (wFmt (wB gLen (waCons (wFld "Spans" "own_rows" (wVar 0)) waNil))), (wC (.str " names in ")), (wFmt (wFld "Spans" "own_interval" (wVar 0))), (wC (.str " ticks"))]))
def w_Spans_interval : WS := (wRet (wFld "Spans" "own_interval" (wVar 0)))
end Pk

/-! PP1: the defs of numbers and of spans do what they promise. -/
namespace Pk
open PySem L2 Z Q
variable {cs : List Str}
theorem p_is_integer {as Q QE} (h : sp_is_integer cs as Q QE) : w_is_integer cs (rho0 1 as) (bodyFl as Q QE) := by
  obtain ⟨d, rfl, ht, k⟩ := h
  cases d with
  | int i =>
    refine ite2d (fun h1 => ?_) (fun h1 => ?_)
    · have e : isIn (.int i) = decide (i < 1000000000000) := by show (decide _ && decide _) = _; rw [decide_eq_true h1, Bool.true_and]
      rw [e] at k
      exact k
    · have e : isIn (.int i) = false := by show (decide _ && decide _) = _; rw [decide_eq_false h1, Bool.false_and]
      rw [e] at k
      exact k
  | ins c fs => exact ⟨ht, by decide, k⟩
  | ty _ => exact ht.elim
  | _ => exact k
theorem p_is_within {as Q QE} (h : sp_is_within cs as Q QE) : w_is_within cs (rho0 3 as) (bodyFl as Q QE) := by
  obtain ⟨d, a, b, rfl, ht, k⟩ := h
  refine ⟨d, rfl, ht, ?_⟩
  have k0 : ∀ {x : D}, isIn x = false → isWi x a b = false := fun {x} h => by
    cases x <;> first | rfl | (show (inL _ && _ && _) = false; rw [show inL _ = false from h]; rfl)
  cases e : isIn d with
  | false => rw [k0 e] at k; exact k
  | true =>
    cases d with
    | int i =>
      have e' : inL i = true := e
      refine ite2d (fun h1 => ?_) (fun h1 => ?_)
      · have q : isWi (.int i) a b = decide (i ≤ b) := by show (inL i && decide (a ≤ i) && decide (i ≤ b)) = _; rw [e', decide_eq_true h1]; rfl
        rw [q] at k; exact k
      · have q : isWi (.int i) a b = false := by show (inL i && decide (a ≤ i) && decide (i ≤ b)) = _; rw [decide_eq_false h1, Bool.and_false]; rfl
        rw [q] at k; exact k
    | _ => cases e
theorem p_require_integer {as Q QE} (h : sp_require_integer cs as Q QE) : w_require_integer cs (rho0 1 as) (bodyFl as Q QE) := by
  obtain ⟨d, rfl, h1, h2, k⟩ := h
  refine ⟨d, rfl, h1, ?_⟩
  rw [h2]
  exact k
theorem p_require_within {as Q QE} (h : sp_require_within cs as Q QE) : w_require_within cs (rho0 3 as) (bodyFl as Q QE) := by
  obtain ⟨d, a, b, rfl, h1, h2, k⟩ := h
  refine ⟨_, _, _, rfl, h1, ?_⟩
  rw [h2]
  exact k
theorem p_require_interval {as Q QE} (h : sp_require_interval cs as Q QE) : w_require_interval cs (rho0 1 as) (bodyFl as Q QE) := by
  obtain ⟨d, rfl, h1, h2, k⟩ := h
  exact ⟨_, _, _, rfl, h1, h2, k⟩
theorem p_slot_in {as Q QE} (h : sp_slot_in as Q QE) : w_slot_in (rho0 2 as) (bodyFl as Q QE) := by
  obtain ⟨t, n, rfl, h1, k⟩ := h
  exact ⟨h1, k⟩
theorem p_times_in {as Q QE} (h : sp_times_in as Q QE) : w_times_in (rho0 4 as) (bodyFl as Q QE) := by
  obtain ⟨b, e, t, n, rfl, h1, k⟩ := h
  have c : 0 < n ∧ n.natAbs.log2 < 9000 := by
    refine ⟨by omega, ?_⟩
    obtain ⟨m, rfl⟩ := Int.eq_ofNat_of_zero_le (show 0 ≤ n by omega)
    exact log2_small (by omega)
  exact ⟨c, c, k⟩
theorem p_is_name {as Q QE} (h : sp_is_name cs as Q QE) : w_is_name cs (rho0 2 as) (bodyFl as Q QE) := by
  obtain ⟨d, rfl, ht, k⟩ := h
  cases d with
  | str z =>
    have k : Q (.val (.bl (nameB z))) [] := k
    have ht := okV_str ht
    have ln : ((z.length : Nat) : Int) = z.cps.toList.length := by rfl
    refine ⟨sz ht.1, ?_⟩
    have no : ∀ {b : Bool}, b = false → (b && z.cps.toList.all low) = false := fun h => by rw [h]; rfl
    refine ite2d (fun h1 => ?_) (fun h1 => ?_)
    · refine ite2n (fun h2 => ?_) (fun h2 => ?_)
      · have e : nameB z = false := no (by rw [decide_eq_false (show ¬ z.length ≤ 8 by omega), Bool.and_false])
        rw [e] at k; exact k
      · have ll : (strD z).length = z.length := by unfold strD; rw [List.length_map]; rfl
        refine ⟨by rw [ll]; exact sz ht.1, trivial, ?_⟩
        unfold strD
        refine lc_each (ψ := fun c => D.bl (decide (c ∈ ("abcdefghijklmnopqrstuvwxyz" : Str).cps.toList))) _ _ (fun c acc ds' hc h => ?_) ?_
        · refine .inr ⟨c, _, rfl, rfl, ?_⟩
          exact ⟨trivial, h⟩
        rw [List.nil_append]
        intro p
        refine ⟨_, z.cps.toList.map low, rfl, ?_, ?_⟩
        · rw [show (z.cps.toList.map fun c => D.bl (decide (c ∈ ("abcdefghijklmnopqrstuvwxyz" : Str).cps.toList))) = (z.cps.toList.map low).map D.bl from by rw [List.map_map]; exact List.map_congr_left fun c _ => by rw [letters_low]; rfl]
          exact blsD_map _
        · have e : nameB z = (z.cps.toList.map low).all id := by
            unfold nameB
            rw [decide_eq_true (show 1 ≤ z.length by omega), decide_eq_true (show z.length ≤ 8 by omega), List.all_map]; rfl
          rw [e] at k; exact k
    · have e : nameB z = false := no (by rw [decide_eq_false (show ¬ 1 ≤ z.length by omega)]; rfl)
      rw [e] at k; exact k
  | ins c fs => exact ⟨ht, by decide, k⟩
  | ty _ => exact ht.elim
  | _ => exact k
end Pk

/-! PP2: spans. -/
namespace Pk
open PySem L2 Z Q
variable {cs : List Str}
theorem isSpan_len {xs : List D} {T : Int} (h : xs.length ≠ 2) : isSpan (.tup xs) T = false := by
  unfold isSpan
  split
  · rename_i b e q
    cases q
    exact absurd rfl h
  · rfl
theorem p_is_span {as Q QE} (h : sp_is_span cs as Q QE) : w_is_span cs (rho0 2 as) (bodyFl as Q QE) := by
  obtain ⟨d, T, rfl, ht, he, t1, t2, k⟩ := h
  have two : ∀ x y : D, okV cs x → okV cs y → d = .tup [x, y] → w_is_span cs (rho0 2 [.sh d, .sh (.int T)]) (bodyFl [.sh d, .sh (.int T)] Q QE) := fun x y hx hy e => by
    subst e
    refine ⟨x, rfl, hx, ?_⟩
    cases ex : isIn x with
    | false =>
      have e : isSpan (.tup [x, y]) T = false := by
        cases x <;> cases y <;> first | rfl | (show (inL _ && _ && _ && _) = false; rw [show inL _ = false from ex]; rfl)
      rw [e] at k; exact k
    | true =>
      refine ⟨y, rfl, hy, ?_⟩
      cases ey : isIn y with
      | false =>
        have e : isSpan (.tup [x, y]) T = false := by
          cases x <;> cases y <;> first | rfl | (show (inL _ && inL _ && _ && _) = false; rw [show inL _ = false from ey, Bool.and_false]; rfl)
        rw [e] at k; exact k
      | true =>
        cases x with
        | int b =>
          cases y with
          | int e =>
            have ib : inL b = true := ex
            have ie : inL e = true := ey
            have q : isSpan (.tup [.int b, .int e]) T = (decide (1 ≤ e - b) && decide (e - b ≤ 8 * T)) := by
              show (inL b && inL e && decide (1 ≤ e - b) && decide (e - b ≤ 8 * T)) = _
              rw [ib, ie]; rfl
            rw [q] at k
            refine ite2d (fun h1 => ?_) (fun h1 => ?_)
            · refine ⟨mul64 (by decide), ?_⟩
              rw [decide_eq_true h1] at k; exact k
            · rw [decide_eq_false h1] at k; exact k
          | _ => cases ey
        | _ => cases ex
  cases d with
  | tup xs =>
    match xs, he, k, two with
    | [], _, k, _ => rw [isSpan_len (by simp)] at k; exact k
    | [x], _, k, _ => rw [isSpan_len (by simp)] at k; exact k
    | [x, y], he, k, two => exact two x y (he x (List.mem_cons_self ..)) (he y (List.mem_cons_of_mem _ (List.mem_cons_self ..))) rfl
    | x :: y :: z :: xs, _, k, _ => rw [isSpan_len (by simp)] at k; exact k
  | ins c fs => exact ⟨ht, by decide, k⟩
  | ty _ => exact ht.elim
  | _ => exact k
theorem p_are_rows {as Q QE} (h : sp_are_rows as Q QE) : w_are_rows cs (rho0 3 as) (bodyFl as Q QE) := by
  obtain ⟨rows, T, rfl, t1, t2, nd, hs, k⟩ := h
  have el : (((kvS spanD rows).length : Nat) : Int) = rows.length := by rw [kvS_len]
  refine ite2d (fun h1 => ?_) (fun h1 => ?_)
  · rw [el] at h1
    refine ite2n (fun h2 => ?_) (fun h2 => ?_)
    · rw [el] at h2
      rw [decide_eq_false (show ¬ rows.length ≤ 8 by omega), Bool.and_false] at k; exact k
    · rw [el] at h2
      refine ⟨by rw [kvS_len]; exact sz (by omega), ?_⟩
      rw [mkK_rows]
      refine lc_each (φ := fun e => D.str e.1) (ψ := fun e => D.bl (nameB e.1 && isSpan (spanD e.2) T)) rows _ (fun e acc ds' he h => ?_) ?_
      · refine ⟨_, rfl, hs e he, ?_⟩
        have hv : valD (kvS spanD rows) (.inr e.1) = some (spanD e.2) := by rw [valD_kvS, getS_of_mem nd (show (e.1, e.2) ∈ rows from he)]; rfl
        refine iteB2 (b := nameB e.1) (fun h1 => ?_) (fun h1 => ?_)
        · refine ⟨_, _, rfl, hv, ?_⟩
          refine ⟨_, _, rfl, trivial, fun x hx => ?_, t1, t2, ?_⟩
          · simp only [List.mem_cons, List.not_mem_nil, or_false] at hx
            rcases hx with rfl | rfl <;> exact trivial
          · rw [h1] at h; exact ⟨trivial, h⟩
        · rw [h1] at h; exact ⟨trivial, h⟩
      rw [List.nil_append]
      intro p
      refine ⟨_, _, rfl, blsD_all _ _, ?_⟩
      rw [decide_eq_true (show 1 ≤ rows.length by omega), decide_eq_true (show rows.length ≤ 8 by omega), Bool.true_and, Bool.true_and] at k
      rw [List.all_map]; exact k
  · rw [el] at h1
    rw [decide_eq_false (show ¬ 1 ≤ rows.length by omega)] at k; exact k
theorem RowsOk.s1000 {T : Int} {rows : Rows} (h : RowsOk T rows) : ∀ e ∈ rows, okS 1000 e.1 := fun e he => okS_le (name_ok (h.nm e he)) (by decide)
theorem RowsOk.perm {T : Int} {rows rows' : Rows} (h : RowsOk T rows) (p : rows'.Perm rows) : RowsOk T rows' :=
  ⟨by rw [p.length_eq]; exact h.l1, by rw [p.length_eq]; exact h.l8, (p.map (·.1)).nodup_iff.mpr h.nd, fun e he => h.nm e (p.mem_iff.mp he), fun e he => h.sp e (p.mem_iff.mp he)⟩
theorem RowsOk.all {T : Int} {rows : Rows} (h : RowsOk T rows) : (decide (1 ≤ rows.length) && decide (rows.length ≤ 8) && rows.all fun e => nameB e.1 && isSpan (spanD e.2) T) = true := by
  rw [decide_eq_true h.l1, decide_eq_true h.l8]
  refine List.all_eq_true.mpr fun e he => ?_
  rw [h.nm e he, isSpan_iff.mpr (h.sp e he)]; rfl
theorem isWi_int {i a b : Int} (h : -1000000 ≤ i ∧ i ≤ 1000000 ∧ a ≤ i ∧ i ≤ b) : isWi (.int i) a b = true := by
  show (inL i && decide (a ≤ i) && decide (i ≤ b)) = true
  rw [inL_iff.mpr ⟨by omega, by omega⟩, decide_eq_true h.2.2.1, decide_eq_true h.2.2.2]; rfl
theorem p_Spans___init__ {as Q QE} (h : sp_Spans___init__ as Q QE) : w_Spans___init__ cs (rho0 4 as) (bodyFl as Q QE) := by
  obtain ⟨p, T, rows, s, kcs, rfl, hL, t1, t2, ok, k⟩ := h
  rcases hL with ⟨rfl, rfl⟩ | ⟨q, rfl, rfl⟩
  · refine ⟨_, rfl, trivial, isWi_int ⟨by omega, by omega, t1, t2⟩, ?_⟩
    refine nm4 ?_
    refine ⟨_, _, rfl, t1, t2, ok.nd, ok.s1000, ?_⟩
    refine iteNt ok.all ?_
    refine nm4 ?_
    refine ⟨rfl, (by decide : 0 < 1000), ?_⟩
    refine nm4 ?_
    intro p1
    refine ⟨keys rows, .inl ⟨_, rfl, by rw [mkK_kvS]; exact strsD_map _⟩, by rw [List.length_map]; have := ok.l8; omega, fun ys yp ysd => ?_⟩
    have ey := sort_keys ok.nd yp ysd
    subst ey
    have sp := sortK_perm rows
    intro p2
    refine ⟨by rw [List.length_map, List.length_map, sp.length_eq]; exact sz (by have := ok.l8; omega), trivial, ?_⟩
    rw [show (keys (sortK rows)).map D.str = (sortK rows).map fun e => D.str e.1 from by rw [List.map_map]; rfl]
    refine dc_each (φ := fun e => D.str e.1) (κ := fun e => Sum.inr e.1) (ψ := fun e => spanD e.2) (sortK rows) _ (fun e acc ds' he h => ?_) ?_
    · have hv : valD (kvS spanD rows) (.inr e.1) = some (spanD e.2) := by rw [valD_kvS, getS_of_mem ok.nd (show (e.1, e.2) ∈ rows from sp.mem_iff.mp he)]; rfl
      exact ⟨_, rfl, _, _, rfl, hv, trivial, h⟩
    · have := foldl_put spanD (fun e : Str × (Int × Int) => e.1) (fun e => e.2) (sortK rows) [] (sortK_asc ok.nd).nodup
      rw [show ([] : List (Key × D)) = kvS spanD [] from rfl, this]
      rw [List.nil_append, show ((sortK rows).map fun i => (i.1, i.2)) = sortK rows from List.map_id _]
      intro p3
      refine ⟨rfl, (by decide : 1 < 1000), ?_⟩
      exact ⟨rfl, k⟩
  · refine ⟨_, rfl, trivial, isWi_int ⟨by omega, by omega, t1, t2⟩, ?_⟩
    refine nm4 ?_
    refine ⟨_, _, rfl, t1, t2, ok.nd, ok.s1000, _, rfl, rfl, ?_⟩
    refine iteNt ok.all ?_
    refine nm4 ?_
    refine ⟨rfl, (by decide : 0 < 1000), ?_⟩
    refine nm4 ?_
    intro p1
    refine ⟨keys rows, .inl ⟨_, rfl, by rw [mkK_kvS]; exact strsD_map _⟩, by rw [List.length_map]; have := ok.l8; omega, fun ys yp ysd => ?_⟩
    have ey := sort_keys ok.nd yp ysd
    subst ey
    have sp := sortK_perm rows
    intro p2
    refine ⟨by rw [List.length_map, List.length_map, sp.length_eq]; exact sz (by have := ok.l8; omega), trivial, ?_⟩
    rw [show (keys (sortK rows)).map D.str = (sortK rows).map fun e => D.str e.1 from by rw [List.map_map]; rfl]
    refine dc_each (φ := fun e => D.str e.1) (κ := fun e => Sum.inr e.1) (ψ := fun e => spanD e.2) (sortK rows) _ (fun e acc ds' he h => ?_) ?_
    · have hv : valD (kvS spanD rows) (.inr e.1) = some (spanD e.2) := by rw [valD_kvS, getS_of_mem ok.nd (show (e.1, e.2) ∈ rows from sp.mem_iff.mp he)]; rfl
      exact ⟨_, rfl, _, _, rfl, hv, trivial, h⟩
    · have := foldl_put spanD (fun e : Str × (Int × Int) => e.1) (fun e => e.2) (sortK rows) [] (sortK_asc ok.nd).nodup
      rw [show ([] : List (Key × D)) = kvS spanD [] from rfl, this]
      rw [List.nil_append, show ((sortK rows).map fun i => (i.1, i.2)) = sortK rows from List.map_id _]
      intro p3
      refine ⟨rfl, (by decide : 1 < 1000), ?_⟩
      exact ⟨rfl, rfl, k⟩
theorem p_Spans_interval {as Q QE} (h : sp_Spans_interval as Q QE) : w_Spans_interval (rho0 1 as) (bodyFl as Q QE) := by
  obtain ⟨T, rows, rfl, k⟩ := h
  exact ⟨rfl, k⟩
theorem p_Spans_names {as Q QE} (h : sp_Spans_names as Q QE) : w_Spans_names (rho0 1 as) (bodyFl as Q QE) := by
  obtain ⟨T, rows, rfl, k⟩ := h
  refine ⟨rfl, fun p => ?_⟩
  refine ⟨_, rfl, ?_⟩
  rw [mkK_kvS]; exact k
theorem p_Spans_rows {as Q QE} (h : sp_Spans_rows as Q QE) : w_Spans_rows (rho0 1 as) (bodyFl as Q QE) := by
  obtain ⟨T, rows, rfl, k⟩ := h
  refine ⟨rfl, fun p => ?_⟩
  exact k
theorem p_Spans_total {as Q QE} (h : sp_Spans_total as Q QE) : w_Spans_total (rho0 3 as) (bodyFl as Q QE) := by
  obtain ⟨T, rows, rfl, hl, k⟩ := h
  refine ⟨rfl, fun p => ?_⟩
  refine ⟨by rw [List.length_map, kvS_len]; exact sz hl, trivial, ?_⟩
  rw [mkV_kvS]
  refine lc_each (φ := fun e => spanD e.2) (ψ := fun e => D.int (e.2.2 - e.2.1)) rows _ (fun e acc ds' he h => ?_) ?_
  · exact ⟨trivial, h⟩
  rw [List.nil_append]
  intro p
  exact ⟨_, _, rfl, intsD_all _ _, k⟩
theorem p_Spans___len__ {as Q QE} (h : sp_Spans___len__ as Q QE) : w_Spans___len__ (rho0 1 as) (bodyFl as Q QE) := by
  obtain ⟨T, rows, rfl, k⟩ := h
  refine ⟨rfl, ?_⟩
  have e : (((kvS spanD rows).length : Nat) : Int) = rows.length := by rw [kvS_len]
  rw [← e] at k; exact k
theorem p_Spans___contains__ {as Q QE} (h : sp_Spans___contains__ cs as Q QE) : w_Spans___contains__ cs (rho0 2 as) (bodyFl as Q QE) := by
  obtain ⟨T, rows, d, rfl, hd, k⟩ := h
  refine ⟨_, rfl, hd, ?_⟩
  cases d with
  | str z =>
    refine iteB2 (b := nameB z) (fun h1 => ?_) (fun h1 => ?_)
    · refine ⟨rfl, _, rfl, ?_⟩
      have e : ((valD (kvS spanD rows) (.inr z)).isSome != false) = hasR rows (.str z) := by
        rw [valD_kvS, Option.isSome_map, getS_isSome]
        show _ = (nameB z && decide (z ∈ keys rows))
        rw [h1, Bool.true_and, Bool.bne_false]
      rw [← e] at k; exact k
    · have e : hasR rows (.str z) = false := by show (nameB z && _) = false; rw [h1]; rfl
      rw [e] at k; exact k
  | _ => exact k
theorem p_Spans___getitem__ {as Q QE} (h : sp_Spans___getitem__ cs as Q QE) : w_Spans___getitem__ cs (rho0 2 as) (bodyFl as Q QE) := by
  obtain ⟨T, rows, z, s, rfl, hz, hg, k⟩ := h
  refine ⟨⟨_, rfl⟩, _, _, _, rfl, okS_le (name_ok hz) (by decide), ?_⟩
  have e : hasR rows (.str z) = true := by
    show (nameB z && decide (z ∈ keys rows)) = true
    rw [hz, ← getS_isSome, hg]; rfl
  rw [e]
  refine ⟨_, rfl, ?_⟩
  have hv : valD (kvS spanD rows) (.inr z) = some (spanD s) := by rw [valD_kvS, hg]; rfl
  exact ⟨rfl, _, _, rfl, hv, k⟩
end Pk

/-! PP3: spans: normal, ==, str. -/
namespace Pk
open PySem L2 Z Q
variable {cs : List Str}
theorem keys_norm (T : Int) (rows : Rows) : keys (normR T rows) = keys rows := by
  unfold normR keys; rw [List.map_map]; rfl
theorem inL_small {i : Int} (h : -1000000 ≤ i ∧ i ≤ 1000000) : inL i = true := inL_iff.mpr ⟨by omega, by omega⟩
theorem norm_ok {T : Int} {rows : Rows} (t1 : 1 ≤ T) (t2 : T ≤ 32) (h : RowsOk T rows) : RowsOk T (normR T rows) := by
  have hl : (normR T rows).length = rows.length := by unfold normR; rw [List.length_map]
  refine ⟨by rw [hl]; exact h.l1, by rw [hl]; exact h.l8, by rw [keys_norm]; exact h.nd, fun e he => ?_, fun e he => ?_⟩
  · obtain ⟨x, hx, rfl⟩ := List.mem_map.mp he; exact h.nm x hx
  · obtain ⟨x, hx, rfl⟩ := List.mem_map.mp he
    obtain ⟨_, _, s3, s4⟩ := h.sp x hx
    have e1 := Int.emod_nonneg x.2.1 (show T ≠ 0 by omega)
    have e2 := Int.emod_lt_of_pos x.2.1 (show 0 < T by omega)
    exact ⟨inL_small (by show _ ≤ x.2.1 % T ∧ x.2.1 % T ≤ _; omega), inL_small (by show _ ≤ x.2.1 % T + (x.2.2 - x.2.1) ∧ x.2.1 % T + (x.2.2 - x.2.1) ≤ _; omega), by show 1 ≤ x.2.1 % T + (x.2.2 - x.2.1) - x.2.1 % T; omega, by show x.2.1 % T + (x.2.2 - x.2.1) - x.2.1 % T ≤ _; omega⟩
theorem p_Spans_normal {as Q QE} (h : sp_Spans_normal as Q QE) : w_Spans_normal (rho0 6 as) (bodyFl as Q QE) := by
  obtain ⟨T, rows, rfl, ok, k⟩ := h
  have t0 : 0 < T := by have := ok.t1; omega
  have hl : rows.length ≤ 1000 := Nat.le_trans ok.ok.l8 (by decide)
  refine ⟨by rw [kvS_len]; exact sz hl, ?_⟩
  rw [mkI_kvS]
  refine dc_each (φ := fun e => D.tup [.str e.1, spanD e.2]) (κ := fun e => Sum.inr e.1) (ψ := fun e => D.int (e.2.1 % T - e.2.1)) rows _ (fun e acc ds' he h => ?_) ?_
  · exact ⟨_, rfl, rfl, _, _, rfl, t0, trivial, h⟩
  have f1 := foldl_put D.int (fun e : Str × (Int × Int) => e.1) (fun e => e.2.1 % T - e.2.1) rows [] ok.ok.nd
  rw [show ([] : List (Key × D)) = kvS D.int [] from rfl, f1, List.nil_append]
  intro p1
  refine nm6 ?_
  refine ⟨by rw [kvS_len]; exact sz hl, ?_⟩
  rw [mkI_kvS]
  refine dc_each (φ := fun e => D.tup [.str e.1, spanD e.2]) (κ := fun e => Sum.inr e.1) (ψ := fun e => spanD (e.2.1 + (e.2.1 % T - e.2.1), e.2.2 + (e.2.1 % T - e.2.1))) rows _ (fun e acc ds' he h => ?_) ?_
  · have hv : valD (kvS D.int (rows.map fun i => (i.1, i.2.1 % T - i.2.1))) (.inr e.1) = some (.int (e.2.1 % T - e.2.1)) := by
      rw [valD_kvS, getS_of_mem (a := e.2.1 % T - e.2.1) (by
        show (List.map _ (List.map _ rows)).Nodup
        rw [List.map_map]; exact ok.ok.nd) (List.mem_map_of_mem (f := fun i : Str × (Int × Int) => (i.1, i.2.1 % T - i.2.1)) he)]; rfl
    exact ⟨_, rfl, _, _, rfl, hv, _, _, rfl, hv, (by decide : 2 ≤ sizeLine), trivial, h⟩
  have f2 := foldl_put spanD (fun e : Str × (Int × Int) => e.1) (fun e => (e.2.1 + (e.2.1 % T - e.2.1), e.2.2 + (e.2.1 % T - e.2.1))) rows [] ok.ok.nd
  rw [show ([] : List (Key × D)) = kvS spanD [] from rfl, f2, List.nil_append]
  have e3 : (rows.map fun i => (i.1, (i.2.1 + (i.2.1 % T - i.2.1), i.2.2 + (i.2.1 % T - i.2.1)))) = normR T rows := by
    unfold normR
    refine List.map_congr_left fun e _ => ?_
    rw [show e.2.1 + (e.2.1 % T - e.2.1) = e.2.1 % T by omega, show e.2.2 + (e.2.1 % T - e.2.1) = e.2.1 % T + (e.2.2 - e.2.1) by omega]
  rw [e3]
  intro p2
  refine nm6 ?_
  refine ⟨rfl, fun p => ?_⟩
  refine ⟨_, _, _, _, _, rfl, .inr ⟨_, rfl, rfl⟩, ok.t1, ok.t2, norm_ok ok.t1 ok.t2 ok.ok, rfl, _, _, rfl, ?_⟩
  have : sortK (normR T rows) = normR T rows := sortK_id (by rw [keys_norm]; exact ok.asc)
  rw [this]; exact k
theorem span_eqD (a b : Int × Int) : eqD (spanD a) (spanD b) = true ↔ a = b := by
  rw [pl_eqD (n := 1) (m := 1) rfl rfl]
  constructor
  · intro h; cases a; cases b; cases h; rfl
  · intro h; rw [h]
theorem span_okEq (a : Int × Int) : okEq (spanD a) = true := pl_okEq (n := 1) rfl (by decide)
theorem p_Spans___eq__ {as Q QE} (h : sp_Spans___eq__ as Q QE) : w_Spans___eq__ (rho0 2 as) (bodyFl as Q QE) := by
  obtain ⟨T, rows, d, b, rfl, ok, h, k⟩ := h
  rcases h with ⟨T', rows', rfl, ok', rfl⟩ | ⟨ht, rfl⟩
  · refine ⟨.inl ⟨_, rfl⟩, rfl, rfl, ?_⟩
    refine ite2d (p := T = T') (fun h1 => ?_) (fun h1 => ?_)
    · refine ⟨rfl, rfl, okEqK_kvS span_okEq _, okEqK_kvS span_okEq _, ?_⟩
      rw [eqK_asc span_eqD ok.asc ok'.asc, Bool.bne_false]
      have : decide (T = T' ∧ rows = rows') = decide (rows = rows') := by simp [h1]
      rw [this] at k; exact k
    · have : decide (T = T' ∧ rows = rows') = false := by simp [h1]
      rw [this] at k; exact k
  · cases hd : tyName d with
    | none => rw [hd] at ht; cases ht
    | some t =>
      refine ⟨.inr ⟨_, hd⟩, ?_⟩
      cases d <;> first | exact k | cases hd
theorem str_small : ∀ i < 33, (Str.ofString (toString ((i : Nat) : Int))).length ≤ 2 := by decide +kernel
theorem str32 {i : Int} (h : 0 ≤ i ∧ i ≤ 32) : (Str.ofString (toString i)).length ≤ 2 := by
  obtain ⟨n, rfl⟩ := Int.eq_ofNat_of_zero_le h.1
  exact str_small n (by omega)
theorem log_small {i : Int} (h : 0 ≤ i ∧ i ≤ 1000) : i.natAbs.log2 < 1920 := by
  obtain ⟨n, rfl⟩ := Int.eq_ofNat_of_zero_le h.1
  show n.log2 < 1920
  exact Nat.lt_of_le_of_lt (Nat.log2_le_self _) (by omega)
theorem p_Spans___str__ {as Q QE} (h : sp_Spans___str__ as Q QE) : w_Spans___str__ (rho0 1 as) (bodyFl as Q QE) := by
  obtain ⟨T, rows, rfl, ok, k⟩ := h
  have el : (((kvS spanD rows).length : Nat) : Int) = rows.length := by rw [kvS_len]
  have l8 := ok.ok.l8
  have n1 : (Str.ofString (toString (rows.length : Int))).length ≤ 2 := str32 ⟨by omega, by omega⟩
  have n2 : (Str.ofString (toString T)).length ≤ 2 := str32 ⟨by have := ok.t1; omega, ok.t2⟩
  have c1 : (Str.empty ++ ("spans of " : Str)).length = 9 := by decide +kernel
  have c2 : (" names in " : Str).length = 10 := by decide +kernel
  have c3 : (" ticks" : Str).length = 6 := by decide +kernel
  have n1' : (Str.ofString (toString (((kvS spanD rows).length : Nat) : Int))).length ≤ 2 := by rw [el]; exact n1
  have k : Q (.val (.str (Str.empty ++ ("spans of " : Str) ++ (Str.ofString (toString (((kvS spanD rows).length : Nat) : Int))) ++ (" names in " : Str) ++ (Str.ofString (toString T)) ++ (" ticks" : Str)))) [] := by rw [el]; exact k
  refine ⟨by rw [c1]; decide, rfl, ?_⟩
  refine ⟨by rw [el]; exact log_small ⟨by omega, by omega⟩, sz ?_, ?_⟩
  · rw [len_app, c1]; omega
  refine ⟨sz ?_, ?_⟩
  · rw [len_app, len_app, c1, c2]; omega
  refine ⟨rfl, log_small ⟨by have := ok.t1; omega, by have := ok.t2; omega⟩, sz ?_, ?_⟩
  · rw [len_app, len_app, len_app, c1, c2]; omega
  refine ⟨sz ?_, k⟩
  rw [len_app, len_app, len_app, len_app, c1, c2, c3]; omega
end Pk

/-! FT1: the tray family: what its drawing defs promise. -/
namespace Ft
open PySem L2 Z Q Pk
/-- a span that is drawn -/
def drawn (T : Int) (s : Int × Int) : Prop := (-1000000 ≤ s.1 ∧ s.1 ≤ 1000000) ∧ 1 ≤ s.2 - s.1 ∧ s.2 - s.1 ≤ 8 * T
def sp_names : FSpec := fun as P _ => ∃ p rl, ∃ m : Nat, as = [.own p rl, .sh (.int m)] ∧ Reel rl ∧ 1 ≤ m ∧ m ≤ 8 ∧ ∀ (zs : List Str) rl', Reel rl' → zs.length = m → zs.Nodup → (∀ z ∈ zs, nameB z = true) → P (.new (.lst (zs.map .str))) [rl']
def sp_rings : FSpec := fun as P _ => ∃ p rl T, ∃ zs : List Str, as = [.own p rl, .sh (.int T), .sh (.lst (zs.map .str))] ∧ Reel rl ∧ 1 ≤ T ∧ T ≤ 32 ∧ zs.length ≤ 8 ∧ zs.Nodup ∧ (∀ z ∈ zs, nameB z = true) ∧ ∀ (rows : Rows) rl', Reel rl' → (keys rows).Perm zs → (∀ e ∈ rows, drawn T e.2) → P (.new (.dic (kvS spanD rows))) [rl']
def sp_rows : FSpec := sp_rings
def sp_sorted : FSpec := fun as P _ => ∃ rows, as = [.sh (rowsD rows)] ∧ (keys rows).Nodup ∧ rows.length < 64 ∧ P (.new (.dic (kvS spanD (sortK rows)))) []
end Ft

/-! FT2: the words of the tray family's drawing defs (printed by gen2.py --words). -/
namespace Ft
open PySem L2 Z Q Pk
def w_law_roll : WS := (wCut (wIfS (tw2 gGt (w2 gIx (wVar 0) (wC (.int 0))) (wC (.int 0))) (wCut (wAsg 2 (w2 gMod (wB gInt (waCons (w2 gIx (wVar 0) (wC (.int 0))) waNil)) (wVar 1)))
  (wCut (wSetL 0 (wC (.int 0)) (w2 gDiv (w2 gIx (wVar 0) (wC (.int 0))) (wVar 1)))
  (wRet (wVar 2)))) wNext)
  (wCut (wSetL 0 (wC (.int 2)) (w2 gAdd (w2 gIx (wVar 0) (wC (.int 2))) (wC (.int 1))))
  (wCut (wAsg 3 (w2 gMod (wB gInt (waCons (w2 gAdd (w2 gIx (wVar 0) (wC (.int 1))) (w2 gMulA (wC (.int 922337203)) (w2 gIx (wVar 0) (wC (.int 2))))) waNil)) (wC (.int 2305843009213693951))))
  (wCut (wAsg 4 (w2 gAdd (w2 gMulA (w2 gMod (wB gInt (waCons (w2 gMulA (wVar 3) (wVar 3)) waNil)) (wC (.int 1152921504606846697))) (wVar 3)) (w2 gMulA (wC (.int 6047)) (w2 gIx (wVar 0) (wC (.int 2))))))
  (wRet (w2 gMod (wB gInt (waCons (w2 gDiv (w2 gMod (wB gInt (waCons (w2 gAdd (wVar 4) (w2 gIx (wVar 0) (wC (.int 1)))) waNil)) (wC (.int 4398046511093))) (wC (.int 128))) waNil)) (wVar 1)))))))
def w_law_tray : WS := (wCut (wAsg 2 (wIf (tw2 gLt (wVar 1) (wB gLen (waCons (wVar 0) waNil))) (w2 gIx (wVar 0) (wVar 1)) (w2 gAdd (w2 gMulA (wC (.int 59)) (wVar 1)) (wC (.int 23)))))
  (wCut (wAsg 3 (w2 gMod (wB gInt (waCons (wB gAbs (waCons (wVar 2) waNil)) waNil)) (w2 gPow (w2 gPow (wC (.int 10)) (wC (.int 61))) (wC (.int 9)))))
  (wCut (wAsg 4 (w2 gAdd (w2 gAdd (w2 gAdd (w2 gMulA (wVar 3) (wC (.int 1000033))) (w2 gMulA (wC (.int 6151)) (wVar 1))) (w2 gMulA (wC (.int 29)) (wB gInt (waCons (w2 gLt (wVar 2) (wC (.int 0))) waNil)))) (wC (.int 13))))
  (wRet (wLst (waCons (wB gMax (waCons (wC (.int 0)) (waCons (w2 gSub (wVar 3) (w2 gPow (wC (.int 10)) (wC (.int 18)))) waNil))) (waCons (w2 gMod (wB gInt (waCons (wVar 4) waNil)) (wC (.int 2305843009213693907))) (waCons (wC (.int 0)) waNil))))))))
def w_law_few : WS := (wSeq (wPar 3 4 (waCons (wB gListS (waCons (wVar 1) waNil)) (waCons (wLst waNil) waNil)))
  (wSeq (wFor (wiR1 (waCons (wB gMin (waCons (wVar 2) (waCons (wB gLen (waCons (wVar 3) waNil)) waNil))) waNil)) (gN 5) (wDrop (wMu 4 gApp (waCons (wMu 3 gPopAt (waCons (wCall sp_spin [true, false] (waCons (wVar 0) (waCons (wB gLen (waCons (wVar 3) waNil)) waNil))) waNil)) waNil))))
  (wRet (wVar 4))))
def w_law_names : WS := (wCut (wAsg 2 (wB gListS (waCons (wC (.str "abcdefghijklmnopqrstuvwxyz")) waNil)))
  (wCut (wIfS (tw2 (gEqZ false) (wCall sp_spin [true, false] (waCons (wVar 0) (waCons (wC (.int 4)) waNil))) (wC (.int 0))) (wCut (wAsg 3 (wJoin (wC (.str "")) (wLc (wiR1 (waCons (wC (.int 8)) waNil)) (gN 6) twYes (wCall sp_pick [true, false] (waCons (wVar 0) (waCons (wVar 2) waNil))) [6])))
  (wRet (wLc (wiSeq (wCall sp_few2 [true, false, false] (waCons (wVar 0) (waCons (wLst (waCons (wC (.int 1)) (waCons (wC (.int 2)) (waCons (wC (.int 3)) (waCons (wC (.int 4)) (waCons (wC (.int 5)) (waCons (wC (.int 6)) (waCons (wC (.int 7)) (waCons (wC (.int 8)) waNil))))))))) (waCons (wVar 1) waNil))))) (gN 7) twYes (wSl gSlA (wVar 3) woN (woS (wVar 7))) [7]))) wNext)
  (wCut (wPar 3 4 (waCons (wJoin (wC (.str "")) (wCall sp_few2 [true, false, false] (waCons (wVar 0) (waCons (wVar 2) (waCons (wCall sp_spin [true, false] (waCons (wVar 0) (waCons (wC (.int 4)) waNil))) waNil))))) (waCons (wLst waNil) waNil)))
  (wCut (wFor (wiSeq (wCall sp_few2 [true, false, false] (waCons (wVar 0) (waCons (wVar 2) (waCons (wVar 1) waNil))))) (gN 5) (wDrop (wMu 4 gApp (waCons (w2 gAdd (w2 gAdd (wVar 3) (wVar 5)) (wJoin (wC (.str "")) (wCall sp_few2 [true, false, false] (waCons (wVar 0) (waCons (wVar 2) (waCons (wCall sp_pick [true, false] (waCons (wVar 0) (waCons (wLst (waCons (wC (.int 0)) (waCons (wC (.int 0)) (waCons (wC (.int 1)) (waCons (wC (.int 2)) (waCons (wC (.int 4)) waNil)))))) waNil))) waNil)))))) waNil))))
  (wRet (wVar 4))))))
def w_law_rings : WS := (wCut (wPar 3 4 (waCons wDic0 (waCons (wB gListS (waCons (wVar 2) waNil)) waNil)))
  (wCut (wWhile (tw2 (gEqZ true) (wVar 4) (wLst waNil)) (wCut (wAsg 5 (wCall sp_few2 [true, false, false] (waCons (wVar 0) (waCons (wVar 4) (waCons (w2 gAdd (wC (.int 1)) (wCall sp_spin [true, false] (waCons (wVar 0) (waCons (wC (.int 3)) waNil)))) waNil)))))
  (wCut (wAsg 4 (wLc (wiSeq (wVar 4)) (gN 8) (tw2 gNin (wVar 8) (wVar 5)) (wVar 8) [8]))
  (wCut (wAsg 6 (wCall sp_spin [true, false] (waCons (wVar 0) (waCons (w2 gMulA (wC (.int 2)) (wVar 1)) waNil))))
  (wCut (wAsg 7 (wVar 6))
  (wCut (wFor (wiSeq (wSl gSlA (wVar 5) woN (woS (wNeg (wC (.int 1)))))) (gN 8) (wCut (wSetD 3 (wVar 8) (wTup (waCons (wVar 7) (waCons (w2 gAdd (w2 gAdd (wVar 7) (wC (.int 1))) (wCall sp_spin [true, false] (waCons (wVar 0) (waCons (wVar 1) waNil)))) waNil))))
  (wAsg 7 (w2 gIx (wDGet (wVar 3) (wVar 8)) (wC (.int 1))))))
  (wCut (wAsg 9 (w2 gAdd (w2 gAdd (wC (.int 1)) (w2 gMod (wB gInt (waCons (w2 gSub (w2 gSub (wVar 6) (wVar 7)) (wC (.int 1))) waNil)) (wVar 1))) (w2 gMulA (wVar 1) (wCall sp_pick [true, false] (waCons (wVar 0) (waCons (wLst (waCons (wC (.int 0)) (waCons (wC (.int 0)) (waCons (wC (.int 0)) (waCons (wC (.int 1)) waNil))))) waNil))))))
  (wSetD 3 (w2 gIx (wVar 5) (wNeg (wC (.int 1)))) (wTup (waCons (wVar 7) (waCons (w2 gAdd (wVar 7) (wVar 9)) waNil)))))))))))
  (wRet (wVar 3))))
def w_law_rows : WS := (wCut (wIfS (tw2 (gEqZ false) (wCall sp_spin [true, false] (waCons (wVar 0) (waCons (wC (.int 3)) waNil))) (wC (.int 0))) (wRet (wCall Ft.sp_rings [true, false, false] (waCons (wVar 0) (waCons (wVar 1) (waCons (wVar 2) waNil))))) wNext)
  (wCut (wAsg 3 wDic0)
  (wCut (wFor (wiSeq (wVar 2)) (gN 4) (wCut (wAsg 5 (w2 gSub (wCall sp_spin [true, false] (waCons (wVar 0) (waCons (w2 gMulA (wC (.int 3)) (wVar 1)) waNil))) (wVar 1)))
  (wCut (wAsg 6 (w2 gAdd (wC (.int 1)) (wCall sp_spin [true, false] (waCons (wVar 0) (waCons (wCall sp_pick [true, false] (waCons (wVar 0) (waCons (wLst (waCons (wVar 1) (waCons (wVar 1) (waCons (wVar 1) (waCons (w2 gMulA (wC (.int 2)) (wVar 1)) (waCons (w2 gMulA (wC (.int 8)) (wVar 1)) waNil)))))) waNil))) waNil)))))
  (wSetD 3 (wVar 4) (wTup (waCons (wVar 5) (waCons (w2 gAdd (wVar 5) (wVar 6)) waNil)))))))
  (wRet (wVar 3)))))
def w_law_sorted : WS := (wRet (wB gDictP (waCons (wLc (wiSeq (wB gSorted (waCons (wVar 0) waNil))) (gN 1) twYes (wTup (waCons (wVar 1) (waCons (wDGet (wVar 0) (wVar 1)) waNil))) [1]) waNil)))
end Ft

/-! FT3: the tray family: drawing. -/
namespace Ft
open PySem L2 Z Q Pk
theorem gListS_seq {d : D} {ds : List D} {P : LR → Prop} (h : seqD d = some ds) (p : P (.new (.lst ds))) : gListS [d] P := by
  cases d <;> first | (cases h; exact ⟨_, rfl, p⟩) | cases h
theorem p_roll {as Q QE} (h : sp_spin as Q QE) : w_law_roll (rho0 5 as) (bodyFl as Q QE) := by
  obtain ⟨p, rl, t, rfl, ⟨a, b, e, rfl⟩, ht, hl, k⟩ := h
  refine ite2d (fun h => ?_) (fun h => ?_)
  · refine ⟨ht, ?_⟩
    refine ⟨⟨ht, hl⟩, ?_⟩
    refine ⟨rfl, ?_⟩
    exact k _ _ ⟨_, _, _, rfl⟩ (Int.emod_nonneg _ (by omega)) (Int.emod_lt_of_pos _ ht)
  · refine nm5 ?_
    refine nm5 ?_
    refine ⟨mul64 (by decide), ?_⟩
    refine ⟨by decide, ?_⟩
    have h1 : ∀ x : Int, 0 ≤ x % 2305843009213693951 ∧ x % 2305843009213693951 < 2305843009213693951 := fun x => ⟨Int.emod_nonneg _ (by decide), Int.emod_lt_of_pos _ (by decide)⟩
    have h2 : ∀ x : Int, 0 ≤ x % 1152921504606846697 ∧ x % 1152921504606846697 < 1152921504606846697 := fun x => ⟨Int.emod_nonneg _ (by decide), Int.emod_lt_of_pos _ (by decide)⟩
    refine nm5 ?_
    generalize b + 922337203 * (e + 1) = y
    refine ⟨mul64 (by have := h1 y; omega), ?_⟩
    refine ⟨by decide, ?_⟩
    refine ⟨mul64 (by have := h2 (y % 2305843009213693951 * (y % 2305843009213693951)); omega), ?_⟩
    refine ⟨mul64 (by decide), ?_⟩
    refine nm5 ?_
    refine ⟨by decide, ?_⟩
    refine ⟨⟨by decide, by decide⟩, ?_⟩
    refine ⟨ht, ?_⟩
    refine ⟨rfl, ?_⟩
    exact k _ _ ⟨_, _, _, rfl⟩ (Int.emod_nonneg _ (by omega)) (Int.emod_lt_of_pos _ ht)
theorem p_tray {as Q QE} (h : sp_reel as Q QE) : w_law_tray (rho0 5 as) (bodyFl as Q QE) := by
  obtain ⟨ns, a, rfl, h0, h1, k⟩ := h
  have rest : ∀ c : Int, (wCut (wAsg 3 (w2 gMod (wB gInt (waCons (wB gAbs (waCons (wVar 2) waNil)) waNil)) (w2 gPow (w2 gPow (wC (.int 10)) (wC (.int 61))) (wC (.int 9)))))
  (wCut (wAsg 4 (w2 gAdd (w2 gAdd (w2 gAdd (w2 gMulA (wVar 3) (wC (.int 1000033))) (w2 gMulA (wC (.int 6151)) (wVar 1))) (w2 gMulA (wC (.int 29)) (wB gInt (waCons (w2 gLt (wVar 2) (wC (.int 0))) waNil)))) (wC (.int 13))))
  (wRet (wLst (waCons (wB gMax (waCons (wC (.int 0)) (waCons (w2 gSub (wVar 3) (w2 gPow (wC (.int 10)) (wC (.int 18)))) waNil))) (waCons (w2 gMod (wB gInt (waCons (wVar 4) waNil)) (wC (.int 2305843009213693907))) (waCons (wC (.int 0)) waNil))))))) [.sh (.rol (ns.map D.int)), .sh (.int a), .sh (.int c), .no, .no] (bodyFl [.sh (.rol (ns.map D.int)), .sh (.int a)] Q QE) := fun c => by
    refine ⟨cpow_small (by decide +kernel), ?_⟩
    refine ⟨cpow_small (by decide +kernel), ?_⟩
    refine ⟨by decide +kernel, ?_⟩
    refine nm5 ?_
    refine ⟨mul64r (by decide), ?_⟩
    refine ⟨mul64 (by decide), ?_⟩
    refine ⟨mul64 (by decide), ?_⟩
    refine nm5 ?_
    refine ⟨cpow_small (by decide +kernel), ?_⟩
    refine ⟨by decide, ?_⟩
    refine ⟨(show (3 : Nat) ≤ sizeLine from by decide), fun p => ?_⟩
    exact k _ ⟨_, _, _, rfl⟩
  refine ite2d (fun h => ?_) (fun h => ?_)
  · obtain ⟨x, e, hx⟩ := atI_lt (xs := ns.map D.int) h0 h
    show match atI (ns.map D.int) a with | some d => _ | none => False
    rw [e]
    obtain ⟨c, _, rfl⟩ := List.mem_map.mp hx
    refine nm5 ?_
    exact rest c
  · refine ⟨mul64 (by decide), ?_⟩
    refine nm5 ?_
    exact rest _
theorem p_few {as Q QE} (h : sp_few2 as Q QE) : w_law_few (rho0 6 as) (bodyFl as Q QE) := by
  obtain ⟨p, rl, items, ds, m, rfl, hr, hi, hl, k⟩ := h
  refine gListS_seq hi ?_
  intro p3
  refine ⟨show (0 : Nat) ≤ sizeLine from by decide, fun p4 => ?_⟩
  refine ⟨⟨by split <;> omega, by split <;> omega⟩, ?_⟩
  refine ⟨trivial, ?_⟩
  have hn : (if ((ds.length : Nat) : Int) < (m : Int) then ((ds.length : Nat) : Int) else (m : Int)).toNat = min m ds.length := by split <;> omega
  refine for_rel (fun its r => ∃ rl left found x, found.length + its.length = min m ds.length ∧ Reel rl ∧ (found ++ left).Perm ds ∧ r = [.own p rl, .sh items, .sh (.int m), .own p3 (.lst left), .own p4 (.lst found), x]) _ _ ⟨rl, ds, [], _, ?_, hr, List.Perm.refl _, rfl⟩ ?_ ?_
  · rw [rngD_len]
    have e := hn
    simp only [List.length_nil, Nat.zero_add]
    exact e
  · rintro d its r ⟨rl, left, found, x, hc, hr, hperm, rfl⟩ go
    have hlen : found.length + left.length = ds.length := by rw [← hperm.length_eq, List.length_append]
    rw [List.length_cons] at hc
    refine ⟨_, _, _, rfl, hr, by omega, log2_small (by omega), fun j rl hr j0 j1 => ?_⟩
    obtain ⟨n, rfl⟩ := Int.eq_ofNat_of_zero_le j0
    have hn : n < left.length := by omega
    refine ⟨by omega, by omega, ?_⟩
    have e1 : seqIndex? (n : Int) left.length = some n := by
      unfold seqIndex?
      simp [show ¬ (n : Int) < 0 by omega, hn]
    rw [e1]
    show match left[n]? with | some d => _ | none => False
    rw [List.getElem?_eq_getElem hn]
    refine ⟨Nat.lt_of_le_of_lt (show found.length ≤ 1000 by omega) (by decide), ?_⟩
    refine ⟨trivial, go _ ⟨rl, left.eraseIdx n, found ++ [left[n]], _, by rw [List.length_append, List.length_singleton]; omega, hr, ?_, rfl⟩⟩
    rw [List.append_assoc]
    exact ((perm_erase left n _ (List.getElem?_eq_getElem hn)).append_left found).trans hperm
  · rintro r ⟨rl, left, found, x, hc, hr, hperm, rfl⟩
    refine ⟨rfl, ?_⟩
    exact k _ _ left hr hperm (by simpa using hc)
end Ft

/-! FT4: the tray family: sorted rows, drawn rows. -/
namespace Ft
open PySem L2 Z Q Pk
theorem p_sorted {as Q QE} (h : sp_sorted as Q QE) : w_law_sorted (rho0 2 as) (bodyFl as Q QE) := by
  obtain ⟨rows, rfl, nd, hl, k⟩ := h
  have sp := sortK_perm rows
  refine ⟨keys rows, .inr ⟨_, rfl, keys_kvS _ _⟩, by rw [List.length_map]; exact hl, fun ys yp ysd => ?_⟩
  have ey := sort_keys nd yp ysd
  subst ey
  intro p1
  refine ⟨by rw [List.length_map, List.length_map, sp.length_eq]; exact sz (by omega), trivial, ?_⟩
  rw [show (keys (sortK rows)).map D.str = (sortK rows).map fun e => D.str e.1 from by rw [List.map_map]; rfl]
  refine lc_each (φ := fun e => D.str e.1) (ψ := fun e => D.tup [.str e.1, spanD e.2]) (sortK rows) _ (fun e acc ds' he h => ?_) ?_
  · have hv : valD (kvS spanD rows) (.inr e.1) = some (spanD e.2) := by rw [valD_kvS, getS_of_mem nd (show (e.1, e.2) ∈ rows from sp.mem_iff.mp he)]; rfl
    exact ⟨_, _, rfl, hv, (by decide : 2 ≤ sizeLine), trivial, h⟩
  rw [List.nil_append]
  intro p2
  refine ⟨_, _, rfl, pairsD_rows _ _, ?_⟩
  rw [mergeKD_rows _ (sortK_asc nd).nodup]
  intro p3
  exact k
theorem p_rows {as Q QE} (h : sp_rows as Q QE) : w_law_rows (rho0 7 as) (bodyFl as Q QE) := by
  obtain ⟨p, rl, T, zs, rfl, hr, t1, t2, hl, nd, nm, k⟩ := h
  refine ⟨_, _, _, rfl, hr, by decide, by decide, fun x rl hr x0 x1 => ?_⟩
  refine ite2d (fun hx => ?_) (fun hx => ?_)
  · refine ⟨_, _, _, _, rfl, hr, t1, t2, hl, nd, nm, fun rows rl hr hk hd => fun p2 => ?_⟩
    exact ⟨rfl, k _ _ hr hk hd⟩
  · refine nm7 ?_
    intro p3
    refine nm7 ?_
    refine ⟨trivial, ?_⟩
    refine for_rel (fun its r => ∃ rl rows left x y z, its = List.map D.str left ∧ Reel rl ∧ keys rows ++ left = zs ∧ (∀ e ∈ rows, drawn T e.2) ∧ r = [.own p rl, .sh (.int T), .sh (.lst (zs.map .str)), .own p3 (.dic (kvS spanD rows)), x, y, z]) _ _ ⟨rl, [], zs, _, _, _, rfl, hr, rfl, (fun _ h => nomatch h), rfl⟩ ?_ ?_
    · rintro d its r ⟨rl, rows, left, x, y, z, e, hr, hk, hd, rfl⟩ go
      cases left with
      | nil => cases e
      | cons n left =>
        cases e
        refine ⟨mul64 (by decide), ?_⟩
        refine ⟨_, _, _, rfl, hr, by omega, log9 (by omega), fun b0 rl hr b1 b2 => ?_⟩
        refine nm7 ?_
        refine ⟨mul64 (by decide), ?_⟩
        refine ⟨mul64 (by decide), ?_⟩
        refine ⟨(by decide : 5 ≤ sizeLine), fun p4 => ?_⟩
        refine ⟨_, _, _, _, rfl, hr, rfl, List.cons_ne_nil _ _, (by decide : 5 ≤ 1000), fun x rl hr hx => ?_⟩
        obtain ⟨m, rfl, m1, m2⟩ : ∃ m : Int, x = .int m ∧ 1 ≤ m ∧ m ≤ 8 * T := by
          simp only [List.mem_cons, List.not_mem_nil, or_false] at hx
          rcases hx with rfl | rfl | rfl | rfl | rfl <;> exact ⟨_, rfl, by omega, by omega⟩
        refine ⟨_, _, _, rfl, hr, by omega, log9 (by omega), fun s0 rl hr s1 s2 => ?_⟩
        refine nm7 ?_
        refine ⟨(by decide : 2 ≤ sizeLine), ?_⟩
        have nn : n ∉ keys rows := fun h => by
          rw [← hk, List.nodup_append] at nd
          exact nd.2.2 n h n (List.mem_cons_self ..) rfl
        have lr : rows.length ≤ 8 := by
          have : (keys rows ++ n :: left).length ≤ 8 := by rw [hk]; exact hl
          rw [List.length_append, List.length_map] at this; omega
        refine ⟨_, rfl, by rw [kvS_len]; exact Nat.lt_of_le_of_lt lr (by decide), ?_⟩
        have e1 : putKD (kvS spanD rows) (.inr n) (D.tup [.int (b0 - T), .int (b0 - T + (1 + s0))]) = kvS spanD (rows ++ [(n, (b0 - T, b0 - T + (1 + s0)))]) := by
          rw [← putS_new nn]; exact putKD_kvS spanD n (b0 - T, b0 - T + (1 + s0)) rows
        rw [e1]
        refine ⟨trivial, go _ ⟨rl, _, left, _, _, _, rfl, hr, ?_, ?_, rfl⟩⟩
        · rw [show keys (rows ++ [(n, (b0 - T, b0 - T + (1 + s0)))]) = keys rows ++ [n] from by simp [keys], List.append_assoc]; exact hk
        · intro e he
          rcases List.mem_append.mp he with he | he
          · exact hd e he
          · rcases List.mem_singleton.mp he with rfl
            exact ⟨⟨by show _ ≤ b0 - T; omega, by show b0 - T ≤ _; omega⟩, by show 1 ≤ b0 - T + (1 + s0) - (b0 - T); omega, by show b0 - T + (1 + s0) - (b0 - T) ≤ _; omega⟩
    · rintro r ⟨rl, rows, left, x, y, z, e, hr, hk, hd, rfl⟩
      cases left with
      | cons n left => cases e
      | nil =>
        refine nm7 ?_
        refine ⟨rfl, ?_⟩
        rw [List.append_nil] at hk
        exact k _ _ hr (by rw [hk]) hd
end Ft

/-! FT5: the tray family: rings of rows. -/
namespace Ft
open PySem L2 Z Q Pk
theorem name_strOk {z : Str} (h : nameB z = true) : PyData.strOk z = true := (name_ok h).2
theorem p_rings {as Q QE} (h : sp_rings as Q QE) : w_law_rings (rho0 10 as) (bodyFl as Q QE) := by
  obtain ⟨p, rl, T, zs, rfl, hr, t1, t2, hl, nd, nm, k⟩ := h
  intro p3
  refine ⟨_, rfl, fun p4 => ?_⟩
  refine nm10 ?_
  refine ⟨fun m r => ∃ rl rows left p4 x5 x6 x7 x8 x9, left.length = m ∧ Reel rl ∧ (keys rows ++ left).Perm zs ∧ (∀ e ∈ rows, drawn T e.2) ∧ r = [.own p rl, .sh (.int T), .sh (.lst (zs.map .str)), .own p3 (.dic (kvS spanD rows)), .own p4 (.lst (left.map .str)), x5, x6, x7, x8, x9], ⟨_, rl, [], zs, p4, _, _, _, _, _, rfl, hr, .refl _, (fun _ h => nomatch h), rfl⟩, ?_⟩
  rintro m r ⟨rl, rows, left, p4, x5, x6, x7, x8, x9, hm, hr, hp, hd, rfl⟩
  have lo : ∀ z ∈ left, PyData.strOk z = true := fun z hz => name_strOk (nm z (hp.mem_iff.mp (List.mem_append_right _ hz)))
  have ndl : left.Nodup := ((hp.nodup_iff.mpr nd).sublist (List.sublist_append_right _ _))
  have pl0 : pl 1 (.lst (left.map .str)) = true := by
    show (left.map D.str).all (pl 0) = true
    exact pl_strs lo
  have len8 : (keys rows).length + left.length ≤ 8 := by
    have := hp.length_eq; rw [List.length_append] at this; omega
  refine ⟨(by decide : 0 ≤ sizeLine), fun p5 => ?_⟩
  refine ⟨pl_okEq pl0 (by decide), pl_okEq (n := 1) (d := .lst []) rfl (by decide), ?_⟩
  refine iteNeD (n := 1) (m := 1) pl0 rfl (fun hne => ?_) (fun he => ?_)
  · have l1 : 1 ≤ left.length := by
      cases left with
      | nil => exact absurd rfl hne
      | cons a l => rw [List.length_cons]; omega
    refine ⟨_, _, _, rfl, hr, by decide, by decide, fun k0 rl hr k1 k2 => ?_⟩
    obtain ⟨kn, rfl⟩ := Int.eq_ofNat_of_zero_le k1
    refine ⟨_, _, _, _, 1 + kn, rfl, hr, rfl, by rw [List.length_map]; omega, fun rl fs rest hr hperm hfl => ?_⟩
    obtain ⟨ws, vs, hp2, rfl, rfl⟩ := perm_app_inv D.str hperm
    rw [List.length_map, List.length_map] at hfl
    intro p6
    refine nm10 ?_
    refine ⟨by rw [List.length_map]; exact sz (by omega), trivial, ?_⟩
    refine lc_keep (φ := D.str) (fun z => !decide (z ∈ ws)) left _ (fun z acc ds' hz h1 h2 => ?_) ?_
    · refine .inl ⟨rfl, _, rfl, flat_strs _, ?_⟩
      rw [inD_strs]
      refine iteBn (b := decide (z ∈ ws)) (fun e => ?_) (fun e => ?_)
      · exact ⟨trivial, h1 (by rw [e]; rfl)⟩
      · exact ⟨trivial, h2 (by rw [e]; rfl)⟩
    rw [List.nil_append]
    intro p7
    have ndw : (ws ++ vs).Nodup := hp2.nodup_iff.mpr ndl
    have hleft : (left.filter fun z => !decide (z ∈ ws)).Perm vs := by
      have a1 : ((ws ++ vs).filter fun z => !decide (z ∈ ws)) = vs := by
        rw [List.filter_append]
        have b1 : (ws.filter fun z => !decide (z ∈ ws)) = [] := List.filter_eq_nil_iff.mpr fun z hz => by simp [hz]
        have b2 : (vs.filter fun z => !decide (z ∈ ws)) = vs := List.filter_eq_self.mpr fun z hz => by
          rw [List.nodup_append] at ndw
          have : z ∉ ws := fun h => ndw.2.2 z h z hz rfl
          simp [this]
        rw [b1, b2, List.nil_append]
      exact a1 ▸ (hp2.symm.filter _)
    generalize (left.filter fun z => !decide (z ∈ ws)) = left2 at hleft
    have w1 : 1 ≤ ws.length := by omega
    have hpz : (keys rows ++ (ws ++ left2)).Perm zs := by
      refine List.Perm.trans ?_ hp
      exact ((hleft.append_left ws).trans hp2).append_left _
    have wl : ws.length + left2.length = left.length := by
      have := hp2.length_eq; rw [List.length_append] at this; rw [hleft.length_eq]; exact this
    refine nm10 ?_
    refine ⟨mul64 (by decide), ?_⟩
    refine ⟨_, _, _, rfl, hr, by omega, log9 (by omega), fun b0 rl hr b1 b2 => ?_⟩
    refine nm10 ?_
    refine nm10 ?_
    intro p9
    refine ⟨trivial, ?_⟩
    rw [cutD_dropLast]
    obtain ⟨ini, lst, rfl⟩ : ∃ ini lst, ws = ini ++ [lst] := ⟨ws.dropLast, ws.getLast (by intro e; rw [e] at w1; cases w1), (List.dropLast_concat_getLast _).symm⟩
    rw [List.map_append, List.map_cons, List.map_nil, List.dropLast_concat]
    refine for_rel (fun its r => ∃ rl rows' todo, ∃ b : Int, ∃ x8, its = List.map D.str todo ∧ Reel rl ∧ (keys rows' ++ (todo ++ [lst] ++ left2)).Perm zs ∧ (∀ e ∈ rows', drawn T e.2) ∧ 0 ≤ b ∧ b + 40 * (todo.length : Int) ≤ 1000 ∧ r = [.own p rl, .sh (.int T), .sh (.lst (zs.map .str)), .own p3 (.dic (kvS spanD rows')), .own p7 (.lst (left2.map .str)), .own p6 (.lst (ini.map .str ++ [.str lst])), .sh (.int b0), .sh (.int b), x8, x9]) _ _ ⟨rl, rows, ini, b0, _, rfl, hr, by rw [List.append_assoc] at hpz ⊢; exact hpz, hd, b1, ?_, rfl⟩ ?_ ?_
    · rw [List.length_append, List.length_singleton] at wl; omega
    · rintro d its r ⟨rl, rows', todo, b, x8, e, hr, hpz, hd, b1, b3, rfl⟩ go
      cases todo with
      | nil => cases e
      | cons n todo =>
        cases e
        refine ⟨_, _, _, rfl, hr, by omega, log9 (by omega), fun s0 rl hr s1 s2 => ?_⟩
        refine ⟨(by decide : 2 ≤ sizeLine), ?_⟩
        have nn : n ∉ keys rows' := fun h => by
          have nd2 := hpz.nodup_iff.mpr nd
          rw [List.nodup_append] at nd2
          exact nd2.2.2 n h n (by simp) rfl
        have lr : rows'.length ≤ 8 := by
          have := hpz.length_eq
          rw [List.length_append, List.length_map] at this; omega
        refine ⟨_, rfl, by rw [kvS_len]; exact Nat.lt_of_le_of_lt lr (by decide), ?_⟩
        have e1 : putKD (kvS spanD rows') (.inr n) (D.tup [.int b, .int (b + 1 + s0)]) = kvS spanD (rows' ++ [(n, (b, b + 1 + s0))]) := by
          rw [← putS_new nn]; exact putKD_kvS spanD n (b, b + 1 + s0) rows'
        rw [e1]
        refine nm10 ?_
        have hv : valD (kvS spanD (rows' ++ [(n, (b, b + 1 + s0))])) (.inr n) = some (spanD (b, b + 1 + s0)) := by
          rw [valD_kvS, getS_of_mem (a := (b, b + 1 + s0))]
          · rfl
          · rw [← putS_new nn]
            refine putS_nodup ?_
            have nd2 := hpz.nodup_iff.mpr nd
            exact nd2.sublist (List.sublist_append_left _ _)
          · exact List.mem_append_right _ (List.mem_singleton.mpr rfl)
        refine ⟨_, _, rfl, hv, ?_⟩
        rw [List.length_cons] at b3
        refine ⟨trivial, go _ ⟨rl, _, todo, _, _, rfl, hr, ?_, ?_, by omega, by omega, rfl⟩⟩
        · rw [show keys (rows' ++ [(n, (b, b + 1 + s0))]) = keys rows' ++ [n] from by simp [keys], List.append_assoc]; exact hpz
        · intro e he
          rcases List.mem_append.mp he with he | he
          · exact hd e he
          · rcases List.mem_singleton.mp he with rfl
            exact ⟨⟨by show _ ≤ b; omega, by show b ≤ _; omega⟩, by show 1 ≤ b + 1 + s0 - b; omega, by show b + 1 + s0 - b ≤ _; omega⟩
    · rintro r ⟨rl, rows', todo, b, x8, e, hr, hpz, hd, b1, b3, rfl⟩
      cases todo with
      | cons n todo => cases e
      | nil =>
        refine nm10 ?_
        refine ⟨by omega, ?_⟩
        refine ⟨(by decide : 4 ≤ sizeLine), fun p8 => ?_⟩
        refine ⟨_, _, _, _, rfl, hr, rfl, List.cons_ne_nil _ _, (by decide : 4 ≤ 1000), fun x rl hr hx => ?_⟩
        obtain ⟨c, rfl, c1, c2⟩ : ∃ c : Int, x = .int c ∧ 0 ≤ c ∧ c ≤ 1 := by
          simp only [List.mem_cons, List.not_mem_nil, or_false] at hx
          rcases hx with rfl | rfl | rfl | rfl <;> exact ⟨_, rfl, by omega, by omega⟩
        refine ⟨mul64 (by omega), ?_⟩
        have htc : 0 ≤ T * c ∧ T * c ≤ T := by
          rcases (show c = 0 ∨ c = 1 by omega) with rfl | rfl
          · rw [Int.mul_zero]; omega
          · rw [Int.mul_one]; omega
        generalize T * c = tc at *
        have e5 := Int.emod_nonneg (b0 - b - 1) (show T ≠ 0 by omega)
        have e6 := Int.emod_lt_of_pos (b0 - b - 1) (show 0 < T by omega)
        generalize (b0 - b - 1) % T = md at *
        refine nm10 ?_
        refine ⟨(by decide : 2 ≤ sizeLine), ?_⟩
        have hlast : atI (ini.map D.str ++ [.str lst]) (-1) = some (.str lst) := atI_last _ _
        show match atI (ini.map D.str ++ [.str lst]) (-1) with | some d => _ | none => False
        rw [hlast]
        rw [List.nil_append] at hpz
        have nn : lst ∉ keys rows' := fun h => by
          have nd2 := hpz.nodup_iff.mpr nd
          rw [List.nodup_append] at nd2
          exact nd2.2.2 lst h lst (by simp) rfl
        have lr : rows'.length ≤ 8 := by
          have := hpz.length_eq
          rw [List.length_append, List.length_map] at this; omega
        refine ⟨_, rfl, by rw [kvS_len]; exact Nat.lt_of_le_of_lt lr (by decide), ?_⟩
        have e1 : putKD (kvS spanD rows') (.inr lst) (D.tup [.int b, .int (b + (1 + md + tc))]) = kvS spanD (rows' ++ [(lst, (b, b + (1 + md + tc)))]) := by
          rw [← putS_new nn]; exact putKD_kvS spanD lst (b, b + (1 + md + tc)) rows'
        rw [e1]
        refine ⟨left2.length, ?_, rl, _, left2, p7, _, _, _, _, _, rfl, hr, ?_, ?_, rfl⟩
        · rw [List.length_append, List.length_singleton] at wl; omega
        · rw [show keys (rows' ++ [(lst, (b, b + (1 + md + tc)))]) = keys rows' ++ [lst] from by simp [keys], List.append_assoc]; exact hpz
        · intro e he
          rcases List.mem_append.mp he with he | he
          · exact hd e he
          · rcases List.mem_singleton.mp he with rfl
            exact ⟨⟨by show _ ≤ b; omega, by show b ≤ _; omega⟩, by show 1 ≤ b + (1 + md + tc) - b; omega, by show b + (1 + md + tc) - b ≤ _; omega⟩
  · have : left = [] := by
      cases left with
      | nil => rfl
      | cons a l => cases he
    subst this
    rw [List.append_nil] at hp
    refine nm10 ?_
    refine ⟨rfl, ?_⟩
    exact k _ _ hr hp hd
end Ft

/-! FT6: the tray family: drawn names. -/
namespace Ft
open PySem L2 Z Q Pk
def abc : List Nat := ("abcdefghijklmnopqrstuvwxyz" : Str).cps.toList
theorem abc_low : ∀ c ∈ abc, low c = true := by decide +kernel
theorem abc_len : abc.length = 26 := by decide +kernel
theorem abc_nd : abc.Nodup := by decide +kernel
theorem one_inj {a b : Nat} (h : one a = one b) : a = b := by
  have : (one a).cps.toList = (one b).cps.toList := by rw [h]
  simpa [one] using this
theorem name_of {z : Str} (h1 : 1 ≤ z.cps.toList.length) (h2 : z.cps.toList.length ≤ 8) (h : ∀ c ∈ z.cps.toList, low c = true) : nameB z = true := by
  unfold nameB
  rw [decide_eq_true (show 1 ≤ z.length from h1), decide_eq_true (show z.length ≤ 8 from h2), List.all_eq_true.mpr h]; rfl
theorem ofs_map (cs : List Nat) : (cs.map fun c => D.str (one c)) = (cs.map one).map D.str := by rw [List.map_map]; rfl
theorem p_names {as Q QE} (h : sp_names as Q QE) : w_law_names (rho0 8 as) (bodyFl as Q QE) := by
  obtain ⟨p, rl, m, rfl, hr, m1, m8, k⟩ := h
  refine ⟨by decide +kernel, fun p2 => ?_⟩
  refine nm8 ?_
  refine ⟨_, _, _, rfl, hr, by decide, by decide, fun x rl hr x0 x1 => ?_⟩
  refine ite2d (fun hx => ?_) (fun hx => ?_)
  · refine ⟨⟨by decide, by decide⟩, ?_⟩
    refine ⟨by rw [rngD_len]; decide, trivial, ?_⟩
    refine lc_rel (fun ds acc r => ∃ rl cs s2, acc = cs.map (fun c => D.str (one c)) ∧ (∀ c ∈ cs, low c = true) ∧ cs.length + ds.length = 8 ∧ Reel rl ∧ (s2 = Sl.own p2 (.lst (abc.map fun c => D.str (one c))) ∨ s2 = .sh (.lst (abc.map fun c => D.str (one c)))) ∧ r = [.own p rl, .sh (.int m), s2, .no, .no, .no, .no, .no]) _ _ _ ⟨rl, [], _, rfl, (fun _ h => nomatch h), rfl, hr, .inl rfl, rfl⟩ ?_ ?_
    · rintro d ds acc r ⟨rl, cs, s2, rfl, hc, hl, hr, hs2, rfl⟩ go
      have fin : ∀ x rl, Reel rl → x ∈ (abc.map fun c => D.str (one c)) → ∃ c, x = D.str (one c) ∧ low c = true := fun x rl hr hx => by
        obtain ⟨c, hc, rfl⟩ := List.mem_map.mp hx
        exact ⟨c, rfl, abc_low c hc⟩
      have nex : ∀ c rl, low c = true → Reel rl → ∃ rl2, ∃ cs2 : List Nat, ∃ s2, (cs.map (fun c => D.str (one c))) ++ [D.str (one c)] = cs2.map (fun c => D.str (one c)) ∧ (∀ c ∈ cs2, low c = true) ∧ cs2.length + ds.length = 8 ∧ Reel rl2 ∧ (s2 = Sl.own p2 (.lst (abc.map fun c => D.str (one c))) ∨ s2 = .sh (.lst (abc.map fun c => D.str (one c)))) ∧ [.own p rl, .sh (.int m), .sh (.lst (abc.map fun c => D.str (one c))), .no, .no, .no, .no, .no] = [.own p rl2, .sh (.int m), s2, .no, .no, .no, .no, .no] := fun c rl h1 h2 => by
        refine ⟨rl, cs ++ [c], _, by rw [List.map_append]; rfl, fun e he => ?_, by rw [List.length_append, List.length_singleton]; rw [List.length_cons] at hl; omega, h2, .inr rfl, rfl⟩
        rcases List.mem_append.mp he with he | he
        · exact hc e he
        · rcases List.mem_singleton.mp he with rfl; exact h1
      have ne : (abc.map fun c => D.str (one c)) ≠ [] := by
        intro e
        have := congrArg List.length e
        rw [List.length_map, abc_len] at this; cases this
      have l1 : (abc.map fun c => D.str (one c)).length ≤ 1000 := by rw [List.length_map, abc_len]; decide
      rcases hs2 with rfl | rfl
      all_goals
        refine ⟨_, _, _, _, rfl, hr, rfl, ne, l1, fun x rl hr hx => ?_⟩
        obtain ⟨c, rfl, hc2⟩ := fin x rl hr hx
        exact ⟨trivial, go _ _ (nex c rl hc2 hr)⟩
    rintro acc r ⟨rl, cs, s2, rfl, hc, hl, hr, hs2, rfl⟩
    intro p3
    have hl : cs.length = 8 := by rw [List.length_nil] at hl; omega
    refine ⟨_, cs.map one, rfl, by rw [ofs_map]; exact strsD_map _, by rw [ones_sum]; omega, ?_⟩
    generalize hst : Txt.join "" (cs.map one) = stem
    have stc : stem.cps.toList = cs := by rw [← hst]; exact join_ones cs
    refine nm8 ?_
    refine ⟨(by decide : 8 ≤ sizeLine), fun p4 => ?_⟩
    refine ⟨_, _, _, _, m, rfl, hr, rfl, (by decide : 8 ≤ 1000), fun rl fs rest hr hperm hfl => ?_⟩
    obtain ⟨ns, vs, hp2, rfl, rfl⟩ := perm_app_inv (xs := [1, 2, 3, 4, 5, 6, 7, 8]) (fun i : Nat => D.int (i : Int)) hperm
    rw [List.length_map] at hfl
    have hfl : ns.length = m := by rw [hfl]; show min m 8 = m; omega
    have hns : ns.Nodup ∧ ∀ i ∈ ns, 1 ≤ i ∧ i ≤ 8 := by
      have nd : (ns ++ vs).Nodup := hp2.nodup_iff.mpr (by decide)
      refine ⟨nd.sublist (List.sublist_append_left _ _), fun i hi => ?_⟩
      have := hp2.mem_iff.mp (List.mem_append_left vs hi)
      simp only [List.mem_cons, List.not_mem_nil, or_false] at this
      omega
    intro p5
    refine ⟨by rw [List.length_map]; exact sz (by omega), trivial, ?_⟩
    refine lc_each (φ := fun i : Nat => D.int (i : Int)) (ψ := fun i : Nat => D.str (cutS stem none (some (i : Int)))) ns _ (fun i acc ds' hi h => ?_) ?_
    · exact ⟨sz (by rw [str_len, stc]; omega), trivial, h⟩
    rw [List.nil_append]
    intro p6
    refine ⟨rfl, ?_⟩
    rw [show (ns.map fun i : Nat => D.str (cutS stem none (some (i : Int)))) = (ns.map fun i : Nat => cutS stem none (some (i : Int))).map D.str from by rw [List.map_map]; rfl]
    refine k _ _ hr (by rw [List.length_map]; exact hfl) ?_ ?_
    · unfold List.Nodup
      rw [List.pairwise_map]
      refine List.Pairwise.imp_of_mem (fun {a b} ha hb hab e => ?_) hns.1
      have e2 : (cutS stem none (some (a : Int))).cps.toList.length = (cutS stem none (some (b : Int))).cps.toList.length := by rw [e]
      rw [cutS_take, cutS_take, List.length_take, List.length_take, stc, hl] at e2
      have := hns.2 a ha
      have := hns.2 b hb
      exact hab (by omega)
    · intro z hz
      obtain ⟨i, hi, rfl⟩ := List.mem_map.mp hz
      have := hns.2 i hi
      refine name_of ?_ ?_ fun c hc2 => ?_
      · rw [cutS_take, List.length_take, stc]; omega
      · rw [cutS_take, List.length_take, stc]; omega
      · rw [cutS_take, stc] at hc2
        exact hc c (List.mem_of_mem_take hc2)
  · refine nm8 ?_
    have l26 : (abc.map fun c => D.str (one c)).length ≤ 1000 := by rw [List.length_map, abc_len]; decide
    refine ⟨_, _, _, rfl, hr, by decide, by decide, fun k0 rl hr k1 k2 => ?_⟩
    obtain ⟨kn, rfl⟩ := Int.eq_ofNat_of_zero_le k1
    refine ⟨_, _, _, _, kn, rfl, hr, rfl, l26, fun rl fs rest hr hperm hfl => ?_⟩
    obtain ⟨ws, vs, hp2, rfl, rfl⟩ := perm_app_inv (xs := abc) (fun c => D.str (one c)) hperm
    rw [List.length_map, List.length_map, show ("abcdefghijklmnopqrstuvwxyz" : Str).cps.toList.length = 26 from abc_len] at hfl
    have hws : ∀ c ∈ ws, low c = true := fun c hc => abc_low c (hp2.mem_iff.mp (List.mem_append_left _ hc))
    intro p3
    refine ⟨_, ws.map one, rfl, by rw [ofs_map]; exact strsD_map _, by rw [ones_sum]; omega, ?_⟩
    generalize hst : Txt.join "" (ws.map one) = stem
    have stc : stem.cps.toList = ws := by rw [← hst]; exact join_ones ws
    have stl : stem.length ≤ 3 := by rw [str_len, stc]; omega
    refine ⟨(by decide : 0 ≤ sizeLine), fun p4 => ?_⟩
    refine nm8 ?_
    refine ⟨_, _, _, _, m, rfl, hr, rfl, l26, fun rl fs rest hr hperm hfl2 => ?_⟩
    obtain ⟨ls, vs2, hp3, rfl, rfl⟩ := perm_app_inv (xs := abc) (fun c => D.str (one c)) hperm
    rw [List.length_map, List.length_map, show ("abcdefghijklmnopqrstuvwxyz" : Str).cps.toList.length = 26 from abc_len] at hfl2
    have lsl : ls.length = m := by rw [hfl2]; omega
    have hls : ∀ c ∈ ls, low c = true := fun c hc => abc_low c (hp3.mem_iff.mp (List.mem_append_left _ hc))
    have lsn : ls.Nodup := (hp3.nodup_iff.mpr abc_nd).sublist (List.sublist_append_left _ _)
    intro p5
    refine ⟨trivial, ?_⟩
    refine for_rel (fun its r => ∃ rl zs done todo x, its = List.map (fun c => D.str (one c)) todo ∧ Reel rl ∧ done ++ todo = ls ∧ (zs.map fun z : Str => z.cps.toList[ws.length]?) = done.map some ∧ (∀ z ∈ zs, nameB z = true) ∧ r = [.own p rl, .sh (.int m), .sh (.lst (abc.map fun c => D.str (one c))), .sh (.str stem), .own p4 (.lst (zs.map .str)), x, .no, .no]) _ _ ⟨rl, [], [], ls, _, rfl, hr, rfl, rfl, (fun _ h => nomatch h), rfl⟩ ?_ ?_
    · rintro d its r ⟨rl, zs, done, todo, x, e, hr, hd, hz, hn, rfl⟩ go
      cases todo with
      | nil => cases e
      | cons c todo =>
        cases e
        have c1 : (one c).length = 1 := rfl
        refine ⟨sz (by rw [c1]; omega), ?_⟩
        refine ⟨(by decide : 5 ≤ sizeLine), fun p6 => ?_⟩
        refine ⟨_, _, _, _, rfl, hr, rfl, List.cons_ne_nil _ _, (by decide : 5 ≤ 1000), fun x rl hr hx => ?_⟩
        obtain ⟨a, rfl, ha⟩ : ∃ a : Nat, x = .int (a : Int) ∧ a ≤ 4 := by
          simp only [List.mem_cons, List.not_mem_nil, or_false] at hx
          rcases hx with rfl | rfl | rfl | rfl | rfl
          · exact ⟨0, rfl, by decide⟩
          · exact ⟨0, rfl, by decide⟩
          · exact ⟨1, rfl, by decide⟩
          · exact ⟨2, rfl, by decide⟩
          · exact ⟨4, rfl, by decide⟩
        refine ⟨_, _, _, _, a, rfl, hr, rfl, l26, fun rl fs rest hr hperm hfl3 => ?_⟩
        obtain ⟨us, vs3, hp4, rfl, rfl⟩ := perm_app_inv (xs := abc) (fun c => D.str (one c)) hperm
        rw [List.length_map, List.length_map, abc_len] at hfl3
        have hus : ∀ c ∈ us, low c = true := fun c hc => abc_low c (hp4.mem_iff.mp (List.mem_append_left _ hc))
        intro p7
        refine ⟨_, us.map one, rfl, by rw [ofs_map]; exact strsD_map _, by rw [ones_sum]; omega, ?_⟩
        generalize hst2 : Txt.join "" (us.map one) = tail
        have tlc : tail.cps.toList = us := by rw [← hst2]; exact join_ones us
        have tll : tail.length ≤ 4 := by rw [str_len, tlc]; omega
        refine ⟨sz (by rw [len_app, c1]; omega), ?_⟩
        have lz : zs.length ≤ 8 := by
          have := congrArg List.length hz
          rw [List.length_map, List.length_map] at this
          have := congrArg List.length hd
          rw [List.length_append, List.length_cons] at this; omega
        refine ⟨by rw [List.length_map]; exact Nat.lt_of_le_of_lt lz (by decide), ?_⟩
        have nc : (stem ++ one c ++ tail).cps.toList = ws ++ c :: us := by rw [app_cps, app_cps, stc, tlc]; show ws ++ [c] ++ us = _; rw [List.append_assoc]; rfl
        refine ⟨trivial, go _ ⟨rl, zs ++ [stem ++ one c ++ tail], done ++ [c], todo, _, rfl, hr, by rw [List.append_assoc]; exact hd, ?_, ?_, by rw [List.map_append]; rfl⟩⟩
        · rw [List.map_append, List.map_append, hz]
          congr 1
          show [(stem ++ one c ++ tail).cps.toList[ws.length]?] = [some c]
          rw [nc, List.getElem?_append_right (Nat.le_refl _), Nat.sub_self]; rfl
        · intro z hz
          rcases List.mem_append.mp hz with hz | hz
          · exact hn z hz
          · rcases List.mem_singleton.mp hz with rfl
            have wl : ws.length ≤ 3 := by rw [← stc]; exact stl
            have ul : us.length ≤ 4 := by rw [← tlc]; exact tll
            refine name_of ?_ ?_ ?_
            · rw [nc, List.length_append, List.length_cons]; omega
            · rw [nc, List.length_append, List.length_cons]; omega
            · rw [nc]
              intro b hb
              rcases List.mem_append.mp hb with hb | hb
              · exact hws b hb
              · rcases List.mem_cons.mp hb with rfl | hb
                · exact hls _ (by rw [← hd]; exact List.mem_append_right _ (List.mem_cons_self ..))
                · exact hus b hb
    · rintro r ⟨rl, zs, done, todo, x, e, hr, hd, hz, hn, rfl⟩
      cases todo with
      | cons c todo => cases e
      | nil =>
        rw [List.append_nil] at hd
        subst hd
        refine nm8 ?_
        refine ⟨rfl, ?_⟩
        refine k _ _ hr ?_ ?_ hn
        · have := congrArg List.length hz
          rw [List.length_map, List.length_map] at this; omega
        · have : (zs.map fun z : Str => z.cps.toList[ws.length]?).Nodup := by
            rw [hz]
            unfold List.Nodup
            rw [List.pairwise_map]
            exact lsn.imp fun h e => h (Option.some.inj e)
          unfold List.Nodup at this
          rw [List.pairwise_map] at this
          exact this.imp fun h e => h (by rw [e])
end Ft

/-! S37: what the defs of law k37 promise. -/
namespace K37
open PySem L2 Z Q Pk
/-- all that the law asks of its rows -/
structure LRows (T : Int) (rows : Rows) : Prop where
  t1 : 1 ≤ T
  t2 : T ≤ 32
  ok : RowsOk T rows
  sm : ∀ e ∈ rows, -200000000000 ≤ e.2.1 ∧ e.2.1 ≤ 200000000000
def sp_law_near : FSpec := fun as P _ => ∃ p rl rows T, as = [.own p rl, .sh (rowsD rows), .sh (.int T)] ∧ Reel rl ∧ LRows T rows ∧
  (∀ rl', Reel rl' → P (.val .non) [rl']) ∧ ∀ (rows' : Rows) rl', Reel rl' → RowsOk T rows' → (∃ z, getS rows z ≠ getS rows' z) → P (.new (.dic (kvS spanD rows'))) [rl']
abbrev cs : List Str := ["Spans"]
def sp_law_odd : FSpec := fun as P _ => ∃ p rl rows T, as = [.own p rl, .sh (rowsD rows), .sh (spansD T (sortK rows))] ∧ Reel rl ∧ LRows T rows ∧
  ∀ (ds : List D) rl', Reel rl' → ds.length ≤ 100 → (∀ d ∈ ds, okV cs d ∧ hasR (sortK rows) d = false) → P (.new (.lst ds)) [rl']
def sp_law_is_told : FSpec := fun as P _ => ∃ p rl rows T, as = [.own p rl, .sh (spansD T (sortK rows)), .sh (rowsD rows), .sh (.int T)] ∧ Reel rl ∧ LRows T rows ∧ ∀ rl', Reel rl' → P (.val (.bl true)) [rl']
def sp_law_right : FSpec := fun as P _ => ∃ p rl, as = [.own p rl] ∧ Reel rl ∧ ∀ rl', P (.val (.bl true)) [rl']
end K37

namespace K37
open PySem L2 Z
open PyProof.Rows (envOfC)
def top (i : Nat) : Stmt := PySem.Challenge.pw_overrounds_k37_spans_told.main.body.getD i (.Pass ⟨0, 0, 0, 0⟩)
/-- what the top has left -/
structure Txt (K : PySem.W.Frag) (mg : Str → Option Value) : Prop where
  n_abs : mg "abs" = none
  n_all : mg "all" = none
  n_bool : mg "bool" = none
  n_dict : mg "dict" = none
  n_int : mg "int" = none
  n_isinstance : mg "isinstance" = none
  n_len : mg "len" = none
  n_list : mg "list" = none
  n_max : mg "max" = none
  n_min : mg "min" = none
  n_range : mg "range" = none
  n_repr : mg "repr" = none
  n_sorted : mg "sorted" = none
  n_str : mg "str" = none
  n_sum : mg "sum" = none
  n_tuple : mg "tuple" = none
  c_LETTERS : ∃ t, mg "LETTERS" = some (.str "abcdefghijklmnopqrstuvwxyz" t)
  c_LIMIT : ∃ t, mg "LIMIT" = some (.int (1000000000000) t)
  c_MAX_INTERVAL : ∃ t, mg "MAX_INTERVAL" = some (.int (32) t)
  c_MAX_LIFE : ∃ t, mg "MAX_LIFE" = some (.int (8) t)
  c_MAX_NAME : ∃ t, mg "MAX_NAME" = some (.int (8) t)
  c_MAX_VALUES : ∃ t, mg "MAX_VALUES" = some (.int (8) t)
  cl_Spans : ClsD K mg "Spans"
  no_Spans_own_interval : NoD K mg "Spans" "own_interval"
  no_Spans_own_rows : NoD K mg "Spans" "own_rows"
  ow_Spans : OwnD K mg "Spans"
  ox_Spans : OwnX K mg "Spans"
def ownCs : List Str := ["Spans"]
theorem Txt.allOwn {K : PySem.W.Frag} {mg : Str → Option Value} (T : Txt K mg) : ∀ c ∈ ownCs, OwnX K mg c := by
  intro c hc
  simp only [ownCs, List.mem_cons, List.not_mem_nil, or_false] at hc
  rcases hc with rfl
  exact T.ox_Spans
section
variable {P : Program} {w : World} {K : PySem.W.Frag} {mg : Str → Option Value} {base : Heap}
abbrev s_is_integer : Stmt := top 13
abbrev n_is_integer : List Str := ["value"]
theorem sc_is_integer : FnScope n_is_integer ["value"] (defScope s_is_integer) := ⟨rfl, rfl, rfl, by decide +kernel, rfl, by decide +kernel, by decide +kernel⟩
def w_is_integer : WS := (wRet (wAnd (wB (gIsiO ownCs) (waCons (wVar 0) (waCons (wC (.ty "int")) waNil))) (wAnd (wNot (wB (gIsiO ownCs) (waCons (wVar 0) (waCons (wC (.ty "bool")) waNil)))) (wCh gLt gLt (wNeg (wC (.int (1000000000000)))) (wVar 0) (wC (.int (1000000000000)))))))
theorem b_is_integer (T : Txt K mg)  {cdv : Value} {A : Around} {outer : List PySem.Env} {s : Shared} {H : Hp} {E : XK} {fa : Addr} (hr : Room 0 (A.deeper (envOfC "is_integer" (defScope s_is_integer) s.heap.objs.size fa cdv))) :
    SSs (cxOf (L2.CX P w) P w K mg base n_is_integer "is_integer" (defScope s_is_integer) fa cdv A outer s H E) (fun cls d _ H => E cls d H) (defBody s_is_integer) w_is_integer := by
  have tk : Takes (cxOf (L2.CX P w) P w K mg base n_is_integer "is_integer" (defScope s_is_integer) fa cdv A outer s H E) (fun cls d _ H => E cls d H) := takes_of rfl rfl rfl rfl
  have own := passes_of (X := cxOf (L2.CX P w) P w K mg base n_is_integer "is_integer" (defScope s_is_integer) fa cdv A outer s H E) rfl
  exact (ss_one (ss_ret (se_and (se_callB (cg_isiO T.allOwn) (by rfl) T.n_isinstance (by decide +kernel) (sa_cons (se_var 0) (sa_cons (se_ty (by rfl) T.n_int (by decide +kernel)) sa_nil))) (se_and (se_not (se_callB (cg_isiO T.allOwn) (by rfl) T.n_isinstance (by decide +kernel) (sa_cons (se_var 0) (sa_cons (se_ty (by rfl) T.n_bool (by decide +kernel)) sa_nil)))) (se_one (se_chain og_lt og_lt (se_neg (se_gint (by rfl) (T.c_LIMIT).choose_spec)) (se_var 0) (se_gint (by rfl) (T.c_LIMIT).choose_spec)))))))
abbrev s_is_within : Stmt := top 14
abbrev n_is_within : List Str := ["value", "least", "most"]
theorem sc_is_within : FnScope n_is_within ["value", "least", "most"] (defScope s_is_within) := ⟨rfl, rfl, rfl, by decide +kernel, rfl, by decide +kernel, by decide +kernel⟩
def w_is_within : WS := (wRet (wAnd (wCall (Pk.sp_is_integer ownCs) [false] (waCons (wVar 0) waNil)) (wCh gLe gLe (wVar 1) (wVar 0) (wVar 2))))
theorem b_is_within (T : Txt K mg) (d_is_integer : DefOk P w K mg base 1 "is_integer" (Pk.sp_is_integer ownCs)) {cdv : Value} {A : Around} {outer : List PySem.Env} {s : Shared} {H : Hp} {E : XK} {fa : Addr} (hr : Room 1 (A.deeper (envOfC "is_within" (defScope s_is_within) s.heap.objs.size fa cdv))) :
    SSs (cxOf (L2.CX P w) P w K mg base n_is_within "is_within" (defScope s_is_within) fa cdv A outer s H E) (fun cls d _ H => E cls d H) (defBody s_is_within) w_is_within := by
  have tk : Takes (cxOf (L2.CX P w) P w K mg base n_is_within "is_within" (defScope s_is_within) fa cdv A outer s H E) (fun cls d _ H => E cls d H) := takes_of rfl rfl rfl rfl
  have own := passes_of (X := cxOf (L2.CX P w) P w K mg base n_is_within "is_within" (defScope s_is_within) fa cdv A outer s H E) rfl
  exact (ss_one (ss_ret (se_and (se_call d_is_integer hr (by decide) (by rfl) tk [false] (sa_cons (se_var 0) sa_nil)) (se_one (se_chain og_le og_le (se_var 1) (se_var 0) (se_var 2))))))
abbrev s_require_within : Stmt := top 17
abbrev n_require_within : List Str := ["value", "least", "most"]
theorem sc_require_within : FnScope n_require_within ["value", "least", "most"] (defScope s_require_within) := ⟨rfl, rfl, rfl, by decide +kernel, rfl, by decide +kernel, by decide +kernel⟩
def w_require_within : WS := (wIfS (twNot (tVal (wCall (Pk.sp_is_within ownCs) [false, false, false] (waCons (wVar 0) (waCons (wVar 1) (waCons (wVar 2) waNil)))))) wNever wNext)
theorem b_require_within (T : Txt K mg) (d_is_within : DefOk P w K mg base 2 "is_within" (Pk.sp_is_within ownCs)) {cdv : Value} {A : Around} {outer : List PySem.Env} {s : Shared} {H : Hp} {E : XK} {fa : Addr} (hr : Room 2 (A.deeper (envOfC "require_within" (defScope s_require_within) s.heap.objs.size fa cdv))) :
    SSs (cxOf (L2.CX P w) P w K mg base n_require_within "require_within" (defScope s_require_within) fa cdv A outer s H E) (fun cls d _ H => E cls d H) (defBody s_require_within) w_require_within := by
  have tk : Takes (cxOf (L2.CX P w) P w K mg base n_require_within "require_within" (defScope s_require_within) fa cdv A outer s H E) (fun cls d _ H => E cls d H) := takes_of rfl rfl rfl rfl
  have own := passes_of (X := cxOf (L2.CX P w) P w K mg base n_require_within "require_within" (defScope s_require_within) fa cdv A outer s H E) rfl
  exact (ss_one (ss_if (st_not (st_val (se_call d_is_within hr (by decide) (by rfl) tk [false, false, false] (sa_cons (se_var 0) (sa_cons (se_var 1) (sa_cons (se_var 2) sa_nil)))))) (ss_one ss_never) ss_nil))
abbrev s_require_interval : Stmt := top 18
abbrev n_require_interval : List Str := ["value"]
theorem sc_require_interval : FnScope n_require_interval ["value"] (defScope s_require_interval) := ⟨rfl, rfl, rfl, by decide +kernel, rfl, by decide +kernel, by decide +kernel⟩
def w_require_interval : WS := (wDrop (wCall (Pk.sp_require_within ownCs) [false, false, false] (waCons (wVar 0) (waCons (wC (.int 1)) (waCons (wC (.int (32))) waNil)))))
theorem b_require_interval (T : Txt K mg) (d_require_within : DefOk P w K mg base 3 "require_within" (Pk.sp_require_within ownCs)) {cdv : Value} {A : Around} {outer : List PySem.Env} {s : Shared} {H : Hp} {E : XK} {fa : Addr} (hr : Room 3 (A.deeper (envOfC "require_interval" (defScope s_require_interval) s.heap.objs.size fa cdv))) :
    SSs (cxOf (L2.CX P w) P w K mg base n_require_interval "require_interval" (defScope s_require_interval) fa cdv A outer s H E) (fun cls d _ H => E cls d H) (defBody s_require_interval) w_require_interval := by
  have tk : Takes (cxOf (L2.CX P w) P w K mg base n_require_interval "require_interval" (defScope s_require_interval) fa cdv A outer s H E) (fun cls d _ H => E cls d H) := takes_of rfl rfl rfl rfl
  have own := passes_of (X := cxOf (L2.CX P w) P w K mg base n_require_interval "require_interval" (defScope s_require_interval) fa cdv A outer s H E) rfl
  exact (ss_one (ss_expr (se_call d_require_within hr (by decide) (by rfl) tk [false, false, false] (sa_cons (se_var 0) (sa_cons se_int (sa_cons (se_gint (by rfl) (T.c_MAX_INTERVAL).choose_spec) sa_nil))))))
abbrev s_is_name : Stmt := top 12
abbrev n_is_name : List Str := ["value", "letter"]
theorem sc_is_name : FnScope n_is_name ["value"] (defScope s_is_name) := ⟨rfl, rfl, rfl, by decide +kernel, rfl, by decide +kernel, by decide +kernel⟩
def w_is_name : WS := (wSeq (wIfS (twOr (twNot (tVal (wB (gIsiO ownCs) (waCons (wVar 0) (waCons (wC (.ty "str")) waNil))))) (twNot (twCh gLe gLe (wC (.int 1)) (wB gLen (waCons (wVar 0) waNil)) (wC (.int (8)))))) (wRet (wC (.bl false))) wNext)
  (wRet (wB gAll (waCons (wLc (wiSeq (wVar 0)) (gN 1) twYes (w2 gIn (wVar 1) (wC (.str "abcdefghijklmnopqrstuvwxyz"))) [1]) waNil))))
theorem b_is_name (T : Txt K mg)  {cdv : Value} {A : Around} {outer : List PySem.Env} {s : Shared} {H : Hp} {E : XK} {fa : Addr} (hr : Room 0 (A.deeper (envOfC "is_name" (defScope s_is_name) s.heap.objs.size fa cdv))) :
    SSs (cxOf (L2.CX P w) P w K mg base n_is_name "is_name" (defScope s_is_name) fa cdv A outer s H E) (fun cls d _ H => E cls d H) (defBody s_is_name) w_is_name := by
  have tk : Takes (cxOf (L2.CX P w) P w K mg base n_is_name "is_name" (defScope s_is_name) fa cdv A outer s H E) (fun cls d _ H => E cls d H) := takes_of rfl rfl rfl rfl
  have own := passes_of (X := cxOf (L2.CX P w) P w K mg base n_is_name "is_name" (defScope s_is_name) fa cdv A outer s H E) rfl
  exact (ss_cons (ss_if (SW.st (sw_or (st_not (st_val (se_callB (cg_isiO T.allOwn) (by rfl) T.n_isinstance (by decide +kernel) (sa_cons (se_var 0) (sa_cons (se_ty (by rfl) T.n_str (by decide +kernel)) sa_nil))))) (sw_or1 (st_not (st_chain og_le og_le se_int (se_callB cg_len (by rfl) T.n_len (by decide +kernel) (sa_cons (se_var 0) sa_nil)) (se_gint (by rfl) (T.c_MAX_NAME).choose_spec)))))) (ss_one (ss_ret se_bl)) ss_nil)
      (ss_one (ss_ret (se_callB (cg_all rfl) (by rfl) T.n_all (by decide +kernel) (sa_cons (se_lc (own := [("letter", 1)]) rfl sc_is_name.nd (se_seq (se_var 0)) (blkOk_by (N := n_is_name) (sc := defScope s_is_name) (own := [("letter", 1)]) (by decide +kernel)) (fun _ _ _ _ _ => (sg_name (i := 1) sc_is_name.nd)) (fun _ _ _ _ _ => sts_nil) (fun _ _ _ _ _ => (se_cmp og_in (se_var 1) (se_gstr (by rfl) (T.c_LETTERS).choose_spec))) (by decide)) sa_nil)))))
abbrev s_is_span : Stmt := top 24
abbrev n_is_span : List Str := ["value", "interval"]
theorem sc_is_span : FnScope n_is_span ["value", "interval"] (defScope s_is_span) := ⟨rfl, rfl, rfl, by decide +kernel, rfl, by decide +kernel, by decide +kernel⟩
def w_is_span : WS := (wSeq (wIfS (twOr (twNot (tVal (wB (gIsiO ownCs) (waCons (wVar 0) (waCons (wC (.ty "tuple")) waNil))))) (twOr (tw2 (gEqZ true) (wB gLen (waCons (wVar 0) waNil)) (wC (.int 2))) (twOr (twNot (tVal (wCall (Pk.sp_is_integer ownCs) [false] (waCons (w2 gIx (wVar 0) (wC (.int 0))) waNil)))) (twNot (tVal (wCall (Pk.sp_is_integer ownCs) [false] (waCons (w2 gIx (wVar 0) (wC (.int 1))) waNil))))))) (wRet (wC (.bl false))) wNext)
  (wRet (wCh gLe gLe (wC (.int 1)) (w2 gSub (w2 gIx (wVar 0) (wC (.int 1))) (w2 gIx (wVar 0) (wC (.int 0)))) (w2 gMulA (wC (.int (8))) (wVar 1)))))
theorem b_is_span (T : Txt K mg) (d_is_integer : DefOk P w K mg base 1 "is_integer" (Pk.sp_is_integer ownCs)) {cdv : Value} {A : Around} {outer : List PySem.Env} {s : Shared} {H : Hp} {E : XK} {fa : Addr} (hr : Room 1 (A.deeper (envOfC "is_span" (defScope s_is_span) s.heap.objs.size fa cdv))) :
    SSs (cxOf (L2.CX P w) P w K mg base n_is_span "is_span" (defScope s_is_span) fa cdv A outer s H E) (fun cls d _ H => E cls d H) (defBody s_is_span) w_is_span := by
  have tk : Takes (cxOf (L2.CX P w) P w K mg base n_is_span "is_span" (defScope s_is_span) fa cdv A outer s H E) (fun cls d _ H => E cls d H) := takes_of rfl rfl rfl rfl
  have own := passes_of (X := cxOf (L2.CX P w) P w K mg base n_is_span "is_span" (defScope s_is_span) fa cdv A outer s H E) rfl
  exact (ss_cons (ss_if (SW.st (sw_or (st_not (st_val (se_callB (cg_isiO T.allOwn) (by rfl) T.n_isinstance (by decide +kernel) (sa_cons (se_var 0) (sa_cons (se_ty (by rfl) T.n_tuple (by decide +kernel)) sa_nil))))) (sw_or (st_cmp (og_neZ hr) (se_callB cg_len (by rfl) T.n_len (by decide +kernel) (sa_cons (se_var 0) sa_nil)) se_int) (sw_or (st_not (st_val (se_call d_is_integer hr (by decide) (by rfl) tk [false] (sa_cons (se_ix ig_ix (se_var 0) se_int) sa_nil)))) (sw_or1 (st_not (st_val (se_call d_is_integer hr (by decide) (by rfl) tk [false] (sa_cons (se_ix ig_ix (se_var 0) se_int) sa_nil))))))))) (ss_one (ss_ret se_bl)) ss_nil)
      (ss_one (ss_ret (se_chain og_le og_le se_int (se_bin og_sub (se_ix ig_ix (se_var 0) se_int) (se_ix ig_ix (se_var 0) se_int)) (se_bin og_mulA (se_gint (by rfl) (T.c_MAX_LIFE).choose_spec) (se_var 1))))))
abbrev s_are_rows : Stmt := top 25
abbrev n_are_rows : List Str := ["value", "interval", "name"]
theorem sc_are_rows : FnScope n_are_rows ["value", "interval"] (defScope s_are_rows) := ⟨rfl, rfl, rfl, by decide +kernel, rfl, by decide +kernel, by decide +kernel⟩
def w_are_rows : WS := (wSeq (wIfS (twOr (twNot (tVal (wB (gIsiO ownCs) (waCons (wVar 0) (waCons (wC (.ty "dict")) waNil))))) (twNot (twCh gLe gLe (wC (.int 1)) (wB gLen (waCons (wVar 0) waNil)) (wC (.int (8)))))) (wRet (wC (.bl false))) wNext)
  (wRet (wB gAll (waCons (wLcD mkK (pVar 0) (gN 2) twYes (wAnd (wCall (Pk.sp_is_name ownCs) [false] (waCons (wVar 2) waNil)) (wCall (Pk.sp_is_span ownCs) [false, false] (waCons (wDGet (wVar 0) (wVar 2)) (waCons (wVar 1) waNil)))) [2]) waNil))))
theorem b_are_rows (T : Txt K mg) (d_is_name : DefOk P w K mg base 1 "is_name" (Pk.sp_is_name ownCs)) (d_is_span : DefOk P w K mg base 2 "is_span" (Pk.sp_is_span ownCs)) {cdv : Value} {A : Around} {outer : List PySem.Env} {s : Shared} {H : Hp} {E : XK} {fa : Addr} (hr : Room 2 (A.deeper (envOfC "are_rows" (defScope s_are_rows) s.heap.objs.size fa cdv))) :
    SSs (cxOf (L2.CX P w) P w K mg base n_are_rows "are_rows" (defScope s_are_rows) fa cdv A outer s H E) (fun cls d _ H => E cls d H) (defBody s_are_rows) w_are_rows := by
  have tk : Takes (cxOf (L2.CX P w) P w K mg base n_are_rows "are_rows" (defScope s_are_rows) fa cdv A outer s H E) (fun cls d _ H => E cls d H) := takes_of rfl rfl rfl rfl
  have own := passes_of (X := cxOf (L2.CX P w) P w K mg base n_are_rows "are_rows" (defScope s_are_rows) fa cdv A outer s H E) rfl
  exact (ss_cons (ss_if (SW.st (sw_or (st_not (st_val (se_callB (cg_isiO T.allOwn) (by rfl) T.n_isinstance (by decide +kernel) (sa_cons (se_var 0) (sa_cons (se_ty (by rfl) T.n_dict (by decide +kernel)) sa_nil))))) (sw_or1 (st_not (st_chain og_le og_le se_int (se_callB cg_len (by rfl) T.n_len (by decide +kernel) (sa_cons (se_var 0) sa_nil)) (se_gint (by rfl) (T.c_MAX_VALUES).choose_spec)))))) (ss_one (ss_ret se_bl)) ss_nil)
      (ss_one (ss_ret (se_callB (cg_all rfl) (by rfl) T.n_all (by decide +kernel) (sa_cons (se_lcK (own := [("name", 2)]) rfl sc_are_rows.nd (pe_var (i := 0) (by rfl) (by first | exact Or.inl rfl | exact Or.inr (Or.inl rfl) | exact Or.inr (Or.inr rfl)) (by decide) (by decide)) (path_var 0) (blkOk_by (N := n_are_rows) (sc := defScope s_are_rows) (own := [("name", 2)]) (by decide +kernel)) (fun _ _ _ _ _ => (sg_name (i := 2) sc_are_rows.nd)) (fun _ _ _ _ _ => sts_nil) (fun _ _ _ _ _ => (se_and (se_call d_is_name hr (by decide) (by rfl) takes0 [false] (sa_cons (se_var 2) sa_nil)) (se_one (se_call d_is_span hr (by decide) (by rfl) takes0 [false, false] (sa_cons (se_dget hr (se_var 0) (se_var 2)) (sa_cons (se_var 1) sa_nil)))))) (by decide)) sa_nil)))))
abbrev s_Spans___init__ : Stmt := inClass (top 30) 0
abbrev n_Spans___init__ : List Str := ["self", "interval", "rows", "name"]
theorem sc_Spans___init__ : FnScope n_Spans___init__ ["self", "interval", "rows"] (defScope s_Spans___init__) := ⟨rfl, rfl, rfl, by decide +kernel, rfl, by decide +kernel, by decide +kernel⟩
def w_Spans___init__ : WS := (wCut (wDrop (wCall (Pk.sp_require_interval ownCs) [false] (waCons (wVar 1) waNil)))
  (wCut (wIfS (twNot (tVal (wBorrow 2 (wCall Pk.sp_are_rows [false, false] (waCons (wVar 2) (waCons (wVar 1) waNil)))))) wNever wNext)
  (wCut (wSetF "Spans" 0 "own_interval" (wVar 1))
  (wSetF "Spans" 0 "own_rows" (wDc (wiSeq (wB gSorted (waCons (wB gListS (waCons (wVar 2) waNil)) waNil))) (gN 3) twYes (wVar 3) (wDGet (wVar 2) (wVar 3)) [3])))))
theorem b_Spans___init__ (T : Txt K mg) (d_require_interval : DefOk P w K mg base 4 "require_interval" (Pk.sp_require_interval ownCs)) (d_are_rows : DefOk P w K mg base 3 "are_rows" Pk.sp_are_rows) {cdv : Value} {A : Around} {outer : List PySem.Env} {s : Shared} {H : Hp} {E : XK} {fa : Addr} (hr : Room 4 (A.deeper (envOfC "Spans.__init__" (defScope s_Spans___init__) s.heap.objs.size fa cdv))) :
    SSs (cxOf (L2.CX P w) P w K mg base n_Spans___init__ "Spans.__init__" (defScope s_Spans___init__) fa cdv A outer s H E) (fun cls d _ H => E cls d H) (defBody s_Spans___init__) w_Spans___init__ := by
  have tk : Takes (cxOf (L2.CX P w) P w K mg base n_Spans___init__ "Spans.__init__" (defScope s_Spans___init__) fa cdv A outer s H E) (fun cls d _ H => E cls d H) := takes_of rfl rfl rfl rfl
  have own := passes_of (X := cxOf (L2.CX P w) P w K mg base n_Spans___init__ "Spans.__init__" (defScope s_Spans___init__) fa cdv A outer s H E) rfl
  exact (ss_cut (ss_expr (se_call d_require_interval hr (by decide) (by rfl) tk [false] (sa_cons (se_var 1) sa_nil)))
      (ss_cut (ss_if (st_not (st_val (se_borrow 2 (se_call d_are_rows hr (by decide) (by rfl) tk [false, false] (sa_cons (se_var 2) (sa_cons (se_var 1) sa_nil)))))) (ss_one ss_never) ss_nil)
      (ss_cut (ss_setF 0 T.cl_Spans T.no_Spans_own_interval (se_var 1))
      (ss_one (ss_setF 0 T.cl_Spans T.no_Spans_own_rows (se_dc (own := [("name", 3)]) rfl sc_Spans___init__.nd (se_seq (se_callB (cg_sorted rfl) (by rfl) T.n_sorted (by decide +kernel) (sa_cons (se_callTy (cg_listS rfl) (by rfl) T.n_list (by decide +kernel) (sa_cons (se_var 2) sa_nil)) sa_nil))) (blkOk_by (N := n_Spans___init__) (sc := defScope s_Spans___init__) (own := [("name", 3)]) (by decide +kernel)) (fun _ _ _ _ _ => (sg_name (i := 3) sc_Spans___init__.nd)) (fun _ _ _ _ _ => sts_nil) (fun _ _ _ _ _ => (se_var 3)) (fun _ _ _ _ _ => (se_dget hr (se_var 2) (se_var 3))) (by decide)))))))
abbrev s_Spans_names : Stmt := inClass (top 30) 3
abbrev n_Spans_names : List Str := ["self"]
theorem sc_Spans_names : FnScope n_Spans_names ["self"] (defScope s_Spans_names) := ⟨rfl, rfl, rfl, by decide +kernel, rfl, by decide +kernel, by decide +kernel⟩
def w_Spans_names : WS := (wRet (wB gTuple (waCons (wB gListS (waCons (wFld "Spans" "own_rows" (wVar 0)) waNil)) waNil)))
theorem b_Spans_names (T : Txt K mg)  {cdv : Value} {A : Around} {outer : List PySem.Env} {s : Shared} {H : Hp} {E : XK} {fa : Addr} (hr : Room 0 (A.deeper (envOfC "Spans.names" (defScope s_Spans_names) s.heap.objs.size fa cdv))) :
    SSs (cxOf (L2.CX P w) P w K mg base n_Spans_names "Spans.names" (defScope s_Spans_names) fa cdv A outer s H E) (fun cls d _ H => E cls d H) (defBody s_Spans_names) w_Spans_names := by
  have tk : Takes (cxOf (L2.CX P w) P w K mg base n_Spans_names "Spans.names" (defScope s_Spans_names) fa cdv A outer s H E) (fun cls d _ H => E cls d H) := takes_of rfl rfl rfl rfl
  have own := passes_of (X := cxOf (L2.CX P w) P w K mg base n_Spans_names "Spans.names" (defScope s_Spans_names) fa cdv A outer s H E) rfl
  exact (ss_one (ss_ret (se_callTy cg_tuple (by rfl) T.n_tuple (by decide +kernel) (sa_cons (se_callTy (cg_listS rfl) (by rfl) T.n_list (by decide +kernel) (sa_cons (se_fld T.cl_Spans T.no_Spans_own_rows (se_var 0)) sa_nil)) sa_nil))))
abbrev s_Spans_rows : Stmt := inClass (top 30) 2
abbrev n_Spans_rows : List Str := ["self"]
theorem sc_Spans_rows : FnScope n_Spans_rows ["self"] (defScope s_Spans_rows) := ⟨rfl, rfl, rfl, by decide +kernel, rfl, by decide +kernel, by decide +kernel⟩
def w_Spans_rows : WS := (wRet (wB gDictC (waCons (wFld "Spans" "own_rows" (wVar 0)) waNil)))
theorem b_Spans_rows (T : Txt K mg)  {cdv : Value} {A : Around} {outer : List PySem.Env} {s : Shared} {H : Hp} {E : XK} {fa : Addr} (hr : Room 0 (A.deeper (envOfC "Spans.rows" (defScope s_Spans_rows) s.heap.objs.size fa cdv))) :
    SSs (cxOf (L2.CX P w) P w K mg base n_Spans_rows "Spans.rows" (defScope s_Spans_rows) fa cdv A outer s H E) (fun cls d _ H => E cls d H) (defBody s_Spans_rows) w_Spans_rows := by
  have tk : Takes (cxOf (L2.CX P w) P w K mg base n_Spans_rows "Spans.rows" (defScope s_Spans_rows) fa cdv A outer s H E) (fun cls d _ H => E cls d H) := takes_of rfl rfl rfl rfl
  have own := passes_of (X := cxOf (L2.CX P w) P w K mg base n_Spans_rows "Spans.rows" (defScope s_Spans_rows) fa cdv A outer s H E) rfl
  exact (ss_one (ss_ret (se_callTy cg_dictC (by rfl) T.n_dict (by decide +kernel) (sa_cons (se_fld T.cl_Spans T.no_Spans_own_rows (se_var 0)) sa_nil))))
abbrev s_Spans_total : Stmt := inClass (top 30) 6
abbrev n_Spans_total : List Str := ["self", "begin", "end"]
theorem sc_Spans_total : FnScope n_Spans_total ["self"] (defScope s_Spans_total) := ⟨rfl, rfl, rfl, by decide +kernel, rfl, by decide +kernel, by decide +kernel⟩
def w_Spans_total : WS := (wRet (wB gSum (waCons (wLc (wiSeq (wVals (wFld "Spans" "own_rows" (wVar 0)))) (gT (gsCons (gN 1) (gsCons (gN 2) gsNil))) twYes (w2 gSub (wVar 2) (wVar 1)) [1, 2]) waNil)))
theorem b_Spans_total (T : Txt K mg)  {cdv : Value} {A : Around} {outer : List PySem.Env} {s : Shared} {H : Hp} {E : XK} {fa : Addr} (hr : Room 0 (A.deeper (envOfC "Spans.total" (defScope s_Spans_total) s.heap.objs.size fa cdv))) :
    SSs (cxOf (L2.CX P w) P w K mg base n_Spans_total "Spans.total" (defScope s_Spans_total) fa cdv A outer s H E) (fun cls d _ H => E cls d H) (defBody s_Spans_total) w_Spans_total := by
  have tk : Takes (cxOf (L2.CX P w) P w K mg base n_Spans_total "Spans.total" (defScope s_Spans_total) fa cdv A outer s H E) (fun cls d _ H => E cls d H) := takes_of rfl rfl rfl rfl
  have own := passes_of (X := cxOf (L2.CX P w) P w K mg base n_Spans_total "Spans.total" (defScope s_Spans_total) fa cdv A outer s H E) rfl
  exact (ss_one (ss_ret (se_callB (cg_sum rfl) (by rfl) T.n_sum (by decide +kernel) (sa_cons (se_lc (own := [("begin", 1), ("end", 2)]) rfl sc_Spans_total.nd (se_seq (se_vals rfl (se_fld T.cl_Spans T.no_Spans_own_rows (se_var 0)) (by rfl) T.n_list)) (blkOk_by (N := n_Spans_total) (sc := defScope s_Spans_total) (own := [("begin", 1), ("end", 2)]) (by decide +kernel)) (fun _ _ _ _ _ => (sg_tup rfl (sgs_cons (sg_name (i := 1) sc_Spans_total.nd) (sgs_cons (sg_name (i := 2) sc_Spans_total.nd) sgs_nil)) (lenGs_c (lenGs_c lenGs_nil one_gN) one_gN))) (fun _ _ _ _ _ => sts_nil) (fun _ _ _ _ _ => (se_bin og_sub (se_var 2) (se_var 1))) (by decide)) sa_nil))))
abbrev s_Spans___len__ : Stmt := inClass (top 30) 17
abbrev n_Spans___len__ : List Str := ["self"]
theorem sc_Spans___len__ : FnScope n_Spans___len__ ["self"] (defScope s_Spans___len__) := ⟨rfl, rfl, rfl, by decide +kernel, rfl, by decide +kernel, by decide +kernel⟩
def w_Spans___len__ : WS := (wRet (wB gLen (waCons (wFld "Spans" "own_rows" (wVar 0)) waNil)))
theorem b_Spans___len__ (T : Txt K mg)  {cdv : Value} {A : Around} {outer : List PySem.Env} {s : Shared} {H : Hp} {E : XK} {fa : Addr} (hr : Room 0 (A.deeper (envOfC "Spans.__len__" (defScope s_Spans___len__) s.heap.objs.size fa cdv))) :
    SSs (cxOf (L2.CX P w) P w K mg base n_Spans___len__ "Spans.__len__" (defScope s_Spans___len__) fa cdv A outer s H E) (fun cls d _ H => E cls d H) (defBody s_Spans___len__) w_Spans___len__ := by
  have tk : Takes (cxOf (L2.CX P w) P w K mg base n_Spans___len__ "Spans.__len__" (defScope s_Spans___len__) fa cdv A outer s H E) (fun cls d _ H => E cls d H) := takes_of rfl rfl rfl rfl
  have own := passes_of (X := cxOf (L2.CX P w) P w K mg base n_Spans___len__ "Spans.__len__" (defScope s_Spans___len__) fa cdv A outer s H E) rfl
  exact (ss_one (ss_ret (se_callB cg_len (by rfl) T.n_len (by decide +kernel) (sa_cons (se_fld T.cl_Spans T.no_Spans_own_rows (se_var 0)) sa_nil))))
abbrev s_Spans___contains__ : Stmt := inClass (top 30) 16
abbrev n_Spans___contains__ : List Str := ["self", "value"]
theorem sc_Spans___contains__ : FnScope n_Spans___contains__ ["self", "value"] (defScope s_Spans___contains__) := ⟨rfl, rfl, rfl, by decide +kernel, rfl, by decide +kernel, by decide +kernel⟩
def w_Spans___contains__ : WS := (wRet (wAnd (wCall (Pk.sp_is_name ownCs) [false] (waCons (wVar 1) waNil)) (wDIn false (wVar 1) (wFld "Spans" "own_rows" (wVar 0)))))
theorem b_Spans___contains__ (T : Txt K mg) (d_is_name : DefOk P w K mg base 1 "is_name" (Pk.sp_is_name ownCs)) {cdv : Value} {A : Around} {outer : List PySem.Env} {s : Shared} {H : Hp} {E : XK} {fa : Addr} (hr : Room 1 (A.deeper (envOfC "Spans.__contains__" (defScope s_Spans___contains__) s.heap.objs.size fa cdv))) :
    SSs (cxOf (L2.CX P w) P w K mg base n_Spans___contains__ "Spans.__contains__" (defScope s_Spans___contains__) fa cdv A outer s H E) (fun cls d _ H => E cls d H) (defBody s_Spans___contains__) w_Spans___contains__ := by
  have tk : Takes (cxOf (L2.CX P w) P w K mg base n_Spans___contains__ "Spans.__contains__" (defScope s_Spans___contains__) fa cdv A outer s H E) (fun cls d _ H => E cls d H) := takes_of rfl rfl rfl rfl
  have own := passes_of (X := cxOf (L2.CX P w) P w K mg base n_Spans___contains__ "Spans.__contains__" (defScope s_Spans___contains__) fa cdv A outer s H E) rfl
  exact (ss_one (ss_ret (se_and (se_call d_is_name hr (by decide) (by rfl) tk [false] (sa_cons (se_var 1) sa_nil)) (se_one (se_din hr (se_var 1) (se_fld T.cl_Spans T.no_Spans_own_rows (se_var 0)))))))
abbrev s_Spans___getitem__ : Stmt := inClass (top 30) 15
abbrev n_Spans___getitem__ : List Str := ["self", "name"]
theorem sc_Spans___getitem__ : FnScope n_Spans___getitem__ ["self", "name"] (defScope s_Spans___getitem__) := ⟨rfl, rfl, rfl, by decide +kernel, rfl, by decide +kernel, by decide +kernel⟩
def w_Spans___getitem__ : WS := (wSeq (wIfS (twX (wOwnIn "Spans" (Pk.sp_Spans___contains__ ownCs) true (wVar 1) (wVar 0))) wNever wNext)
  (wRet (wDGet (wFld "Spans" "own_rows" (wVar 0)) (wVar 1))))
theorem b_Spans___getitem__ (T : Txt K mg) (d_Spans___contains__ : SpecD P w K mg base 2 "Spans" "__contains__" (Pk.sp_Spans___contains__ ownCs)) {cdv : Value} {A : Around} {outer : List PySem.Env} {s : Shared} {H : Hp} {E : XK} {fa : Addr} (hr : Room 4 (A.deeper (envOfC "Spans.__getitem__" (defScope s_Spans___getitem__) s.heap.objs.size fa cdv))) :
    SSs (cxOf (L2.CX P w) P w K mg base n_Spans___getitem__ "Spans.__getitem__" (defScope s_Spans___getitem__) fa cdv A outer s H E) (fun cls d _ H => E cls d H) (defBody s_Spans___getitem__) w_Spans___getitem__ := by
  have tk : Takes (cxOf (L2.CX P w) P w K mg base n_Spans___getitem__ "Spans.__getitem__" (defScope s_Spans___getitem__) fa cdv A outer s H E) (fun cls d _ H => E cls d H) := takes_of rfl rfl rfl rfl
  have own := passes_of (X := cxOf (L2.CX P w) P w K mg base n_Spans___getitem__ "Spans.__getitem__" (defScope s_Spans___getitem__) fa cdv A outer s H E) rfl
  exact (ss_cons (ss_if (st_ownNotIn d_Spans___contains__ hr (by decide) (se_var 1) (se_var 0)) (ss_one ss_never) ss_nil)
      (ss_one (ss_ret (se_dget hr (se_fld T.cl_Spans T.no_Spans_own_rows (se_var 0)) (se_var 1)))))
abbrev s_slot_in : Stmt := top 19
abbrev n_slot_in : List Str := ["tick", "interval"]
theorem sc_slot_in : FnScope n_slot_in ["tick", "interval"] (defScope s_slot_in) := ⟨rfl, rfl, rfl, by decide +kernel, rfl, by decide +kernel, by decide +kernel⟩
def w_slot_in : WS := (wRet (w2 gMod (wVar 0) (wVar 1)))
theorem b_slot_in (T : Txt K mg)  {cdv : Value} {A : Around} {outer : List PySem.Env} {s : Shared} {H : Hp} {E : XK} {fa : Addr} (hr : Room 0 (A.deeper (envOfC "slot_in" (defScope s_slot_in) s.heap.objs.size fa cdv))) :
    SSs (cxOf (L2.CX P w) P w K mg base n_slot_in "slot_in" (defScope s_slot_in) fa cdv A outer s H E) (fun cls d _ H => E cls d H) (defBody s_slot_in) w_slot_in := by
  have tk : Takes (cxOf (L2.CX P w) P w K mg base n_slot_in "slot_in" (defScope s_slot_in) fa cdv A outer s H E) (fun cls d _ H => E cls d H) := takes_of rfl rfl rfl rfl
  have own := passes_of (X := cxOf (L2.CX P w) P w K mg base n_slot_in "slot_in" (defScope s_slot_in) fa cdv A outer s H E) rfl
  exact (ss_one (ss_ret (se_bin og_mod (se_var 0) (se_var 1))))
abbrev s_Spans_normal : Stmt := inClass (top 30) 8
abbrev n_Spans_normal : List Str := ["self", "shifts", "rows", "name", "begin", "end"]
theorem sc_Spans_normal : FnScope n_Spans_normal ["self"] (defScope s_Spans_normal) := ⟨rfl, rfl, rfl, by decide +kernel, rfl, by decide +kernel, by decide +kernel⟩
def w_Spans_normal : WS := (wCut (wAsg 1 (wDcD mkI (pFld 0 "Spans" "own_rows") (gT (gsCons (gN 3) (gsCons (gT (gsCons (gN 4) (gsCons (gN 5) gsNil))) gsNil))) twYes (wVar 3) (w2 gSub (wCall Pk.sp_slot_in [false, false] (waCons (wVar 4) (waCons (wFld "Spans" "own_interval" (wVar 0)) waNil))) (wVar 4)) [3, 4, 5]))
  (wCut (wAsg 2 (wDcD mkI (pFld 0 "Spans" "own_rows") (gT (gsCons (gN 3) (gsCons (gT (gsCons (gN 4) (gsCons (gN 5) gsNil))) gsNil))) twYes (wVar 3) (wTup (waCons (w2 gAdd (wVar 4) (wDGet (wVar 1) (wVar 3))) (waCons (w2 gAdd (wVar 5) (wDGet (wVar 1) (wVar 3))) waNil))) [3, 4, 5]))
  (wRet (wMake "Spans" Pk.sp_Spans___init__ [false, true] (waCons (wFld "Spans" "own_interval" (wVar 0)) (waCons (wVar 2) waNil))))))
theorem b_Spans_normal (T : Txt K mg) (d_Spans___init__ : MakeD P w K mg base 5 "Spans" Pk.sp_Spans___init__) (d_slot_in : DefOk P w K mg base 1 "slot_in" Pk.sp_slot_in) {cdv : Value} {A : Around} {outer : List PySem.Env} {s : Shared} {H : Hp} {E : XK} {fa : Addr} (hr : Room 6 (A.deeper (envOfC "Spans.normal" (defScope s_Spans_normal) s.heap.objs.size fa cdv))) :
    SSs (cxOf (L2.CX P w) P w K mg base n_Spans_normal "Spans.normal" (defScope s_Spans_normal) fa cdv A outer s H E) (fun cls d _ H => E cls d H) (defBody s_Spans_normal) w_Spans_normal := by
  have tk : Takes (cxOf (L2.CX P w) P w K mg base n_Spans_normal "Spans.normal" (defScope s_Spans_normal) fa cdv A outer s H E) (fun cls d _ H => E cls d H) := takes_of rfl rfl rfl rfl
  have own := passes_of (X := cxOf (L2.CX P w) P w K mg base n_Spans_normal "Spans.normal" (defScope s_Spans_normal) fa cdv A outer s H E) rfl
  exact (ss_cut (ss_asg (i := 1) sc_Spans_normal.nd (se_dcI (own := [("name", 3), ("begin", 4), ("end", 5)]) rfl sc_Spans_normal.nd (pe_fld (pe_var (i := 0) (by rfl) (by first | exact Or.inl rfl | exact Or.inr (Or.inl rfl) | exact Or.inr (Or.inr rfl)) (by decide) (by decide)) rfl) (path_fld 0 T.cl_Spans T.no_Spans_own_rows) (blkOk_by (N := n_Spans_normal) (sc := defScope s_Spans_normal) (own := [("name", 3), ("begin", 4), ("end", 5)]) (by decide +kernel)) (fun _ _ _ _ _ => (sg_tup rfl (sgs_cons (sg_name (i := 3) sc_Spans_normal.nd) (sgs_cons (sg_tup rfl (sgs_cons (sg_name (i := 4) sc_Spans_normal.nd) (sgs_cons (sg_name (i := 5) sc_Spans_normal.nd) sgs_nil)) (lenGs_c (lenGs_c lenGs_nil one_gN) one_gN)) sgs_nil)) (lenGs_c (lenGs_c lenGs_nil (one_gT (ones_c one_gN (ones_c one_gN ones_nil)))) one_gN))) (fun _ _ _ _ _ => sts_nil) (fun _ _ _ _ _ => (se_var 3)) (fun _ _ _ _ _ => (se_bin og_sub (se_call d_slot_in hr (by decide) (by rfl) takes0 [false, false] (sa_cons (se_var 4) (sa_cons (se_fld T.cl_Spans T.no_Spans_own_interval (se_var 0)) sa_nil))) (se_var 4))) (by decide)))
      (ss_cut (ss_setDcI (own := [("name", 3), ("begin", 4), ("end", 5)]) (i := 2) rfl sc_Spans_normal.nd (pe_fld (pe_var (i := 0) (by rfl) (by first | exact Or.inl rfl | exact Or.inr (Or.inl rfl) | exact Or.inr (Or.inr rfl)) (by decide) (by decide)) rfl) (path_fld 0 T.cl_Spans T.no_Spans_own_rows) (blkOk_by (N := n_Spans_normal) (sc := defScope s_Spans_normal) (own := [("name", 3), ("begin", 4), ("end", 5)]) (by decide +kernel)) (fun _ _ _ _ _ => (sg_tup rfl (sgs_cons (sg_name (i := 3) sc_Spans_normal.nd) (sgs_cons (sg_tup rfl (sgs_cons (sg_name (i := 4) sc_Spans_normal.nd) (sgs_cons (sg_name (i := 5) sc_Spans_normal.nd) sgs_nil)) (lenGs_c (lenGs_c lenGs_nil one_gN) one_gN)) sgs_nil)) (lenGs_c (lenGs_c lenGs_nil (one_gT (ones_c one_gN (ones_c one_gN ones_nil)))) one_gN))) (fun _ _ _ _ _ => sts_nil) (fun _ _ _ _ _ => (se_var 3)) (fun _ _ _ _ _ => (se_tup (sa_cons (se_bin og_add (se_var 4) (se_dget hr (se_var 1) (se_var 3))) (sa_cons (se_bin og_add (se_var 5) (se_dget hr (se_var 1) (se_var 3))) sa_nil)))) (by decide))
      (ss_one (ss_ret (se_make d_Spans___init__ hr (by decide) (by rfl) [false, true] (sa_cons (se_fld T.cl_Spans T.no_Spans_own_interval (se_var 0)) (sa_cons (se_var 2) sa_nil)))))))
abbrev s__law_roll : Stmt := top 34
abbrev n__law_roll : List Str := ["tray", "total", "found", "one", "two"]
theorem sc__law_roll : FnScope n__law_roll ["tray", "total"] (defScope s__law_roll) := ⟨rfl, rfl, rfl, by decide +kernel, rfl, by decide +kernel, by decide +kernel⟩
def w__law_roll : WS := (wCut (wIfS (tw2 gGt (w2 gIx (wVar 0) (wC (.int 0))) (wC (.int 0))) (wCut (wAsg 2 (w2 gMod (wB gInt (waCons (w2 gIx (wVar 0) (wC (.int 0))) waNil)) (wVar 1)))
  (wCut (wSetL 0 (wC (.int 0)) (w2 gDiv (w2 gIx (wVar 0) (wC (.int 0))) (wVar 1)))
  (wRet (wVar 2)))) wNext)
  (wCut (wSetL 0 (wC (.int 2)) (w2 gAdd (w2 gIx (wVar 0) (wC (.int 2))) (wC (.int 1))))
  (wCut (wAsg 3 (w2 gMod (wB gInt (waCons (w2 gAdd (w2 gIx (wVar 0) (wC (.int 1))) (w2 gMulA (wC (.int 922337203)) (w2 gIx (wVar 0) (wC (.int 2))))) waNil)) (wC (.int 2305843009213693951))))
  (wCut (wAsg 4 (w2 gAdd (w2 gMulA (w2 gMod (wB gInt (waCons (w2 gMulA (wVar 3) (wVar 3)) waNil)) (wC (.int 1152921504606846697))) (wVar 3)) (w2 gMulA (wC (.int 6047)) (w2 gIx (wVar 0) (wC (.int 2))))))
  (wRet (w2 gMod (wB gInt (waCons (w2 gDiv (w2 gMod (wB gInt (waCons (w2 gAdd (wVar 4) (w2 gIx (wVar 0) (wC (.int 1)))) waNil)) (wC (.int 4398046511093))) (wC (.int 128))) waNil)) (wVar 1)))))))
theorem b__law_roll (T : Txt K mg)  {cdv : Value} {A : Around} {outer : List PySem.Env} {s : Shared} {H : Hp} {E : XK} {fa : Addr} (hr : Room 0 (A.deeper (envOfC "_law_roll" (defScope s__law_roll) s.heap.objs.size fa cdv))) :
    SSs (cxOf (L2.CX P w) P w K mg base n__law_roll "_law_roll" (defScope s__law_roll) fa cdv A outer s H E) (fun cls d _ H => E cls d H) (defBody s__law_roll) w__law_roll := by
  have tk : Takes (cxOf (L2.CX P w) P w K mg base n__law_roll "_law_roll" (defScope s__law_roll) fa cdv A outer s H E) (fun cls d _ H => E cls d H) := takes_of rfl rfl rfl rfl
  have own := passes_of (X := cxOf (L2.CX P w) P w K mg base n__law_roll "_law_roll" (defScope s__law_roll) fa cdv A outer s H E) rfl
  exact (ss_cut (ss_if (st_cmp og_gt (se_ix ig_ix (se_var 0) se_int) se_int) (ss_cut (ss_asg (i := 2) sc__law_roll.nd (se_bin og_mod (se_callTy cg_int (by rfl) T.n_int (by decide +kernel) (sa_cons (se_ix ig_ix (se_var 0) se_int) sa_nil)) (se_var 1)))
      (ss_cut (ss_setL 0 (se_bin og_div (se_ix ig_ix (se_var 0) se_int) (se_var 1)) se_int)
      (ss_one (ss_ret (se_var 2))))) ss_nil)
      (ss_cut (ss_setL 0 (se_bin og_add (se_ix ig_ix (se_var 0) se_int) se_int) se_int)
      (ss_cut (ss_asg (i := 3) sc__law_roll.nd (se_bin og_mod (se_callTy cg_int (by rfl) T.n_int (by decide +kernel) (sa_cons (se_bin og_add (se_ix ig_ix (se_var 0) se_int) (se_bin og_mulA se_int (se_ix ig_ix (se_var 0) se_int))) sa_nil)) se_int))
      (ss_cut (ss_asg (i := 4) sc__law_roll.nd (se_bin og_add (se_bin og_mulA (se_bin og_mod (se_callTy cg_int (by rfl) T.n_int (by decide +kernel) (sa_cons (se_bin og_mulA (se_var 3) (se_var 3)) sa_nil)) se_int) (se_var 3)) (se_bin og_mulA se_int (se_ix ig_ix (se_var 0) se_int))))
      (ss_one (ss_ret (se_bin og_mod (se_callTy cg_int (by rfl) T.n_int (by decide +kernel) (sa_cons (se_bin og_div (se_bin og_mod (se_callTy cg_int (by rfl) T.n_int (by decide +kernel) (sa_cons (se_bin og_add (se_var 4) (se_ix ig_ix (se_var 0) se_int)) sa_nil)) se_int) se_int) sa_nil)) (se_var 1))))))))
abbrev s__law_pick : Stmt := top 35
abbrev n__law_pick : List Str := ["tray", "items"]
theorem sc__law_pick : FnScope n__law_pick ["tray", "items"] (defScope s__law_pick) := ⟨rfl, rfl, rfl, by decide +kernel, rfl, by decide +kernel, by decide +kernel⟩
def w__law_pick : WS := (wRet (w2 gIx (wVar 1) (wCall sp_spin [true, false] (waCons (wVar 0) (waCons (wB gLen (waCons (wVar 1) waNil)) waNil)))))
theorem b__law_pick (T : Txt K mg) (d__law_roll : DefOk P w K mg base 1 "_law_roll" sp_spin) {cdv : Value} {A : Around} {outer : List PySem.Env} {s : Shared} {H : Hp} {E : XK} {fa : Addr} (hr : Room 1 (A.deeper (envOfC "_law_pick" (defScope s__law_pick) s.heap.objs.size fa cdv))) :
    SSs (cxOf (L2.CX P w) P w K mg base n__law_pick "_law_pick" (defScope s__law_pick) fa cdv A outer s H E) (fun cls d _ H => E cls d H) (defBody s__law_pick) w__law_pick := by
  have tk : Takes (cxOf (L2.CX P w) P w K mg base n__law_pick "_law_pick" (defScope s__law_pick) fa cdv A outer s H E) (fun cls d _ H => E cls d H) := takes_of rfl rfl rfl rfl
  have own := passes_of (X := cxOf (L2.CX P w) P w K mg base n__law_pick "_law_pick" (defScope s__law_pick) fa cdv A outer s H E) rfl
  exact (ss_one (ss_ret (se_ix ig_ix (se_var 1) (se_call d__law_roll hr (by decide) (by rfl) tk [true, false] (sa_cons (se_var 0) (sa_cons (se_callB cg_len (by rfl) T.n_len (by decide +kernel) (sa_cons (se_var 1) sa_nil)) sa_nil))))))
abbrev s__law_few : Stmt := top 36
abbrev n__law_few : List Str := ["tray", "items", "many", "left", "found", "turn"]
theorem sc__law_few : FnScope n__law_few ["tray", "items", "many"] (defScope s__law_few) := ⟨rfl, rfl, rfl, by decide +kernel, rfl, by decide +kernel, by decide +kernel⟩
def w__law_few : WS := (wSeq (wPar 3 4 (waCons (wB gListS (waCons (wVar 1) waNil)) (waCons (wLst waNil) waNil)))
  (wSeq (wFor (wiR1 (waCons (wB gMin (waCons (wVar 2) (waCons (wB gLen (waCons (wVar 3) waNil)) waNil))) waNil)) (gN 5) (wDrop (wMu 4 gApp (waCons (wMu 3 gPopAt (waCons (wCall sp_spin [true, false] (waCons (wVar 0) (waCons (wB gLen (waCons (wVar 3) waNil)) waNil))) waNil)) waNil))))
  (wRet (wVar 4))))
theorem b__law_few (T : Txt K mg) (d__law_roll : DefOk P w K mg base 1 "_law_roll" sp_spin) {cdv : Value} {A : Around} {outer : List PySem.Env} {s : Shared} {H : Hp} {E : XK} {fa : Addr} (hr : Room 1 (A.deeper (envOfC "_law_few" (defScope s__law_few) s.heap.objs.size fa cdv))) :
    SSs (cxOf (L2.CX P w) P w K mg base n__law_few "_law_few" (defScope s__law_few) fa cdv A outer s H E) (fun cls d _ H => E cls d H) (defBody s__law_few) w__law_few := by
  have tk : Takes (cxOf (L2.CX P w) P w K mg base n__law_few "_law_few" (defScope s__law_few) fa cdv A outer s H E) (fun cls d _ H => E cls d H) := takes_of rfl rfl rfl rfl
  have own := passes_of (X := cxOf (L2.CX P w) P w K mg base n__law_few "_law_few" (defScope s__law_few) fa cdv A outer s H E) rfl
  exact (ss_cons (ss_par (i := 3) (j := 4) rfl sc__law_few.nd (sa_cons (se_callTy (cg_listS rfl) (by rfl) T.n_list (by decide +kernel) (sa_cons (se_var 1) sa_nil)) (sa_cons (se_lst sa_nil) sa_nil)))
      (ss_cons (ss_for own rfl (si_range1 (by rfl) T.n_range (sa_cons (se_callB (cg_min rfl) (by rfl) T.n_min (by decide +kernel) (sa_cons (se_var 2) (sa_cons (se_callB cg_len (by rfl) T.n_len (by decide +kernel) (sa_cons (se_var 3) sa_nil)) sa_nil))) sa_nil)) (sg_name (i := 5) sc__law_few.nd) (ss_one (ss_expr (se_app 4 (sa_cons (se_popAt 3 (sa_cons (se_call d__law_roll hr (by decide) (by rfl) tk [true, false] (sa_cons (se_var 0) (sa_cons (se_callB cg_len (by rfl) T.n_len (by decide +kernel) (sa_cons (se_var 3) sa_nil)) sa_nil))) sa_nil)) sa_nil)))))
      (ss_one (ss_ret (se_var 4)))))
abbrev s__law_rings : Stmt := top 38
abbrev n__law_rings : List Str := ["tray", "interval", "names", "rows", "left", "some", "first", "begin", "name", "last"]
theorem sc__law_rings : FnScope n__law_rings ["tray", "interval", "names"] (defScope s__law_rings) := ⟨rfl, rfl, rfl, by decide +kernel, rfl, by decide +kernel, by decide +kernel⟩
def w__law_rings : WS := (wCut (wPar 3 4 (waCons wDic0 (waCons (wB gListS (waCons (wVar 2) waNil)) waNil)))
  (wCut (wWhile (tw2 (gEqZ true) (wVar 4) (wLst waNil)) (wCut (wAsg 5 (wCall sp_few2 [true, false, false] (waCons (wVar 0) (waCons (wVar 4) (waCons (w2 gAdd (wC (.int 1)) (wCall sp_spin [true, false] (waCons (wVar 0) (waCons (wC (.int 3)) waNil)))) waNil)))))
  (wCut (wAsg 4 (wLc (wiSeq (wVar 4)) (gN 8) (tw2 gNin (wVar 8) (wVar 5)) (wVar 8) [8]))
  (wCut (wAsg 6 (wCall sp_spin [true, false] (waCons (wVar 0) (waCons (w2 gMulA (wC (.int 2)) (wVar 1)) waNil))))
  (wCut (wAsg 7 (wVar 6))
  (wCut (wFor (wiSeq (wSl gSlA (wVar 5) woN (woS (wNeg (wC (.int 1)))))) (gN 8) (wCut (wSetD 3 (wVar 8) (wTup (waCons (wVar 7) (waCons (w2 gAdd (w2 gAdd (wVar 7) (wC (.int 1))) (wCall sp_spin [true, false] (waCons (wVar 0) (waCons (wVar 1) waNil)))) waNil))))
  (wAsg 7 (w2 gIx (wDGet (wVar 3) (wVar 8)) (wC (.int 1))))))
  (wCut (wAsg 9 (w2 gAdd (w2 gAdd (wC (.int 1)) (w2 gMod (wB gInt (waCons (w2 gSub (w2 gSub (wVar 6) (wVar 7)) (wC (.int 1))) waNil)) (wVar 1))) (w2 gMulA (wVar 1) (wCall sp_pick [true, false] (waCons (wVar 0) (waCons (wLst (waCons (wC (.int 0)) (waCons (wC (.int 0)) (waCons (wC (.int 0)) (waCons (wC (.int 1)) waNil))))) waNil))))))
  (wSetD 3 (w2 gIx (wVar 5) (wNeg (wC (.int 1)))) (wTup (waCons (wVar 7) (waCons (w2 gAdd (wVar 7) (wVar 9)) waNil)))))))))))
  (wRet (wVar 3))))
theorem b__law_rings (T : Txt K mg) (d__law_few : DefOk P w K mg base 2 "_law_few" sp_few2) (d__law_roll : DefOk P w K mg base 1 "_law_roll" sp_spin) (d__law_pick : DefOk P w K mg base 2 "_law_pick" sp_pick) {cdv : Value} {A : Around} {outer : List PySem.Env} {s : Shared} {H : Hp} {E : XK} {fa : Addr} (hr : Room 2 (A.deeper (envOfC "_law_rings" (defScope s__law_rings) s.heap.objs.size fa cdv))) :
    SSs (cxOf (L2.CX P w) P w K mg base n__law_rings "_law_rings" (defScope s__law_rings) fa cdv A outer s H E) (fun cls d _ H => E cls d H) (defBody s__law_rings) w__law_rings := by
  have tk : Takes (cxOf (L2.CX P w) P w K mg base n__law_rings "_law_rings" (defScope s__law_rings) fa cdv A outer s H E) (fun cls d _ H => E cls d H) := takes_of rfl rfl rfl rfl
  have own := passes_of (X := cxOf (L2.CX P w) P w K mg base n__law_rings "_law_rings" (defScope s__law_rings) fa cdv A outer s H E) rfl
  exact (ss_cut (ss_par (i := 3) (j := 4) rfl sc__law_rings.nd (sa_cons se_dic0 (sa_cons (se_callTy (cg_listS rfl) (by rfl) T.n_list (by decide +kernel) (sa_cons (se_var 2) sa_nil)) sa_nil)))
      (ss_cut (ss_while own (st_cmp (og_neZ hr) (se_var 4) (se_lst sa_nil)) (ss_cut (ss_asg (i := 5) sc__law_rings.nd (se_call d__law_few hr (by decide) (by rfl) tk [true, false, false] (sa_cons (se_var 0) (sa_cons (se_var 4) (sa_cons (se_bin og_add se_int (se_call d__law_roll hr (by decide) (by rfl) tk [true, false] (sa_cons (se_var 0) (sa_cons se_int sa_nil)))) sa_nil)))))
      (ss_cut (ss_setLc (own := [("name", 8)]) (i := 4) rfl sc__law_rings.nd (se_seq (se_var 4)) (blkOk_by (N := n__law_rings) (sc := defScope s__law_rings) (own := [("name", 8)]) (by decide +kernel)) (fun _ _ _ _ _ => (sg_name (i := 8) sc__law_rings.nd)) (fun _ _ _ _ _ => (sts_one (st_cmp og_nin (se_var 8) (se_var 5)))) (fun _ _ _ _ _ => (se_var 8)) (by decide))
      (ss_cut (ss_asg (i := 6) sc__law_rings.nd (se_call d__law_roll hr (by decide) (by rfl) tk [true, false] (sa_cons (se_var 0) (sa_cons (se_bin og_mulA se_int (se_var 1)) sa_nil))))
      (ss_cut (ss_asg (i := 7) sc__law_rings.nd (se_var 6))
      (ss_cut (ss_for own rfl (se_seq (se_slice sg_any (se_var 5) so_none (so_some (se_neg se_int)))) (sg_name (i := 8) sc__law_rings.nd) (ss_cut (ss_setD 3 hr (se_tup (sa_cons (se_var 7) (sa_cons (se_bin og_add (se_bin og_add (se_var 7) se_int) (se_call d__law_roll hr (by decide) (by rfl) tk [true, false] (sa_cons (se_var 0) (sa_cons (se_var 1) sa_nil)))) sa_nil))) (se_var 8))
      (ss_one (ss_asg (i := 7) sc__law_rings.nd (se_ix ig_ix (se_dget hr (se_var 3) (se_var 8)) se_int)))))
      (ss_cut (ss_asg (i := 9) sc__law_rings.nd (se_bin og_add (se_bin og_add se_int (se_bin og_mod (se_callTy cg_int (by rfl) T.n_int (by decide +kernel) (sa_cons (se_bin og_sub (se_bin og_sub (se_var 6) (se_var 7)) se_int) sa_nil)) (se_var 1))) (se_bin og_mulA (se_var 1) (se_call d__law_pick hr (by decide) (by rfl) tk [true, false] (sa_cons (se_var 0) (sa_cons (se_lst (sa_cons se_int (sa_cons se_int (sa_cons se_int (sa_cons se_int sa_nil))))) sa_nil))))))
      (ss_one (ss_setD 3 hr (se_tup (sa_cons (se_var 7) (sa_cons (se_bin og_add (se_var 7) (se_var 9)) sa_nil))) (se_ix ig_ix (se_var 5) (se_neg se_int)))))))))))
      (ss_one (ss_ret (se_var 3)))))
abbrev s__law_rows : Stmt := top 39
abbrev n__law_rows : List Str := ["tray", "interval", "names", "rows", "name", "begin", "size"]
theorem sc__law_rows : FnScope n__law_rows ["tray", "interval", "names"] (defScope s__law_rows) := ⟨rfl, rfl, rfl, by decide +kernel, rfl, by decide +kernel, by decide +kernel⟩
def w__law_rows : WS := (wCut (wIfS (tw2 (gEqZ false) (wCall sp_spin [true, false] (waCons (wVar 0) (waCons (wC (.int 3)) waNil))) (wC (.int 0))) (wRet (wCall Ft.sp_rings [true, false, false] (waCons (wVar 0) (waCons (wVar 1) (waCons (wVar 2) waNil))))) wNext)
  (wCut (wAsg 3 wDic0)
  (wCut (wFor (wiSeq (wVar 2)) (gN 4) (wCut (wAsg 5 (w2 gSub (wCall sp_spin [true, false] (waCons (wVar 0) (waCons (w2 gMulA (wC (.int 3)) (wVar 1)) waNil))) (wVar 1)))
  (wCut (wAsg 6 (w2 gAdd (wC (.int 1)) (wCall sp_spin [true, false] (waCons (wVar 0) (waCons (wCall sp_pick [true, false] (waCons (wVar 0) (waCons (wLst (waCons (wVar 1) (waCons (wVar 1) (waCons (wVar 1) (waCons (w2 gMulA (wC (.int 2)) (wVar 1)) (waCons (w2 gMulA (wC (.int 8)) (wVar 1)) waNil)))))) waNil))) waNil)))))
  (wSetD 3 (wVar 4) (wTup (waCons (wVar 5) (waCons (w2 gAdd (wVar 5) (wVar 6)) waNil)))))))
  (wRet (wVar 3)))))
theorem b__law_rows (T : Txt K mg) (d__law_roll : DefOk P w K mg base 1 "_law_roll" sp_spin) (d__law_rings : DefOk P w K mg base 3 "_law_rings" Ft.sp_rings) (d__law_pick : DefOk P w K mg base 2 "_law_pick" sp_pick) {cdv : Value} {A : Around} {outer : List PySem.Env} {s : Shared} {H : Hp} {E : XK} {fa : Addr} (hr : Room 3 (A.deeper (envOfC "_law_rows" (defScope s__law_rows) s.heap.objs.size fa cdv))) :
    SSs (cxOf (L2.CX P w) P w K mg base n__law_rows "_law_rows" (defScope s__law_rows) fa cdv A outer s H E) (fun cls d _ H => E cls d H) (defBody s__law_rows) w__law_rows := by
  have tk : Takes (cxOf (L2.CX P w) P w K mg base n__law_rows "_law_rows" (defScope s__law_rows) fa cdv A outer s H E) (fun cls d _ H => E cls d H) := takes_of rfl rfl rfl rfl
  have own := passes_of (X := cxOf (L2.CX P w) P w K mg base n__law_rows "_law_rows" (defScope s__law_rows) fa cdv A outer s H E) rfl
  exact (ss_cut (ss_if (st_cmp (og_eqZ hr) (se_call d__law_roll hr (by decide) (by rfl) tk [true, false] (sa_cons (se_var 0) (sa_cons se_int sa_nil))) se_int) (ss_one (ss_ret (se_call d__law_rings hr (by decide) (by rfl) tk [true, false, false] (sa_cons (se_var 0) (sa_cons (se_var 1) (sa_cons (se_var 2) sa_nil)))))) ss_nil)
      (ss_cut (ss_asg (i := 3) sc__law_rows.nd se_dic0)
      (ss_cut (ss_for own rfl (se_seq (se_var 2)) (sg_name (i := 4) sc__law_rows.nd) (ss_cut (ss_asg (i := 5) sc__law_rows.nd (se_bin og_sub (se_call d__law_roll hr (by decide) (by rfl) tk [true, false] (sa_cons (se_var 0) (sa_cons (se_bin og_mulA se_int (se_var 1)) sa_nil))) (se_var 1)))
      (ss_cut (ss_asg (i := 6) sc__law_rows.nd (se_bin og_add se_int (se_call d__law_roll hr (by decide) (by rfl) tk [true, false] (sa_cons (se_var 0) (sa_cons (se_call d__law_pick hr (by decide) (by rfl) tk [true, false] (sa_cons (se_var 0) (sa_cons (se_lst (sa_cons (se_var 1) (sa_cons (se_var 1) (sa_cons (se_var 1) (sa_cons (se_bin og_mulA se_int (se_var 1)) (sa_cons (se_bin og_mulA se_int (se_var 1)) sa_nil)))))) sa_nil))) sa_nil)))))
      (ss_one (ss_setD 3 hr (se_tup (sa_cons (se_var 5) (sa_cons (se_bin og_add (se_var 5) (se_var 6)) sa_nil))) (se_var 4))))))
      (ss_one (ss_ret (se_var 3))))))
abbrev s_Spans___eq__ : Stmt := inClass (top 30) 22
abbrev n_Spans___eq__ : List Str := ["self", "other"]
theorem sc_Spans___eq__ : FnScope n_Spans___eq__ ["self", "other"] (defScope s_Spans___eq__) := ⟨rfl, rfl, rfl, by decide +kernel, rfl, by decide +kernel, by decide +kernel⟩
def w_Spans___eq__ : WS := (wSeq (wIfS (twNot (tVal (wIsiC "Spans" (wVar 1)))) (wRet (wC (.bl false))) wNext)
  (wRet (wAnd (w2 (gEqZ false) (wFld "Spans" "own_interval" (wVar 0)) (wFld "Spans" "own_interval" (wVar 1))) (w2 (gEqZ false) (wFld "Spans" "own_rows" (wVar 0)) (wFld "Spans" "own_rows" (wVar 1))))))
theorem b_Spans___eq__ (T : Txt K mg)  {cdv : Value} {A : Around} {outer : List PySem.Env} {s : Shared} {H : Hp} {E : XK} {fa : Addr} (hr : Room 0 (A.deeper (envOfC "Spans.__eq__" (defScope s_Spans___eq__) s.heap.objs.size fa cdv))) :
    SSs (cxOf (L2.CX P w) P w K mg base n_Spans___eq__ "Spans.__eq__" (defScope s_Spans___eq__) fa cdv A outer s H E) (fun cls d _ H => E cls d H) (defBody s_Spans___eq__) w_Spans___eq__ := by
  have tk : Takes (cxOf (L2.CX P w) P w K mg base n_Spans___eq__ "Spans.__eq__" (defScope s_Spans___eq__) fa cdv A outer s H E) (fun cls d _ H => E cls d H) := takes_of rfl rfl rfl rfl
  have own := passes_of (X := cxOf (L2.CX P w) P w K mg base n_Spans___eq__ "Spans.__eq__" (defScope s_Spans___eq__) fa cdv A outer s H E) rfl
  exact (ss_cons (ss_if (st_not (st_val (se_isiC T.ow_Spans (by rfl) T.n_isinstance (by rfl) (se_var 1)))) (ss_one (ss_ret se_bl)) ss_nil)
      (ss_one (ss_ret (se_and (se_cmp (og_eqZ hr) (se_fld T.cl_Spans T.no_Spans_own_interval (se_var 0)) (se_fld T.cl_Spans T.no_Spans_own_interval (se_var 1))) (se_one (se_cmp (og_eqZ hr) (se_fld T.cl_Spans T.no_Spans_own_rows (se_var 0)) (se_fld T.cl_Spans T.no_Spans_own_rows (se_var 1))))))))
abbrev s__law_near : Stmt := top 41
abbrev n__law_near : List Str := ["tray", "rows", "interval", "name", "begin", "end", "near", "found"]
theorem sc__law_near : FnScope n__law_near ["tray", "rows", "interval"] (defScope s__law_near) := ⟨rfl, rfl, rfl, by decide +kernel, rfl, by decide +kernel, by decide +kernel⟩
def w__law_near : WS := (wCut (wAsg 3 (wCall sp_pick [true, false] (waCons (wVar 0) (waCons (wB gSorted (waCons (wVar 1) waNil)) waNil))))
  (wCut (wAsgG (gT (gsCons (gN 4) (gsCons (gN 5) gsNil))) (wDGet (wVar 1) (wVar 3)))
  (wCut (wAsg 6 (wLst (waCons (wTup (waCons (w2 gAdd (wVar 4) (wVar 2)) (waCons (w2 gAdd (wVar 5) (wVar 2)) waNil))) (waCons (wTup (waCons (wVar 4) (waCons (w2 gAdd (wVar 5) (wC (.int 1))) waNil))) (waCons (wTup (waCons (w2 gSub (wVar 4) (wC (.int 1))) (waCons (wVar 5) waNil))) (waCons (wTup (waCons (w2 gAdd (wVar 4) (wC (.int 1))) (waCons (w2 gAdd (wVar 5) (wC (.int 1))) waNil))) waNil))))))
  (wCut (wAsg 7 (wB gDictP (waCons (wItems (wVar 1)) waNil)))
  (wCut (wSetD 7 (wVar 3) (wCall sp_pick [true, false] (waCons (wVar 0) (waCons (wVar 6) waNil))))
  (wRet (wIf (tw2 gLe (w2 gSub (w2 gIx (wDGet (wVar 7) (wVar 3)) (wC (.int 1))) (w2 gIx (wDGet (wVar 7) (wVar 3)) (wC (.int 0)))) (w2 gMulA (wC (.int 8)) (wVar 2))) (wVar 7) (wC .non))))))))
theorem b__law_near (T : Txt K mg) (d__law_pick : DefOk P w K mg base 2 "_law_pick" sp_pick) {cdv : Value} {A : Around} {outer : List PySem.Env} {s : Shared} {H : Hp} {E : XK} {fa : Addr} (hr : Room 2 (A.deeper (envOfC "_law_near" (defScope s__law_near) s.heap.objs.size fa cdv))) :
    SSs (cxOf (L2.CX P w) P w K mg base n__law_near "_law_near" (defScope s__law_near) fa cdv A outer s H E) (fun cls d _ H => E cls d H) (defBody s__law_near) w__law_near := by
  have tk : Takes (cxOf (L2.CX P w) P w K mg base n__law_near "_law_near" (defScope s__law_near) fa cdv A outer s H E) (fun cls d _ H => E cls d H) := takes_of rfl rfl rfl rfl
  have own := passes_of (X := cxOf (L2.CX P w) P w K mg base n__law_near "_law_near" (defScope s__law_near) fa cdv A outer s H E) rfl
  exact (ss_cut (ss_asg (i := 3) sc__law_near.nd (se_call d__law_pick hr (by decide) (by rfl) tk [true, false] (sa_cons (se_var 0) (sa_cons (se_callB (cg_sorted rfl) (by rfl) T.n_sorted (by decide +kernel) (sa_cons (se_var 1) sa_nil)) sa_nil))))
      (ss_cut (ss_asgG (se_dget hr (se_var 1) (se_var 3)) (sg_tup rfl (sgs_cons (sg_name (i := 4) sc__law_near.nd) (sgs_cons (sg_name (i := 5) sc__law_near.nd) sgs_nil)) (lenGs_c (lenGs_c lenGs_nil one_gN) one_gN)))
      (ss_cut (ss_asg (i := 6) sc__law_near.nd (se_lst (sa_cons (se_tup (sa_cons (se_bin og_add (se_var 4) (se_var 2)) (sa_cons (se_bin og_add (se_var 5) (se_var 2)) sa_nil))) (sa_cons (se_tup (sa_cons (se_var 4) (sa_cons (se_bin og_add (se_var 5) se_int) sa_nil))) (sa_cons (se_tup (sa_cons (se_bin og_sub (se_var 4) se_int) (sa_cons (se_var 5) sa_nil))) (sa_cons (se_tup (sa_cons (se_bin og_add (se_var 4) se_int) (sa_cons (se_bin og_add (se_var 5) se_int) sa_nil))) sa_nil))))))
      (ss_cut (ss_asg (i := 7) sc__law_near.nd (se_callTy (cg_dictP rfl) (by rfl) T.n_dict (by decide +kernel) (sa_cons (se_items rfl (se_var 1) (by rfl) T.n_list) sa_nil)))
      (ss_cut (ss_setD 7 hr (se_call d__law_pick hr (by decide) (by rfl) tk [true, false] (sa_cons (se_var 0) (sa_cons (se_var 6) sa_nil))) (se_var 3))
      (ss_one (ss_ret (se_if (st_cmp og_le (se_bin og_sub (se_ix ig_ix (se_dget hr (se_var 7) (se_var 3)) se_int) (se_ix ig_ix (se_dget hr (se_var 7) (se_var 3)) se_int)) (se_bin og_mulA se_int (se_var 2))) (se_var 7) se_non))))))))
abbrev s__law_names : Stmt := top 37
abbrev n__law_names : List Str := ["tray", "many", "letters", "stem", "found", "letter", "turn", "size"]
theorem sc__law_names : FnScope n__law_names ["tray", "many"] (defScope s__law_names) := ⟨rfl, rfl, rfl, by decide +kernel, rfl, by decide +kernel, by decide +kernel⟩
def w__law_names : WS := (wCut (wAsg 2 (wB gListS (waCons (wC (.str "abcdefghijklmnopqrstuvwxyz")) waNil)))
  (wCut (wIfS (tw2 (gEqZ false) (wCall sp_spin [true, false] (waCons (wVar 0) (waCons (wC (.int 4)) waNil))) (wC (.int 0))) (wCut (wAsg 3 (wJoin (wC (.str "")) (wLc (wiR1 (waCons (wC (.int 8)) waNil)) (gN 6) twYes (wCall sp_pick [true, false] (waCons (wVar 0) (waCons (wVar 2) waNil))) [6])))
  (wRet (wLc (wiSeq (wCall sp_few2 [true, false, false] (waCons (wVar 0) (waCons (wLst (waCons (wC (.int 1)) (waCons (wC (.int 2)) (waCons (wC (.int 3)) (waCons (wC (.int 4)) (waCons (wC (.int 5)) (waCons (wC (.int 6)) (waCons (wC (.int 7)) (waCons (wC (.int 8)) waNil))))))))) (waCons (wVar 1) waNil))))) (gN 7) twYes (wSl gSlA (wVar 3) woN (woS (wVar 7))) [7]))) wNext)
  (wCut (wPar 3 4 (waCons (wJoin (wC (.str "")) (wCall sp_few2 [true, false, false] (waCons (wVar 0) (waCons (wVar 2) (waCons (wCall sp_spin [true, false] (waCons (wVar 0) (waCons (wC (.int 4)) waNil))) waNil))))) (waCons (wLst waNil) waNil)))
  (wCut (wFor (wiSeq (wCall sp_few2 [true, false, false] (waCons (wVar 0) (waCons (wVar 2) (waCons (wVar 1) waNil))))) (gN 5) (wDrop (wMu 4 gApp (waCons (w2 gAdd (w2 gAdd (wVar 3) (wVar 5)) (wJoin (wC (.str "")) (wCall sp_few2 [true, false, false] (waCons (wVar 0) (waCons (wVar 2) (waCons (wCall sp_pick [true, false] (waCons (wVar 0) (waCons (wLst (waCons (wC (.int 0)) (waCons (wC (.int 0)) (waCons (wC (.int 1)) (waCons (wC (.int 2)) (waCons (wC (.int 4)) waNil)))))) waNil))) waNil)))))) waNil))))
  (wRet (wVar 4))))))
theorem b__law_names (T : Txt K mg) (d__law_few : DefOk P w K mg base 2 "_law_few" sp_few2) (d__law_roll : DefOk P w K mg base 1 "_law_roll" sp_spin) (d__law_pick : DefOk P w K mg base 2 "_law_pick" sp_pick) {cdv : Value} {A : Around} {outer : List PySem.Env} {s : Shared} {H : Hp} {E : XK} {fa : Addr} (hr : Room 2 (A.deeper (envOfC "_law_names" (defScope s__law_names) s.heap.objs.size fa cdv))) :
    SSs (cxOf (L2.CX P w) P w K mg base n__law_names "_law_names" (defScope s__law_names) fa cdv A outer s H E) (fun cls d _ H => E cls d H) (defBody s__law_names) w__law_names := by
  have tk : Takes (cxOf (L2.CX P w) P w K mg base n__law_names "_law_names" (defScope s__law_names) fa cdv A outer s H E) (fun cls d _ H => E cls d H) := takes_of rfl rfl rfl rfl
  have own := passes_of (X := cxOf (L2.CX P w) P w K mg base n__law_names "_law_names" (defScope s__law_names) fa cdv A outer s H E) rfl
  exact (ss_cut (ss_asg (i := 2) sc__law_names.nd (se_callTy (cg_listS rfl) (by rfl) T.n_list (by decide +kernel) (sa_cons se_str sa_nil)))
      (ss_cut (ss_if (st_cmp (og_eqZ hr) (se_call d__law_roll hr (by decide) (by rfl) tk [true, false] (sa_cons (se_var 0) (sa_cons se_int sa_nil))) se_int) (ss_cut (ss_asg (i := 3) sc__law_names.nd (se_join se_str (se_lc (own := [("turn", 6)]) rfl sc__law_names.nd (si_range1 (by rfl) T.n_range (sa_cons se_int sa_nil)) (blkOk_by (N := n__law_names) (sc := defScope s__law_names) (own := [("turn", 6)]) (by decide +kernel)) (fun _ _ _ _ _ => (sg_name (i := 6) sc__law_names.nd)) (fun _ _ _ _ _ => sts_nil) (fun _ _ _ _ _ => (se_call d__law_pick hr (by decide) (by rfl) takes0 [true, false] (sa_cons (se_var 0) (sa_cons (se_var 2) sa_nil)))) (by decide))))
      (ss_one (ss_ret (se_lc (own := [("size", 7)]) rfl sc__law_names.nd (se_seq (se_call d__law_few hr (by decide) (by rfl) tk [true, false, false] (sa_cons (se_var 0) (sa_cons (se_lst (sa_cons se_int (sa_cons se_int (sa_cons se_int (sa_cons se_int (sa_cons se_int (sa_cons se_int (sa_cons se_int (sa_cons se_int sa_nil))))))))) (sa_cons (se_var 1) sa_nil))))) (blkOk_by (N := n__law_names) (sc := defScope s__law_names) (own := [("size", 7)]) (by decide +kernel)) (fun _ _ _ _ _ => (sg_name (i := 7) sc__law_names.nd)) (fun _ _ _ _ _ => sts_nil) (fun _ _ _ _ _ => (se_slice sg_any (se_var 3) so_none (so_some (se_var 7)))) (by decide))))) ss_nil)
      (ss_cut (ss_par2 (i := 3) (j := 4) rfl sc__law_names.nd (sa_cons (se_join se_str (se_call d__law_few hr (by decide) (by rfl) tk [true, false, false] (sa_cons (se_var 0) (sa_cons (se_var 2) (sa_cons (se_call d__law_roll hr (by decide) (by rfl) tk [true, false] (sa_cons (se_var 0) (sa_cons se_int sa_nil))) sa_nil))))) (sa_cons (se_lst sa_nil) sa_nil)))
      (ss_cut (ss_for own rfl (se_seq (se_call d__law_few hr (by decide) (by rfl) tk [true, false, false] (sa_cons (se_var 0) (sa_cons (se_var 2) (sa_cons (se_var 1) sa_nil))))) (sg_name (i := 5) sc__law_names.nd) (ss_one (ss_expr (se_app 4 (sa_cons (se_bin og_add (se_bin og_add (se_var 3) (se_var 5)) (se_join se_str (se_call d__law_few hr (by decide) (by rfl) tk [true, false, false] (sa_cons (se_var 0) (sa_cons (se_var 2) (sa_cons (se_call d__law_pick hr (by decide) (by rfl) tk [true, false] (sa_cons (se_var 0) (sa_cons (se_lst (sa_cons se_int (sa_cons se_int (sa_cons se_int (sa_cons se_int (sa_cons se_int sa_nil)))))) sa_nil))) sa_nil)))))) sa_nil)))))
      (ss_one (ss_ret (se_var 4)))))))
abbrev s_Spans___str__ : Stmt := inClass (top 30) 23
abbrev n_Spans___str__ : List Str := ["self"]
theorem sc_Spans___str__ : FnScope n_Spans___str__ ["self"] (defScope s_Spans___str__) := ⟨rfl, rfl, rfl, by decide +kernel, rfl, by decide +kernel, by decide +kernel⟩
def w_Spans___str__ : WS := (wRet (wJs [(wC (.str "spans of ")), (wFmt (wB gLen (waCons (wFld "Spans" "own_rows" (wVar 0)) waNil))), (wC (.str " names in ")), (wFmt (wFld "Spans" "own_interval" (wVar 0))), (wC (.str " ticks"))]))
theorem b_Spans___str__ (T : Txt K mg)  {cdv : Value} {A : Around} {outer : List PySem.Env} {s : Shared} {H : Hp} {E : XK} {fa : Addr} (hr : Room 0 (A.deeper (envOfC "Spans.__str__" (defScope s_Spans___str__) s.heap.objs.size fa cdv))) :
    SSs (cxOf (L2.CX P w) P w K mg base n_Spans___str__ "Spans.__str__" (defScope s_Spans___str__) fa cdv A outer s H E) (fun cls d _ H => E cls d H) (defBody s_Spans___str__) w_Spans___str__ := by
  have tk : Takes (cxOf (L2.CX P w) P w K mg base n_Spans___str__ "Spans.__str__" (defScope s_Spans___str__) fa cdv A outer s H E) (fun cls d _ H => E cls d H) := takes_of rfl rfl rfl rfl
  have own := passes_of (X := cxOf (L2.CX P w) P w K mg base n_Spans___str__ "Spans.__str__" (defScope s_Spans___str__) fa cdv A outer s H E) rfl
  exact (ss_one (ss_ret (se_js (.cons se_str (.cons (se_fmt (se_callB cg_len (by rfl) T.n_len (by decide +kernel) (sa_cons (se_fld T.cl_Spans T.no_Spans_own_rows (se_var 0)) sa_nil))) (.cons se_str (.cons (se_fmt (se_fld T.cl_Spans T.no_Spans_own_interval (se_var 0))) (.cons se_str .nil))))))))
abbrev s__law_sorted : Stmt := top 40
abbrev n__law_sorted : List Str := ["rows", "name"]
theorem sc__law_sorted : FnScope n__law_sorted ["rows"] (defScope s__law_sorted) := ⟨rfl, rfl, rfl, by decide +kernel, rfl, by decide +kernel, by decide +kernel⟩
def w__law_sorted : WS := (wRet (wB gDictP (waCons (wLc (wiSeq (wB gSorted (waCons (wVar 0) waNil))) (gN 1) twYes (wTup (waCons (wVar 1) (waCons (wDGet (wVar 0) (wVar 1)) waNil))) [1]) waNil)))
theorem b__law_sorted (T : Txt K mg)  {cdv : Value} {A : Around} {outer : List PySem.Env} {s : Shared} {H : Hp} {E : XK} {fa : Addr} (hr : Room 0 (A.deeper (envOfC "_law_sorted" (defScope s__law_sorted) s.heap.objs.size fa cdv))) :
    SSs (cxOf (L2.CX P w) P w K mg base n__law_sorted "_law_sorted" (defScope s__law_sorted) fa cdv A outer s H E) (fun cls d _ H => E cls d H) (defBody s__law_sorted) w__law_sorted := by
  have tk : Takes (cxOf (L2.CX P w) P w K mg base n__law_sorted "_law_sorted" (defScope s__law_sorted) fa cdv A outer s H E) (fun cls d _ H => E cls d H) := takes_of rfl rfl rfl rfl
  have own := passes_of (X := cxOf (L2.CX P w) P w K mg base n__law_sorted "_law_sorted" (defScope s__law_sorted) fa cdv A outer s H E) rfl
  exact (ss_one (ss_ret (se_callTy (cg_dictP rfl) (by rfl) T.n_dict (by decide +kernel) (sa_cons (se_lc (own := [("name", 1)]) rfl sc__law_sorted.nd (se_seq (se_callB (cg_sorted rfl) (by rfl) T.n_sorted (by decide +kernel) (sa_cons (se_var 0) sa_nil))) (blkOk_by (N := n__law_sorted) (sc := defScope s__law_sorted) (own := [("name", 1)]) (by decide +kernel)) (fun _ _ _ _ _ => (sg_name (i := 1) sc__law_sorted.nd)) (fun _ _ _ _ _ => sts_nil) (fun _ _ _ _ _ => (se_tup (sa_cons (se_var 1) (sa_cons (se_dget hr (se_var 0) (se_var 1)) sa_nil)))) (by decide)) sa_nil))))
abbrev s_Spans_interval : Stmt := inClass (top 30) 1
abbrev n_Spans_interval : List Str := ["self"]
theorem sc_Spans_interval : FnScope n_Spans_interval ["self"] (defScope s_Spans_interval) := ⟨rfl, rfl, rfl, by decide +kernel, rfl, by decide +kernel, by decide +kernel⟩
def w_Spans_interval : WS := (wRet (wFld "Spans" "own_interval" (wVar 0)))
theorem b_Spans_interval (T : Txt K mg)  {cdv : Value} {A : Around} {outer : List PySem.Env} {s : Shared} {H : Hp} {E : XK} {fa : Addr} (hr : Room 0 (A.deeper (envOfC "Spans.interval" (defScope s_Spans_interval) s.heap.objs.size fa cdv))) :
    SSs (cxOf (L2.CX P w) P w K mg base n_Spans_interval "Spans.interval" (defScope s_Spans_interval) fa cdv A outer s H E) (fun cls d _ H => E cls d H) (defBody s_Spans_interval) w_Spans_interval := by
  have tk : Takes (cxOf (L2.CX P w) P w K mg base n_Spans_interval "Spans.interval" (defScope s_Spans_interval) fa cdv A outer s H E) (fun cls d _ H => E cls d H) := takes_of rfl rfl rfl rfl
  have own := passes_of (X := cxOf (L2.CX P w) P w K mg base n_Spans_interval "Spans.interval" (defScope s_Spans_interval) fa cdv A outer s H E) rfl
  exact (ss_one (ss_ret (se_fld T.cl_Spans T.no_Spans_own_interval (se_var 0))))
abbrev s__law_odd : Stmt := top 42
abbrev n__law_odd : List Str := ["tray", "rows", "spans", "name", "odd", "free", "letter", "one"]
theorem sc__law_odd : FnScope n__law_odd ["tray", "rows", "spans"] (defScope s__law_odd) := ⟨rfl, rfl, rfl, by decide +kernel, rfl, by decide +kernel, by decide +kernel⟩
def w__law_odd : WS := (wCut (wAsg 3 (w2 gIx (wB gSorted (waCons (wVar 1) waNil)) (wC (.int 0))))
  (wCut (wAsg 4 (wLst (waCons (wC .non) (waCons (wC (.int 0)) (waCons (wC (.int 1)) (waCons (wC (.bl true)) (waCons (wC (.str "")) (waCons (wC (.str "A")) (waCons (wTup waNil) (waCons (wLst waNil) (waCons wDic0 (waCons (wTup (waCons (wVar 3) waNil)) (waCons (wLst (waCons (wVar 3) waNil)) (waCons (wDic1 (wVar 3) (wC (.int 1))) (waCons (wDGet (wVar 1) (wVar 3)) (waCons (wVar 2) (waCons (w2 gAdd (wVar 3) (wVar 3)) waNil)))))))))))))))))
  (wCut (wAsg 4 (w2 gAdd (wVar 4) (wLst (waCons (wUpper (wVar 3)) (waCons (w2 gAdd (wC (.str " ")) (wVar 3)) (waCons (wB gTuple (waCons (wB gSorted (waCons (wVar 1) waNil)) waNil)) (waCons (wB gListS (waCons (wVar 1) waNil)) waNil)))))))
  (wCut (wAsg 5 (wLc (wiSeq (wC (.str "abcdefghijklmnopqrstuvwxyz"))) (gN 6) (twX (wDIn true (wVar 6) (wVar 1))) (wVar 6) [6]))
  (wCut (wAsg 4 (wLc (wiSeq (wVar 4)) (gN 7) (twOr (twNot (tVal (wB (gIsiO ownCs) (waCons (wVar 7) (waCons (wC (.ty "str")) waNil))))) (twX (wDIn true (wVar 7) (wVar 1)))) (wVar 7) [7]))
  (wRet (w2 gAdd (wCall sp_few2 [true, false, false] (waCons (wVar 0) (waCons (wVar 4) (waCons (wC (.int 9)) waNil)))) (wSl gSlA (wVar 5) woN (woS (wC (.int 1)))))))))))
theorem b__law_odd (T : Txt K mg) (d__law_few : DefOk P w K mg base 2 "_law_few" sp_few2) {cdv : Value} {A : Around} {outer : List PySem.Env} {s : Shared} {H : Hp} {E : XK} {fa : Addr} (hr : Room 2 (A.deeper (envOfC "_law_odd" (defScope s__law_odd) s.heap.objs.size fa cdv))) :
    SSs (cxOf (L2.CX P w) P w K mg base n__law_odd "_law_odd" (defScope s__law_odd) fa cdv A outer s H E) (fun cls d _ H => E cls d H) (defBody s__law_odd) w__law_odd := by
  have tk : Takes (cxOf (L2.CX P w) P w K mg base n__law_odd "_law_odd" (defScope s__law_odd) fa cdv A outer s H E) (fun cls d _ H => E cls d H) := takes_of rfl rfl rfl rfl
  have own := passes_of (X := cxOf (L2.CX P w) P w K mg base n__law_odd "_law_odd" (defScope s__law_odd) fa cdv A outer s H E) rfl
  exact (ss_cut (ss_asg (i := 3) sc__law_odd.nd (se_ix ig_ix (se_callB (cg_sorted rfl) (by rfl) T.n_sorted (by decide +kernel) (sa_cons (se_var 1) sa_nil)) se_int))
      (ss_cut (ss_asg (i := 4) sc__law_odd.nd (se_lst (sa_cons se_non (sa_cons se_int (sa_cons se_int (sa_cons se_bl (sa_cons se_str (sa_cons se_str (sa_cons (se_tup sa_nil) (sa_cons (se_lst sa_nil) (sa_cons se_dic0 (sa_cons (se_tup (sa_cons (se_var 3) sa_nil)) (sa_cons (se_lst (sa_cons (se_var 3) sa_nil)) (sa_cons (se_dic1 (se_var 3) se_int) (sa_cons (se_dget hr (se_var 1) (se_var 3)) (sa_cons (se_var 2) (sa_cons (se_bin og_add (se_var 3) (se_var 3)) sa_nil)))))))))))))))))
      (ss_cut (ss_asg (i := 4) sc__law_odd.nd (se_bin og_add (se_var 4) (se_lst (sa_cons (se_upper (se_var 3)) (sa_cons (se_bin og_add se_str (se_var 3)) (sa_cons (se_callTy cg_tuple (by rfl) T.n_tuple (by decide +kernel) (sa_cons (se_callB (cg_sorted rfl) (by rfl) T.n_sorted (by decide +kernel) (sa_cons (se_var 1) sa_nil)) sa_nil)) (sa_cons (se_callTy (cg_listS rfl) (by rfl) T.n_list (by decide +kernel) (sa_cons (se_var 1) sa_nil)) sa_nil)))))))
      (ss_cut (ss_setLc (own := [("letter", 6)]) (i := 5) rfl sc__law_odd.nd (se_seq se_str) (blkOk_by (N := n__law_odd) (sc := defScope s__law_odd) (own := [("letter", 6)]) (by decide +kernel)) (fun _ _ _ _ _ => (sg_name (i := 6) sc__law_odd.nd)) (fun _ _ _ _ _ => (sts_one (st_dnotin hr (se_var 6) (se_var 1)))) (fun _ _ _ _ _ => (se_var 6)) (by decide))
      (ss_cut (ss_setLc (own := [("one", 7)]) (i := 4) rfl sc__law_odd.nd (se_seq (se_var 4)) (blkOk_by (N := n__law_odd) (sc := defScope s__law_odd) (own := [("one", 7)]) (by decide +kernel)) (fun _ _ _ _ _ => (sg_name (i := 7) sc__law_odd.nd)) (fun _ _ _ _ _ => (sts_one (SW.st (sw_or (st_not (st_val (se_callB (cg_isiO T.allOwn) (by rfl) T.n_isinstance (by decide +kernel) (sa_cons (se_var 7) (sa_cons (se_ty (by rfl) T.n_str (by decide +kernel)) sa_nil))))) (sw_or1 (st_dnotin hr (se_var 7) (se_var 1))))))) (fun _ _ _ _ _ => (se_var 7)) (by decide))
      (ss_one (ss_ret (se_bin og_add (se_call d__law_few hr (by decide) (by rfl) tk [true, false, false] (sa_cons (se_var 0) (sa_cons (se_var 4) (sa_cons se_int sa_nil)))) (se_slice sg_any (se_var 5) so_none (so_some se_int))))))))))
abbrev s__law_is_told : Stmt := top 43
abbrev n__law_is_told : List Str := ["tray", "spans", "rows", "interval", "due", "names", "told", "total", "odd", "name", "one"]
theorem sc__law_is_told : FnScope n__law_is_told ["tray", "spans", "rows", "interval"] (defScope s__law_is_told) := ⟨rfl, rfl, rfl, by decide +kernel, rfl, by decide +kernel, by decide +kernel⟩
def w__law_is_told : WS := (wCut (wPar 4 5 (waCons (wCall Ft.sp_sorted [false] (waCons (wVar 2) waNil)) (waCons (wB gSorted (waCons (wVar 2) waNil)) waNil)))
  (wCut (wIfS (tw2 (gEqZ true) (wB gReprA (waCons (wLst (waCons (wProp "Spans" Pk.sp_Spans_interval (wVar 1)) (waCons (wProp "Spans" Pk.sp_Spans_rows (wVar 1)) (waCons (wProp "Spans" Pk.sp_Spans_names (wVar 1)) waNil)))) waNil)) (wB gReprA (waCons (wLst (waCons (wVar 3) (waCons (wVar 4) (waCons (wB gTuple (waCons (wVar 5) waNil)) waNil)))) waNil))) (wRet (wC (.bl false))) wNext)
  (wCut (wAsg 6 (wProp "Spans" Pk.sp_Spans_rows (wVar 1)))
  (wCut (wSetD 6 (w2 gIx (wVar 5) (wC (.int 0))) (wTup (waCons (wC (.int 0)) (waCons (wC (.int 1)) waNil))))
  (wCut (wSetD 6 (w2 gMulA (wC (.str "q")) (wC (.int 8))) (wTup (waCons (wC (.int 0)) (waCons (wC (.int 1)) waNil))))
  (wCut (wAsg 7 (wB gSum (waCons (wLc (wiSeq (wVar 5)) (gN 9) twYes (w2 gSub (w2 gIx (wDGet (wVar 2) (wVar 9)) (wC (.int 1))) (w2 gIx (wDGet (wVar 2) (wVar 9)) (wC (.int 0)))) [9]) waNil)))
  (wCut (wIfS (tw2 (gEqZ true) (wB gReprA (waCons (wLst (waCons (wProp "Spans" Pk.sp_Spans_rows (wVar 1)) (waCons (wProp "Spans" Pk.sp_Spans_total (wVar 1)) (waCons (wOwn1 "Spans" Pk.sp_Spans___len__ chkN (wVar 1)) waNil)))) waNil)) (wB gReprA (waCons (wLst (waCons (wVar 4) (waCons (wVar 7) (waCons (wB gLen (waCons (wVar 2) waNil)) waNil)))) waNil))) (wRet (wC (.bl false))) wNext)
  (wCut (wIfS (tw2 (gEqZ true) (wB gReprA (waCons (wLc (wiSeq (wVar 5)) (gN 9) twYes (wOwnItem "Spans" (Pk.sp_Spans___getitem__ ownCs) (wVar 1) (wVar 9)) [9]) waNil)) (wB gReprA (waCons (wLc (wiSeq (wVar 5)) (gN 9) twYes (wDGet (wVar 2) (wVar 9)) [9]) waNil))) (wRet (wC (.bl false))) wNext)
  (wCut (wAsg 8 (wLc (wiSeq (wCall sp_law_odd [true, false, false] (waCons (wVar 0) (waCons (wVar 2) (waCons (wVar 1) waNil))))) (gN 10) (twX (wOwnIn "Spans" (Pk.sp_Spans___contains__ ownCs) false (wVar 10) (wVar 1))) (wVar 10) [10]))
  (wCut (wIfS (twOr (tw2 (gEqZ true) (wVar 8) (wLst waNil)) (tw2 (gEqZ true) (wLc (wiSeq (wVar 5)) (gN 9) (twX (wOwnIn "Spans" (Pk.sp_Spans___contains__ ownCs) true (wVar 9) (wVar 1))) (wVar 9) [9]) (wLst waNil))) (wRet (wC (.bl false))) wNext)
  (wRet (w2 (gEqZ false) (wOwn1 "Spans" Pk.sp_Spans___str__ chkS (wVar 1)) (w2 gAdd (w2 gAdd (w2 gAdd (w2 gAdd (wC (.str "spans of ")) (wB gStr (waCons (wB gLen (waCons (wVar 2) waNil)) waNil))) (wC (.str " names in "))) (wB gStr (waCons (wVar 3) waNil))) (wC (.str " ticks")))))))))))))))
theorem b__law_is_told (T : Txt K mg) (d_Spans_rows : PropD P w K mg base 1 "Spans" "rows" Pk.sp_Spans_rows) (d_Spans___str__ : SpecD P w K mg base 1 "Spans" "__str__" Pk.sp_Spans___str__) (d__law_sorted : DefOk P w K mg base 1 "_law_sorted" Ft.sp_sorted) (d_Spans___contains__ : SpecD P w K mg base 2 "Spans" "__contains__" (Pk.sp_Spans___contains__ ownCs)) (d_Spans_interval : PropD P w K mg base 1 "Spans" "interval" Pk.sp_Spans_interval) (d_Spans_names : PropD P w K mg base 1 "Spans" "names" Pk.sp_Spans_names) (d_Spans_total : PropD P w K mg base 1 "Spans" "total" Pk.sp_Spans_total) (d_Spans___len__ : SpecD P w K mg base 1 "Spans" "__len__" Pk.sp_Spans___len__) (d_Spans___getitem__ : ItemD P w K mg base 5 "Spans" (Pk.sp_Spans___getitem__ ownCs)) (d__law_odd : DefOk P w K mg base 3 "_law_odd" sp_law_odd) {cdv : Value} {A : Around} {outer : List PySem.Env} {s : Shared} {H : Hp} {E : XK} {fa : Addr} (hr : Room 7 (A.deeper (envOfC "_law_is_told" (defScope s__law_is_told) s.heap.objs.size fa cdv))) (gd : A.guards = some []) (sy : SysD base) :
    SSs (cxOf (L2.CX P w) P w K mg base n__law_is_told "_law_is_told" (defScope s__law_is_told) fa cdv A outer s H E) (fun cls d _ H => E cls d H) (defBody s__law_is_told) w__law_is_told := by
  have tk : Takes (cxOf (L2.CX P w) P w K mg base n__law_is_told "_law_is_told" (defScope s__law_is_told) fa cdv A outer s H E) (fun cls d _ H => E cls d H) := takes_of rfl rfl rfl rfl
  have own := passes_of (X := cxOf (L2.CX P w) P w K mg base n__law_is_told "_law_is_told" (defScope s__law_is_told) fa cdv A outer s H E) rfl
  exact (ss_cut (ss_par (i := 4) (j := 5) rfl sc__law_is_told.nd (sa_cons (se_call d__law_sorted hr (by decide) (by rfl) tk [false] (sa_cons (se_var 2) sa_nil)) (sa_cons (se_callB (cg_sorted rfl) (by rfl) T.n_sorted (by decide +kernel) (sa_cons (se_var 2) sa_nil)) sa_nil)))
      (ss_cut (ss_if (st_cmp (og_neZ hr) (se_callB (cg_reprA gd hr sy) (by rfl) T.n_repr (by decide +kernel) (sa_cons (se_lst (sa_cons (se_prop T.cl_Spans d_Spans_interval hr (by decide) (se_var 1)) (sa_cons (se_prop T.cl_Spans d_Spans_rows hr (by decide) (se_var 1)) (sa_cons (se_prop T.cl_Spans d_Spans_names hr (by decide) (se_var 1)) sa_nil)))) sa_nil)) (se_callB (cg_reprA gd hr sy) (by rfl) T.n_repr (by decide +kernel) (sa_cons (se_lst (sa_cons (se_var 3) (sa_cons (se_var 4) (sa_cons (se_callTy cg_tuple (by rfl) T.n_tuple (by decide +kernel) (sa_cons (se_var 5) sa_nil)) sa_nil)))) sa_nil))) (ss_one (ss_ret se_bl)) ss_nil)
      (ss_cut (ss_asg (i := 6) sc__law_is_told.nd (se_prop T.cl_Spans d_Spans_rows hr (by decide) (se_var 1)))
      (ss_cut (ss_setD 6 hr (se_tup (sa_cons se_int (sa_cons se_int sa_nil))) (se_ix ig_ix (se_var 5) se_int))
      (ss_cut (ss_setD 6 hr (se_tup (sa_cons se_int (sa_cons se_int sa_nil))) (se_bin og_mulA se_str se_int))
      (ss_cut (ss_asg (i := 7) sc__law_is_told.nd (se_callB (cg_sum rfl) (by rfl) T.n_sum (by decide +kernel) (sa_cons (se_lc (own := [("name", 9)]) rfl sc__law_is_told.nd (se_seq (se_var 5)) (blkOk_by (N := n__law_is_told) (sc := defScope s__law_is_told) (own := [("name", 9)]) (by decide +kernel)) (fun _ _ _ _ _ => (sg_name (i := 9) sc__law_is_told.nd)) (fun _ _ _ _ _ => sts_nil) (fun _ _ _ _ _ => (se_bin og_sub (se_ix ig_ix (se_dget hr (se_var 2) (se_var 9)) se_int) (se_ix ig_ix (se_dget hr (se_var 2) (se_var 9)) se_int))) (by decide)) sa_nil)))
      (ss_cut (ss_if (st_cmp (og_neZ hr) (se_callB (cg_reprA gd hr sy) (by rfl) T.n_repr (by decide +kernel) (sa_cons (se_lst (sa_cons (se_prop T.cl_Spans d_Spans_rows hr (by decide) (se_var 1)) (sa_cons (se_prop T.cl_Spans d_Spans_total hr (by decide) (se_var 1)) (sa_cons (se_ownLen d_Spans___len__ hr (by decide) (by rfl) T.n_len (se_var 1)) sa_nil)))) sa_nil)) (se_callB (cg_reprA gd hr sy) (by rfl) T.n_repr (by decide +kernel) (sa_cons (se_lst (sa_cons (se_var 4) (sa_cons (se_var 7) (sa_cons (se_callB cg_len (by rfl) T.n_len (by decide +kernel) (sa_cons (se_var 2) sa_nil)) sa_nil)))) sa_nil))) (ss_one (ss_ret se_bl)) ss_nil)
      (ss_cut (ss_if (st_cmp (og_neZ hr) (se_callB (cg_reprA gd hr sy) (by rfl) T.n_repr (by decide +kernel) (sa_cons (se_lc (own := [("name", 9)]) rfl sc__law_is_told.nd (se_seq (se_var 5)) (blkOk_by (N := n__law_is_told) (sc := defScope s__law_is_told) (own := [("name", 9)]) (by decide +kernel)) (fun _ _ _ _ _ => (sg_name (i := 9) sc__law_is_told.nd)) (fun _ _ _ _ _ => sts_nil) (fun _ _ _ _ _ => (se_ownItem d_Spans___getitem__ hr (by decide) (se_var 1) (se_var 9))) (by decide)) sa_nil)) (se_callB (cg_reprA gd hr sy) (by rfl) T.n_repr (by decide +kernel) (sa_cons (se_lc (own := [("name", 9)]) rfl sc__law_is_told.nd (se_seq (se_var 5)) (blkOk_by (N := n__law_is_told) (sc := defScope s__law_is_told) (own := [("name", 9)]) (by decide +kernel)) (fun _ _ _ _ _ => (sg_name (i := 9) sc__law_is_told.nd)) (fun _ _ _ _ _ => sts_nil) (fun _ _ _ _ _ => (se_dget hr (se_var 2) (se_var 9))) (by decide)) sa_nil))) (ss_one (ss_ret se_bl)) ss_nil)
      (ss_cut (ss_setLc (own := [("one", 10)]) (i := 8) rfl sc__law_is_told.nd (se_seq (se_call d__law_odd hr (by decide) (by rfl) tk [true, false, false] (sa_cons (se_var 0) (sa_cons (se_var 2) (sa_cons (se_var 1) sa_nil))))) (blkOk_by (N := n__law_is_told) (sc := defScope s__law_is_told) (own := [("one", 10)]) (by decide +kernel)) (fun _ _ _ _ _ => (sg_name (i := 10) sc__law_is_told.nd)) (fun _ _ _ _ _ => (sts_one (st_ownIn d_Spans___contains__ hr (by decide) (se_var 10) (se_var 1)))) (fun _ _ _ _ _ => (se_var 10)) (by decide))
      (ss_cut (ss_if (SW.st (sw_or (st_cmp (og_neZ hr) (se_var 8) (se_lst sa_nil)) (sw_or1 (st_cmp (og_neZ hr) (se_lc (own := [("name", 9)]) rfl sc__law_is_told.nd (se_seq (se_var 5)) (blkOk_by (N := n__law_is_told) (sc := defScope s__law_is_told) (own := [("name", 9)]) (by decide +kernel)) (fun _ _ _ _ _ => (sg_name (i := 9) sc__law_is_told.nd)) (fun _ _ _ _ _ => (sts_one (st_ownNotIn d_Spans___contains__ hr (by decide) (se_var 9) (se_var 1)))) (fun _ _ _ _ _ => (se_var 9)) (by decide)) (se_lst sa_nil))))) (ss_one (ss_ret se_bl)) ss_nil)
      (ss_one (ss_ret (se_cmp (og_eqZ hr) (se_ownStr d_Spans___str__ hr (by decide) (by rfl) T.n_str (se_var 1)) (se_bin og_add (se_bin og_add (se_bin og_add (se_bin og_add se_str (se_callTy cg_str (by rfl) T.n_str (by decide +kernel) (sa_cons (se_callB cg_len (by rfl) T.n_len (by decide +kernel) (sa_cons (se_var 2) sa_nil)) sa_nil))) se_str) (se_callTy cg_str (by rfl) T.n_str (by decide +kernel) (sa_cons (se_var 3) sa_nil))) se_str))))))))))))))
abbrev s__law_right : Stmt := top 44
abbrev n__law_right : List Str := ["tray", "interval", "rows", "far", "passed", "spans", "other", "moved", "name", "first", "normal", "near"]
theorem sc__law_right : FnScope n__law_right ["tray"] (defScope s__law_right) := ⟨rfl, rfl, rfl, by decide +kernel, rfl, by decide +kernel, by decide +kernel⟩
def w__law_right : WS := (wCut (wAsg 1 (wCall sp_pick [true, false] (waCons (wVar 0) (waCons (wLst (waCons (wC (.int 1)) (waCons (wC (.int 2)) (waCons (wC (.int 3)) (waCons (wC (.int 4)) (waCons (wC (.int 5)) (waCons (wC (.int 6)) (waCons (wC (.int 7)) (waCons (wC (.int 32)) waNil))))))))) waNil))))
  (wCut (wAsg 2 (wCall Ft.sp_rows [true, false, false] (waCons (wVar 0) (waCons (wVar 1) (waCons (wCall Ft.sp_names [true, false] (waCons (wVar 0) (waCons (w2 gAdd (wC (.int 1)) (wCall sp_spin [true, false] (waCons (wVar 0) (waCons (wC (.int 8)) waNil)))) waNil))) waNil)))))
  (wCut (wAsg 3 (wCall sp_pick [true, false] (waCons (wVar 0) (waCons (wLst (waCons (wC (.int 0)) (waCons (wC (.int 0)) (waCons (wC (.int 0)) (waCons (wNeg (w2 gPow (wC (.int 10)) (wC (.int 11)))) (waCons (w2 gAdd (w2 gPow (wC (.int 10)) (wC (.int 11))) (wC (.int 7))) waNil)))))) waNil))))
  (wCut (wAsg 2 (wB gDictP (waCons (wLcD mkK (pVar 2) (gN 8) twYes (wTup (waCons (wVar 8) (waCons (wTup (waCons (w2 gAdd (w2 gIx (wDGet (wVar 2) (wVar 8)) (wC (.int 0))) (wVar 3)) (waCons (w2 gAdd (w2 gIx (wDGet (wVar 2) (wVar 8)) (wC (.int 1))) (wVar 3)) waNil))) waNil))) [8]) waNil)))
  (wCut (wAsg 4 (wB gDictP (waCons (wLc (wiSeq (wCall sp_few2 [true, false, false] (waCons (wVar 0) (waCons (wB gSorted (waCons (wVar 2) waNil)) (waCons (wC (.int 8)) waNil))))) (gN 8) twYes (wTup (waCons (wVar 8) (waCons (wDGet (wVar 2) (wVar 8)) waNil))) [8]) waNil)))
  (wCut (wPar 5 6 (waCons (wMake "Spans" Pk.sp_Spans___init__ [false, true] (waCons (wVar 1) (waCons (wVar 4) waNil))) (waCons (wMake "Spans" Pk.sp_Spans___init__ [false, true] (waCons (wVar 1) (waCons (wCall Ft.sp_sorted [false] (waCons (wVar 2) waNil)) waNil))) waNil)))
  (wCut (wDrop (wDClear 4))
  (wCut (wIfS (twNot (tVal (wCall sp_law_is_told [true, false, false, false] (waCons (wVar 0) (waCons (wVar 5) (waCons (wVar 2) (waCons (wVar 1) waNil))))))) (wRet (wC (.bl false))) wNext)
  (wCut (wIfS (twOr (twNot (twX (wOwn "Spans" Pk.sp_Spans___eq__ false (wVar 5) (wVar 6)))) (twOr (twX (wOwn "Spans" Pk.sp_Spans___eq__ true (wVar 5) (wVar 6))) (twOr (twX (wOwn "Spans" Pk.sp_Spans___eq__ false (wVar 5) (wCall Ft.sp_sorted [false] (waCons (wVar 2) waNil)))) (twNot (twX (wOwn "Spans" Pk.sp_Spans___eq__ true (wVar 5) (wVar 2))))))) (wRet (wC (.bl false))) wNext)
  (wCut (wAsg 7 wDic0)
  (wCut (wFor (wiSeq (wB gSorted (waCons (wVar 2) waNil))) (gN 8) (wCut (wAsg 9 (w2 gMod (wB gInt (waCons (w2 gIx (wDGet (wVar 2) (wVar 8)) (wC (.int 0))) waNil)) (wVar 1)))
  (wSetD 7 (wVar 8) (wTup (waCons (wVar 9) (waCons (w2 gSub (w2 gAdd (wVar 9) (w2 gIx (wDGet (wVar 2) (wVar 8)) (wC (.int 1)))) (w2 gIx (wDGet (wVar 2) (wVar 8)) (wC (.int 0)))) waNil))))))
  (wCut (wAsg 10 (wProp "Spans" Pk.sp_Spans_normal (wVar 5)))
  (wCut (wIfS (tw2 (gEqZ true) (wB gReprA (waCons (wLst (waCons (wProp "Spans" Pk.sp_Spans_interval (wVar 10)) (waCons (wProp "Spans" Pk.sp_Spans_rows (wVar 10)) waNil))) waNil)) (wB gReprA (waCons (wLst (waCons (wVar 1) (waCons (wVar 7) waNil))) waNil))) (wRet (wC (.bl false))) wNext)
  (wCut (wIfS (twOr (twX (wOwn "Spans" Pk.sp_Spans___eq__ true (wProp "Spans" Pk.sp_Spans_normal (wVar 10)) (wVar 10))) (tw2 (gEqZ true) (wOwn "Spans" Pk.sp_Spans___eq__ false (wVar 10) (wVar 5)) (w2 (gEqZ false) (wVar 7) (wCall Ft.sp_sorted [false] (waCons (wVar 2) waNil))))) (wRet (wC (.bl false))) wNext)
  (wCut (wAsg 11 (wCall sp_law_near [true, false, false] (waCons (wVar 0) (waCons (wVar 2) (waCons (wVar 1) waNil)))))
  (wCut (wIfS (tw2 gIsN (wVar 11) (wC .non)) (wCut (wAsg 3 (wMake "Spans" Pk.sp_Spans___init__ [false, true] (waCons (wVar 1) (waCons (wVar 11) waNil))))
  (wIfS (twOr (twX (wOwn "Spans" Pk.sp_Spans___eq__ false (wVar 3) (wVar 5))) (twNot (twX (wOwn "Spans" Pk.sp_Spans___eq__ true (wVar 3) (wVar 5))))) (wRet (wC (.bl false))) wNext)) wNext)
  (wRet (wOr (w2 (gEqZ false) (wVar 1) (wC (.int 32))) (wOwn "Spans" Pk.sp_Spans___eq__ true (wMake "Spans" Pk.sp_Spans___init__ [false, true] (waCons (w2 gAdd (wVar 1) (wC (.int 1))) (waCons (wVar 2) waNil))) (wVar 5))))))))))))))))))))
theorem b__law_right (T : Txt K mg) (d_Spans_normal : PropD P w K mg base 7 "Spans" "normal" Pk.sp_Spans_normal) (d__law_pick : DefOk P w K mg base 2 "_law_pick" sp_pick) (d__law_rows : DefOk P w K mg base 4 "_law_rows" Ft.sp_rows) (d_Spans___init__ : MakeD P w K mg base 5 "Spans" Pk.sp_Spans___init__) (d_Spans___eq__ : EqD P w K mg base 1 "Spans" Pk.sp_Spans___eq__) (d__law_near : DefOk P w K mg base 3 "_law_near" sp_law_near) (d__law_names : DefOk P w K mg base 3 "_law_names" Ft.sp_names) (d__law_is_told : DefG P w K mg base 8 "_law_is_told" sp_law_is_told) (d__law_sorted : DefOk P w K mg base 1 "_law_sorted" Ft.sp_sorted) (d_Spans_interval : PropD P w K mg base 1 "Spans" "interval" Pk.sp_Spans_interval) (d_Spans_rows : PropD P w K mg base 1 "Spans" "rows" Pk.sp_Spans_rows) (d__law_roll : DefOk P w K mg base 1 "_law_roll" sp_spin) (d__law_few : DefOk P w K mg base 2 "_law_few" sp_few2) {cdv : Value} {A : Around} {outer : List PySem.Env} {s : Shared} {H : Hp} {E : XK} {fa : Addr} (hr : Room 8 (A.deeper (envOfC "_law_right" (defScope s__law_right) s.heap.objs.size fa cdv))) (gd : A.guards = some []) (sy : SysD base) :
    SSs (cxOf (L2.CX P w) P w K mg base n__law_right "_law_right" (defScope s__law_right) fa cdv A outer s H E) (fun cls d _ H => E cls d H) (defBody s__law_right) w__law_right := by
  have tk : Takes (cxOf (L2.CX P w) P w K mg base n__law_right "_law_right" (defScope s__law_right) fa cdv A outer s H E) (fun cls d _ H => E cls d H) := takes_of rfl rfl rfl rfl
  have own := passes_of (X := cxOf (L2.CX P w) P w K mg base n__law_right "_law_right" (defScope s__law_right) fa cdv A outer s H E) rfl
  exact (ss_cut (ss_asg (i := 1) sc__law_right.nd (se_call d__law_pick hr (by decide) (by rfl) tk [true, false] (sa_cons (se_var 0) (sa_cons (se_lst (sa_cons se_int (sa_cons se_int (sa_cons se_int (sa_cons se_int (sa_cons se_int (sa_cons se_int (sa_cons se_int (sa_cons se_int sa_nil))))))))) sa_nil))))
      (ss_cut (ss_asg (i := 2) sc__law_right.nd (se_call d__law_rows hr (by decide) (by rfl) tk [true, false, false] (sa_cons (se_var 0) (sa_cons (se_var 1) (sa_cons (se_call d__law_names hr (by decide) (by rfl) tk [true, false] (sa_cons (se_var 0) (sa_cons (se_bin og_add se_int (se_call d__law_roll hr (by decide) (by rfl) tk [true, false] (sa_cons (se_var 0) (sa_cons se_int sa_nil)))) sa_nil))) sa_nil)))))
      (ss_cut (ss_asg (i := 3) sc__law_right.nd (se_call d__law_pick hr (by decide) (by rfl) tk [true, false] (sa_cons (se_var 0) (sa_cons (se_lst (sa_cons se_int (sa_cons se_int (sa_cons se_int (sa_cons (se_neg (se_bin og_pow se_int se_int)) (sa_cons (se_bin og_add (se_bin og_pow se_int se_int) se_int) sa_nil)))))) sa_nil))))
      (ss_cut (ss_asg (i := 2) sc__law_right.nd (se_callTy (cg_dictP rfl) (by rfl) T.n_dict (by decide +kernel) (sa_cons (se_lcK (own := [("name", 8)]) rfl sc__law_right.nd (pe_var (i := 2) (by rfl) (by first | exact Or.inl rfl | exact Or.inr (Or.inl rfl) | exact Or.inr (Or.inr rfl)) (by decide) (by decide)) (path_var 2) (blkOk_by (N := n__law_right) (sc := defScope s__law_right) (own := [("name", 8)]) (by decide +kernel)) (fun _ _ _ _ _ => (sg_name (i := 8) sc__law_right.nd)) (fun _ _ _ _ _ => sts_nil) (fun _ _ _ _ _ => (se_tup (sa_cons (se_var 8) (sa_cons (se_tup (sa_cons (se_bin og_add (se_ix ig_ix (se_dget hr (se_var 2) (se_var 8)) se_int) (se_var 3)) (sa_cons (se_bin og_add (se_ix ig_ix (se_dget hr (se_var 2) (se_var 8)) se_int) (se_var 3)) sa_nil))) sa_nil)))) (by decide)) sa_nil)))
      (ss_cut (ss_asg (i := 4) sc__law_right.nd (se_callTy (cg_dictP rfl) (by rfl) T.n_dict (by decide +kernel) (sa_cons (se_lc (own := [("name", 8)]) rfl sc__law_right.nd (se_seq (se_call d__law_few hr (by decide) (by rfl) tk [true, false, false] (sa_cons (se_var 0) (sa_cons (se_callB (cg_sorted rfl) (by rfl) T.n_sorted (by decide +kernel) (sa_cons (se_var 2) sa_nil)) (sa_cons se_int sa_nil))))) (blkOk_by (N := n__law_right) (sc := defScope s__law_right) (own := [("name", 8)]) (by decide +kernel)) (fun _ _ _ _ _ => (sg_name (i := 8) sc__law_right.nd)) (fun _ _ _ _ _ => sts_nil) (fun _ _ _ _ _ => (se_tup (sa_cons (se_var 8) (sa_cons (se_dget hr (se_var 2) (se_var 8)) sa_nil)))) (by decide)) sa_nil)))
      (ss_cut (ss_par (i := 5) (j := 6) rfl sc__law_right.nd (sa_cons (se_make d_Spans___init__ hr (by decide) (by rfl) [false, true] (sa_cons (se_var 1) (sa_cons (se_var 4) sa_nil))) (sa_cons (se_make d_Spans___init__ hr (by decide) (by rfl) [false, true] (sa_cons (se_var 1) (sa_cons (se_call d__law_sorted hr (by decide) (by rfl) tk [false] (sa_cons (se_var 2) sa_nil)) sa_nil))) sa_nil)))
      (ss_cut (ss_expr (se_dclear 4))
      (ss_cut (ss_if (st_not (st_val (se_callG d__law_is_told hr gd (by decide) (by rfl) tk [true, false, false, false] (sa_cons (se_var 0) (sa_cons (se_var 5) (sa_cons (se_var 2) (sa_cons (se_var 1) sa_nil))))))) (ss_one (ss_ret se_bl)) ss_nil)
      (ss_cut (ss_if (SW.st (sw_or (st_not (st_ownEq d_Spans___eq__ hr (by decide) (se_var 5) (se_var 6))) (sw_or (st_ownNe d_Spans___eq__ hr (by decide) (se_var 5) (se_var 6)) (sw_or (st_ownEq d_Spans___eq__ hr (by decide) (se_var 5) (se_call d__law_sorted hr (by decide) (by rfl) tk [false] (sa_cons (se_var 2) sa_nil))) (sw_or1 (st_not (st_ownNe d_Spans___eq__ hr (by decide) (se_var 5) (se_var 2)))))))) (ss_one (ss_ret se_bl)) ss_nil)
      (ss_cut (ss_asg (i := 7) sc__law_right.nd se_dic0)
      (ss_cut (ss_for own rfl (se_seq (se_callB (cg_sorted rfl) (by rfl) T.n_sorted (by decide +kernel) (sa_cons (se_var 2) sa_nil))) (sg_name (i := 8) sc__law_right.nd) (ss_cut (ss_asg (i := 9) sc__law_right.nd (se_bin og_mod (se_callTy cg_int (by rfl) T.n_int (by decide +kernel) (sa_cons (se_ix ig_ix (se_dget hr (se_var 2) (se_var 8)) se_int) sa_nil)) (se_var 1)))
      (ss_one (ss_setD 7 hr (se_tup (sa_cons (se_var 9) (sa_cons (se_bin og_sub (se_bin og_add (se_var 9) (se_ix ig_ix (se_dget hr (se_var 2) (se_var 8)) se_int)) (se_ix ig_ix (se_dget hr (se_var 2) (se_var 8)) se_int)) sa_nil))) (se_var 8)))))
      (ss_cut (ss_asg (i := 10) sc__law_right.nd (se_prop T.cl_Spans d_Spans_normal hr (by decide) (se_var 5)))
      (ss_cut (ss_if (st_cmp (og_neZ hr) (se_callB (cg_reprA gd hr sy) (by rfl) T.n_repr (by decide +kernel) (sa_cons (se_lst (sa_cons (se_prop T.cl_Spans d_Spans_interval hr (by decide) (se_var 10)) (sa_cons (se_prop T.cl_Spans d_Spans_rows hr (by decide) (se_var 10)) sa_nil))) sa_nil)) (se_callB (cg_reprA gd hr sy) (by rfl) T.n_repr (by decide +kernel) (sa_cons (se_lst (sa_cons (se_var 1) (sa_cons (se_var 7) sa_nil))) sa_nil))) (ss_one (ss_ret se_bl)) ss_nil)
      (ss_cut (ss_if (SW.st (sw_or (st_ownNe d_Spans___eq__ hr (by decide) (se_prop T.cl_Spans d_Spans_normal hr (by decide) (se_var 10)) (se_var 10)) (sw_or1 (st_cmp (og_neZ hr) (se_ownEq d_Spans___eq__ hr (by decide) (se_var 10) (se_var 5)) (se_cmp (og_eqZ hr) (se_var 7) (se_call d__law_sorted hr (by decide) (by rfl) tk [false] (sa_cons (se_var 2) sa_nil))))))) (ss_one (ss_ret se_bl)) ss_nil)
      (ss_cut (ss_asg (i := 11) sc__law_right.nd (se_call d__law_near hr (by decide) (by rfl) tk [true, false, false] (sa_cons (se_var 0) (sa_cons (se_var 2) (sa_cons (se_var 1) sa_nil)))))
      (ss_cut (ss_if (st_cmp og_isnot (se_var 11) se_non) (ss_cut (ss_asg (i := 3) sc__law_right.nd (se_make d_Spans___init__ hr (by decide) (by rfl) [false, true] (sa_cons (se_var 1) (sa_cons (se_var 11) sa_nil))))
      (ss_one (ss_if (SW.st (sw_or (st_ownEq d_Spans___eq__ hr (by decide) (se_var 3) (se_var 5)) (sw_or1 (st_not (st_ownNe d_Spans___eq__ hr (by decide) (se_var 3) (se_var 5)))))) (ss_one (ss_ret se_bl)) ss_nil))) ss_nil)
      (ss_one (ss_ret (se_or (se_cmp (og_eqZ hr) (se_var 1) se_int) (se_one (se_ownNe d_Spans___eq__ hr (by decide) (se_make d_Spans___init__ hr (by decide) (by rfl) [false, true] (sa_cons (se_bin og_add (se_var 1) se_int) (sa_cons (se_var 2) sa_nil))) (se_var 5))))))))))))))))))))))
abbrev s__law_tray : Stmt := top 33
abbrev n__law_tray : List Str := ["script", "spot", "cell", "great", "begin"]
theorem sc__law_tray : FnScope n__law_tray ["script", "spot"] (defScope s__law_tray) := ⟨rfl, rfl, rfl, by decide +kernel, rfl, by decide +kernel, by decide +kernel⟩
def w__law_tray : WS := (wCut (wAsg 2 (wIf (tw2 gLt (wVar 1) (wB gLen (waCons (wVar 0) waNil))) (w2 gIx (wVar 0) (wVar 1)) (w2 gAdd (w2 gMulA (wC (.int 59)) (wVar 1)) (wC (.int 23)))))
  (wCut (wAsg 3 (w2 gMod (wB gInt (waCons (wB gAbs (waCons (wVar 2) waNil)) waNil)) (w2 gPow (w2 gPow (wC (.int 10)) (wC (.int 61))) (wC (.int 9)))))
  (wCut (wAsg 4 (w2 gAdd (w2 gAdd (w2 gAdd (w2 gMulA (wVar 3) (wC (.int 1000033))) (w2 gMulA (wC (.int 6151)) (wVar 1))) (w2 gMulA (wC (.int 29)) (wB gInt (waCons (w2 gLt (wVar 2) (wC (.int 0))) waNil)))) (wC (.int 13))))
  (wRet (wLst (waCons (wB gMax (waCons (wC (.int 0)) (waCons (w2 gSub (wVar 3) (w2 gPow (wC (.int 10)) (wC (.int 18)))) waNil))) (waCons (w2 gMod (wB gInt (waCons (wVar 4) waNil)) (wC (.int 2305843009213693907))) (waCons (wC (.int 0)) waNil))))))))
theorem b__law_tray (T : Txt K mg)  {cdv : Value} {A : Around} {outer : List PySem.Env} {s : Shared} {H : Hp} {E : XK} {fa : Addr} (hr : Room 0 (A.deeper (envOfC "_law_tray" (defScope s__law_tray) s.heap.objs.size fa cdv))) :
    SSs (cxOf (L2.CX P w) P w K mg base n__law_tray "_law_tray" (defScope s__law_tray) fa cdv A outer s H E) (fun cls d _ H => E cls d H) (defBody s__law_tray) w__law_tray := by
  have tk : Takes (cxOf (L2.CX P w) P w K mg base n__law_tray "_law_tray" (defScope s__law_tray) fa cdv A outer s H E) (fun cls d _ H => E cls d H) := takes_of rfl rfl rfl rfl
  have own := passes_of (X := cxOf (L2.CX P w) P w K mg base n__law_tray "_law_tray" (defScope s__law_tray) fa cdv A outer s H E) rfl
  exact (ss_cut (ss_asg (i := 2) sc__law_tray.nd (se_if (st_cmp og_lt (se_var 1) (se_callB cg_len (by rfl) T.n_len (by decide +kernel) (sa_cons (se_var 0) sa_nil))) (se_ix ig_ix (se_var 0) (se_var 1)) (se_bin og_add (se_bin og_mulA se_int (se_var 1)) se_int)))
      (ss_cut (ss_asg (i := 3) sc__law_tray.nd (se_bin og_mod (se_callTy cg_int (by rfl) T.n_int (by decide +kernel) (sa_cons (se_callB cg_abs (by rfl) T.n_abs (by decide +kernel) (sa_cons (se_var 2) sa_nil)) sa_nil)) (se_bin og_pow (se_bin og_pow se_int se_int) se_int)))
      (ss_cut (ss_asg (i := 4) sc__law_tray.nd (se_bin og_add (se_bin og_add (se_bin og_add (se_bin og_mulA (se_var 3) se_int) (se_bin og_mulA se_int (se_var 1))) (se_bin og_mulA se_int (se_callTy cg_int (by rfl) T.n_int (by decide +kernel) (sa_cons (se_cmp og_lt (se_var 2) se_int) sa_nil)))) se_int))
      (ss_one (ss_ret (se_lst (sa_cons (se_callB (cg_max rfl) (by rfl) T.n_max (by decide +kernel) (sa_cons se_int (sa_cons (se_bin og_sub (se_var 3) (se_bin og_pow se_int se_int)) sa_nil))) (sa_cons (se_bin og_mod (se_callTy cg_int (by rfl) T.n_int (by decide +kernel) (sa_cons (se_var 4) sa_nil)) se_int) (sa_cons se_int sa_nil)))))))))
abbrev s_law : Stmt := top 45
abbrev n_law : List Str := ["script", "spot", "one", "told", "due"]
theorem sc_law : FnScope n_law ["script"] (defScope s_law) := ⟨rfl, rfl, rfl, by decide +kernel, rfl, by decide +kernel, by decide +kernel⟩
def w_law : WS := (wCut (wFor (wiR1 (waCons (wB gMax (waCons (wC (.int 1)) (waCons (wB gMin (waCons (wC (.int 8)) (waCons (wB gLen (waCons (wVar 0) waNil)) waNil))) waNil))) waNil)) (gN 1) (wIfS (twNot (tVal (wCall sp_law_right [true] (waCons (wCall sp_reel [false, false] (waCons (wVar 0) (waCons (wVar 1) waNil))) waNil)))) (wRet (wC (.bl false))) wNext))
  (wCut (wAsg 2 (wMake "Spans" Pk.sp_Spans___init__ [false, true] (waCons (wC (.int 1)) (waCons (wDic [((wC (.str "b")), (wTup (waCons (wNeg (wC (.int 3))) (waCons (wC (.int 5)) waNil)))), ((wC (.str "a")), (wTup (waCons (wC (.int 7)) (waCons (wC (.int 8)) waNil))))]) waNil))))
  (wCut (wAsg 3 (wLst (waCons (wProp "Spans" Pk.sp_Spans_names (wVar 2)) (waCons (wProp "Spans" Pk.sp_Spans_rows (wVar 2)) (waCons (wProp "Spans" Pk.sp_Spans_total (wVar 2)) (waCons (wOwn1 "Spans" Pk.sp_Spans___len__ chkN (wVar 2)) waNil))))))
  (wCut (wAsg 3 (w2 gAdd (wVar 3) (wLst (waCons (wOwnIn "Spans" (Pk.sp_Spans___contains__ ownCs) false (wC (.str "a")) (wVar 2)) (waCons (wOwnIn "Spans" (Pk.sp_Spans___contains__ ownCs) false (wC (.str "c")) (wVar 2)) (waCons (wOwnItem "Spans" (Pk.sp_Spans___getitem__ ownCs) (wVar 2) (wC (.str "b"))) (waCons (wProp "Spans" Pk.sp_Spans_rows (wProp "Spans" Pk.sp_Spans_normal (wVar 2))) waNil)))))))
  (wCut (wAsg 4 (wLst (waCons (wTup (waCons (wC (.str "a")) (waCons (wC (.str "b")) waNil))) (waCons (wDic [((wC (.str "a")), (wTup (waCons (wC (.int 7)) (waCons (wC (.int 8)) waNil)))), ((wC (.str "b")), (wTup (waCons (wNeg (wC (.int 3))) (waCons (wC (.int 5)) waNil))))]) (waCons (wC (.int 9)) (waCons (wC (.int 2)) (waCons (wC (.bl true)) (waCons (wC (.bl false)) (waCons (wTup (waCons (wNeg (wC (.int 3))) (waCons (wC (.int 5)) waNil))) (waCons (wDic [((wC (.str "a")), (wTup (waCons (wC (.int 0)) (waCons (wC (.int 1)) waNil)))), ((wC (.str "b")), (wTup (waCons (wC (.int 0)) (waCons (wC (.int 8)) waNil))))]) waNil))))))))))
  (wRet (wAnd (w2 (gEqZ false) (wB gReprA (waCons (wVar 3) waNil)) (wB gReprA (waCons (wVar 4) waNil))) (w2 (gEqZ false) (wLst (waCons (wC (.int (8))) (waCons (wC (.int (8))) waNil))) (wLst (waCons (wC (.int 8)) (waCons (wC (.int 8)) waNil)))))))))))
theorem b_law (T : Txt K mg) (d_Spans___init__ : MakeD P w K mg base 5 "Spans" Pk.sp_Spans___init__) (d_Spans_names : PropD P w K mg base 1 "Spans" "names" Pk.sp_Spans_names) (d_Spans_rows : PropD P w K mg base 1 "Spans" "rows" Pk.sp_Spans_rows) (d_Spans_total : PropD P w K mg base 1 "Spans" "total" Pk.sp_Spans_total) (d_Spans___len__ : SpecD P w K mg base 1 "Spans" "__len__" Pk.sp_Spans___len__) (d_Spans___contains__ : SpecD P w K mg base 2 "Spans" "__contains__" (Pk.sp_Spans___contains__ ownCs)) (d_Spans___getitem__ : ItemD P w K mg base 5 "Spans" (Pk.sp_Spans___getitem__ ownCs)) (d__law_right : DefG P w K mg base 9 "_law_right" sp_law_right) (d_Spans_normal : PropD P w K mg base 7 "Spans" "normal" Pk.sp_Spans_normal) (d__law_tray : DefOk P w K mg base 1 "_law_tray" sp_reel) {cdv : Value} {A : Around} {outer : List PySem.Env} {s : Shared} {H : Hp} {E : XK} {fa : Addr} (hr : Room 9 (A.deeper (envOfC "law" (defScope s_law) s.heap.objs.size fa cdv))) (gd : A.guards = some []) (sy : SysD base) :
    SSs (cxOf (L2.CX P w) P w K mg base n_law "law" (defScope s_law) fa cdv A outer s H E) (fun cls d _ H => E cls d H) (defBody s_law) w_law := by
  have tk : Takes (cxOf (L2.CX P w) P w K mg base n_law "law" (defScope s_law) fa cdv A outer s H E) (fun cls d _ H => E cls d H) := takes_of rfl rfl rfl rfl
  have own := passes_of (X := cxOf (L2.CX P w) P w K mg base n_law "law" (defScope s_law) fa cdv A outer s H E) rfl
  exact (ss_cut (ss_for own rfl (si_range1 (by rfl) T.n_range (sa_cons (se_callB (cg_max rfl) (by rfl) T.n_max (by decide +kernel) (sa_cons se_int (sa_cons (se_callB (cg_min rfl) (by rfl) T.n_min (by decide +kernel) (sa_cons se_int (sa_cons (se_callB cg_len (by rfl) T.n_len (by decide +kernel) (sa_cons (se_var 0) sa_nil)) sa_nil))) sa_nil))) sa_nil)) (sg_name (i := 1) sc_law.nd) (ss_one (ss_if (st_not (st_val (se_callG d__law_right hr gd (by decide) (by rfl) tk [true] (sa_cons (se_call d__law_tray hr (by decide) (by rfl) tk [false, false] (sa_cons (se_var 0) (sa_cons (se_var 1) sa_nil))) sa_nil)))) (ss_one (ss_ret se_bl)) ss_nil)))
      (ss_cut (ss_asg (i := 2) sc_law.nd (se_make d_Spans___init__ hr (by decide) (by rfl) [false, true] (sa_cons se_int (sa_cons (se_dic (.cons se_str (se_tup (sa_cons (se_neg se_int) (sa_cons se_int sa_nil))) (.cons se_str (se_tup (sa_cons se_int (sa_cons se_int sa_nil))) .nil))) sa_nil))))
      (ss_cut (ss_asg (i := 3) sc_law.nd (se_lst (sa_cons (se_prop T.cl_Spans d_Spans_names hr (by decide) (se_var 2)) (sa_cons (se_prop T.cl_Spans d_Spans_rows hr (by decide) (se_var 2)) (sa_cons (se_prop T.cl_Spans d_Spans_total hr (by decide) (se_var 2)) (sa_cons (se_ownLen d_Spans___len__ hr (by decide) (by rfl) T.n_len (se_var 2)) sa_nil))))))
      (ss_cut (ss_asg (i := 3) sc_law.nd (se_bin og_add (se_var 3) (se_lst (sa_cons (se_ownIn d_Spans___contains__ hr (by decide) se_str (se_var 2)) (sa_cons (se_ownIn d_Spans___contains__ hr (by decide) se_str (se_var 2)) (sa_cons (se_ownItem d_Spans___getitem__ hr (by decide) (se_var 2) se_str) (sa_cons (se_prop T.cl_Spans d_Spans_rows hr (by decide) (se_prop T.cl_Spans d_Spans_normal hr (by decide) (se_var 2))) sa_nil)))))))
      (ss_cut (ss_asg (i := 4) sc_law.nd (se_lst (sa_cons (se_tup (sa_cons se_str (sa_cons se_str sa_nil))) (sa_cons (se_dic (.cons se_str (se_tup (sa_cons se_int (sa_cons se_int sa_nil))) (.cons se_str (se_tup (sa_cons (se_neg se_int) (sa_cons se_int sa_nil))) .nil))) (sa_cons se_int (sa_cons se_int (sa_cons se_bl (sa_cons se_bl (sa_cons (se_tup (sa_cons (se_neg se_int) (sa_cons se_int sa_nil))) (sa_cons (se_dic (.cons se_str (se_tup (sa_cons se_int (sa_cons se_int sa_nil))) (.cons se_str (se_tup (sa_cons se_int (sa_cons se_int sa_nil))) .nil))) sa_nil))))))))))
      (ss_one (ss_ret (se_and (se_cmp (og_eqZ hr) (se_callB (cg_reprA gd hr sy) (by rfl) T.n_repr (by decide +kernel) (sa_cons (se_var 3) sa_nil)) (se_callB (cg_reprA gd hr sy) (by rfl) T.n_repr (by decide +kernel) (sa_cons (se_var 4) sa_nil))) (se_one (se_cmp (og_eqZ hr) (se_lst (sa_cons (se_gint (by rfl) (T.c_MAX_LIFE).choose_spec) (sa_cons (se_gint (by rfl) (T.c_MAX_VALUES).choose_spec) sa_nil))) (se_lst (sa_cons se_int (sa_cons se_int sa_nil)))))))))))))
end
end K37

/-! P37: rows that differ in one place. -/
namespace K37
open PySem L2 Z Q Pk
theorem p_law_near {as Q QE} (h : sp_law_near as Q QE) : w__law_near (rho0 8 as) (bodyFl as Q QE) := by
  obtain ⟨p, rl, rows, T, rfl, hr, L, k0, k⟩ := h
  have ok := L.ok
  have t1 := L.t1
  have t2 := L.t2
  have sp := sortK_perm rows
  refine ⟨keys rows, .inr ⟨_, rfl, keys_kvS _ _⟩, by rw [List.length_map]; have := ok.l8; omega, fun ys yp ysd => ?_⟩
  have ey := sort_keys ok.nd yp ysd
  subst ey
  intro p1
  refine ⟨_, _, _, _, rfl, hr, rfl, ?_, ?_, fun x rl hr hx => ?_⟩
  · intro e
    have := congrArg List.length e
    rw [List.length_map, List.length_map, sp.length_eq, List.length_nil] at this
    have := ok.l1; omega
  · rw [List.length_map, List.length_map, sp.length_eq]; have := ok.l8; omega
  obtain ⟨z, hz, rfl⟩ := List.mem_map.mp hx
  have hz : z ∈ keys rows := (sp.map (·.1)).mem_iff.mp hz
  obtain ⟨⟨b, e⟩, hg⟩ := getS_some hz
  have hv : valD (kvS spanD rows) (.inr z) = some (spanD (b, e)) := by rw [valD_kvS, hg]; rfl
  have hm := getS_mem hg
  have hs := ok.sp _ hm
  have hsm := L.sm _ hm
  refine nm8 ?_
  refine ⟨_, _, rfl, hv, ?_⟩
  refine nm8 ?_
  refine ⟨(by decide : 2 ≤ sizeLine), ?_⟩
  refine ⟨(by decide : 2 ≤ sizeLine), ?_⟩
  refine ⟨(by decide : 2 ≤ sizeLine), ?_⟩
  refine ⟨(by decide : 2 ≤ sizeLine), ?_⟩
  refine ⟨(by decide : 4 ≤ sizeLine), fun p2 => ?_⟩
  refine nm8 ?_
  intro p3
  refine ⟨_, _, rfl, by rw [mkI_kvS]; exact pairsD_rows _ _, ?_⟩
  rw [mergeKD_rows _ ok.nd]
  intro p4
  refine nm8 ?_
  refine ⟨_, _, _, _, rfl, hr, rfl, List.cons_ne_nil _ _, (by decide : 4 ≤ 1000), fun x rl hr hx => ?_⟩
  obtain ⟨s, rfl, hs2⟩ : ∃ s : Int × Int, x = spanD s ∧ s ≠ (b, e) ∧ -300000000000 ≤ s.1 ∧ s.1 ≤ 300000000000 ∧ 1 ≤ s.2 - s.1 ∧ s.2 - s.1 ≤ 300 := by
    obtain ⟨_, _, s1, s2⟩ := hs
    have s1 : 1 ≤ e - b := s1
    have s2 : e - b ≤ 8 * T := s2
    have m1 : -200000000000 ≤ b := hsm.1
    have m2 : b ≤ 200000000000 := hsm.2
    simp only [List.mem_cons, List.not_mem_nil, or_false] at hx
    rcases hx with rfl | rfl | rfl | rfl
    · exact ⟨(b + T, e + T), rfl, fun h => by have := congrArg Prod.fst h; simp only at this; omega, by simp only; omega, by simp only; omega, by simp only; omega, by simp only; omega⟩
    · exact ⟨(b, e + 1), rfl, fun h => by have := congrArg Prod.snd h; simp only at this; omega, by simp only; omega, by simp only; omega, by simp only; omega, by simp only; omega⟩
    · exact ⟨(b - 1, e), rfl, fun h => by have := congrArg Prod.fst h; simp only at this; omega, by simp only; omega, by simp only; omega, by simp only; omega, by simp only; omega⟩
    · exact ⟨(b + 1, e + 1), rfl, fun h => by have := congrArg Prod.fst h; simp only at this; omega, by simp only; omega, by simp only; omega, by simp only; omega, by simp only; omega⟩
  refine ⟨_, rfl, by rw [kvS_len]; have := ok.l8; exact Nat.lt_of_le_of_lt this (by decide), ?_⟩
  rw [putKD_kvS]
  refine nm8 ?_
  have hg2 : getS (putS rows z s) z = some s := by rw [getS_putS, if_pos rfl]
  have hv2 : valD (kvS spanD (putS rows z s)) (.inr z) = some (spanD s) := by rw [valD_kvS, hg2]; rfl
  refine ⟨_, _, rfl, hv2, ?_⟩
  refine ⟨_, _, rfl, hv2, ?_⟩
  refine ⟨mul64 (by decide), ?_⟩
  obtain ⟨s0, s1, s2, s3, s4⟩ := hs2
  refine ite2d (p := s.2 - s.1 ≤ 8 * T) (fun h1 => ?_) (fun h1 => ?_)
  · refine ⟨rfl, k _ _ hr ?_ ⟨z, ?_⟩⟩
    · refine ⟨by rw [putS_len hz]; exact ok.l1, by rw [putS_len hz]; exact ok.l8, putS_nodup ok.nd, fun e he => ?_, fun e he => ?_⟩
      · rcases putS_mem hz he with ⟨h1, h2⟩ | h
        · rw [h1]; exact ok.nm _ hm
        · exact ok.nm _ h
      · rcases putS_mem hz he with ⟨h2, h3⟩ | h
        · rw [h3]
          exact ⟨inL_iff.mpr ⟨by omega, by omega⟩, inL_iff.mpr ⟨by omega, by omega⟩, s3, h1⟩
        · exact ok.sp _ h
    · rw [hg, hg2]
      intro h; exact s0 (Option.some.inj h).symm
  · exact ⟨rfl, k0 _ hr⟩
end K37

/-! P37b: values that are no names. -/
namespace K37
open PySem L2 Z Q Pk
theorem p_law_odd {as Q QE} (h : sp_law_odd as Q QE) : w__law_odd (rho0 8 as) (bodyFl as Q QE) := by
  obtain ⟨p, rl, rows, T, rfl, hr, L, k⟩ := h
  have ok := L.ok
  have t1 := L.t1
  have t2 := L.t2
  have sp := sortK_perm rows
  have srt : ∀ ys : List Str, ys.Perm (keys rows) → PyProof.Rows.sortedS ys = true → ys = keys (sortK rows) := fun ys yp ysd => sort_keys ok.nd yp ysd
  have l64 : (keys rows).length < 64 := by rw [List.length_map]; have := ok.l8; omega
  refine ⟨keys rows, .inr ⟨_, rfl, keys_kvS _ _⟩, l64, fun ys yp ysd => ?_⟩
  rw [srt ys yp ysd]
  obtain ⟨⟨z, b, e⟩, rest, hs⟩ : ∃ f r, sortK rows = f :: r := by
    cases h : sortK rows with
    | nil => have := sp.length_eq; rw [h] at this; have := ok.l1; simp at *; omega
    | cons f r => exact ⟨f, r, rfl⟩
  have hm : (z, (b, e)) ∈ rows := sp.mem_iff.mp (by rw [hs]; exact List.mem_cons_self ..)
  have hg : getS rows z = some (b, e) := getS_of_mem ok.nd hm
  have hv : valD (kvS spanD rows) (.inr z) = some (spanD (b, e)) := by rw [valD_kvS, hg]; rfl
  have hn := name_ok (ok.nm _ hm)
  rw [hs]
  intro p1
  have h0 : atI (D.str z :: (keys rest).map D.str) 0 = some (.str z) := atI_cons0
  show match atI (D.str z :: (keys rest).map D.str) 0 with | some d => _ | none => False
  rw [h0]
  refine nm8 ?_
  have z1 : z.length ≤ 8 := hn.1
  refine ⟨(by decide : 0 ≤ sizeLine), ?_⟩
  refine ⟨(by decide : 0 ≤ sizeLine), fun p2 => ?_⟩
  intro p3
  refine ⟨(by decide : 1 ≤ sizeLine), ?_⟩
  refine ⟨(by decide : 1 ≤ sizeLine), fun p4 => ?_⟩
  refine ⟨_, rfl, fun p5 => ?_⟩
  refine ⟨_, _, rfl, hv, ?_⟩
  refine ⟨sz (by omega), ?_⟩
  refine ⟨(by decide : 15 ≤ sizeLine), fun p6 => ?_⟩
  refine nm8 ?_
  refine ⟨by omega, ?_⟩
  refine ⟨sz (by have : ((" " : String) : Str).length = 1 := rfl; omega), ?_⟩
  refine ⟨keys rows, .inr ⟨_, rfl, keys_kvS _ _⟩, l64, fun ys yp ysd => ?_⟩
  rw [srt ys yp ysd]
  intro p7
  refine ⟨_, rfl, ?_⟩
  intro p8
  refine ⟨(by decide : 4 ≤ sizeLine), fun p9 => ?_⟩
  refine ⟨(by decide : 19 ≤ sizeLine), fun p10 => ?_⟩
  refine nm8 ?_
  generalize hds : ([D.non, D.int 0, D.int 1, D.bl true, D.str (Str.ofString ""), D.str (Str.ofString "A"), D.tup [],
              (Cell.lst []).toD, (Cell.dic []).toD, D.tup [D.str z], (Cell.lst [D.str z]).toD,
              (Cell.dic [(Sum.inr z, D.int 1)]).toD, spanD (b, e), spansD T ((z, b, e) :: rest), D.str (z ++ z)] ++ [D.str (Txt.upper z), D.str (Str.ofString " " ++ z), D.tup (List.map D.str (keys (sortK rows))), _]) = ds
  have hd : ds.length = 19 ∧ ∀ d ∈ ds, okV cs d ∧ ((∃ y, d = .str y) ∨ ∀ r, hasR r d = false) := by
    subst hds
    refine ⟨rfl, fun d hd => ?_⟩
    simp only [List.cons_append, List.nil_append, List.mem_cons, List.not_mem_nil, or_false] at hd
    rcases hd with rfl | rfl | rfl | rfl | rfl | rfl | rfl | rfl | rfl | rfl | rfl | rfl | rfl | rfl | rfl | rfl | rfl | rfl | rfl
    all_goals first
      | exact ⟨trivial, .inr fun _ => rfl⟩
      | exact ⟨⟨by decide +kernel, by decide +kernel⟩, .inl ⟨_, rfl⟩⟩
      | exact ⟨okS_le (okS_app hn hn) (by decide), .inl ⟨_, rfl⟩⟩
      | exact ⟨okS_le (upper_ok (ok.nm _ hm)) (by decide), .inl ⟨_, rfl⟩⟩
      | exact ⟨okS_le (okS_app (n := 1) ⟨by decide +kernel, by decide +kernel⟩ hn) (by decide), .inl ⟨_, rfl⟩⟩
      | exact ⟨List.mem_cons_self .., .inr fun _ => rfl⟩
  clear hds
  obtain ⟨hl, hd⟩ := hd
  refine ⟨by decide +kernel, trivial, ?_⟩
  refine lc_keep (φ := fun c => D.str (one c)) (fun c => !decide (one c ∈ keys rows)) (("abcdefghijklmnopqrstuvwxyz" : Str).cps.toList) _ (fun c acc ds' hc h1 h2 => ?_) ?_
  · refine ⟨_, rfl, ?_⟩
    rw [valD_kvS, Option.isSome_map, getS_isSome]
    cases hk : decide (one c ∈ keys rows) with
    | true => exact ⟨trivial, h2 (by rw [hk]; rfl)⟩
    | false => exact ⟨trivial, h1 (by rw [hk]; rfl)⟩
  rw [List.nil_append]
  generalize hfr : (List.filter (fun c => !decide (one c ∈ keys rows)) ("abcdefghijklmnopqrstuvwxyz" : Str).cps.toList) = free
  have hfree : ∀ c ∈ free, one c ∉ keys rows ∧ okS 1000 (one c) := fun c hc => by
    rw [← hfr] at hc
    have h2 := (List.mem_filter.mp hc).2
    have h3 := Ft.abc_low c (List.mem_filter.mp hc).1
    unfold low at h3
    rw [Bool.and_eq_true, decide_eq_true_iff, decide_eq_true_iff] at h3
    refine ⟨by simpa using h2, okS_list.mpr ⟨by show 1 ≤ 1000; decide, fun x hx => ?_⟩⟩
    rcases List.mem_singleton.mp (show x ∈ [c] from hx) with rfl
    omega
  intro p11
  refine nm8 ?_
  have hfl : free.length ≤ 26 := by
    rw [← hfr]
    exact Nat.le_trans (List.length_filter_le _ _) (by decide +kernel)
  clear hfr
  refine ⟨by rw [hl]; decide, rfl, ?_⟩
  refine lc_filter (fun d => match d with | .str y => !decide (y ∈ keys rows) | _ => true) ds _ (fun d acc ds' hdm h1 h2 => ?_) ?_
  · have hv2 := (hd d hdm).1
    cases d with
    | str y =>
      refine ⟨_, rfl, ?_⟩
      rw [valD_kvS, Option.isSome_map, getS_isSome]
      cases hk : decide (y ∈ keys rows) with
      | true => exact ⟨rfl, h2 (by show (!decide (y ∈ keys rows)) = false; rw [hk]; rfl)⟩
      | false => exact ⟨rfl, h1 (by show (!decide (y ∈ keys rows)) = true; rw [hk]; rfl)⟩
    | ins c fs => exact ⟨hv2, by decide, rfl, h1 rfl⟩
    | ty _ => exact hv2.elim
    | _ => exact ⟨rfl, h1 rfl⟩
  rw [List.nil_append]
  have hd2 : ∀ d ∈ ds.filter (fun d => match d with | .str y => !decide (y ∈ keys rows) | _ => true), okV cs d ∧ hasR (sortK rows) d = false := fun d hdm => by
    obtain ⟨h1, h2⟩ := List.mem_filter.mp hdm
    obtain ⟨h3, h4⟩ := hd d h1
    refine ⟨h3, ?_⟩
    rcases h4 with ⟨y, rfl⟩ | h4
    · have h2 : (!decide (y ∈ keys rows)) = true := h2
      show (nameB y && decide (y ∈ keys (sortK rows))) = false
      rw [decide_eq_false (fun h => by
        rw [decide_eq_true ((sp.map (·.1)).mem_iff.mp h)] at h2; cases h2), Bool.and_false]
    · exact h4 _
  have hl2 : (ds.filter (fun d => match d with | .str y => !decide (y ∈ keys rows) | _ => true)).length ≤ 19 := by
    have := List.length_filter_le (fun d => match d with | .str y => !decide (y ∈ keys rows) | _ => true) ds
    omega
  generalize (ds.filter (fun d => match d with | .str y => !decide (y ∈ keys rows) | _ => true)) = ds2 at *
  intro p12
  refine nm8 ?_
  refine ⟨_, _, _, _, 9, rfl, hr, rfl, by omega, fun rl fs rest2 hr hperm hfl2 => ?_⟩
  have hsub : ∀ d ∈ fs, okV cs d ∧ hasR (sortK rows) d = false := fun d hdm => hd2 d (hperm.mem_iff.mp (List.mem_append_left _ hdm))
  have hfl3 : fs.length ≤ 9 := by omega
  intro p13 p14
  have hc1 : cutD (free.map fun c => D.str (one c)) none (some 1) = (free.map fun c => D.str (one c)).take 1 := cutD_take (k := 1)
  rw [hc1]
  refine ⟨sz ?_, ?_⟩
  · rw [List.length_take]; omega
  intro p15; refine ⟨rfl, k _ _ hr ?_ ?_⟩
  · rw [List.length_append, List.length_take]; omega
  · intro d hdm
    rcases List.mem_append.mp hdm with h | h
    · exact hsub d h
    · obtain ⟨c, hc, rfl⟩ := List.mem_map.mp (List.mem_of_mem_take h)
      refine ⟨(hfree c hc).2, ?_⟩
      show (nameB (one c) && decide (one c ∈ keys (sortK rows))) = false
      rw [decide_eq_false (fun h => (hfree c hc).1 ((sp.map (·.1)).mem_iff.mp h)), Bool.and_false]
end K37

/-! P37c: what spans tell. -/
namespace K37
open PySem L2 Z Q Pk
theorem sh_span {T : Int} {s : Int × Int} (h : spanOk T s) : Sh 89 1 (spanD s) := by
  have h1 := inL_iff.mp h.1
  have h2 := inL_iff.mp h.2.1
  refine sh_tup (n := 41) (k := 0) (m := 2) (fun x hx => ?_) (Nat.le_refl _)
  simp only [List.mem_cons, List.not_mem_nil, or_false] at hx
  rcases hx with rfl | rfl
  · exact sh_int ⟨by omega, by omega⟩
  · exact sh_int ⟨by omega, by omega⟩
theorem sh_rows {T : Int} {rows : Rows} (h : RowsOk T rows) : Sh 1402 2 (.dic (kvS spanD rows)) :=
  sh_dic (a := 8) (n := 89) (k := 1) (m := 8) (fun e he => name_ok (h.nm e he)) (fun e he => sh_span (h.sp e he)) h.l8
theorem sh_names {T : Int} {rows : Rows} (h : RowsOk T rows) : Sh 675 1 (.tup ((keys rows).map .str)) := by
  refine sh_tup (n := 82) (k := 0) (m := 8) (fun x hx => ?_) (by rw [List.length_map, List.length_map]; exact h.l8)
  obtain ⟨z, hz, rfl⟩ := List.mem_map.mp hx
  obtain ⟨e, he, rfl⟩ := List.mem_map.mp hz
  exact sh_str (name_ok (h.nm e he))
theorem sum_bound {T : Int} : ∀ {rows : Rows}, (∀ e ∈ rows, spanOk T e.2) → T ≤ 32 → 0 ≤ totalR rows ∧ totalR rows ≤ 256 * rows.length
  | [], _, _ => ⟨Int.le_refl _, Int.le_refl _⟩
  | e :: r, h, t => by
    have ih := sum_bound (rows := r) (fun x hx => h x (List.mem_cons_of_mem _ hx)) t
    obtain ⟨_, _, h1, h2⟩ := h e (List.mem_cons_self ..)
    have : totalR (e :: r) = e.2.2 - e.2.1 + totalR r := rfl
    rw [this, List.length_cons]
    omega
theorem p_law_is_told {as Q QE} (h : sp_law_is_told as Q QE) : w__law_is_told (rho0 11 as) (bodyFl as Q QE) := by
  obtain ⟨p, rl, rows, T, rfl, hr, L, k⟩ := h
  have ok := L.ok
  have t1 := L.t1
  have t2 := L.t2
  have l8 := ok.l8
  have sp := sortK_perm rows
  have ok2 : RowsOk T (sortK rows) := ok.perm sp
  have asc := sortK_asc ok.nd
  have srt : ∀ ys : List Str, ys.Perm (keys rows) → PyProof.Rows.sortedS ys = true → ys = keys (sortK rows) := fun ys yp ysd => sort_keys ok.nd yp ysd
  have l64 : (keys rows).length < 64 := by rw [List.length_map]; omega
  have hT : -(10 ^ 40) < T ∧ T < 10 ^ 40 := ⟨by omega, by omega⟩
  have gr : ∀ e ∈ sortK rows, valD (kvS spanD rows) (.inr e.1) = some (spanD e.2) := fun e he => by
    rw [valD_kvS, getS_of_mem ok.nd (show (e.1, e.2) ∈ rows from sp.mem_iff.mp he)]; rfl
  have hls : (sortK rows).length = rows.length := sp.length_eq
  refine ⟨_, rfl, ok.nd, by omega, fun p4 => ?_⟩
  refine ⟨keys rows, .inr ⟨_, rfl, keys_kvS _ _⟩, l64, fun ys yp ysd => ?_⟩
  rw [srt ys yp ysd]
  intro p5
  refine nm11 ?_
  refine ⟨⟨_, rfl⟩, _, _, rfl, ?_⟩
  refine ⟨⟨_, rfl⟩, _, _, rfl, fun p6 => ?_⟩
  refine ⟨⟨_, rfl⟩, _, _, rfl, ?_⟩
  refine ⟨(by decide : 3 ≤ sizeLine), fun p7 => ?_⟩
  have S1 : Sh 4215 3 (.lst [.int T, .dic (kvS spanD (sortK rows)), .tup ((keys (sortK rows)).map .str)]) := by
    refine sh_lst (n := 1402) (k := 2) (m := 3) (fun x hx => ?_) (Nat.le_refl _)
    simp only [List.mem_cons, List.not_mem_nil, or_false] at hx
    rcases hx with rfl | rfl | rfl
    · exact (sh_int (k := 0) hT).mono (by decide) (by decide)
    · exact sh_rows ok2
    · exact (sh_names ok2).mono (by decide) (by decide)
  refine reprD S1 rfl ?_
  refine ⟨_, rfl, ?_⟩
  refine ⟨(by decide : 3 ≤ sizeLine), fun p8 => ?_⟩
  refine reprD S1 rfl ?_
  refine iteNt (decide_eq_true rfl) ?_
  refine nm11 ?_
  refine ⟨⟨_, rfl⟩, _, _, rfl, fun p9 => ?_⟩
  refine nm11 ?_
  refine ⟨(by decide : 2 ≤ sizeLine), ?_⟩
  obtain ⟨⟨z, b, e⟩, rest, hs⟩ : ∃ f r, sortK rows = f :: r := by
    cases h : sortK rows with
    | nil => rw [h] at hls; have := ok.l1; simp at *; omega
    | cons f r => exact ⟨f, r, rfl⟩
  have h0 : atI ((keys (sortK rows)).map D.str) 0 = some (.str z) := by rw [hs]; exact atI_cons0
  show match atI ((keys (sortK rows)).map D.str) 0 with | some d => _ | none => False
  rw [h0]
  refine ⟨_, rfl, by rw [kvS_len]; exact Nat.lt_of_le_of_lt (show _ ≤ 8 by omega) (by decide), ?_⟩
  have hzk : z ∈ keys (sortK rows) := by rw [hs]; exact List.mem_cons_self ..
  have e1 : putKD (kvS spanD (sortK rows)) (.inr z) (D.tup [.int 0, .int 1]) = kvS spanD (putS (sortK rows) z (0, 1)) := putKD_kvS spanD z (0, 1) _
  rw [e1]
  refine nm11 ?_
  refine ⟨(by decide : 2 ≤ sizeLine), ?_⟩
  refine ⟨by decide +kernel, by decide, by decide, ?_⟩
  refine ⟨_, rfl, by rw [kvS_len, putS_len hzk]; exact Nat.lt_of_le_of_lt (show _ ≤ 8 by omega) (by decide), ?_⟩
  refine nm11 ?_
  refine ⟨by rw [List.length_map, List.length_map]; exact sz (by omega), rfl, ?_⟩
  rw [show (keys (sortK rows)).map D.str = (sortK rows).map fun e => D.str e.1 from by rw [List.map_map]; rfl]
  refine lc_each (φ := fun e => D.str e.1) (ψ := fun e => D.int (e.2.2 - e.2.1)) (sortK rows) _ (fun e acc ds' he h => ?_) ?_
  · exact ⟨_, _, rfl, gr e he, _, _, rfl, gr e he, rfl, h⟩
  rw [List.nil_append]
  intro p10
  refine ⟨_, _, rfl, intsD_all _ _, ?_⟩
  refine nm11 ?_
  refine ⟨⟨_, rfl⟩, _, _, rfl, fun p11 => ?_⟩
  refine ⟨⟨_, rfl⟩, _, _, rfl, by omega, ?_⟩
  refine ⟨⟨_, rfl⟩, _, _, rfl, ⟨_, rfl, _, rfl, sz (by omega)⟩, ?_⟩
  refine ⟨(by decide : 3 ≤ sizeLine), fun p12 => ?_⟩
  have tb := sum_bound ok2.sp t2
  have S2 : Sh 4215 3 (.lst [.dic (kvS spanD (sortK rows)), .int (totalR (sortK rows)), .int ((sortK rows).length : Nat)]) := by
    refine sh_lst (n := 1402) (k := 2) (m := 3) (fun x hx => ?_) (Nat.le_refl _)
    simp only [List.mem_cons, List.not_mem_nil, or_false] at hx
    rcases hx with rfl | rfl | rfl
    · exact sh_rows ok2
    · exact (sh_int (k := 0) ⟨by omega, by omega⟩).mono (by decide) (by decide)
    · exact (sh_int (k := 0) ⟨by omega, by omega⟩).mono (by decide) (by decide)
  refine reprD S2 rfl ?_
  have el : (((kvS spanD rows).length : Nat) : Int) = ((sortK rows).length : Nat) := by rw [kvS_len, hls]
  refine ⟨(by decide : 3 ≤ sizeLine), fun p13 => ?_⟩
  rw [el]
  refine reprD S2 rfl ?_
  refine iteNt (decide_eq_true rfl) ?_
  refine nm11 ?_
  have S3 : Sh 731 2 (.lst ((sortK rows).map fun e => spanD e.2)) := by
    refine sh_lst (n := 89) (k := 1) (m := 8) (fun x hx => ?_) (by rw [List.length_map]; omega)
    obtain ⟨e, he, rfl⟩ := List.mem_map.mp hx
    exact sh_span (ok2.sp e he)
  refine ⟨by rw [List.length_map]; exact sz (by omega), rfl, ?_⟩
  refine lc_each (φ := fun e => D.str e.1) (ψ := fun e => spanD e.2) (sortK rows) _ (fun e acc ds' he h => ?_) ?_
  · refine ⟨⟨_, rfl⟩, _, _, e.1, e.2, rfl, ok2.nm e he, getS_of_mem asc.nodup he, rfl, h⟩
  rw [List.nil_append]
  intro p14
  refine reprD S3 rfl ?_
  refine ⟨by rw [List.length_map]; exact sz (by omega), rfl, ?_⟩
  refine lc_each (φ := fun e => D.str e.1) (ψ := fun e => spanD e.2) (sortK rows) _ (fun e acc ds' he h => ?_) ?_
  · exact ⟨_, _, rfl, gr e he, rfl, h⟩
  rw [List.nil_append]
  intro p15
  refine reprD S3 rfl ?_
  refine iteNt (decide_eq_true rfl) ?_
  refine nm11 ?_
  refine ⟨_, _, _, _, rfl, hr, L, fun ds rl hr hl hd => ?_⟩
  intro p16
  refine ⟨sz (by omega), trivial, ?_⟩
  refine lc_filter (fun _ => false) ds _ (fun d acc ds' hdm h1 h2 => ?_) ?_
  · obtain ⟨a1, a2⟩ := hd d hdm
    refine ⟨⟨_, rfl⟩, _, _, d, rfl, a1, _, rfl, ?_⟩
    rw [a2]
    exact ⟨trivial, h2 rfl⟩
  rw [List.nil_append, show ds.filter (fun _ => false) = [] from List.filter_eq_nil_iff.mpr fun _ _ h => by cases h]
  intro p17
  refine nm11 ?_
  refine ⟨(by decide : 0 ≤ sizeLine), fun p18 => ?_⟩
  refine ⟨rfl, rfl, ?_⟩
  refine ⟨by rw [List.length_map]; exact sz (by omega), rfl, ?_⟩
  refine lc_keep (φ := fun e : Str × (Int × Int) => D.str e.1) (fun _ => false) (sortK rows) _ (fun e acc ds' he h1 h2 => ?_) ?_
  · refine ⟨⟨_, rfl⟩, _, _, _, rfl, okS_le (name_ok (ok2.nm e he)) (by decide), _, rfl, ?_⟩
    rw [show hasR (sortK rows) (.str e.1) = true from by
      show (nameB e.1 && decide (e.1 ∈ keys (sortK rows))) = true
      rw [ok2.nm e he, decide_eq_true (show e.1 ∈ keys (sortK rows) from List.mem_map_of_mem (f := (·.1)) he)]; rfl]
    exact ⟨rfl, h2 rfl⟩
  rw [List.nil_append, show (sortK rows).filter (fun _ => false) = [] from List.filter_eq_nil_iff.mpr fun _ _ h => by cases h]
  intro p19
  refine ⟨(by decide : 0 ≤ sizeLine), fun p20 => ?_⟩
  refine ⟨rfl, rfl, ?_⟩
  refine nm11 ?_
  have n1 : (Str.ofString (toString ((rows.length : Nat) : Int))).length ≤ 2 := str32 ⟨by omega, by omega⟩
  have n2 : (Str.ofString (toString T)).length ≤ 2 := str32 ⟨by omega, t2⟩
  have c1 : ((("spans of " : String) : Str)).length = 9 := by decide +kernel
  have c2 : ((" names in " : String) : Str).length = 10 := by decide +kernel
  have c3 : ((" ticks" : String) : Str).length = 6 := by decide +kernel
  have el : (((kvS spanD rows).length : Nat) : Int) = ((rows.length : Nat) : Int) := by rw [kvS_len]
  refine ⟨⟨_, rfl⟩, _, _, rfl, ⟨t1, t2, ok2, asc⟩, ⟨_, rfl, _, rfl⟩, ?_⟩
  refine ⟨by rw [el]; exact log_small ⟨by omega, by omega⟩, ?_⟩
  rw [el]
  refine ⟨sz (by rw [c1]; omega), ?_⟩
  refine ⟨sz (by rw [len_app, c1, c2]; omega), ?_⟩
  refine ⟨log_small ⟨by omega, by omega⟩, ?_⟩
  refine ⟨sz (by rw [len_app, len_app, c1, c2]; omega), ?_⟩
  refine ⟨sz (by rw [len_app, len_app, len_app, c1, c2, c3]; omega), ?_⟩
  refine ⟨rfl, ?_⟩
  show Q (.val (.bl (decide (strSp T (sortK rows).length = _)))) _
  rw [decide_eq_true (by unfold strSp; rw [empty_app, hls])]
  exact k _ hr
end K37

/-! P37d: drawn spans tell what was passed. -/
namespace K37
open PySem L2 Z Q Pk
def shiftR (F : Int) (rows : Rows) : Rows := rows.map fun e => (e.1, (e.2.1 + F, e.2.2 + F))
theorem keys_shift (F : Int) (rows : Rows) : keys (shiftR F rows) = keys rows := by
  unfold shiftR keys; rw [List.map_map]; rfl
theorem shift_ok {T F : Int} {rows : Rows} {zs : List Str} (t1 : 1 ≤ T) (t2 : T ≤ 32) (f1 : -100000000000 ≤ F) (f2 : F ≤ 100000000007) (hk : (keys rows).Perm zs) (l1 : 1 ≤ zs.length) (l8 : zs.length ≤ 8) (nd : zs.Nodup) (nm : ∀ z ∈ zs, nameB z = true) (hd : ∀ e ∈ rows, Ft.drawn T e.2) : LRows T (shiftR F rows) := by
  have hl : (shiftR F rows).length = zs.length := by
    have := hk.length_eq
    rw [List.length_map] at this
    unfold shiftR; rw [List.length_map]; exact this
  refine ⟨t1, t2, ⟨by omega, by omega, by rw [keys_shift]; exact hk.nodup_iff.mpr nd, fun e he => ?_, fun e he => ?_⟩, fun e he => ?_⟩
  · have : e.1 ∈ keys (shiftR F rows) := List.mem_map_of_mem (f := (·.1)) he
    rw [keys_shift] at this
    exact nm _ (hk.mem_iff.mp this)
  · obtain ⟨x, hx, rfl⟩ := List.mem_map.mp he
    obtain ⟨⟨a, b⟩, c, d⟩ := hd x hx
    exact ⟨inL_iff.mpr ⟨by show _ < x.2.1 + F; omega, by show x.2.1 + F < _; omega⟩, inL_iff.mpr ⟨by show _ < x.2.2 + F; omega, by show x.2.2 + F < _; omega⟩, by show 1 ≤ x.2.2 + F - (x.2.1 + F); omega, by show x.2.2 + F - (x.2.1 + F) ≤ _; omega⟩
  · obtain ⟨x, hx, rfl⟩ := List.mem_map.mp he
    obtain ⟨⟨a, b⟩, c, d⟩ := hd x hx
    exact ⟨by show _ ≤ x.2.1 + F; omega, by show x.2.1 + F ≤ _; omega⟩
theorem norm_norm (T : Int) (rows : Rows) : normR T (normR T rows) = normR T rows := by
  unfold normR
  rw [List.map_map]
  refine List.map_congr_left fun e _ => ?_
  show (e.1, (e.2.1 % T % T, e.2.1 % T % T + (e.2.1 % T + (e.2.2 - e.2.1) - e.2.1 % T))) = _
  rw [Int.emod_emod_of_dvd _ (Int.dvd_refl T)]
  rw [show e.2.1 % T + (e.2.2 - e.2.1) - e.2.1 % T = e.2.2 - e.2.1 by omega]
theorem norm_sp {T : Int} {rows : Rows} (h : SpOk T rows) : SpOk T (normR T rows) := ⟨h.t1, h.t2, norm_ok h.t1 h.t2 h.ok, by rw [keys_norm]; exact h.asc⟩
theorem ok_more {T : Int} {rows : Rows} (h : RowsOk T rows) : RowsOk (T + 1) rows := ⟨h.l1, h.l8, h.nd, h.nm, fun e he => by
  obtain ⟨a, b, c, d⟩ := h.sp e he
  exact ⟨a, b, c, by omega⟩⟩
theorem p_law_right {as Q QE} (h : sp_law_right as Q QE) : w__law_right (rho0 12 as) (bodyFl as Q QE) := by
  obtain ⟨p, rl0, rfl, hr, k⟩ := h
  refine ⟨(by decide : 8 ≤ sizeLine), fun p1 => ?_⟩
  refine ⟨_, _, _, _, rfl, hr, rfl, List.cons_ne_nil _ _, (by decide : 8 ≤ 1000), fun x rl hr hx => ?_⟩
  obtain ⟨T, rfl, t1, t2, t3⟩ : ∃ T : Int, x = .int T ∧ 1 ≤ T ∧ T ≤ 32 ∧ (T = 32 ∨ T + 1 ≤ 32) := by
    simp only [List.mem_cons, List.not_mem_nil, or_false] at hx
    rcases hx with rfl | rfl | rfl | rfl | rfl | rfl | rfl | rfl <;> exact ⟨_, rfl, by decide, by decide, by decide⟩
  refine nm12 ?_
  refine ⟨_, _, _, rfl, hr, by decide, by decide, fun m0 rl hr m1 m2 => ?_⟩
  obtain ⟨m, rfl⟩ := Int.eq_ofNat_of_zero_le m1
  refine ⟨_, _, 1 + m, rfl, hr, by omega, by omega, fun zs rl hr hl nd nm => fun p2 => ?_⟩
  refine ⟨_, _, _, _, rfl, hr, t1, t2, by omega, nd, nm, fun rows rl hr hk hd => fun p3 => ?_⟩
  refine nm12 ?_
  refine ⟨cpow_small (by decide +kernel), ?_⟩
  refine ⟨cpow_small (by decide +kernel), ?_⟩
  refine ⟨(by decide : 5 ≤ sizeLine), fun p4 => ?_⟩
  refine ⟨_, _, _, _, rfl, hr, rfl, List.cons_ne_nil _ _, (by decide : 5 ≤ 1000), fun x rl hr hx => ?_⟩
  obtain ⟨F, rfl, f1, f2⟩ : ∃ F : Int, x = .int F ∧ -100000000000 ≤ F ∧ F ≤ 100000000007 := by
    simp only [List.mem_cons, List.not_mem_nil, or_false] at hx
    rcases hx with rfl | rfl | rfl | rfl | rfl <;> exact ⟨_, rfl, by decide, by decide⟩
  refine nm12 ?_
  have lr : rows.length ≤ 8 := by have := hk.length_eq; rw [List.length_map] at this; omega
  have ndr : (keys rows).Nodup := hk.nodup_iff.mpr nd
  have L : LRows T (shiftR F rows) := shift_ok t1 t2 f1 f2 hk (by omega) (by omega) nd nm hd
  refine ⟨by rw [kvS_len]; exact sz (by omega), ?_⟩
  rw [mkK_rows]
  refine lc_each (φ := fun e => D.str e.1) (ψ := fun e => D.tup [.str e.1, spanD (e.2.1 + F, e.2.2 + F)]) rows _ (fun e acc ds' he h => ?_) ?_
  · have hv : valD (kvS spanD rows) (.inr e.1) = some (spanD e.2) := by rw [valD_kvS, getS_of_mem ndr (show (e.1, e.2) ∈ rows from he)]; rfl
    exact ⟨_, _, rfl, hv, _, _, rfl, hv, (by decide : 2 ≤ sizeLine), (by decide : 2 ≤ sizeLine), trivial, h⟩
  rw [List.nil_append]
  intro p5
  have e1 : (rows.map fun e => D.tup [.str e.1, spanD (e.2.1 + F, e.2.2 + F)]) = (shiftR F rows).map fun e => D.tup [.str e.1, spanD e.2] := by
    unfold shiftR; rw [List.map_map]; rfl
  rw [e1]
  generalize shiftR F rows = rows1 at L
  have ok := L.ok
  have l8 := ok.l8
  refine ⟨_, _, rfl, pairsD_rows _ _, ?_⟩
  rw [mergeKD_rows _ ok.nd]
  intro p6
  refine nm12 ?_
  have sp := sortK_perm rows1
  have ok2 : RowsOk T (sortK rows1) := ok.perm sp
  have asc := sortK_asc ok.nd
  have srt : ∀ ys : List Str, ys.Perm (keys rows1) → PyProof.Rows.sortedS ys = true → ys = keys (sortK rows1) := fun ys yp ysd => sort_keys ok.nd yp ysd
  have l64 : (keys rows1).length < 64 := by rw [List.length_map]; omega
  have gr : ∀ e ∈ rows1, valD (kvS spanD rows1) (.inr e.1) = some (spanD e.2) := fun e he => by
    rw [valD_kvS, getS_of_mem ok.nd (show (e.1, e.2) ∈ rows1 from he)]; rfl
  have hls : (sortK rows1).length = rows1.length := sp.length_eq
  have SP : SpOk T (sortK rows1) := ⟨t1, t2, ok2, asc⟩
  have nmK : (keys (sortK rows1)).map D.str = (sortK rows1).map fun e => D.str e.1 := by rw [List.map_map]; rfl
  refine ⟨keys rows1, .inr ⟨_, rfl, keys_kvS _ _⟩, l64, fun ys yp ysd => ?_⟩
  rw [srt ys yp ysd, nmK]
  intro p7
  refine ⟨_, _, _, _, 8, rfl, hr, rfl, by rw [List.length_map]; omega, fun rl fs rest hr hperm hfl => ?_⟩
  obtain ⟨ya, yb, hp2, rfl, rfl⟩ := perm_app_inv (xs := sortK rows1) (fun e : Str × (Int × Int) => D.str e.1) hperm
  rw [List.length_map, List.length_map] at hfl
  have hyb : yb = [] := by
    have := hp2.length_eq
    rw [List.length_append] at this
    exact List.length_eq_zero_iff.mp (by omega)
  subst hyb
  rw [List.append_nil] at hp2
  have hya : ya.Perm rows1 := hp2.trans sp
  have oka : RowsOk T ya := ok.perm hya
  have esa : sortK ya = sortK rows1 := sortK_eq oka.nd hya
  intro p8
  refine ⟨by rw [List.length_map]; exact sz (by omega), trivial, ?_⟩
  refine lc_each (φ := fun e => D.str e.1) (ψ := fun e => D.tup [.str e.1, spanD e.2]) ya _ (fun e acc ds' he h => ?_) ?_
  · exact ⟨_, _, rfl, gr e (hya.mem_iff.mp he), (by decide : 2 ≤ sizeLine), trivial, h⟩
  rw [List.nil_append]
  intro p9
  refine ⟨_, _, rfl, pairsD_rows _ _, ?_⟩
  rw [mergeKD_rows _ oka.nd]
  intro p10
  refine nm12 ?_
  intro p11
  refine ⟨_, _, _, _, _, rfl, .inr ⟨_, rfl, rfl⟩, t1, t2, oka, rfl, _, _, rfl, ?_⟩
  rw [esa]
  refine ⟨_, rfl, ok.nd, by omega, fun p12 => ?_⟩
  intro p13
  refine ⟨_, _, _, _, _, rfl, .inr ⟨_, rfl, rfl⟩, t1, t2, ok2, rfl, _, _, rfl, ?_⟩
  rw [sortK_id asc]
  refine nm12 ?_
  refine nm12 ?_
  refine ⟨_, _, _, _, rfl, hr, L, fun rl hr => ?_⟩
  refine nm12 ?_
  have eqT : ∀ rows', SpOk T rows' → ∀ {P : LR → List Cell → Prop} {PE}, P (.val (.bl true)) [] → sp_Spans___eq__ [.sh (spansD T rows'), .sh (spansD T rows')] P PE := fun rows' h P PE q =>
    ⟨T, rows', _, true, rfl, h, .inl ⟨T, rows', rfl, h, (decide_eq_true ⟨rfl, rfl⟩).symm⟩, q⟩
  refine ⟨⟨_, rfl⟩, .inl ⟨_, rfl⟩, eqT _ SP ?_⟩
  refine ⟨_, rfl, ?_⟩
  refine ⟨⟨_, rfl⟩, .inl ⟨_, rfl⟩, eqT _ SP ?_⟩
  refine ⟨_, rfl, ?_⟩
  refine ⟨_, rfl, ok.nd, by omega, fun p14 => ?_⟩
  refine ⟨⟨_, rfl⟩, .inr ⟨_, rfl⟩, _, _, _, _, rfl, SP, .inr ⟨rfl, rfl⟩, _, rfl, ?_⟩
  refine ⟨⟨_, rfl⟩, .inr ⟨_, rfl⟩, _, _, _, _, rfl, SP, .inr ⟨rfl, rfl⟩, _, rfl, ?_⟩
  refine nm12 ?_
  intro p15
  refine nm12 ?_
  refine ⟨keys rows1, .inr ⟨_, rfl, keys_kvS _ _⟩, l64, fun ys yp ysd => ?_⟩
  rw [srt ys yp ysd, nmK]
  intro p16
  refine ⟨trivial, ?_⟩
  refine for_rel (fun its r => ∃ done todo x y, its = List.map (fun e : Str × (Int × Int) => D.str e.1) todo ∧ done ++ todo = sortK rows1 ∧ r = [.own p rl, .sh (.int T), .sh (.dic (kvS spanD rows1)), .sh (.int F), .own p10 (.dic []), .sh (spansD T (sortK rows1)), .sh (spansD T (sortK rows1)), .own p15 (.dic (kvS spanD (normR T done))), x, y, .no, .no]) _ _ ⟨[], sortK rows1, _, _, rfl, rfl, rfl⟩ ?_ ?_
  · rintro d its r ⟨done, todo, x, y, e, hdt, rfl⟩ go
    cases todo with
    | nil => cases e
    | cons f todo =>
      cases e
      have hf : f ∈ sortK rows1 := by rw [← hdt]; exact List.mem_append_right _ (List.mem_cons_self ..)
      have hv := gr f (sp.mem_iff.mp hf)
      refine ⟨_, _, rfl, hv, ?_⟩
      refine ⟨by omega, ?_⟩
      refine nm12 ?_
      refine ⟨_, _, rfl, hv, _, _, rfl, hv, ?_⟩
      refine ⟨(by decide : 2 ≤ sizeLine), ?_⟩
      have nf : f.1 ∉ keys (normR T done) := by
        rw [keys_norm]
        intro h
        have nd2 := ok2.nd
        rw [← hdt] at nd2
        rw [show keys (done ++ f :: todo) = keys done ++ f.1 :: keys todo from by unfold keys; rw [List.map_append]; rfl, List.nodup_append] at nd2
        exact nd2.2.2 _ h _ (List.mem_cons_self ..) rfl
      have ld : (normR T done).length ≤ 8 := by
        unfold normR; rw [List.length_map]
        have := congrArg List.length hdt
        rw [List.length_append] at this; omega
      refine ⟨_, rfl, by rw [kvS_len]; exact Nat.lt_of_le_of_lt ld (by decide), ?_⟩
      have e2 : putKD (kvS spanD (normR T done)) (.inr f.1) (D.tup [.int (f.2.1 % T), .int (f.2.1 % T + f.2.2 - f.2.1)]) = kvS spanD (normR T (done ++ [f])) := by
        have := putKD_kvS spanD f.1 (f.2.1 % T, f.2.1 % T + f.2.2 - f.2.1) (normR T done)
        rw [putS_new nf] at this
        refine this.trans ?_
        unfold normR
        rw [List.map_append, show f.2.1 % T + f.2.2 - f.2.1 = f.2.1 % T + (f.2.2 - f.2.1) by omega]; rfl
      rw [e2]
      exact ⟨trivial, go _ ⟨done ++ [f], todo, _, _, rfl, by rw [List.append_assoc]; exact hdt, rfl⟩⟩
  rintro r ⟨done, todo, x, y, e, hdt, rfl⟩
  cases todo with
  | cons f todo => cases e
  | nil =>
  rw [List.append_nil] at hdt
  subst hdt
  clear e
  refine nm12 ?_
  have SN := norm_sp SP
  have hT : -(10 ^ 40) < T ∧ T < 10 ^ 40 := ⟨by omega, by omega⟩
  refine ⟨⟨_, rfl⟩, _, _, rfl, SP, fun p17 => ?_⟩
  refine nm12 ?_
  refine ⟨⟨_, rfl⟩, _, _, rfl, ?_⟩
  refine ⟨⟨_, rfl⟩, _, _, rfl, fun p18 => ?_⟩
  refine ⟨(by decide : 2 ≤ sizeLine), fun p19 => ?_⟩
  have S1 : Sh 2811 3 (.lst [.int T, .dic (kvS spanD (normR T (sortK rows1)))]) := by
    refine sh_lst (n := 1402) (k := 2) (m := 2) (fun x hx => ?_) (Nat.le_refl _)
    simp only [List.mem_cons, List.not_mem_nil, or_false] at hx
    rcases hx with rfl | rfl
    · exact (sh_int (k := 0) hT).mono (by decide) (by decide)
    · exact sh_rows SN.ok
  refine reprD S1 rfl ?_
  refine ⟨(by decide : 2 ≤ sizeLine), fun p20 => ?_⟩
  refine reprD S1 rfl ?_
  refine iteNt (decide_eq_true rfl) ?_
  refine nm12 ?_
  refine ⟨⟨_, rfl⟩, _, _, rfl, SN, fun p21 => ?_⟩
  rw [norm_norm]
  refine ⟨⟨_, rfl⟩, .inl ⟨_, rfl⟩, eqT _ SN ?_⟩
  refine ⟨_, rfl, ?_⟩
  refine ⟨⟨_, rfl⟩, .inl ⟨_, rfl⟩, T, _, _, decide (normR T (sortK rows1) = sortK rows1), rfl, SN, .inl ⟨T, _, rfl, SP, ?_⟩, _, rfl, ?_⟩
  · simp
  refine ⟨_, rfl, ok.nd, by omega, fun p22 => ?_⟩
  refine ⟨okEqK_kvS span_okEq _, okEqK_kvS span_okEq _, ?_⟩
  rw [eqK_asc span_eqD SN.asc asc]
  generalize decide (normR T (sortK rows1) = sortK rows1) = b0
  refine ⟨by cases b0 <;> rfl, by cases b0 <;> rfl, ?_⟩
  refine iteNt (by cases b0 <;> decide +kernel) ?_
  refine nm12 ?_
  have last : ∀ (rl : Cell) s3 s11 s8 s9, Reel rl → wRet (wOr (w2 (gEqZ false) (wVar 1) (wC (.int 32))) (wOwn "Spans" Pk.sp_Spans___eq__ true (wMake "Spans" Pk.sp_Spans___init__ [false, true] (waCons (w2 gAdd (wVar 1) (wC (.int 1))) (waCons (wVar 2) waNil))) (wVar 5)))
      [.own p rl, .sh (.int T), .sh (.dic (kvS spanD rows1)), s3, .own p10 (.dic []), .sh (spansD T (sortK rows1)), .sh (spansD T (sortK rows1)), .sh (.dic (kvS spanD (normR T (sortK rows1)))), s8, s9, .sh (spansD T (normR T (sortK rows1))), s11] (bodyFl [.own p rl0] Q QE) := fun rl s3 s11 s8 s9 hr => by
    have fin : ∀ T' rows', SpOk T' rows' → (T' ≠ T ∨ rows' ≠ sortK rows1) → ∀ {P : LR → List Cell → Prop} {PE}, P (.val (.bl false)) [] → sp_Spans___eq__ [.sh (spansD T' rows'), .sh (spansD T (sortK rows1))] P PE := fun T' rows' h n P PE q =>
      ⟨T', rows', _, false, rfl, h, .inl ⟨T, _, rfl, SP, (decide_eq_false fun ⟨e1, e2⟩ => n.elim (fun h => h e1) (fun h => h e2)).symm⟩, q⟩
    refine ite2d (p := T = 32) (fun h => ?_) (fun h => ?_)
    · exact ⟨rfl, k _⟩
    · intro p24
      refine ⟨_, _, _, _, _, rfl, .inl ⟨rfl, rfl⟩, by omega, by omega, ok_more ok, rfl, _, _, rfl, ?_⟩
      refine ⟨⟨_, rfl⟩, .inl ⟨_, rfl⟩, fin _ _ ⟨by omega, by omega, ok_more ok2, asc⟩ (.inl (by omega)) ?_⟩
      exact ⟨_, rfl, rfl, k _⟩
  refine ⟨_, _, rows1, T, rfl, hr, L, fun rl hr => ?_, fun rows' rl hr ok' hne => ?_⟩
  · refine nm12 ?_
    refine nm12 ?_
    exact last _ _ _ _ _ hr
  · intro p23
    refine nm12 ?_
    intro p24
    refine ⟨_, _, _, _, _, rfl, .inr ⟨_, rfl, rfl⟩, t1, t2, ok', rfl, _, _, rfl, ?_⟩
    refine nm12 ?_
    have hne2 : sortK rows' ≠ sortK rows1 := fun e => by
      obtain ⟨z, hz⟩ := hne
      refine hz ?_
      rw [← getS_perm asc.nodup sp z, ← e]
      exact getS_perm (sortK_asc ok'.nd).nodup (sortK_perm rows') z
    have SP' : SpOk T (sortK rows') := ⟨t1, t2, ok'.perm (sortK_perm rows'), sortK_asc ok'.nd⟩
    have fin : ∀ {P : LR → List Cell → Prop} {PE}, P (.val (.bl false)) [] → sp_Spans___eq__ [.sh (spansD T (sortK rows')), .sh (spansD T (sortK rows1))] P PE := fun {P PE} q =>
      ⟨T, _, _, false, rfl, SP', .inl ⟨T, _, rfl, SP, (decide_eq_false fun ⟨e1, e2⟩ => hne2 e2).symm⟩, q⟩
    refine ⟨⟨_, rfl⟩, .inl ⟨_, rfl⟩, fin ?_⟩
    refine ⟨_, rfl, ?_⟩
    refine ⟨⟨_, rfl⟩, .inl ⟨_, rfl⟩, fin ?_⟩
    refine ⟨_, rfl, ?_⟩
    refine nm12 ?_
    exact last _ _ _ _ _ hr
end K37

/-! P37e: the law. -/
namespace K37
open PySem L2 Z Q Pk
def rw0 : Rows := [("b", (-3, 5)), ("a", (7, 8))]
def rw1 : Rows := [("a", (7, 8)), ("b", (-3, 5))]
theorem rw_sort : sortK rw0 = rw1 := by decide +kernel
theorem rw_ok : RowsOk 1 rw0 := by
  refine ⟨by decide, by decide, by decide +kernel, fun e he => ?_, fun e he => ?_⟩
  · simp only [rw0, List.mem_cons, List.not_mem_nil, or_false] at he
    rcases he with rfl | rfl <;> decide +kernel
  · simp only [rw0, List.mem_cons, List.not_mem_nil, or_false] at he
    rcases he with rfl | rfl <;> exact ⟨by decide +kernel, by decide +kernel, by decide, by decide⟩
theorem rw_sp : SpOk 1 rw1 := ⟨by decide, by decide, rw_sort ▸ rw_ok.perm (sortK_perm rw0), rw_sort ▸ sortK_asc rw_ok.nd⟩
def rw2 : Rows := [("a", (0, 1)), ("b", (0, 8))]
def dd : D := .lst [.tup [.str "a", .str "b"], .dic (kvS spanD rw1), .int 9, .int 2, .bl true, .bl false, spanD (-3, 5), .dic (kvS spanD rw2)]
theorem S_dd : Sh 1000 4 dd := ⟨rfl, by decide +kernel, by decide +kernel, by decide +kernel⟩
theorem h_a : (hasR rw1 (.str "a") != false) = true := by decide +kernel
theorem h_c : (hasR rw1 (.str "c") != false) = false := by decide +kernel
theorem h_n : normR 1 rw1 = rw2 := by decide +kernel
theorem h_t : totalR rw1 = 9 := by decide +kernel
theorem p_law {as Q QE} (h : sp_law as Q QE) : w_law (rho0 5 as) (bodyFl as Q QE) := by
  obtain ⟨ns, rfl, hl, k⟩ := h
  refine ⟨⟨by split <;> split <;> omega, by split <;> split <;> omega⟩, ?_⟩
  refine ⟨trivial, ?_⟩
  refine for_inv (fun r => ∃ x, r = [.sh (.rol (ns.map D.int)), x, .no, .no, .no]) _ _ ⟨_, rfl⟩ ?_ ?_
  · rintro d ds' r hd ⟨x, rfl⟩ h
    obtain ⟨i, rfl, i0, i1⟩ := mem_rngD hd
    have i2 : i ≤ 1000 := by
      have : ∀ a : Int, (if (if a < 8 then a else 8) > 1 then (if a < 8 then a else 8) else 1) ≤ 8 := fun a => by split <;> split <;> omega
      have := this ((ns.map D.int).length : Int)
      omega
    refine ⟨ns, i, rfl, i0, i2, fun rl hr => fun p => ?_⟩
    refine ⟨_, _, rfl, hr, fun rl' => ?_⟩
    exact ⟨trivial, h _ ⟨_, rfl⟩⟩
  rintro r ⟨x, rfl⟩
  refine nm5 ?_
  refine ⟨_, rfl, (by decide : 2 ≤ sizeLine), ?_⟩
  refine ⟨_, rfl, (by decide : 2 ≤ sizeLine), ?_⟩
  refine ⟨(by decide : 2 ≤ 15), fun p1 => ?_⟩
  intro p2
  refine ⟨_, 1, rw0, _, _, rfl, .inr ⟨_, rfl, rfl⟩, by decide, by decide, rw_ok, rfl, _, _, rfl, ?_⟩
  rw [rw_sort]
  refine nm5 ?_
  refine ⟨⟨_, rfl⟩, _, rw1, rfl, ?_⟩
  refine ⟨⟨_, rfl⟩, _, rw1, rfl, fun p3 => ?_⟩
  refine ⟨⟨_, rfl⟩, _, rw1, rfl, by decide, ?_⟩
  refine ⟨⟨_, rfl⟩, _, rw1, rfl, ⟨_, rfl, _, rfl, sz (by decide)⟩, ?_⟩
  refine ⟨(by decide : 4 ≤ sizeLine), fun p4 => ?_⟩
  refine nm5 ?_
  refine ⟨⟨_, rfl⟩, _, rw1, _, rfl, ⟨by decide +kernel, by decide +kernel⟩, _, rfl, ?_⟩
  refine ⟨⟨_, rfl⟩, _, rw1, _, rfl, ⟨by decide +kernel, by decide +kernel⟩, _, rfl, ?_⟩
  refine ⟨⟨_, rfl⟩, _, rw1, _, (-3, 5), rfl, by decide +kernel, by decide +kernel, ?_⟩
  refine ⟨⟨_, rfl⟩, _, rw1, rfl, rw_sp, fun p5 => ?_⟩
  refine ⟨⟨_, rfl⟩, _, _, rfl, fun p6 => ?_⟩
  refine ⟨(by decide : 4 ≤ sizeLine), fun p7 => ?_⟩
  refine ⟨(by decide : 8 ≤ sizeLine), fun p8 => ?_⟩
  refine nm5 ?_
  refine ⟨(by decide : 2 ≤ sizeLine), ?_⟩
  refine ⟨_, rfl, (by decide : 2 ≤ sizeLine), ?_⟩
  refine ⟨_, rfl, (by decide : 2 ≤ sizeLine), ?_⟩
  refine ⟨(by decide : 2 ≤ 15), fun p9 => ?_⟩
  refine ⟨(by decide : 2 ≤ sizeLine), ?_⟩
  refine ⟨_, rfl, (by decide : 2 ≤ sizeLine), ?_⟩
  refine ⟨_, rfl, (by decide : 2 ≤ sizeLine), ?_⟩
  refine ⟨(by decide : 2 ≤ 15), fun p10 => ?_⟩
  refine ⟨(by decide : 8 ≤ sizeLine), fun p11 => ?_⟩
  refine nm5 ?_
  rw [h_a, h_c, h_n, h_t]
  refine reprD (d := dd) S_dd rfl ?_
  refine reprD (d := dd) S_dd rfl ?_
  refine iteBt (decide_eq_true rfl) ?_
  refine ⟨(by decide : 2 ≤ sizeLine), fun p12 => ?_⟩
  refine ⟨(by decide : 2 ≤ sizeLine), fun p13 => ?_⟩
  exact ⟨by decide +kernel, by decide +kernel, k⟩
end K37

namespace K37
open PySem L2 Z
open PyProof.Rows (envOfC)
theorem all_mk {l : PySem.W.OpenLaw} {w : World} {K : PySem.W.Frag} {h : Heap} {mg : Str → Option Value} {fa f0 f1 f2 f3 f4 f5 f6 f7 f8 f9 f10 f11 f12 f13 f14 f15 f16 f17 f18 f19 f20 f21 f22 f23 f24 f25 f26 f27 f28 f29 f30 f31 C_Spans p8 p9 p10 p15 p26 : Addr} {t_LETTERS t_LIMIT t_MAX_INTERVAL t_MAX_LIFE t_MAX_NAME t_MAX_VALUES : Tok} (X : K.In h) (G : h.Ns mainGlobals mg) (hfa : mg "law" = some (.ref fa))
    {od0 an0 od1 an1 od2 an2 od3 an3 od4 an4 od5 an5 od6 an6 od7 an7 od8 an8 od9 an9 od10 an10 od11 an11 od12 an12 od13 an13 od14 an14 od15 an15 od16 an16 od17 an17 od18 an18 od19 an19 od20 an20 od21 an21 od22 an22 od23 an23 od24 an24 od25 an25 od26 an26 od27 an27 od28 an28 od29 an29 od30 an30 od31 an31 : Option Addr} {sl0 sl1 sl2 sl3 sl4 sl5 sl6 sl7 sl8 sl9 sl10 sl11 sl12 sl13 sl14 sl15 sl16 sl17 sl18 sl19 sl20 sl21 sl22 sl23 sl24 sl25 sl26 sl27 sl28 sl29 sl30 sl31 : Array (Option Value)} {oc0 kV0 dc0 pm0 cd0 ct0 oc1 kV1 dc1 pm1 cd1 ct1 oc2 kV2 dc2 pm2 cd2 ct2 oc3 kV3 dc3 pm3 cd3 ct3 oc4 kV4 dc4 pm4 cd4 ct4 oc5 kV5 dc5 pm5 cd5 ct5 oc6 kV6 dc6 pm6 cd6 ct6 oc7 kV7 dc7 pm7 cd7 ct7 oc8 kV8 dc8 pm8 cd8 ct8 oc9 kV9 dc9 pm9 cd9 ct9 oc10 kV10 dc10 pm10 cd10 ct10 oc11 kV11 dc11 pm11 cd11 ct11 oc12 kV12 dc12 pm12 cd12 ct12 oc13 kV13 dc13 pm13 cd13 ct13 oc14 kV14 dc14 pm14 cd14 ct14 oc15 kV15 dc15 pm15 cd15 ct15 oc16 kV16 dc16 pm16 cd16 ct16 oc17 kV17 dc17 pm17 cd17 ct17 oc18 kV18 dc18 pm18 cd18 ct18 oc19 kV19 dc19 pm19 cd19 ct19 oc20 kV20 dc20 pm20 cd20 ct20 oc21 kV21 dc21 pm21 cd21 ct21 oc22 kV22 dc22 pm22 cd22 ct22 oc23 kV23 dc23 pm23 cd23 ct23 oc24 kV24 dc24 pm24 cd24 ct24 oc25 kV25 dc25 pm25 cd25 ct25 oc26 kV26 dc26 pm26 cd26 ct26 oc27 kV27 dc27 pm27 cd27 ct27 oc28 kV28 dc28 pm28 cd28 ct28 oc29 kV29 dc29 pm29 cd29 ct29 oc30 kV30 dc30 pm30 cd30 ct30 oc31 kV31 dc31 pm31 cd31 ct31 : Value} {rest8 rest9 rest10 rest15 rest26 : List Value}
    (aC_Spans : PySem.W.nsIn K mainGlobals "Spans" = some (some (.ref C_Spans)))
(pg_Spans : PySem.W.plainGet K C_Spans Str.empty = true)
(hd_Spans : PySem.W.hasDictIn K C_Spans = true)
(po_Spans : PySem.W.plainOver K C_Spans = true)
(sa_Spans : PySem.W.findIn K (.ref C_Spans) "__setattr__" = some (some (.builtin "object.__setattr__")))
(no_Spans_own_interval : PySem.W.findIn K (.ref C_Spans) "own_interval" = some none)
(no_Spans_own_rows : PySem.W.findIn K (.ref C_Spans) "own_rows" = some none)
(oa_Spans : PySem.W.findIn K (.ref C_Spans) "__class__" = some (some (.builtin "object.__class__")))
(og_Spans : PySem.W.specialIn K (.builtin "object.__class__") "__get__" = some (some (.builtin "getset_descriptor.__get__")))
(ot_Spans : PySem.W.takesIn K (.builtin "object.__class__") = some true)
(oo_Spans : PySem.W.mroIn K C_Spans (.type "object") = some true)
(nf0_Spans : PySem.W.notFirst K C_Spans (.type "NoneType") = true)
(ki0_Spans : PySem.W.kitOne K (.type "NoneType") (.ref C_Spans) = some false)
(kj0_Spans : PySem.W.kitOne K (.ref C_Spans) (.type "NoneType") = some false)
(nf1_Spans : PySem.W.notFirst K C_Spans (.type "bool") = true)
(ki1_Spans : PySem.W.kitOne K (.type "bool") (.ref C_Spans) = some false)
(kj1_Spans : PySem.W.kitOne K (.ref C_Spans) (.type "bool") = some false)
(nf2_Spans : PySem.W.notFirst K C_Spans (.type "int") = true)
(ki2_Spans : PySem.W.kitOne K (.type "int") (.ref C_Spans) = some false)
(kj2_Spans : PySem.W.kitOne K (.ref C_Spans) (.type "int") = some false)
(nf3_Spans : PySem.W.notFirst K C_Spans (.type "str") = true)
(ki3_Spans : PySem.W.kitOne K (.type "str") (.ref C_Spans) = some false)
(kj3_Spans : PySem.W.kitOne K (.ref C_Spans) (.type "str") = some false)
(nf4_Spans : PySem.W.notFirst K C_Spans (.type "tuple") = true)
(ki4_Spans : PySem.W.kitOne K (.type "tuple") (.ref C_Spans) = some false)
(kj4_Spans : PySem.W.kitOne K (.ref C_Spans) (.type "tuple") = some false)
(nf5_Spans : PySem.W.notFirst K C_Spans (.type "list") = true)
(ki5_Spans : PySem.W.kitOne K (.type "list") (.ref C_Spans) = some false)
(kj5_Spans : PySem.W.kitOne K (.ref C_Spans) (.type "list") = some false)
(nf6_Spans : PySem.W.notFirst K C_Spans (.type "dict") = true)
(ki6_Spans : PySem.W.kitOne K (.type "dict") (.ref C_Spans) = some false)
(kj6_Spans : PySem.W.kitOne K (.ref C_Spans) (.type "dict") = some false)
(mk_Spans : PySem.W.makesIn K C_Spans = true)
(kC_Spans : PySem.W.keepIn K (.ref C_Spans) = true)
(a0 : PySem.W.nsIn K mainGlobals "is_integer" = some (some (.ref f0)))
(l0 : K.lookup f0 = some ⟨oc0, od0, .func (PySem.W.fnOf "is_integer" "is_integer" (defArgs s_is_integer) (defBody s_is_integer) (defScope s_is_integer) .none kV0 dc0 pm0 an0 cd0 ct0), sl0⟩)
(c0 : PySem.W.codeIn K cd0 "is_integer" = true)
(k0 : PySem.W.keepIn K (.ref f0) = true)
(a1 : PySem.W.nsIn K mainGlobals "is_within" = some (some (.ref f1)))
(l1 : K.lookup f1 = some ⟨oc1, od1, .func (PySem.W.fnOf "is_within" "is_within" (defArgs s_is_within) (defBody s_is_within) (defScope s_is_within) .none kV1 dc1 pm1 an1 cd1 ct1), sl1⟩)
(c1 : PySem.W.codeIn K cd1 "is_within" = true)
(k1 : PySem.W.keepIn K (.ref f1) = true)
(a2 : PySem.W.nsIn K mainGlobals "require_within" = some (some (.ref f2)))
(l2 : K.lookup f2 = some ⟨oc2, od2, .func (PySem.W.fnOf "require_within" "require_within" (defArgs s_require_within) (defBody s_require_within) (defScope s_require_within) .none kV2 dc2 pm2 an2 cd2 ct2), sl2⟩)
(c2 : PySem.W.codeIn K cd2 "require_within" = true)
(k2 : PySem.W.keepIn K (.ref f2) = true)
(a3 : PySem.W.nsIn K mainGlobals "require_interval" = some (some (.ref f3)))
(l3 : K.lookup f3 = some ⟨oc3, od3, .func (PySem.W.fnOf "require_interval" "require_interval" (defArgs s_require_interval) (defBody s_require_interval) (defScope s_require_interval) .none kV3 dc3 pm3 an3 cd3 ct3), sl3⟩)
(c3 : PySem.W.codeIn K cd3 "require_interval" = true)
(k3 : PySem.W.keepIn K (.ref f3) = true)
(a4 : PySem.W.nsIn K mainGlobals "is_name" = some (some (.ref f4)))
(l4 : K.lookup f4 = some ⟨oc4, od4, .func (PySem.W.fnOf "is_name" "is_name" (defArgs s_is_name) (defBody s_is_name) (defScope s_is_name) .none kV4 dc4 pm4 an4 cd4 ct4), sl4⟩)
(c4 : PySem.W.codeIn K cd4 "is_name" = true)
(k4 : PySem.W.keepIn K (.ref f4) = true)
(a5 : PySem.W.nsIn K mainGlobals "is_span" = some (some (.ref f5)))
(l5 : K.lookup f5 = some ⟨oc5, od5, .func (PySem.W.fnOf "is_span" "is_span" (defArgs s_is_span) (defBody s_is_span) (defScope s_is_span) .none kV5 dc5 pm5 an5 cd5 ct5), sl5⟩)
(c5 : PySem.W.codeIn K cd5 "is_span" = true)
(k5 : PySem.W.keepIn K (.ref f5) = true)
(a6 : PySem.W.nsIn K mainGlobals "are_rows" = some (some (.ref f6)))
(l6 : K.lookup f6 = some ⟨oc6, od6, .func (PySem.W.fnOf "are_rows" "are_rows" (defArgs s_are_rows) (defBody s_are_rows) (defScope s_are_rows) .none kV6 dc6 pm6 an6 cd6 ct6), sl6⟩)
(c6 : PySem.W.codeIn K cd6 "are_rows" = true)
(k6 : PySem.W.keepIn K (.ref f6) = true)
(a7 : PySem.W.findIn K (.ref C_Spans) "__init__" = some (some (.ref f7)))
(i7 : PySem.W.isFn K (.ref f7) = true)
(l7 : K.lookup f7 = some ⟨oc7, od7, .func (PySem.W.fnOf "__init__" "Spans.__init__" (defArgs s_Spans___init__) (defBody s_Spans___init__) (defScope s_Spans___init__) .none kV7 dc7 pm7 an7 cd7 ct7), sl7⟩)
(c7 : PySem.W.codeIn K cd7 "Spans.__init__" = true)
(k7 : PySem.W.keepIn K (.ref f7) = true)
(a8 : PySem.W.findIn K (.ref C_Spans) "names" = some (some (.ref p8)))
(g8 : PySem.W.specialIn K (.ref p8) "__get__" = some (some (.builtin "property.__get__")))
(t8 : PySem.W.takesIn K (.ref p8) = some true)
(r8 : PySem.W.recIn K p8 "property" = some (.ref f8 :: rest8))
(l8 : K.lookup f8 = some ⟨oc8, od8, .func (PySem.W.fnOf "names" "Spans.names" (defArgs s_Spans_names) (defBody s_Spans_names) (defScope s_Spans_names) .none kV8 dc8 pm8 an8 cd8 ct8), sl8⟩)
(c8 : PySem.W.codeIn K cd8 "Spans.names" = true)
(k8 : PySem.W.keepIn K (.ref f8) = true)
(a9 : PySem.W.findIn K (.ref C_Spans) "rows" = some (some (.ref p9)))
(g9 : PySem.W.specialIn K (.ref p9) "__get__" = some (some (.builtin "property.__get__")))
(t9 : PySem.W.takesIn K (.ref p9) = some true)
(r9 : PySem.W.recIn K p9 "property" = some (.ref f9 :: rest9))
(l9 : K.lookup f9 = some ⟨oc9, od9, .func (PySem.W.fnOf "rows" "Spans.rows" (defArgs s_Spans_rows) (defBody s_Spans_rows) (defScope s_Spans_rows) .none kV9 dc9 pm9 an9 cd9 ct9), sl9⟩)
(c9 : PySem.W.codeIn K cd9 "Spans.rows" = true)
(k9 : PySem.W.keepIn K (.ref f9) = true)
(a10 : PySem.W.findIn K (.ref C_Spans) "total" = some (some (.ref p10)))
(g10 : PySem.W.specialIn K (.ref p10) "__get__" = some (some (.builtin "property.__get__")))
(t10 : PySem.W.takesIn K (.ref p10) = some true)
(r10 : PySem.W.recIn K p10 "property" = some (.ref f10 :: rest10))
(l10 : K.lookup f10 = some ⟨oc10, od10, .func (PySem.W.fnOf "total" "Spans.total" (defArgs s_Spans_total) (defBody s_Spans_total) (defScope s_Spans_total) .none kV10 dc10 pm10 an10 cd10 ct10), sl10⟩)
(c10 : PySem.W.codeIn K cd10 "Spans.total" = true)
(k10 : PySem.W.keepIn K (.ref f10) = true)
(a11 : PySem.W.findIn K (.ref C_Spans) "__len__" = some (some (.ref f11)))
(i11 : PySem.W.isFn K (.ref f11) = true)
(l11 : K.lookup f11 = some ⟨oc11, od11, .func (PySem.W.fnOf "__len__" "Spans.__len__" (defArgs s_Spans___len__) (defBody s_Spans___len__) (defScope s_Spans___len__) .none kV11 dc11 pm11 an11 cd11 ct11), sl11⟩)
(c11 : PySem.W.codeIn K cd11 "Spans.__len__" = true)
(k11 : PySem.W.keepIn K (.ref f11) = true)
(a12 : PySem.W.findIn K (.ref C_Spans) "__contains__" = some (some (.ref f12)))
(i12 : PySem.W.isFn K (.ref f12) = true)
(l12 : K.lookup f12 = some ⟨oc12, od12, .func (PySem.W.fnOf "__contains__" "Spans.__contains__" (defArgs s_Spans___contains__) (defBody s_Spans___contains__) (defScope s_Spans___contains__) .none kV12 dc12 pm12 an12 cd12 ct12), sl12⟩)
(c12 : PySem.W.codeIn K cd12 "Spans.__contains__" = true)
(k12 : PySem.W.keepIn K (.ref f12) = true)
(a13 : PySem.W.findIn K (.ref C_Spans) "__getitem__" = some (some (.ref f13)))
(i13 : PySem.W.isFn K (.ref f13) = true)
(u13 : PySem.W.fnIn K f13 = true)
(l13 : K.lookup f13 = some ⟨oc13, od13, .func (PySem.W.fnOf "__getitem__" "Spans.__getitem__" (defArgs s_Spans___getitem__) (defBody s_Spans___getitem__) (defScope s_Spans___getitem__) .none kV13 dc13 pm13 an13 cd13 ct13), sl13⟩)
(c13 : PySem.W.codeIn K cd13 "Spans.__getitem__" = true)
(k13 : PySem.W.keepIn K (.ref f13) = true)
(a14 : PySem.W.nsIn K mainGlobals "slot_in" = some (some (.ref f14)))
(l14 : K.lookup f14 = some ⟨oc14, od14, .func (PySem.W.fnOf "slot_in" "slot_in" (defArgs s_slot_in) (defBody s_slot_in) (defScope s_slot_in) .none kV14 dc14 pm14 an14 cd14 ct14), sl14⟩)
(c14 : PySem.W.codeIn K cd14 "slot_in" = true)
(k14 : PySem.W.keepIn K (.ref f14) = true)
(a15 : PySem.W.findIn K (.ref C_Spans) "normal" = some (some (.ref p15)))
(g15 : PySem.W.specialIn K (.ref p15) "__get__" = some (some (.builtin "property.__get__")))
(t15 : PySem.W.takesIn K (.ref p15) = some true)
(r15 : PySem.W.recIn K p15 "property" = some (.ref f15 :: rest15))
(l15 : K.lookup f15 = some ⟨oc15, od15, .func (PySem.W.fnOf "normal" "Spans.normal" (defArgs s_Spans_normal) (defBody s_Spans_normal) (defScope s_Spans_normal) .none kV15 dc15 pm15 an15 cd15 ct15), sl15⟩)
(c15 : PySem.W.codeIn K cd15 "Spans.normal" = true)
(k15 : PySem.W.keepIn K (.ref f15) = true)
(a16 : PySem.W.nsIn K mainGlobals "_law_roll" = some (some (.ref f16)))
(l16 : K.lookup f16 = some ⟨oc16, od16, .func (PySem.W.fnOf "_law_roll" "_law_roll" (defArgs s__law_roll) (defBody s__law_roll) (defScope s__law_roll) .none kV16 dc16 pm16 an16 cd16 ct16), sl16⟩)
(c16 : PySem.W.codeIn K cd16 "_law_roll" = true)
(k16 : PySem.W.keepIn K (.ref f16) = true)
(a17 : PySem.W.nsIn K mainGlobals "_law_pick" = some (some (.ref f17)))
(l17 : K.lookup f17 = some ⟨oc17, od17, .func (PySem.W.fnOf "_law_pick" "_law_pick" (defArgs s__law_pick) (defBody s__law_pick) (defScope s__law_pick) .none kV17 dc17 pm17 an17 cd17 ct17), sl17⟩)
(c17 : PySem.W.codeIn K cd17 "_law_pick" = true)
(k17 : PySem.W.keepIn K (.ref f17) = true)
(a18 : PySem.W.nsIn K mainGlobals "_law_few" = some (some (.ref f18)))
(l18 : K.lookup f18 = some ⟨oc18, od18, .func (PySem.W.fnOf "_law_few" "_law_few" (defArgs s__law_few) (defBody s__law_few) (defScope s__law_few) .none kV18 dc18 pm18 an18 cd18 ct18), sl18⟩)
(c18 : PySem.W.codeIn K cd18 "_law_few" = true)
(k18 : PySem.W.keepIn K (.ref f18) = true)
(a19 : PySem.W.nsIn K mainGlobals "_law_rings" = some (some (.ref f19)))
(l19 : K.lookup f19 = some ⟨oc19, od19, .func (PySem.W.fnOf "_law_rings" "_law_rings" (defArgs s__law_rings) (defBody s__law_rings) (defScope s__law_rings) .none kV19 dc19 pm19 an19 cd19 ct19), sl19⟩)
(c19 : PySem.W.codeIn K cd19 "_law_rings" = true)
(k19 : PySem.W.keepIn K (.ref f19) = true)
(a20 : PySem.W.nsIn K mainGlobals "_law_rows" = some (some (.ref f20)))
(l20 : K.lookup f20 = some ⟨oc20, od20, .func (PySem.W.fnOf "_law_rows" "_law_rows" (defArgs s__law_rows) (defBody s__law_rows) (defScope s__law_rows) .none kV20 dc20 pm20 an20 cd20 ct20), sl20⟩)
(c20 : PySem.W.codeIn K cd20 "_law_rows" = true)
(k20 : PySem.W.keepIn K (.ref f20) = true)
(a21 : PySem.W.findIn K (.ref C_Spans) "__eq__" = some (some (.ref f21)))
(i21 : PySem.W.isFn K (.ref f21) = true)
(n21 : PySem.W.findIn K (.ref C_Spans) "__ne__" = some (some (.builtin "object.__ne__")))
(l21 : K.lookup f21 = some ⟨oc21, od21, .func (PySem.W.fnOf "__eq__" "Spans.__eq__" (defArgs s_Spans___eq__) (defBody s_Spans___eq__) (defScope s_Spans___eq__) .none kV21 dc21 pm21 an21 cd21 ct21), sl21⟩)
(c21 : PySem.W.codeIn K cd21 "Spans.__eq__" = true)
(k21 : PySem.W.keepIn K (.ref f21) = true)
(a22 : PySem.W.nsIn K mainGlobals "_law_near" = some (some (.ref f22)))
(l22 : K.lookup f22 = some ⟨oc22, od22, .func (PySem.W.fnOf "_law_near" "_law_near" (defArgs s__law_near) (defBody s__law_near) (defScope s__law_near) .none kV22 dc22 pm22 an22 cd22 ct22), sl22⟩)
(c22 : PySem.W.codeIn K cd22 "_law_near" = true)
(k22 : PySem.W.keepIn K (.ref f22) = true)
(a23 : PySem.W.nsIn K mainGlobals "_law_names" = some (some (.ref f23)))
(l23 : K.lookup f23 = some ⟨oc23, od23, .func (PySem.W.fnOf "_law_names" "_law_names" (defArgs s__law_names) (defBody s__law_names) (defScope s__law_names) .none kV23 dc23 pm23 an23 cd23 ct23), sl23⟩)
(c23 : PySem.W.codeIn K cd23 "_law_names" = true)
(k23 : PySem.W.keepIn K (.ref f23) = true)
(a24 : PySem.W.findIn K (.ref C_Spans) "__str__" = some (some (.ref f24)))
(i24 : PySem.W.isFn K (.ref f24) = true)
(l24 : K.lookup f24 = some ⟨oc24, od24, .func (PySem.W.fnOf "__str__" "Spans.__str__" (defArgs s_Spans___str__) (defBody s_Spans___str__) (defScope s_Spans___str__) .none kV24 dc24 pm24 an24 cd24 ct24), sl24⟩)
(c24 : PySem.W.codeIn K cd24 "Spans.__str__" = true)
(k24 : PySem.W.keepIn K (.ref f24) = true)
(a25 : PySem.W.nsIn K mainGlobals "_law_sorted" = some (some (.ref f25)))
(l25 : K.lookup f25 = some ⟨oc25, od25, .func (PySem.W.fnOf "_law_sorted" "_law_sorted" (defArgs s__law_sorted) (defBody s__law_sorted) (defScope s__law_sorted) .none kV25 dc25 pm25 an25 cd25 ct25), sl25⟩)
(c25 : PySem.W.codeIn K cd25 "_law_sorted" = true)
(k25 : PySem.W.keepIn K (.ref f25) = true)
(a26 : PySem.W.findIn K (.ref C_Spans) "interval" = some (some (.ref p26)))
(g26 : PySem.W.specialIn K (.ref p26) "__get__" = some (some (.builtin "property.__get__")))
(t26 : PySem.W.takesIn K (.ref p26) = some true)
(r26 : PySem.W.recIn K p26 "property" = some (.ref f26 :: rest26))
(l26 : K.lookup f26 = some ⟨oc26, od26, .func (PySem.W.fnOf "interval" "Spans.interval" (defArgs s_Spans_interval) (defBody s_Spans_interval) (defScope s_Spans_interval) .none kV26 dc26 pm26 an26 cd26 ct26), sl26⟩)
(c26 : PySem.W.codeIn K cd26 "Spans.interval" = true)
(k26 : PySem.W.keepIn K (.ref f26) = true)
(a27 : PySem.W.nsIn K mainGlobals "_law_odd" = some (some (.ref f27)))
(l27 : K.lookup f27 = some ⟨oc27, od27, .func (PySem.W.fnOf "_law_odd" "_law_odd" (defArgs s__law_odd) (defBody s__law_odd) (defScope s__law_odd) .none kV27 dc27 pm27 an27 cd27 ct27), sl27⟩)
(c27 : PySem.W.codeIn K cd27 "_law_odd" = true)
(k27 : PySem.W.keepIn K (.ref f27) = true)
(a28 : PySem.W.nsIn K mainGlobals "_law_is_told" = some (some (.ref f28)))
(l28 : K.lookup f28 = some ⟨oc28, od28, .func (PySem.W.fnOf "_law_is_told" "_law_is_told" (defArgs s__law_is_told) (defBody s__law_is_told) (defScope s__law_is_told) .none kV28 dc28 pm28 an28 cd28 ct28), sl28⟩)
(c28 : PySem.W.codeIn K cd28 "_law_is_told" = true)
(k28 : PySem.W.keepIn K (.ref f28) = true)
(a29 : PySem.W.nsIn K mainGlobals "_law_right" = some (some (.ref f29)))
(l29 : K.lookup f29 = some ⟨oc29, od29, .func (PySem.W.fnOf "_law_right" "_law_right" (defArgs s__law_right) (defBody s__law_right) (defScope s__law_right) .none kV29 dc29 pm29 an29 cd29 ct29), sl29⟩)
(c29 : PySem.W.codeIn K cd29 "_law_right" = true)
(k29 : PySem.W.keepIn K (.ref f29) = true)
(a30 : PySem.W.nsIn K mainGlobals "_law_tray" = some (some (.ref f30)))
(l30 : K.lookup f30 = some ⟨oc30, od30, .func (PySem.W.fnOf "_law_tray" "_law_tray" (defArgs s__law_tray) (defBody s__law_tray) (defScope s__law_tray) .none kV30 dc30 pm30 an30 cd30 ct30), sl30⟩)
(c30 : PySem.W.codeIn K cd30 "_law_tray" = true)
(k30 : PySem.W.keepIn K (.ref f30) = true)
(a31 : PySem.W.nsIn K mainGlobals "law" = some (some (.ref f31)))
(l31 : K.lookup f31 = some ⟨oc31, od31, .func (PySem.W.fnOf "law" "law" (defArgs s_law) (defBody s_law) (defScope s_law) .none kV31 dc31 pm31 an31 cd31 ct31), sl31⟩)
(c31 : PySem.W.codeIn K cd31 "law" = true)
(k31 : PySem.W.keepIn K (.ref f31) = true)
(n_abs : PySem.W.nsIn K mainGlobals "abs" = some none)
(n_all : PySem.W.nsIn K mainGlobals "all" = some none)
(n_bool : PySem.W.nsIn K mainGlobals "bool" = some none)
(n_dict : PySem.W.nsIn K mainGlobals "dict" = some none)
(n_int : PySem.W.nsIn K mainGlobals "int" = some none)
(n_isinstance : PySem.W.nsIn K mainGlobals "isinstance" = some none)
(n_len : PySem.W.nsIn K mainGlobals "len" = some none)
(n_list : PySem.W.nsIn K mainGlobals "list" = some none)
(n_max : PySem.W.nsIn K mainGlobals "max" = some none)
(n_min : PySem.W.nsIn K mainGlobals "min" = some none)
(n_range : PySem.W.nsIn K mainGlobals "range" = some none)
(n_repr : PySem.W.nsIn K mainGlobals "repr" = some none)
(n_sorted : PySem.W.nsIn K mainGlobals "sorted" = some none)
(n_str : PySem.W.nsIn K mainGlobals "str" = some none)
(n_sum : PySem.W.nsIn K mainGlobals "sum" = some none)
(n_tuple : PySem.W.nsIn K mainGlobals "tuple" = some none)
(c_LETTERS : PySem.W.nsIn K mainGlobals "LETTERS" = some (some (.str "abcdefghijklmnopqrstuvwxyz" t_LETTERS)))
(c_LIMIT : PySem.W.nsIn K mainGlobals "LIMIT" = some (some (.int (1000000000000) t_LIMIT)))
(c_MAX_INTERVAL : PySem.W.nsIn K mainGlobals "MAX_INTERVAL" = some (some (.int (32) t_MAX_INTERVAL)))
(c_MAX_LIFE : PySem.W.nsIn K mainGlobals "MAX_LIFE" = some (some (.int (8) t_MAX_LIFE)))
(c_MAX_NAME : PySem.W.nsIn K mainGlobals "MAX_NAME" = some (some (.int (8) t_MAX_NAME)))
(c_MAX_VALUES : PySem.W.nsIn K mainGlobals "MAX_VALUES" = some (some (.int (8) t_MAX_VALUES))) :
    ∀ base : Heap, K.In base → base.Ns mainGlobals mg → SysD base → FnG l.prog w K mg base 10 fa (spLaw K) := by
  have e := hfa.symm.trans (PySem.W.mg_of X G a31)
  cases e
  have mC_Spans := PySem.W.mg_of X G aC_Spans
  have cl_Spans : Cls K C_Spans := ⟨pg_Spans, hd_Spans, po_Spans, sa_Spans⟩
  have ow_Spans : OwnC K C_Spans := ⟨cl_Spans, oa_Spans, og_Spans, ot_Spans, oo_Spans, kind7 nf0_Spans nf1_Spans nf2_Spans nf3_Spans nf4_Spans nf5_Spans nf6_Spans, kind7 ki0_Spans ki1_Spans ki2_Spans ki3_Spans ki4_Spans ki5_Spans ki6_Spans⟩
  have T : Txt K mg := ⟨PySem.W.mg_none_of X G n_abs, PySem.W.mg_none_of X G n_all, PySem.W.mg_none_of X G n_bool, PySem.W.mg_none_of X G n_dict, PySem.W.mg_none_of X G n_int, PySem.W.mg_none_of X G n_isinstance, PySem.W.mg_none_of X G n_len, PySem.W.mg_none_of X G n_list, PySem.W.mg_none_of X G n_max, PySem.W.mg_none_of X G n_min, PySem.W.mg_none_of X G n_range, PySem.W.mg_none_of X G n_repr, PySem.W.mg_none_of X G n_sorted, PySem.W.mg_none_of X G n_str, PySem.W.mg_none_of X G n_sum, PySem.W.mg_none_of X G n_tuple, ⟨t_LETTERS, PySem.W.mg_of X G c_LETTERS⟩, ⟨t_LIMIT, PySem.W.mg_of X G c_LIMIT⟩, ⟨t_MAX_INTERVAL, PySem.W.mg_of X G c_MAX_INTERVAL⟩, ⟨t_MAX_LIFE, PySem.W.mg_of X G c_MAX_LIFE⟩, ⟨t_MAX_NAME, PySem.W.mg_of X G c_MAX_NAME⟩, ⟨t_MAX_VALUES, PySem.W.mg_of X G c_MAX_VALUES⟩, ⟨C_Spans, mC_Spans, cl_Spans⟩, ⟨C_Spans, mC_Spans, no_Spans_own_interval⟩, ⟨C_Spans, mC_Spans, no_Spans_own_rows⟩, ⟨C_Spans, mC_Spans, ow_Spans⟩, ⟨C_Spans, mC_Spans, ow_Spans, kind7 kj0_Spans kj1_Spans kj2_Spans kj3_Spans kj4_Spans kj5_Spans kj6_Spans⟩⟩
  have F0 := fun_mk (st := s_is_integer) l0 c0 k0
  have B0 := F0.binds (ps := ["value"]) fun _ _ _ _ _ _ us hl => match us, hl with | [_], _ => rfl
  have F1 := fun_mk (st := s_is_within) l1 c1 k1
  have B1 := F1.binds (ps := ["value", "least", "most"]) fun _ _ _ _ _ _ us hl => match us, hl with | [_, _, _], _ => rfl
  have F2 := fun_mk (st := s_require_within) l2 c2 k2
  have B2 := F2.binds (ps := ["value", "least", "most"]) fun _ _ _ _ _ _ us hl => match us, hl with | [_, _, _], _ => rfl
  have F3 := fun_mk (st := s_require_interval) l3 c3 k3
  have B3 := F3.binds (ps := ["value"]) fun _ _ _ _ _ _ us hl => match us, hl with | [_], _ => rfl
  have F4 := fun_mk (st := s_is_name) l4 c4 k4
  have B4 := F4.binds (ps := ["value"]) fun _ _ _ _ _ _ us hl => match us, hl with | [_], _ => rfl
  have F5 := fun_mk (st := s_is_span) l5 c5 k5
  have B5 := F5.binds (ps := ["value", "interval"]) fun _ _ _ _ _ _ us hl => match us, hl with | [_, _], _ => rfl
  have F6 := fun_mk (st := s_are_rows) l6 c6 k6
  have B6 := F6.binds (ps := ["value", "interval"]) fun _ _ _ _ _ _ us hl => match us, hl with | [_, _], _ => rfl
  have F7 := fun_mk (st := s_Spans___init__) l7 c7 k7
  have B7 := F7.binds (ps := ["self", "interval", "rows"]) fun _ _ _ _ _ _ us hl => match us, hl with | [_, _, _], _ => rfl
  have F8 := fun_mk (st := s_Spans_names) l8 c8 k8
  have B8 := F8.binds (ps := ["self"]) fun _ _ _ _ _ _ us hl => match us, hl with | [_], _ => rfl
  have F9 := fun_mk (st := s_Spans_rows) l9 c9 k9
  have B9 := F9.binds (ps := ["self"]) fun _ _ _ _ _ _ us hl => match us, hl with | [_], _ => rfl
  have F10 := fun_mk (st := s_Spans_total) l10 c10 k10
  have B10 := F10.binds (ps := ["self"]) fun _ _ _ _ _ _ us hl => match us, hl with | [_], _ => rfl
  have F11 := fun_mk (st := s_Spans___len__) l11 c11 k11
  have B11 := F11.binds (ps := ["self"]) fun _ _ _ _ _ _ us hl => match us, hl with | [_], _ => rfl
  have F12 := fun_mk (st := s_Spans___contains__) l12 c12 k12
  have B12 := F12.binds (ps := ["self", "value"]) fun _ _ _ _ _ _ us hl => match us, hl with | [_, _], _ => rfl
  have F13 := fun_mk (st := s_Spans___getitem__) l13 c13 k13
  have B13 := F13.binds (ps := ["self", "name"]) fun _ _ _ _ _ _ us hl => match us, hl with | [_, _], _ => rfl
  have F14 := fun_mk (st := s_slot_in) l14 c14 k14
  have B14 := F14.binds (ps := ["tick", "interval"]) fun _ _ _ _ _ _ us hl => match us, hl with | [_, _], _ => rfl
  have F15 := fun_mk (st := s_Spans_normal) l15 c15 k15
  have B15 := F15.binds (ps := ["self"]) fun _ _ _ _ _ _ us hl => match us, hl with | [_], _ => rfl
  have F16 := fun_mk (st := s__law_roll) l16 c16 k16
  have B16 := F16.binds (ps := ["tray", "total"]) fun _ _ _ _ _ _ us hl => match us, hl with | [_, _], _ => rfl
  have F17 := fun_mk (st := s__law_pick) l17 c17 k17
  have B17 := F17.binds (ps := ["tray", "items"]) fun _ _ _ _ _ _ us hl => match us, hl with | [_, _], _ => rfl
  have F18 := fun_mk (st := s__law_few) l18 c18 k18
  have B18 := F18.binds (ps := ["tray", "items", "many"]) fun _ _ _ _ _ _ us hl => match us, hl with | [_, _, _], _ => rfl
  have F19 := fun_mk (st := s__law_rings) l19 c19 k19
  have B19 := F19.binds (ps := ["tray", "interval", "names"]) fun _ _ _ _ _ _ us hl => match us, hl with | [_, _, _], _ => rfl
  have F20 := fun_mk (st := s__law_rows) l20 c20 k20
  have B20 := F20.binds (ps := ["tray", "interval", "names"]) fun _ _ _ _ _ _ us hl => match us, hl with | [_, _, _], _ => rfl
  have F21 := fun_mk (st := s_Spans___eq__) l21 c21 k21
  have B21 := F21.binds (ps := ["self", "other"]) fun _ _ _ _ _ _ us hl => match us, hl with | [_, _], _ => rfl
  have F22 := fun_mk (st := s__law_near) l22 c22 k22
  have B22 := F22.binds (ps := ["tray", "rows", "interval"]) fun _ _ _ _ _ _ us hl => match us, hl with | [_, _, _], _ => rfl
  have F23 := fun_mk (st := s__law_names) l23 c23 k23
  have B23 := F23.binds (ps := ["tray", "many"]) fun _ _ _ _ _ _ us hl => match us, hl with | [_, _], _ => rfl
  have F24 := fun_mk (st := s_Spans___str__) l24 c24 k24
  have B24 := F24.binds (ps := ["self"]) fun _ _ _ _ _ _ us hl => match us, hl with | [_], _ => rfl
  have F25 := fun_mk (st := s__law_sorted) l25 c25 k25
  have B25 := F25.binds (ps := ["rows"]) fun _ _ _ _ _ _ us hl => match us, hl with | [_], _ => rfl
  have F26 := fun_mk (st := s_Spans_interval) l26 c26 k26
  have B26 := F26.binds (ps := ["self"]) fun _ _ _ _ _ _ us hl => match us, hl with | [_], _ => rfl
  have F27 := fun_mk (st := s__law_odd) l27 c27 k27
  have B27 := F27.binds (ps := ["tray", "rows", "spans"]) fun _ _ _ _ _ _ us hl => match us, hl with | [_, _, _], _ => rfl
  have F28 := fun_mk (st := s__law_is_told) l28 c28 k28
  have B28 := F28.binds (ps := ["tray", "spans", "rows", "interval"]) fun _ _ _ _ _ _ us hl => match us, hl with | [_, _, _, _], _ => rfl
  have F29 := fun_mk (st := s__law_right) l29 c29 k29
  have B29 := F29.binds (ps := ["tray"]) fun _ _ _ _ _ _ us hl => match us, hl with | [_], _ => rfl
  have F30 := fun_mk (st := s__law_tray) l30 c30 k30
  have B30 := F30.binds (ps := ["script", "spot"]) fun _ _ _ _ _ _ us hl => match us, hl with | [_, _], _ => rfl
  have F31 := fun_mk (st := s_law) l31 c31 k31
  have B31 := F31.binds (ps := ["script"]) fun _ _ _ _ _ _ us hl => match us, hl with | [_], _ => rfl
  intro base _ _ sy
  have d_is_integer : DefOk l.prog w K mg base 1 "is_integer" (Pk.sp_is_integer ownCs) := defR (def_ok (P := l.prog) (w := w) (base := base) (f := (Pk.sp_is_integer ownCs)) F0 sc_is_integer w_is_integer (by intro as Q QE h; try unfold Pk.sp_is_integer at h; repeat (first | (obtain ⟨rfl, _⟩ := h; rfl) | obtain ⟨_, h⟩ := h)) (fun _ _ _ _ _ _ hr => b_is_integer T hr) (fun as Q QE h => Pk.p_is_integer h)) B0 (PySem.W.mg_of X G a0) k0
  have d_is_within : DefOk l.prog w K mg base 2 "is_within" (Pk.sp_is_within ownCs) := defR (def_ok (P := l.prog) (w := w) (base := base) (f := (Pk.sp_is_within ownCs)) F1 sc_is_within w_is_within (by intro as Q QE h; try unfold Pk.sp_is_within at h; repeat (first | (obtain ⟨rfl, _⟩ := h; rfl) | obtain ⟨_, h⟩ := h)) (fun _ _ _ _ _ _ hr => b_is_within T d_is_integer hr) (fun as Q QE h => Pk.p_is_within h)) B1 (PySem.W.mg_of X G a1) k1
  have d_require_within : DefOk l.prog w K mg base 3 "require_within" (Pk.sp_require_within ownCs) := defR (def_ok (P := l.prog) (w := w) (base := base) (f := (Pk.sp_require_within ownCs)) F2 sc_require_within w_require_within (by intro as Q QE h; try unfold Pk.sp_require_within at h; repeat (first | (obtain ⟨rfl, _⟩ := h; rfl) | obtain ⟨_, h⟩ := h)) (fun _ _ _ _ _ _ hr => b_require_within T d_is_within hr) (fun as Q QE h => Pk.p_require_within h)) B2 (PySem.W.mg_of X G a2) k2
  have d_require_interval : DefOk l.prog w K mg base 4 "require_interval" (Pk.sp_require_interval ownCs) := defR (def_ok (P := l.prog) (w := w) (base := base) (f := (Pk.sp_require_interval ownCs)) F3 sc_require_interval w_require_interval (by intro as Q QE h; try unfold Pk.sp_require_interval at h; repeat (first | (obtain ⟨rfl, _⟩ := h; rfl) | obtain ⟨_, h⟩ := h)) (fun _ _ _ _ _ _ hr => b_require_interval T d_require_within hr) (fun as Q QE h => Pk.p_require_interval h)) B3 (PySem.W.mg_of X G a3) k3
  have d_is_name : DefOk l.prog w K mg base 1 "is_name" (Pk.sp_is_name ownCs) := defR (def_ok (P := l.prog) (w := w) (base := base) (f := (Pk.sp_is_name ownCs)) F4 sc_is_name w_is_name (by intro as Q QE h; try unfold Pk.sp_is_name at h; repeat (first | (obtain ⟨rfl, _⟩ := h; rfl) | obtain ⟨_, h⟩ := h)) (fun _ _ _ _ _ _ hr => b_is_name T hr) (fun as Q QE h => Pk.p_is_name h)) B4 (PySem.W.mg_of X G a4) k4
  have d_is_span : DefOk l.prog w K mg base 2 "is_span" (Pk.sp_is_span ownCs) := defR (def_ok (P := l.prog) (w := w) (base := base) (f := (Pk.sp_is_span ownCs)) F5 sc_is_span w_is_span (by intro as Q QE h; try unfold Pk.sp_is_span at h; repeat (first | (obtain ⟨rfl, _⟩ := h; rfl) | obtain ⟨_, h⟩ := h)) (fun _ _ _ _ _ _ hr => b_is_span T d_is_integer hr) (fun as Q QE h => Pk.p_is_span h)) B5 (PySem.W.mg_of X G a5) k5
  have d_are_rows : DefOk l.prog w K mg base 3 "are_rows" Pk.sp_are_rows := defR (def_ok (P := l.prog) (w := w) (base := base) (f := Pk.sp_are_rows) F6 sc_are_rows w_are_rows (by intro as Q QE h; try unfold Pk.sp_are_rows at h; repeat (first | (obtain ⟨rfl, _⟩ := h; rfl) | obtain ⟨_, h⟩ := h)) (fun _ _ _ _ _ _ hr => b_are_rows T d_is_name d_is_span hr) (fun as Q QE h => Pk.p_are_rows h)) B6 (PySem.W.mg_of X G a6) k6
  have d_Spans___init__ : MakeD l.prog w K mg base 5 "Spans" Pk.sp_Spans___init__ := ⟨C_Spans, f7, _, _, mC_Spans, ⟨mk_Spans, a7, i7, kC_Spans⟩, def_ok (P := l.prog) (w := w) (base := base) (f := Pk.sp_Spans___init__) F7 sc_Spans___init__ w_Spans___init__ (by intro as Q QE h; try unfold Pk.sp_Spans___init__ at h; repeat (first | (obtain ⟨rfl, _⟩ := h; rfl) | obtain ⟨_, h⟩ := h)) (fun _ _ _ _ _ _ hr => b_Spans___init__ T d_require_interval d_are_rows hr) (fun as Q QE h => Pk.p_Spans___init__ h), B7⟩
  have d_Spans_names : PropD l.prog w K mg base 1 "Spans" "names" Pk.sp_Spans_names := ⟨C_Spans, p8, f8, _, _, mC_Spans, ⟨a8, g8, t8, _, r8⟩, def_ok (P := l.prog) (w := w) (base := base) (f := Pk.sp_Spans_names) F8 sc_Spans_names w_Spans_names (by intro as Q QE h; try unfold Pk.sp_Spans_names at h; repeat (first | (obtain ⟨rfl, _⟩ := h; rfl) | obtain ⟨_, h⟩ := h)) (fun _ _ _ _ _ _ hr => b_Spans_names T hr) (fun as Q QE h => Pk.p_Spans_names h), B8⟩
  have d_Spans_rows : PropD l.prog w K mg base 1 "Spans" "rows" Pk.sp_Spans_rows := ⟨C_Spans, p9, f9, _, _, mC_Spans, ⟨a9, g9, t9, _, r9⟩, def_ok (P := l.prog) (w := w) (base := base) (f := Pk.sp_Spans_rows) F9 sc_Spans_rows w_Spans_rows (by intro as Q QE h; try unfold Pk.sp_Spans_rows at h; repeat (first | (obtain ⟨rfl, _⟩ := h; rfl) | obtain ⟨_, h⟩ := h)) (fun _ _ _ _ _ _ hr => b_Spans_rows T hr) (fun as Q QE h => Pk.p_Spans_rows h), B9⟩
  have d_Spans_total : PropD l.prog w K mg base 1 "Spans" "total" Pk.sp_Spans_total := ⟨C_Spans, p10, f10, _, _, mC_Spans, ⟨a10, g10, t10, _, r10⟩, def_ok (P := l.prog) (w := w) (base := base) (f := Pk.sp_Spans_total) F10 sc_Spans_total w_Spans_total (by intro as Q QE h; try unfold Pk.sp_Spans_total at h; repeat (first | (obtain ⟨rfl, _⟩ := h; rfl) | obtain ⟨_, h⟩ := h)) (fun _ _ _ _ _ _ hr => b_Spans_total T hr) (fun as Q QE h => Pk.p_Spans_total h), B10⟩
  have d_Spans___len__ : SpecD l.prog w K mg base 1 "Spans" "__len__" Pk.sp_Spans___len__ := ⟨C_Spans, f11, mC_Spans, a11, i11, (FnOk.fnR (def_ok (P := l.prog) (w := w) (base := base) (f := Pk.sp_Spans___len__) F11 sc_Spans___len__ w_Spans___len__ (by intro as Q QE h; try unfold Pk.sp_Spans___len__ at h; repeat (first | (obtain ⟨rfl, _⟩ := h; rfl) | obtain ⟨_, h⟩ := h)) (fun _ _ _ _ _ _ hr => b_Spans___len__ T hr) (fun as Q QE h => Pk.p_Spans___len__ h)) B11)⟩
  have d_Spans___contains__ : SpecD l.prog w K mg base 2 "Spans" "__contains__" (Pk.sp_Spans___contains__ ownCs) := ⟨C_Spans, f12, mC_Spans, a12, i12, (FnOk.fnR (def_ok (P := l.prog) (w := w) (base := base) (f := (Pk.sp_Spans___contains__ ownCs)) F12 sc_Spans___contains__ w_Spans___contains__ (by intro as Q QE h; try unfold Pk.sp_Spans___contains__ at h; repeat (first | (obtain ⟨rfl, _⟩ := h; rfl) | obtain ⟨_, h⟩ := h)) (fun _ _ _ _ _ _ hr => b_Spans___contains__ T d_is_name hr) (fun as Q QE h => Pk.p_Spans___contains__ h)) B12)⟩
  have d_Spans___getitem__ : ItemD l.prog w K mg base 5 "Spans" (Pk.sp_Spans___getitem__ ownCs) := ⟨C_Spans, f13, mC_Spans, a13, u13, i13, (FnOk.fnR (def_ok (P := l.prog) (w := w) (base := base) (f := (Pk.sp_Spans___getitem__ ownCs)) F13 sc_Spans___getitem__ w_Spans___getitem__ (by intro as Q QE h; try unfold Pk.sp_Spans___getitem__ at h; repeat (first | (obtain ⟨rfl, _⟩ := h; rfl) | obtain ⟨_, h⟩ := h)) (fun _ _ _ _ _ _ hr => b_Spans___getitem__ T d_Spans___contains__ hr) (fun as Q QE h => Pk.p_Spans___getitem__ h)) B13)⟩
  have d_slot_in : DefOk l.prog w K mg base 1 "slot_in" Pk.sp_slot_in := defR (def_ok (P := l.prog) (w := w) (base := base) (f := Pk.sp_slot_in) F14 sc_slot_in w_slot_in (by intro as Q QE h; try unfold Pk.sp_slot_in at h; repeat (first | (obtain ⟨rfl, _⟩ := h; rfl) | obtain ⟨_, h⟩ := h)) (fun _ _ _ _ _ _ hr => b_slot_in T hr) (fun as Q QE h => Pk.p_slot_in h)) B14 (PySem.W.mg_of X G a14) k14
  have d_Spans_normal : PropD l.prog w K mg base 7 "Spans" "normal" Pk.sp_Spans_normal := ⟨C_Spans, p15, f15, _, _, mC_Spans, ⟨a15, g15, t15, _, r15⟩, def_ok (P := l.prog) (w := w) (base := base) (f := Pk.sp_Spans_normal) F15 sc_Spans_normal w_Spans_normal (by intro as Q QE h; try unfold Pk.sp_Spans_normal at h; repeat (first | (obtain ⟨rfl, _⟩ := h; rfl) | obtain ⟨_, h⟩ := h)) (fun _ _ _ _ _ _ hr => b_Spans_normal T d_Spans___init__ d_slot_in hr) (fun as Q QE h => Pk.p_Spans_normal h), B15⟩
  have d__law_roll : DefOk l.prog w K mg base 1 "_law_roll" sp_spin := defR (def_ok (P := l.prog) (w := w) (base := base) (f := sp_spin) F16 sc__law_roll w__law_roll (by intro as Q QE h; try unfold sp_spin at h; repeat (first | (obtain ⟨rfl, _⟩ := h; rfl) | obtain ⟨_, h⟩ := h)) (fun _ _ _ _ _ _ hr => b__law_roll T hr) (fun as Q QE h => Ft.p_roll h)) B16 (PySem.W.mg_of X G a16) k16
  have d__law_pick : DefOk l.prog w K mg base 2 "_law_pick" sp_pick := defR (def_ok (P := l.prog) (w := w) (base := base) (f := sp_pick) F17 sc__law_pick w__law_pick (by intro as Q QE h; try unfold sp_pick at h; repeat (first | (obtain ⟨rfl, _⟩ := h; rfl) | obtain ⟨_, h⟩ := h)) (fun _ _ _ _ _ _ hr => b__law_pick T d__law_roll hr) (fun as Q QE h => pick_w h)) B17 (PySem.W.mg_of X G a17) k17
  have d__law_few : DefOk l.prog w K mg base 2 "_law_few" sp_few2 := defR (def_ok (P := l.prog) (w := w) (base := base) (f := sp_few2) F18 sc__law_few w__law_few (by intro as Q QE h; try unfold sp_few2 at h; repeat (first | (obtain ⟨rfl, _⟩ := h; rfl) | obtain ⟨_, h⟩ := h)) (fun _ _ _ _ _ _ hr => b__law_few T d__law_roll hr) (fun as Q QE h => Ft.p_few h)) B18 (PySem.W.mg_of X G a18) k18
  have d__law_rings : DefOk l.prog w K mg base 3 "_law_rings" Ft.sp_rings := defR (def_ok (P := l.prog) (w := w) (base := base) (f := Ft.sp_rings) F19 sc__law_rings w__law_rings (by intro as Q QE h; try unfold Ft.sp_rings at h; repeat (first | (obtain ⟨rfl, _⟩ := h; rfl) | obtain ⟨_, h⟩ := h)) (fun _ _ _ _ _ _ hr => b__law_rings T d__law_few d__law_roll d__law_pick hr) (fun as Q QE h => Ft.p_rings h)) B19 (PySem.W.mg_of X G a19) k19
  have d__law_rows : DefOk l.prog w K mg base 4 "_law_rows" Ft.sp_rows := defR (def_ok (P := l.prog) (w := w) (base := base) (f := Ft.sp_rows) F20 sc__law_rows w__law_rows (by intro as Q QE h; try unfold Ft.sp_rows at h; repeat (first | (obtain ⟨rfl, _⟩ := h; rfl) | obtain ⟨_, h⟩ := h)) (fun _ _ _ _ _ _ hr => b__law_rows T d__law_roll d__law_rings d__law_pick hr) (fun as Q QE h => Ft.p_rows h)) B20 (PySem.W.mg_of X G a20) k20
  have d_Spans___eq__ : EqD l.prog w K mg base 1 "Spans" Pk.sp_Spans___eq__ := ⟨C_Spans, f21, mC_Spans, ow_Spans, a21, i21, n21, (FnOk.fnR (def_ok (P := l.prog) (w := w) (base := base) (f := Pk.sp_Spans___eq__) F21 sc_Spans___eq__ w_Spans___eq__ (by intro as Q QE h; try unfold Pk.sp_Spans___eq__ at h; repeat (first | (obtain ⟨rfl, _⟩ := h; rfl) | obtain ⟨_, h⟩ := h)) (fun _ _ _ _ _ _ hr => b_Spans___eq__ T hr) (fun as Q QE h => Pk.p_Spans___eq__ h)) B21)⟩
  have d__law_near : DefOk l.prog w K mg base 3 "_law_near" sp_law_near := defR (def_ok (P := l.prog) (w := w) (base := base) (f := sp_law_near) F22 sc__law_near w__law_near (by intro as Q QE h; try unfold sp_law_near at h; repeat (first | (obtain ⟨rfl, _⟩ := h; rfl) | obtain ⟨_, h⟩ := h)) (fun _ _ _ _ _ _ hr => b__law_near T d__law_pick hr) (fun as Q QE h => p_law_near h)) B22 (PySem.W.mg_of X G a22) k22
  have d__law_names : DefOk l.prog w K mg base 3 "_law_names" Ft.sp_names := defR (def_ok (P := l.prog) (w := w) (base := base) (f := Ft.sp_names) F23 sc__law_names w__law_names (by intro as Q QE h; try unfold Ft.sp_names at h; repeat (first | (obtain ⟨rfl, _⟩ := h; rfl) | obtain ⟨_, h⟩ := h)) (fun _ _ _ _ _ _ hr => b__law_names T d__law_few d__law_roll d__law_pick hr) (fun as Q QE h => Ft.p_names h)) B23 (PySem.W.mg_of X G a23) k23
  have d_Spans___str__ : SpecD l.prog w K mg base 1 "Spans" "__str__" Pk.sp_Spans___str__ := ⟨C_Spans, f24, mC_Spans, a24, i24, (FnOk.fnR (def_ok (P := l.prog) (w := w) (base := base) (f := Pk.sp_Spans___str__) F24 sc_Spans___str__ w_Spans___str__ (by intro as Q QE h; try unfold Pk.sp_Spans___str__ at h; repeat (first | (obtain ⟨rfl, _⟩ := h; rfl) | obtain ⟨_, h⟩ := h)) (fun _ _ _ _ _ _ hr => b_Spans___str__ T hr) (fun as Q QE h => Pk.p_Spans___str__ h)) B24)⟩
  have d__law_sorted : DefOk l.prog w K mg base 1 "_law_sorted" Ft.sp_sorted := defR (def_ok (P := l.prog) (w := w) (base := base) (f := Ft.sp_sorted) F25 sc__law_sorted w__law_sorted (by intro as Q QE h; try unfold Ft.sp_sorted at h; repeat (first | (obtain ⟨rfl, _⟩ := h; rfl) | obtain ⟨_, h⟩ := h)) (fun _ _ _ _ _ _ hr => b__law_sorted T hr) (fun as Q QE h => Ft.p_sorted h)) B25 (PySem.W.mg_of X G a25) k25
  have d_Spans_interval : PropD l.prog w K mg base 1 "Spans" "interval" Pk.sp_Spans_interval := ⟨C_Spans, p26, f26, _, _, mC_Spans, ⟨a26, g26, t26, _, r26⟩, def_ok (P := l.prog) (w := w) (base := base) (f := Pk.sp_Spans_interval) F26 sc_Spans_interval w_Spans_interval (by intro as Q QE h; try unfold Pk.sp_Spans_interval at h; repeat (first | (obtain ⟨rfl, _⟩ := h; rfl) | obtain ⟨_, h⟩ := h)) (fun _ _ _ _ _ _ hr => b_Spans_interval T hr) (fun as Q QE h => Pk.p_Spans_interval h), B26⟩
  have d__law_odd : DefOk l.prog w K mg base 3 "_law_odd" sp_law_odd := defR (def_ok (P := l.prog) (w := w) (base := base) (f := sp_law_odd) F27 sc__law_odd w__law_odd (by intro as Q QE h; try unfold sp_law_odd at h; repeat (first | (obtain ⟨rfl, _⟩ := h; rfl) | obtain ⟨_, h⟩ := h)) (fun _ _ _ _ _ _ hr => b__law_odd T d__law_few hr) (fun as Q QE h => p_law_odd h)) B27 (PySem.W.mg_of X G a27) k27
  have d__law_is_told : DefG l.prog w K mg base 8 "_law_is_told" sp_law_is_told := defG (def_okG (P := l.prog) (w := w) (base := base) (f := sp_law_is_told) F28 sc__law_is_told B28 w__law_is_told (by intro as Q QE h; try unfold sp_law_is_told at h; repeat (first | (obtain ⟨rfl, _⟩ := h; rfl) | obtain ⟨_, h⟩ := h)) (fun _ _ _ _ _ _ hr gd => b__law_is_told T d_Spans_rows d_Spans___str__ d__law_sorted d_Spans___contains__ d_Spans_interval d_Spans_names d_Spans_total d_Spans___len__ d_Spans___getitem__ d__law_odd hr gd sy) (fun as Q QE h => p_law_is_told h)) (PySem.W.mg_of X G a28) k28
  have d__law_right : DefG l.prog w K mg base 9 "_law_right" sp_law_right := defG (def_okG (P := l.prog) (w := w) (base := base) (f := sp_law_right) F29 sc__law_right B29 w__law_right (by intro as Q QE h; try unfold sp_law_right at h; repeat (first | (obtain ⟨rfl, _⟩ := h; rfl) | obtain ⟨_, h⟩ := h)) (fun _ _ _ _ _ _ hr gd => b__law_right T d_Spans_normal d__law_pick d__law_rows d_Spans___init__ d_Spans___eq__ d__law_near d__law_names d__law_is_told d__law_sorted d_Spans_interval d_Spans_rows d__law_roll d__law_few hr gd sy) (fun as Q QE h => p_law_right h)) (PySem.W.mg_of X G a29) k29
  have d__law_tray : DefOk l.prog w K mg base 1 "_law_tray" sp_reel := defR (def_ok (P := l.prog) (w := w) (base := base) (f := sp_reel) F30 sc__law_tray w__law_tray (by intro as Q QE h; try unfold sp_reel at h; repeat (first | (obtain ⟨rfl, _⟩ := h; rfl) | obtain ⟨_, h⟩ := h)) (fun _ _ _ _ _ _ hr => b__law_tray T hr) (fun as Q QE h => Ft.p_tray h)) B30 (PySem.W.mg_of X G a30) k30
  exact (def_okG (P := l.prog) (w := w) (base := base) (f := sp_law) F31 sc_law B31 w_law (by intro as Q QE h; try unfold sp_law at h; repeat (first | (obtain ⟨rfl, _⟩ := h; rfl) | obtain ⟨_, h⟩ := h)) (fun _ _ _ _ _ _ hr gd => b_law T d_Spans___init__ d_Spans_names d_Spans_rows d_Spans_total d_Spans___len__ d_Spans___contains__ d_Spans___getitem__ d__law_right d_Spans_normal d__law_tray hr gd sy) (fun as Q QE h => p_law h)).imp fun vs H Q E h => h mg
end K37
open PySem PySem.W PyProof.Rows
set_option maxRecDepth 100000 in
set_option maxHeartbeats 0 in
theorem PySem.Challenge.cw_overrounds_k37_spans_told_holds : PySem.Challenge.rw_overrounds_k37_spans_told.Holds := by
  w_on; o_law; k_head; (case hw => w_witness2)
  k_fill
  refine Z.walkG (l := PySem.Challenge.rw_overrounds_k37_spans_told) (k := 10) rfl rfl ⟨rfl, by decide, by decide⟩ (by rfl) (fun w h Y => PySem.W.kIn_of Y) ?F
  case F =>
    intro w mg fa h KX G hmg
    refine' K37.all_mk KX G hmg ?aC_Spans ?pg_Spans ?hd_Spans ?po_Spans ?sa_Spans ?no_Spans_own_interval ?no_Spans_own_rows ?oa_Spans ?og_Spans ?ot_Spans ?oo_Spans ?nf0_Spans ?ki0_Spans ?kj0_Spans ?nf1_Spans ?ki1_Spans ?kj1_Spans ?nf2_Spans ?ki2_Spans ?kj2_Spans ?nf3_Spans ?ki3_Spans ?kj3_Spans ?nf4_Spans ?ki4_Spans ?kj4_Spans ?nf5_Spans ?ki5_Spans ?kj5_Spans ?nf6_Spans ?ki6_Spans ?kj6_Spans ?mk_Spans ?kC_Spans ?a0 ?l0 ?c0 ?k0 ?a1 ?l1 ?c1 ?k1 ?a2 ?l2 ?c2 ?k2 ?a3 ?l3 ?c3 ?k3 ?a4 ?l4 ?c4 ?k4 ?a5 ?l5 ?c5 ?k5 ?a6 ?l6 ?c6 ?k6 ?a7 ?i7 ?l7 ?c7 ?k7 ?a8 ?g8 ?t8 ?r8 ?l8 ?c8 ?k8 ?a9 ?g9 ?t9 ?r9 ?l9 ?c9 ?k9 ?a10 ?g10 ?t10 ?r10 ?l10 ?c10 ?k10 ?a11 ?i11 ?l11 ?c11 ?k11 ?a12 ?i12 ?l12 ?c12 ?k12 ?a13 ?i13 ?u13 ?l13 ?c13 ?k13 ?a14 ?l14 ?c14 ?k14 ?a15 ?g15 ?t15 ?r15 ?l15 ?c15 ?k15 ?a16 ?l16 ?c16 ?k16 ?a17 ?l17 ?c17 ?k17 ?a18 ?l18 ?c18 ?k18 ?a19 ?l19 ?c19 ?k19 ?a20 ?l20 ?c20 ?k20 ?a21 ?i21 ?n21 ?l21 ?c21 ?k21 ?a22 ?l22 ?c22 ?k22 ?a23 ?l23 ?c23 ?k23 ?a24 ?i24 ?l24 ?c24 ?k24 ?a25 ?l25 ?c25 ?k25 ?a26 ?g26 ?t26 ?r26 ?l26 ?c26 ?k26 ?a27 ?l27 ?c27 ?k27 ?a28 ?l28 ?c28 ?k28 ?a29 ?l29 ?c29 ?k29 ?a30 ?l30 ?c30 ?k30 ?a31 ?l31 ?c31 ?k31 ?n_abs ?n_all ?n_bool ?n_dict ?n_int ?n_isinstance ?n_len ?n_list ?n_max ?n_min ?n_range ?n_repr ?n_sorted ?n_str ?n_sum ?n_tuple ?c_LETTERS ?c_LIMIT ?c_MAX_INTERVAL ?c_MAX_LIFE ?c_MAX_NAME ?c_MAX_VALUES
    (case aC_Spans => k_is); (case pg_Spans => k_is); (case hd_Spans => k_is); (case po_Spans => k_is); (case sa_Spans => k_is); (case no_Spans_own_interval => k_is); (case no_Spans_own_rows => k_is); (case oa_Spans => k_is); (case og_Spans => k_is); (case ot_Spans => k_is); (case oo_Spans => k_is); (case nf0_Spans => k_is); (case ki0_Spans => kit_is); (case kj0_Spans => kit_is); (case nf1_Spans => k_is); (case ki1_Spans => kit_is); (case kj1_Spans => kit_is); (case nf2_Spans => k_is); (case ki2_Spans => kit_is); (case kj2_Spans => kit_is); (case nf3_Spans => k_is); (case ki3_Spans => kit_is); (case kj3_Spans => kit_is); (case nf4_Spans => k_is); (case ki4_Spans => kit_is); (case kj4_Spans => kit_is); (case nf5_Spans => k_is); (case ki5_Spans => kit_is); (case kj5_Spans => kit_is); (case nf6_Spans => k_is); (case ki6_Spans => kit_is); (case kj6_Spans => kit_is); (case mk_Spans => k_is); (case kC_Spans => k_is); (case a0 => k_is); (case l0 => k_is); (case c0 => k_is); (case k0 => k_is); (case a1 => k_is); (case l1 => k_is); (case c1 => k_is); (case k1 => k_is); (case a2 => k_is); (case l2 => k_is); (case c2 => k_is); (case k2 => k_is); (case a3 => k_is); (case l3 => k_is); (case c3 => k_is); (case k3 => k_is); (case a4 => k_is); (case l4 => k_is); (case c4 => k_is); (case k4 => k_is); (case a5 => k_is); (case l5 => k_is); (case c5 => k_is); (case k5 => k_is); (case a6 => k_is); (case l6 => k_is); (case c6 => k_is); (case k6 => k_is); (case a7 => k_is); (case i7 => k_is); (case l7 => k_is); (case c7 => k_is); (case k7 => k_is); (case a8 => k_is); (case g8 => k_is); (case t8 => k_is); (case r8 => k_is); (case l8 => k_is); (case c8 => k_is); (case k8 => k_is); (case a9 => k_is); (case g9 => k_is); (case t9 => k_is); (case r9 => k_is); (case l9 => k_is); (case c9 => k_is); (case k9 => k_is); (case a10 => k_is); (case g10 => k_is); (case t10 => k_is); (case r10 => k_is); (case l10 => k_is); (case c10 => k_is); (case k10 => k_is); (case a11 => k_is); (case i11 => k_is); (case l11 => k_is); (case c11 => k_is); (case k11 => k_is); (case a12 => k_is); (case i12 => k_is); (case l12 => k_is); (case c12 => k_is); (case k12 => k_is); (case a13 => k_is); (case i13 => k_is); (case u13 => k_is); (case l13 => k_is); (case c13 => k_is); (case k13 => k_is); (case a14 => k_is); (case l14 => k_is); (case c14 => k_is); (case k14 => k_is); (case a15 => k_is); (case g15 => k_is); (case t15 => k_is); (case r15 => k_is); (case l15 => k_is); (case c15 => k_is); (case k15 => k_is); (case a16 => k_is); (case l16 => k_is); (case c16 => k_is); (case k16 => k_is); (case a17 => k_is); (case l17 => k_is); (case c17 => k_is); (case k17 => k_is); (case a18 => k_is); (case l18 => k_is); (case c18 => k_is); (case k18 => k_is); (case a19 => k_is); (case l19 => k_is); (case c19 => k_is); (case k19 => k_is); (case a20 => k_is); (case l20 => k_is); (case c20 => k_is); (case k20 => k_is); (case a21 => k_is); (case i21 => k_is); (case n21 => k_is); (case l21 => k_is); (case c21 => k_is); (case k21 => k_is); (case a22 => k_is); (case l22 => k_is); (case c22 => k_is); (case k22 => k_is); (case a23 => k_is); (case l23 => k_is); (case c23 => k_is); (case k23 => k_is); (case a24 => k_is); (case i24 => k_is); (case l24 => k_is); (case c24 => k_is); (case k24 => k_is); (case a25 => k_is); (case l25 => k_is); (case c25 => k_is); (case k25 => k_is); (case a26 => k_is); (case g26 => k_is); (case t26 => k_is); (case r26 => k_is); (case l26 => k_is); (case c26 => k_is); (case k26 => k_is); (case a27 => k_is); (case l27 => k_is); (case c27 => k_is); (case k27 => k_is); (case a28 => k_is); (case l28 => k_is); (case c28 => k_is); (case k28 => k_is); (case a29 => k_is); (case l29 => k_is); (case c29 => k_is); (case k29 => k_is); (case a30 => k_is); (case l30 => k_is); (case c30 => k_is); (case k30 => k_is); (case a31 => k_is); (case l31 => k_is); (case c31 => k_is); (case k31 => k_is); (case n_abs => k_is); (case n_all => k_is); (case n_bool => k_is); (case n_dict => k_is); (case n_int => k_is); (case n_isinstance => k_is); (case n_len => k_is); (case n_list => k_is); (case n_max => k_is); (case n_min => k_is); (case n_range => k_is); (case n_repr => k_is); (case n_sorted => k_is); (case n_str => k_is); (case n_sum => k_is); (case n_tuple => k_is); (case c_LETTERS => k_is); (case c_LIMIT => k_is); (case c_MAX_INTERVAL => k_is); (case c_MAX_LIFE => k_is); (case c_MAX_NAME => k_is); (case c_MAX_VALUES => k_is)

