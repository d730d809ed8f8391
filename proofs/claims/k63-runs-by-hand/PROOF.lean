import PyProof.Rows.All
import Wide.All
import OpenK.AllK
import Wide.FinOn
import PyProof.EqAt
import PyProof.EqKinds
import PyProof.TupleCall
import HandS.ForMost
import HandS.Exc
import HandS.WordsExc
import HandS.Deep
import HandS.IsInst
import HandS.Wide
import HandS.TupAny
import HandS.Strs
import HandS.Defaults
import HandS.Zip
import HandS.EndBits
import PySem.Challenge.RW_warmsteps_k63_runs_by_hand
set_option Elab.async false
set_option linter.all false
set_option maxRecDepth 100000
set_option maxHeartbeats 4000000
/-! SL1: abstract values, the abstract heap, how they stand to HandS's readings. -/
namespace SL
open PySem PySem.Spec PyProof.Rows L2

/-- a value: tuples as they are, changeable objects by number -/
inductive AV where
  | non | bl (b : Bool) | int (i : Int) | str (x : Str) | tup (xs : List AV) | ref (n : Nat) | cst (v : V) | ktp (xs : List AV)

/-- a changeable object; rol: a list that is only read; xd: the dict of an exception -/
inductive AO where
  | lst (xs : List AV) | rol (xs : List AV) | dct (kvs : List (Key × AV)) | dtp (kvs : List (List Key × AV)) | ldk (kvs : List (Key × AV)) | ldt (kvs : List (List Key × AV)) | ins (c : Nat) (fs : List (Str × AV)) | xd (fs : List (Str × AV))
def AO.trk : AO → Bool
  | .rol _ => false
  | _ => true
/-- it may be changed -/
def AO.mut : AO → Bool
  | .rol _ => false
  | .ldk _ => false
  | .ldt _ => false
  | _ => true
theorem AO.mut_trk {o : AO} (h : o.mut = true) : o.trk = true := by cases o <;> first | rfl | cases h

/-- the written part, the classes' addresses -/
structure Gx where
  K : PySem.W.Frag
  cl : Nat → Addr
  fz : Bool

def KTup (K : PySem.W.Frag) (a : Addr) (vs : List V) : Prop :=
  ∃ (o : Obj) (its : Array Value) (n : Nat), K.lookup a = some o ∧ o.cls = .type "tuple" ∧ o.dict = none ∧ o.data = .seq its n ∧ its.size ≤ sizeLine ∧ Vals vs its.toList
/-- a tuple's place: fz tells whether tuples are known to the object (frz) or by their items alone -/
def TupAt (G : Gx) (H : Hp) (a : Addr) (vs : List V) : Prop := (G.fz = false ∧ H a = some (.tup vs)) ∨ (G.fz = true ∧ ∃ o, o.dict = none ∧ H a = some (.frz o (.tup vs))) ∨ (G.fz = true ∧ KTup G.K a vs)
theorem TupAt.sq {G : Gx} {H : Hp} {a : Addr} {vs : List V} (h : TupAt G H a vs) : SqT G.K H a vs := by
  rcases h with ⟨_, h⟩ | ⟨_, o, _, h⟩ | ⟨_, o, its, n, h1, h2, _, h3⟩
  · exact .inl (.inl h)
  · exact .inl (.inr ⟨o, h⟩)
  · exact .inr ⟨o, its, n, h1, h2, h3⟩

theorem KTup.sq {K : PySem.W.Frag} {H : Hp} {a : Addr} {vs : List V} (h : KTup K a vs) : SqT K H a vs := by
  obtain ⟨o, its, n, h1, h2, _, h3⟩ := h
  exact .inr ⟨o, its, n, h1, h2, h3⟩
mutual
inductive RA (G : Gx) (n : Nat) (al : Nat → Addr) (H : Hp) : AV → V → Prop
  | non : RA G n al H .non .non
  | bl {b : Bool} : RA G n al H (.bl b) (.bl b)
  | int {i : Int} : RA G n al H (.int i) (.int i)
  | str {x : Str} : RA G n al H (.str x) (.str x)
  | tup {a : Addr} {xs : List AV} {vs : List V} : TupAt G H a vs → RAs G n al H xs vs → RA G n al H (.tup xs) (.ref a)
  | ref {i : Nat} : i < n → RA G n al H (.ref i) (.ref (al i))
  | cst {v : V} : RA G n al H (.cst v) v
  | ktp {a : Addr} {xs : List AV} {vs : List V} : KTup G.K a vs → RAs G n al H xs vs → RA G n al H (.ktp xs) (.ref a)
inductive RAs (G : Gx) (n : Nat) (al : Nat → Addr) (H : Hp) : List AV → List V → Prop
  | nil : RAs G n al H [] []
  | cons {x : AV} {xs : List AV} {v : V} {vs : List V} : RA G n al H x v → RAs G n al H xs vs → RAs G n al H (x :: xs) (v :: vs)
end

/-- a later state -/
structure Ext (n : Nat) (al : Nat → Addr) (H : Hp) (n' : Nat) (al' : Nat → Addr) (H' : Hp) : Prop where
  le : n ≤ n'
  al : ∀ i, i < n → al' i = al i
  tp : ∀ b xs, H b = some (.tup xs) → H' b = some (.tup xs)
  tf : ∀ b o u, H b = some (.frz o u) → H' b = some (.frz o u)

section
variable {G : Gx} {K : PySem.W.Frag} {n n' n1 : Nat} {al al' al1 : Nat → Addr} {H H' H1 : Hp}
theorem Ext.refl : Ext n al H n al H := ⟨Nat.le_refl _, fun _ _ => rfl, fun _ _ h => h, fun _ _ _ h => h⟩
theorem Ext.trans (a : Ext n al H n1 al1 H1) (b : Ext n1 al1 H1 n' al' H') : Ext n al H n' al' H' :=
  ⟨Nat.le_trans a.le b.le, fun i h => (b.al i (Nat.lt_of_lt_of_le h a.le)).trans (a.al i h), fun c xs h => b.tp c xs (a.tp c xs h), fun c o xs h => b.tf c o xs (a.tf c o xs h)⟩
theorem TupAt.mono {a : Addr} {vs : List V} (e : Ext n al H n' al' H') (h : TupAt G H a vs) : TupAt G H' a vs := by
  rcases h with ⟨z, h⟩ | ⟨z, o, d, h⟩ | h
  · exact .inl ⟨z, e.tp _ _ h⟩
  · exact .inr (.inl ⟨z, o, d, e.tf _ _ _ h⟩)
  · exact .inr (.inr h)
mutual
theorem RA.mono (e : Ext n al H n' al' H') : ∀ {x : AV} {v : V}, RA G n al H x v → RA G n' al' H' x v
  | _, _, .non => .non
  | _, _, .bl => .bl
  | _, _, .int => .int
  | _, _, .str => .str
  | _, _, .tup h hs => .tup (h.mono e) (RAs.mono e hs)
  | _, _, .ref (i := i) h => by
    have q := e.al i h
    rw [← q]
    exact .ref (Nat.lt_of_lt_of_le h e.le)
  | _, _, .cst => .cst
  | _, _, .ktp h hs => .ktp h (RAs.mono e hs)
theorem RAs.mono (e : Ext n al H n' al' H') : ∀ {xs : List AV} {vs : List V}, RAs G n al H xs vs → RAs G n' al' H' xs vs
  | _, _, .nil => .nil
  | _, _, .cons h hs => .cons (RA.mono e h) (RAs.mono e hs)
end
theorem RAs.length : ∀ {xs : List AV} {vs : List V}, RAs G n al H xs vs → xs.length = vs.length
  | _, _, .nil => rfl
  | _, _, .cons _ hs => by rw [List.length_cons, List.length_cons, RAs.length hs]
theorem RAs.get : ∀ {xs : List AV} {vs : List V} {i : Nat} {x : AV}, RAs G n al H xs vs → xs[i]? = some x → ∃ v, vs[i]? = some v ∧ RA G n al H x v
  | _, _, _, _, .nil, at_ => absurd at_ (by simp)
  | _, _, 0, _, .cons h _, e => by simp at e; subst e; exact ⟨_, rfl, h⟩
  | _, _, i + 1, x, .cons _ hs, e => by
    obtain ⟨v, h1, h2⟩ := RAs.get (i := i) (x := x) hs (by simpa using e)
    exact ⟨v, by simpa using h1, h2⟩
theorem RAs.append : ∀ {xs ys : List AV} {vs us : List V}, RAs G n al H xs vs → RAs G n al H ys us → RAs G n al H (xs ++ ys) (vs ++ us)
  | _, _, _, _, .nil, h => h
  | _, _, _, _, .cons h hs, k => .cons h (RAs.append hs k)
theorem RAs.take : ∀ {xs : List AV} {vs : List V} (i : Nat), RAs G n al H xs vs → RAs G n al H (xs.take i) (vs.take i)
  | _, _, 0, _ => .nil
  | _, _, _ + 1, .nil => .nil
  | _, _, i + 1, .cons h hs => .cons h (RAs.take i hs)
theorem RAs.drop : ∀ {xs : List AV} {vs : List V} (i : Nat), RAs G n al H xs vs → RAs G n al H (xs.drop i) (vs.drop i)
  | _, _, 0, h => h
  | _, _, _ + 1, .nil => .nil
  | _, _, i + 1, .cons _ hs => RAs.drop i hs
theorem RAs.set : ∀ {xs : List AV} {vs : List V} (i : Nat) {x : AV} {v : V}, RAs G n al H xs vs → RA G n al H x v → RAs G n al H (xs.set i x) (vs.set i v)
  | _, _, _, _, _, .nil, _ => .nil
  | _, _, 0, _, _, .cons _ hs, h => .cons h hs
  | _, _, i + 1, _, _, .cons h hs, k => .cons h (RAs.set i hs k)
theorem RAs.ints : ∀ (ns : List Int), RAs G n al H (ns.map AV.int) (ns.map V.int)
  | [] => .nil
  | _ :: ns => .cons .int (RAs.ints ns)
/-- what a V says of its AV -/
theorem RA.of_int {x : AV} {i : Int} (h : RA G n al H x (.int i)) : x = .int i ∨ x = .cst (.int i) := by cases h <;> simp

/-- names and values, in order -/
def RF {κ : Type} (G : Gx) (n : Nat) (al : Nat → Addr) (H : Hp) : List (κ × AV) → List (κ × V) → Prop
  | [], [] => True
  | p :: ps, q :: qs => p.1 = q.1 ∧ RA G n al H p.2 q.2 ∧ RF G n al H ps qs
  | _, _ => False
theorem RF.mono {κ : Type} (e : Ext n al H n' al' H') : ∀ {ps : List (κ × AV)} {qs : List (κ × V)}, RF G n al H ps qs → RF G n' al' H' ps qs
  | [], [], h => h
  | _ :: _, _ :: _, h => ⟨h.1, h.2.1.mono e, RF.mono e h.2.2⟩
  | [], _ :: _, h => h.elim
  | _ :: _, [], h => h.elim
theorem RF.length {κ : Type} : ∀ {ps : List (κ × AV)} {qs : List (κ × V)}, RF G n al H ps qs → ps.length = qs.length
  | [], [], _ => rfl
  | _ :: _, _ :: _, h => by rw [List.length_cons, List.length_cons, RF.length h.2.2]
  | [], _ :: _, h => h.elim
  | _ :: _, [], h => h.elim
theorem RF.lookup {κ : Type} [BEq κ] {x : κ} : ∀ {ps : List (κ × AV)} {qs : List (κ × V)}, RF G n al H ps qs → (ps.lookup x = none ∧ qs.lookup x = none) ∨ ∃ v u, ps.lookup x = some v ∧ qs.lookup x = some u ∧ RA G n al H v u
  | [], [], _ => .inl ⟨rfl, rfl⟩
  | (a, v) :: ps, (b, u) :: qs, h => by
    obtain ⟨e, r, t⟩ := h
    have e' : a = b := e
    subst e'
    rw [List.lookup_cons, List.lookup_cons]
    cases x == a with
    | true => exact .inr ⟨v, u, rfl, rfl, r⟩
    | false => exact RF.lookup t
  | [], _ :: _, h => h.elim
  | _ :: _, [], h => h.elim

def RoL (K : PySem.W.Frag) (H : Hp) (a : Addr) (vs : List V) : Prop :=
  (∃ o, H a = some (.frz o (.lst vs))) ∨ ∃ (o : Obj) (its : Array Value) (m : Nat), K.lookup a = some o ∧ o.cls = .type "list" ∧ o.dict = none ∧ o.data = .seq its m ∧ its.size ≤ sizeLine ∧ Vals vs its.toList
theorem RoL.sq {a : Addr} {vs : List V} (h : RoL K H a vs) : SqL K H a vs := by
  rcases h with ⟨o, h⟩ | h
  · exact .inl (.inr ⟨o, h⟩)
  · exact .inr h
end

/-- an object and what stands at its address -/
def OR (G : Gx) (n : Nat) (al : Nat → Addr) (H : Hp) (a : Addr) : AO → Prop
  | .lst xs => ∃ vs, H a = some (.lst vs) ∧ RAs G n al H xs vs
  | .rol xs => ∃ vs, RoL G.K H a vs ∧ RAs G n al H xs vs
  | .dct kvs => ∃ ws, H a = some (.dK ws) ∧ RF G n al H kvs ws
  | .dtp kvs => ∃ ws, H a = some (.dT ws) ∧ RF G n al H kvs ws
  | .ldk kvs => ∃ od ws, H a = some (.frz od (.dK ws)) ∧ RF G n al H kvs ws
  | .ldt kvs => ∃ od ws, H a = some (.frz od (.dT ws)) ∧ RF G n al H kvs ws
  | .ins c fs => ∃ dx gs, H a = some (.ins (G.cl c) dx gs) ∧ RF G n al H fs gs
  | .xd fs => ∃ gs, H a = some (.xd gs) ∧ RF G n al H fs gs
structure HR (G : Gx) (al : Nat → Addr) (aH : List AO) (H : Hp) : Prop where
  ob : ∀ i o, aH[i]? = some o → OR G aH.length al H (al i) o
  inj : ∀ i j oi oj, aH[i]? = some oi → aH[j]? = some oj → oi.trk = true → oj.trk = true → al i = al j → i = j

section
variable {G : Gx} {n n' : Nat} {al al' : Nat → Addr} {H H' : Hp} {aH : List AO} {a p : Addr} {o : AO}
/-- what stands at the address -/
theorem OR.at_ (h : OR G n al H a o) (t : o.trk = true) : ∃ u, H a = some u := by
  cases o with
  | rol xs => cases t
  | lst xs => obtain ⟨vs, e, _⟩ := h; exact ⟨_, e⟩
  | dct kvs => obtain ⟨vs, e, _⟩ := h; exact ⟨_, e⟩
  | dtp kvs => obtain ⟨vs, e, _⟩ := h; exact ⟨_, e⟩
  | ldk kvs => obtain ⟨od, vs, e, _⟩ := h; exact ⟨_, e⟩
  | ldt kvs => obtain ⟨od, vs, e, _⟩ := h; exact ⟨_, e⟩
  | ins c fs => obtain ⟨dx, vs, e, _⟩ := h; exact ⟨_, e⟩
  | xd fs => obtain ⟨vs, e, _⟩ := h; exact ⟨_, e⟩
/-- what is tracked at the address -/
theorem OR.tk (h : OR G n al H a o) (t : o.mut = true) : ∃ u, H a = some u ∧ (∀ xs, u ≠ .tup xs) ∧ ∀ o v, u ≠ .frz o v := by
  cases o with
  | lst xs => obtain ⟨vs, e, _⟩ := h; exact ⟨_, e, fun _ z => (by cases z), fun _ _ z => (by cases z)⟩
  | rol xs => cases t
  | ldk xs => cases t
  | ldt xs => cases t
  | dct kvs => obtain ⟨vs, e, _⟩ := h; exact ⟨_, e, fun _ z => (by cases z), fun _ _ z => (by cases z)⟩
  | dtp kvs => obtain ⟨vs, e, _⟩ := h; exact ⟨_, e, fun _ z => (by cases z), fun _ _ z => (by cases z)⟩
  | ins c fs => obtain ⟨dx, vs, e, _⟩ := h; exact ⟨_, e, fun _ z => (by cases z), fun _ _ z => (by cases z)⟩
  | xd fs => obtain ⟨vs, e, _⟩ := h; exact ⟨_, e, fun _ z => (by cases z), fun _ _ z => (by cases z)⟩
/-- an object that is not touched -/
theorem OR.mono (h : OR G n al H a o) (e : Ext n al H n' al' H') (k : ∀ u, H a = some u → H' a = some u) : OR G n' al' H' a o := by
  cases o with
  | lst xs => obtain ⟨vs, q, r⟩ := h; exact ⟨vs, k _ q, r.mono e⟩
  | rol xs =>
    obtain ⟨vs, q, r⟩ := h
    refine ⟨vs, ?_, r.mono e⟩
    rcases q with ⟨ob, q⟩ | q
    · exact .inl ⟨ob, k _ q⟩
    · exact .inr q
  | dct kvs => obtain ⟨vs, q, r⟩ := h; exact ⟨vs, k _ q, r.mono e⟩
  | dtp kvs => obtain ⟨vs, q, r⟩ := h; exact ⟨vs, k _ q, r.mono e⟩
  | ldk kvs => obtain ⟨od, vs, q, r⟩ := h; exact ⟨od, vs, k _ q, r.mono e⟩
  | ldt kvs => obtain ⟨od, vs, q, r⟩ := h; exact ⟨od, vs, k _ q, r.mono e⟩
  | ins c fs => obtain ⟨dx, vs, q, r⟩ := h; exact ⟨dx, vs, k _ q, r.mono e⟩
  | xd fs => obtain ⟨vs, q, r⟩ := h; exact ⟨vs, k _ q, r.mono e⟩

/-- a new address for the next number -/
def ext1 (al : Nat → Addr) (n : Nat) (p : Addr) : Nat → Addr := fun i => if i = n then p else al i
theorem ext1_at : ext1 al n p n = p := if_pos rfl
theorem ext1_lt {i : Nat} (h : i < n) : ext1 al n p i = al i := if_neg (Nat.ne_of_lt h)
theorem ext_new {u : HO} (hp : H p = none) : Ext n al H (n + 1) (ext1 al n p) (upd H p u) :=
  ⟨Nat.le_succ _, fun i h => ext1_lt h, fun b xs h => by rw [upd_ne (ne_of_none h hp)]; exact h, fun b o xs h => by rw [upd_ne (ne_of_none h hp)]; exact h⟩
/-- a new tracked object -/
theorem HR.new {u : HO} (h : HR G al aH H) (hp : H p = none) (w : OR G (aH.length + 1) (ext1 al aH.length p) (upd H p u) p o) : HR G (ext1 al aH.length p) (aH ++ [o]) (upd H p u) := by
  have e : Ext aH.length al H (aH.length + 1) (ext1 al aH.length p) (upd H p u) := ext_new hp
  have old : ∀ (i : Nat) (x : AO), i < aH.length → aH[i]? = some x → x.trk = true → al i ≠ p := fun i x _ hi t z => by
    obtain ⟨y, hy⟩ := OR.at_ (h.ob i x hi) t
    rw [z, hp] at hy; cases hy
  refine ⟨fun i x hi => ?_, fun i j oi oj hi hj ti tj hh => ?_⟩
  · rw [List.length_append, List.length_singleton]
    by_cases hl : i < aH.length
    · rw [List.getElem?_append_left hl] at hi
      rw [ext1_lt hl]
      exact OR.mono (h.ob i x hi) e fun y hy => by rw [upd_ne (ne_of_none hy hp)]; exact hy
    · have hi' : i = aH.length := by
        obtain ⟨this, _⟩ := List.getElem?_eq_some_iff.mp hi
        rw [List.length_append, List.length_singleton] at this
        omega
      subst hi'
      rw [List.getElem?_append_right (Nat.le_refl _), Nat.sub_self] at hi
      cases hi
      rw [ext1_at]
      exact w
  · have bd : ∀ {k : Nat} {x : AO}, (aH ++ [o])[k]? = some x → k < aH.length ∨ k = aH.length := fun {k x} hk => by
      have := (List.getElem?_eq_some_iff.mp hk).1
      rw [List.length_append, List.length_singleton] at this
      omega
    rcases bd hi with li | li <;> rcases bd hj with lj | lj
    · rw [List.getElem?_append_left li] at hi
      rw [List.getElem?_append_left lj] at hj
      rw [ext1_lt li, ext1_lt lj] at hh
      exact h.inj i j oi oj hi hj ti tj hh
    · rw [List.getElem?_append_left li] at hi
      rw [ext1_lt li, lj, ext1_at] at hh
      exact absurd hh (old i oi li hi ti)
    · rw [List.getElem?_append_left lj] at hj
      rw [ext1_lt lj, li, ext1_at] at hh
      exact absurd hh.symm (old j oj lj hj tj)
    · omega
/-- something new beside: a tuple, an own dict -/
theorem ext_beside {u : HO} (hp : H p = none) : Ext n al H n al (upd H p u) := ⟨Nat.le_refl _, fun _ _ => rfl, fun b xs h => by rw [upd_ne (ne_of_none h hp)]; exact h, fun b o xs h => by rw [upd_ne (ne_of_none h hp)]; exact h⟩
theorem HR.beside {u : HO} (h : HR G al aH H) (hp : H p = none) : HR G al aH (upd H p u) :=
  ⟨fun i x hi => OR.mono (h.ob i x hi) (ext_beside hp) fun y hy => by rw [upd_ne (ne_of_none hy hp)]; exact hy, h.inj⟩
/-- object i gets another content -/
theorem ext_put {i : Nat} {u : HO} (h : HR G al aH H) (hi : aH[i]? = some o) (t : o.mut = true) : Ext aH.length al H aH.length al (upd H (al i) u) :=
  ⟨Nat.le_refl _, fun _ _ => rfl, fun b xs hb => by
    obtain ⟨y, hy, nt, _⟩ := OR.tk (h.ob i o hi) t
    rw [upd_ne (fun z => by rw [z, hy] at hb; cases hb; exact nt xs rfl)]
    exact hb, fun b ob xs hb => by
    obtain ⟨y, hy, _, nt⟩ := OR.tk (h.ob i o hi) t
    rw [upd_ne (fun z => by rw [z, hy] at hb; cases hb; exact nt ob xs rfl)]
    exact hb⟩
theorem HR.put {i : Nat} {u : HO} {o' : AO} (h : HR G al aH H) (hi : aH[i]? = some o) (t : o.mut = true) (t' : o'.trk = true) (w : OR G aH.length al (upd H (al i) u) (al i) o') : HR G al (aH.set i o') (upd H (al i) u) := by
  have hlt : i < aH.length := (List.getElem?_eq_some_iff.mp hi).1
  have E := ext_put (u := u) h hi t
  refine ⟨fun j x hj => ?_, fun j k oj ok hj hk tj tk hh => ?_⟩
  · rw [List.length_set]
    by_cases e : i = j
    · subst e
      rw [List.getElem?_set_self hlt] at hj
      cases hj
      exact w
    · rw [List.getElem?_set_ne e] at hj
      have q := h.ob j x hj
      cases tx : x.trk with
      | true =>
        refine OR.mono q E fun y hy => ?_
        rw [upd_ne (fun z => e (h.inj i j o x hi hj (AO.mut_trk t) tx z.symm))]
        exact hy
      | false =>
        cases x with
        | rol xs =>
          obtain ⟨vs, r, rs⟩ := q
          refine ⟨vs, ?_, rs.mono E⟩
          rcases r with ⟨ob, r⟩ | r
          · refine .inl ⟨ob, ?_⟩
            obtain ⟨y, hy, _⟩ := OR.tk (h.ob i o hi) t
            rw [upd_ne (fun z => ?_)]
            · exact r
            · have q2 := h.ob i o hi
              rw [← z] at q2
              cases o with
              | lst xs => obtain ⟨_, e1, _⟩ := q2; rw [r] at e1; cases e1
              | rol xs => cases t
              | dct xs => obtain ⟨_, e1, _⟩ := q2; rw [r] at e1; cases e1
              | dtp xs => obtain ⟨_, e1, _⟩ := q2; rw [r] at e1; cases e1
              | ldk xs => obtain ⟨_, _, e1, _⟩ := q2; rw [r] at e1; cases e1
              | ldt xs => obtain ⟨_, _, e1, _⟩ := q2; rw [r] at e1; cases e1
              | ins c xs => obtain ⟨_, _, e1, _⟩ := q2; rw [r] at e1; cases e1
              | xd xs => obtain ⟨_, e1, _⟩ := q2; rw [r] at e1; cases e1
          · exact .inr r
        | _ => cases tx
  · have old : ∀ {m : Nat} {x : AO}, (aH.set i o')[m]? = some x → x.trk = true → ∃ y, aH[m]? = some y ∧ y.trk = true := fun {m x} hm tx => by
      by_cases e : i = m
      · subst e; exact ⟨o, hi, AO.mut_trk t⟩
      · rw [List.getElem?_set_ne e] at hm
        exact ⟨x, hm, tx⟩
    obtain ⟨y, hy, ty⟩ := old hj tj
    obtain ⟨z, hz, tz⟩ := old hk tk
    exact h.inj j k y z hy hz ty tz hh
end

/-! ### results -/
inductive Rs (α : Type) where
  | ok (a : α) | ex (c k : Nat)
abbrev AM (α : Type) := List AO → Option (Rs α × List AO)
abbrev AEnv := List (Option AV)
abbrev AE := AEnv → AM AV
inductive Fl where
  | nx (e : AEnv) | rt (v : AV) | bk (e : AEnv) | ct (e : AEnv) | ex (c k : Nat) (e : AEnv)
abbrev AS := AEnv → List AO → Option (Fl × List AO)
def bnd {α β : Type} (m : Option (Rs α × List AO)) (f : α → AM β) : Option (Rs β × List AO) :=
  match m with
  | none => none
  | some (.ex c k, h) => some (.ex c k, h)
  | some (.ok a, h) => f a h
theorem bnd_some {α β : Type} {m : Option (Rs α × List AO)} {f : α → AM β} {r : Rs β} {h' : List AO} (e : bnd m f = some (r, h')) :
    (∃ c k, m = some (.ex c k, h') ∧ r = .ex c k) ∨ ∃ a h, m = some (.ok a, h) ∧ f a h = some (r, h') := by
  unfold bnd at e
  split at e
  · cases e
  · cases e; exact .inl ⟨_, _, rfl, rfl⟩
  · exact .inr ⟨_, _, rfl, e⟩

/-- the slots -/
structure ER (G : Gx) (n : Nat) (al : Nat → Addr) (H : Hp) (e : AEnv) (σ : L2.St) : Prop where
  len : e.length = σ.length
  at_ : ∀ (i : Nat) (v : AV), e[i]? = some (some v) → ∃ u, σ[i]? = some (some u) ∧ RA G n al H v u
section
variable {G : Gx} {n n' : Nat} {al al' : Nat → Addr} {H H' : Hp} {e : AEnv} {σ : L2.St}
theorem ER.mono (x : Ext n al H n' al' H') (h : ER G n al H e σ) : ER G n' al' H' e σ := ⟨h.len, fun i v q => let ⟨u, a, b⟩ := h.at_ i v q; ⟨u, a, b.mono x⟩⟩
theorem ER.set {i : Nat} {v : AV} {u : V} (h : ER G n al H e σ) (r : RA G n al H v u) : ER G n al H (e.set i (some v)) (σ.set i (some u)) := by
  refine ⟨by simp only [List.length_set]; exact h.len, fun j w q => ?_⟩
  by_cases hj : i = j
  · subst hj
    have hl : i < e.length := by
      have := (List.getElem?_eq_some_iff.mp q).1
      simpa using this
    rw [List.getElem?_set_self hl] at q
    cases q
    exact ⟨u, List.getElem?_set_self (by rw [← h.len]; exact hl), r⟩
  · rw [List.getElem?_set_ne hj] at q
    rw [List.getElem?_set_ne hj]
    exact h.at_ j w q
theorem ER.clear {i : Nat} (h : ER G n al H e σ) : ER G n al H (e.set i none) (σ.set i none) := by
  refine ⟨by simp only [List.length_set]; exact h.len, fun j w q => ?_⟩
  by_cases hj : i = j
  · subst hj
    by_cases hl : i < e.length
    · rw [List.getElem?_set_self hl] at q; cases q
    · rw [List.getElem?_eq_none (by simpa using hl)] at q; cases q
  · rw [List.getElem?_set_ne hj] at q
    rw [List.getElem?_set_ne hj]
    exact h.at_ j w q
def awipe (e : AEnv) : List Nat → AEnv
  | [] => e
  | v :: vs => (awipe e vs).set v none
theorem ER.wipe (h : ER G n al H e σ) : ∀ vs : List Nat, ER G n al H (awipe e vs) (wipe σ vs)
  | [] => h
  | _ :: vs => (ER.wipe h vs).clear
end

/-! ### what follows -/
section
variable (G : Gx) (W : WX) (n : Nat) (al : Nat → Addr) (H : Hp)
/-- a value comes, in a later state -/
def FwV (v : AV) (h' : List AO) (Q : VK) : Prop := ∀ al' H' u, Ext n al H h'.length al' H' → HR G al' h' H' → RA G h'.length al' H' v u → Q u H'
/-- an exception comes -/
def FwX (c k : Nat) (h' : List AO) (E : XK) : Prop := ∀ al' H', Ext n al H h'.length al' H' → HR G al' h' H' → k < h'.length → (∃ fs, h'[k]? = some (.xd fs)) → E (.ref (G.cl c)) (some (al' k)) H'
def PoE (σ : L2.St) (r : Rs AV) (h' : List AO) (Q : VK) : Prop := match r with
  | .ok v => FwV G n al H v h' Q
  | .ex c k => FwX G n al H c k h' fun cls d H' => W cls d σ H'
def PoT (σ : L2.St) (r : Rs Bool) (h' : List AO) (Q : Bool → Hp → Prop) : Prop := match r with
  | .ok b => ∀ al' H', Ext n al H h'.length al' H' → HR G al' h' H' → Q b H'
  | .ex c k => FwX G n al H c k h' fun cls d H' => W cls d σ H'
def PoA (σ : L2.St) (r : Rs (List AV)) (h' : List AO) (Q : List V → Hp → Prop) : Prop := match r with
  | .ok vs => ∀ al' H' us, Ext n al H h'.length al' H' → HR G al' h' H' → RAs G h'.length al' H' vs us → Q us H'
  | .ex c k => FwX G n al H c k h' fun cls d H' => W cls d σ H'
def FwE (e : AEnv) (h' : List AO) (Q : L2.St → Hp → Prop) : Prop := ∀ al' H' σ', Ext n al H h'.length al' H' → HR G al' h' H' → ER G h'.length al' H' e σ' → Q σ' H'
def PoS (fl : Fl) (h' : List AO) (D : Ends) : Prop := match fl with
  | .nx e => FwE G n al H e h' D.nx
  | .rt v => FwV G n al H v h' D.rt
  | .bk e => FwE G n al H e h' D.bk
  | .ct e => FwE G n al H e h' D.ct
  | .ex c k e => FwE G n al H e h' fun σ' H' => ∀ al', Ext n al H h'.length al' H' → HR G al' h' H' → k < h'.length → (∃ fs, h'[k]? = some (.xd fs)) → W (.ref (G.cl c)) (some (al' k)) σ' H'
end
section
variable {G : Gx} {W : WX} {n n' : Nat} {al al' : Nat → Addr} {H H' : Hp} {v : AV} {h' : List AO} {Q : VK} {σ : L2.St}
theorem FwV.after (x : Ext n al H n' al' H') (q : FwV G n al H v h' Q) : FwV G n' al' H' v h' Q := fun a b c e hr r => q a b c (x.trans e) hr r
theorem FwX.after {c k : Nat} {E : XK} (x : Ext n al H n' al' H') (q : FwX G n al H c k h' E) : FwX G n' al' H' c k h' E := fun a b e hr => q a b (x.trans e) hr
theorem PoE.after {r : Rs AV} (x : Ext n al H n' al' H') (q : PoE G W n al H σ r h' Q) : PoE G W n' al' H' σ r h' Q := by
  cases r with
  | ok v => exact FwV.after x (show FwV G n al H v h' Q from q)
  | ex c k => exact FwX.after (E := fun cls d H' => W cls d σ H') x q
theorem PoT.after {r : Rs Bool} {Q : Bool → Hp → Prop} (x : Ext n al H n' al' H') (q : PoT G W n al H σ r h' Q) : PoT G W n' al' H' σ r h' Q := by
  cases r with
  | ok v => exact fun a b e hr => q a b (x.trans e) hr
  | ex c k => exact FwX.after (E := fun cls d H' => W cls d σ H') x q
theorem PoA.after {r : Rs (List AV)} {Q : List V → Hp → Prop} (x : Ext n al H n' al' H') (q : PoA G W n al H σ r h' Q) : PoA G W n' al' H' σ r h' Q := by
  cases r with
  | ok v => exact fun a b c e hr r => q a b c (x.trans e) hr r
  | ex c k => exact FwX.after (E := fun cls d H' => W cls d σ H') x q
theorem FwE.after {e : AEnv} {Q : L2.St → Hp → Prop} (x : Ext n al H n' al' H') (q : FwE G n al H e h' Q) : FwE G n' al' H' e h' Q := fun a b c e hr r => q a b c (x.trans e) hr r
theorem PoS.after {fl : Fl} {D : Ends} (x : Ext n al H n' al' H') (q : PoS G W n al H fl h' D) : PoS G W n' al' H' fl h' D := by
  cases fl with
  | nx e => exact FwE.after x (show FwE G n al H e h' _ from q)
  | rt v => exact FwV.after x (show FwV G n al H v h' _ from q)
  | bk e => exact FwE.after x (show FwE G n al H e h' _ from q)
  | ct e => exact FwE.after x (show FwE G n al H e h' _ from q)
  | ex c k e => exact fun a b s z hr r al2 e2 h2 => q a b s (x.trans z) hr r al2 (x.trans e2) h2
end

/-! ### the judgements -/
def SndE (G : Gx) (W : WX) (t : TE) (m : AE) : Prop := ∀ σ H al e h r h' Q, HR G al h H → ER G h.length al H e σ → m e h = some (r, h') → PoE G W h.length al H σ r h' Q → t σ H Q
def SndT (G : Gx) (W : WX) (t : TT) (m : AEnv → AM Bool) : Prop := ∀ σ H al e h r h' Q, HR G al h H → ER G h.length al H e σ → m e h = some (r, h') → PoT G W h.length al H σ r h' Q → t σ H Q
def SndA (G : Gx) (W : WX) (t : TA) (m : AEnv → AM (List AV)) : Prop := ∀ σ H al e h r h' Q, HR G al h H → ER G h.length al H e σ → m e h = some (r, h') → PoA G W h.length al H σ r h' Q → t σ H Q
def SndS (G : Gx) (W : WX) (t : TS) (m : AS) : Prop := ∀ σ H al e h fl h' D, HR G al h H → ER G h.length al H e σ → m e h = some (fl, h') → PoS G W h.length al H fl h' D → t D σ H
def SE (G : Gx) (X : Cx) (W : WX) (e : Expr) (m : AE) : Prop := ∃ t, PE X e t ∧ SndE G W t m
def ST (G : Gx) (X : Cx) (W : WX) (e : Expr) (m : AEnv → AM Bool) : Prop := ∃ t, PT X e t ∧ SndT G W t m
def SW (G : Gx) (X : Cx) (W : WX) (e : Expr) (m : AEnv → AM Bool) : Prop := ∃ t, PW X e t ∧ SndT G W t m
def SA (G : Gx) (X : Cx) (W : WX) (es : List Expr) (m : AEnv → AM (List AV)) : Prop := ∃ t, PA X es t ∧ SndA G W t m
def SS (G : Gx) (X : Cx) (W : WX) (st : Stmt) (m : AS) : Prop := ∃ t, PS X st t ∧ SndS G W t m
def SB (G : Gx) (X : Cx) (W : WX) (st : List Stmt) (m : AS) : Prop := ∃ t, PSs X st t ∧ SndS G W t m
end SL
/-! SL2: expressions. -/
namespace SL
open PySem PySem.Spec PyProof.Rows L2

section
variable {G : Gx} {X : Cx} {W : WX}
/-! ### what a name, what a constant is -/
def mVar (i : Nat) : AE := fun e h => match e[i]? with
  | some (some v) => some (.ok v, h)
  | _ => none
def mC (v : AV) : AE := fun _ h => some (.ok v, h)
theorem snd_var {i : Nat} : SndE G W (tVar i) (mVar i) := by
  intro σ H al e h r h' Q hr er hm q
  unfold mVar at hm
  split at hm
  · rename_i v hv
    cases hm
    obtain ⟨u, hu, ru⟩ := er.at_ i v hv
    exact ⟨u, hu, q al H u .refl hr ru⟩
  · cases hm
theorem se_var (i : Nat) {x : Str} {pos : Pos} (hN : X.N[i]? = some x := by rfl) (hv : Vis X.env.scope x := by first | exact Or.inl rfl | exact Or.inr (Or.inl rfl) | exact Or.inr (Or.inr rfl)) (hd : (x == ("__debug__" : Str)) = false := by decide)
    (hcd : (x == ("__classdict__" : Str)) = false := by decide) : SE G X W (.Name x pos) (mVar i) := ⟨_, pe_var hN hv hd hcd, snd_var⟩
theorem snd_c {v : AV} {u : V} (r : ∀ n al H, RA G n al H v u) : SndE G W (tC u) (mC v) := by
  intro σ H al e h rr h' Q hr er hm q
  cases hm
  exact q al H u .refl hr (r _ _ _)
theorem se_int {i : Int} {j pos} : SE G X W (.Constant (.int i) j pos) (mC (.int i)) := ⟨_, pe_int, snd_c fun _ _ _ => .int⟩
theorem se_bl {b : Bool} {j pos} : SE G X W (.Constant (.bool b) j pos) (mC (.bl b)) := ⟨_, pe_bl, snd_c fun _ _ _ => .bl⟩
theorem se_non {j pos} : SE G X W (.Constant .none j pos) (mC .non) := ⟨_, pe_non, snd_c fun _ _ _ => .non⟩
theorem se_str {x : Str} {j pos} : SE G X W (.Constant (.str x) j pos) (mC (.str x)) := ⟨_, pe_str, snd_c fun _ _ _ => .str⟩
/-- a module's name that holds a constant; a built-in class as a value -/
theorem se_glob {x : Str} {v : AV} {w : V} {u : Value} {pos : Pos} (hm : X.mg x = some u) (rw : RelV w u) (r : ∀ n al H, RA G n al H v w) (hg : Gl X x := by rfl) (hd : (x == ("__debug__" : Str)) = false := by decide) : SE G X W (.Name x pos) (mC v) :=
  ⟨_, pe_glob hg hm rw hd, snd_c r⟩
theorem se_ty {x : Str} {T : String} {pos : Pos} (hm : X.mg x = none) (hv : bootBuiltins x = some (.type T)) (hg : Gl X x := by rfl) (hn : x ≠ "__name__" := by decide) (hd : (x == ("__debug__" : Str)) = false := by decide) :
    SE G X W (.Name x pos) (mC (.cst (.ty T))) := ⟨_, pe_bltn (v := .ty T) hg hm hv rfl hn hd, snd_c fun _ _ _ => .cst⟩

/-! ### two in a row -/
def m2 (f : AV → AV → List AO → Option (AV × List AO)) (ma mb : AE) : AE := fun e h => bnd (ma e h) fun x h1 => bnd (mb e h1) fun y h2 => match f x y h2 with
  | some (v, h3) => some (.ok v, h3)
  | none => none
/-- a two-place operation, by values -/
def SndO (G : Gx) (r : R2) (f : AV → AV → List AO → Option (AV × List AO)) : Prop := ∀ H al h x y u w v h' (Q : VK), HR G al h H → RA G h.length al H x u → RA G h.length al H y w → f x y h = some (v, h') → FwV G h.length al H v h' Q → r u w H Q
theorem snd_2 {ta tb : TE} {ma mb : AE} {r : R2} {f : AV → AV → List AO → Option (AV × List AO)} (ha : SndE G W ta ma) (hb : SndE G W tb mb) (ho : SndO G r f) : SndE G W (tOp r ta tb) (m2 f ma mb) := by
  intro σ H al e h rr h' Q hr er hm q
  rcases bnd_some hm with ⟨c, k, e1, rfl⟩ | ⟨x, h1, e1, e2⟩
  · exact ha σ H al e h _ _ _ hr er e1 q
  · refine ha σ H al e h _ _ _ hr er e1 ?_
    intro al1 H1 u x1 hr1 r1
    rcases bnd_some e2 with ⟨c, k, e3, rfl⟩ | ⟨y, h2, e3, e4⟩
    · exact hb σ H1 al1 e h1 _ _ _ hr1 (er.mono x1) e3 (PoE.after (r := .ex c k) x1 q)
    · refine hb σ H1 al1 e h1 _ _ _ hr1 (er.mono x1) e3 ?_
      intro al2 H2 w x2 hr2 r2
      split at e4
      · rename_i v h3 e5
        cases e4
        exact ho H2 al2 h2 x y u w v _ Q hr2 (r1.mono x2) r2 e5 (FwV.after (x1.trans x2) q)
      · cases e4
theorem se_bin {op : Operator} {a b : Expr} {ma mb : AE} {r : R2} {f : AV → AV → List AO → Option (AV × List AO)} {pos : Pos} (ho : OpR X (binaryOp op) r) (hs : SndO G r f) (ha : SE G X W a ma) (hb : SE G X W b mb) : SE G X W (.BinOp a op b pos) (m2 f ma mb) := by
  obtain ⟨ta, pa, sa⟩ := ha
  obtain ⟨tb, pb, sb⟩ := hb
  exact ⟨_, pe_op ho pa pb, snd_2 sa sb hs⟩
def orO (f g : AV → AV → List AO → Option (AV × List AO)) : AV → AV → List AO → Option (AV × List AO) := fun x y h => match f x y h with
  | some z => some z
  | none => g x y h
theorem SndO.or {r r' : R2} {f g : AV → AV → List AO → Option (AV × List AO)} (a : SndO G r f) (b : SndO G r' g) : SndO G (fun x y H Q => r x y H Q ∨ r' x y H Q) (orO f g) := by
  intro H al h x y u w v h' Q hr rx ry e q
  unfold orO at e
  split at e
  · rename_i z e1
    cases e
    exact .inl (a H al h x y u w v h' Q hr rx ry e1 q)
  · exact .inr (b H al h x y u w v h' Q hr rx ry e q)

/-! ### numbers -/
def fI (g : Int → Int → Option AV) : AV → AV → List AO → Option (AV × List AO) := fun x y h => match x, y with
  | .int i, .int j => (g i j).map fun v => (v, h)
  | _, _ => none
theorem fI_some {g : Int → Int → Option AV} {x y v : AV} {h h' : List AO} (e : fI g x y h = some (v, h')) : ∃ i j, x = .int i ∧ y = .int j ∧ g i j = some v ∧ h' = h := by
  unfold fI at e
  split at e
  · rename_i i j
    cases q : g i j with
    | none => rw [q] at e; exact nomatch e
    | some z => rw [q] at e; cases e; exact ⟨i, j, rfl, rfl, q, rfl⟩
  · cases e
theorem snd_I0 {g : Int → Int → V} {ga : Int → Int → Option AV} (hg : ∀ i j v, ga i j = some v → ∀ n al H, RA G n al H v (g i j)) : SndO G (rI0 g) (fI ga) := by
  intro H al h x y u w v h' Q hr rx ry e q
  obtain ⟨i, j, rfl, rfl, e1, rfl⟩ := fI_some e
  cases rx; cases ry
  exact ⟨i, j, rfl, rfl, q al H _ .refl hr (hg i j v e1 _ _ _)⟩
theorem snd_I {C : Int → Int → Prop} {g : Int → Int → V} {ga : Int → Int → Option AV} (hg : ∀ i j v, ga i j = some v → C i j ∧ ∀ n al H, RA G n al H v (g i j)) : SndO G (rI C g) (fI ga) := by
  intro H al h x y u w v h' Q hr rx ry e q
  obtain ⟨i, j, rfl, rfl, e1, rfl⟩ := fI_some e
  cases rx; cases ry
  obtain ⟨c, r⟩ := hg i j v e1
  exact ⟨i, j, rfl, rfl, c, q al H _ .refl hr (r _ _ _)⟩
/-- the most bits that a factor may have -/
def bigOk (i : Int) : Bool := decide (i.natAbs < 2 ^ 10000000)
def oAdd0 := fI fun i j => some (.int (i + j))
def oSub := fI fun i j => some (.int (i - j))
theorem snd_add0 : SndO G (rI0 fun i j => .int (i + j)) oAdd0 := snd_I0 fun i j v e _ _ _ => by cases e; exact .int
theorem snd_sub : SndO G (rI0 fun i j => .int (i - j)) oSub := snd_I0 fun i j v e _ _ _ => by cases e; exact .int
def oMod := fI fun i j => if j = 0 then none else some (.int (i.fmod j))
theorem snd_mod : SndO G (rI (fun _ j => j ≠ 0) fun i j => .int (i.fmod j)) oMod := snd_I fun i j v e => by
  split at e
  · cases e
  · rename_i hj; cases e; exact ⟨hj, fun _ _ _ => .int⟩
def oFdiv := fI fun i j => if j ≠ 0 ∧ j.natAbs < 1073741824 then some (.int (i.fdiv j)) else none
theorem snd_fdiv : SndO G (rI CDivN fun i j => .int (i.fdiv j)) oFdiv := snd_I fun i j v e => by
  split at e
  · rename_i hj; cases e; exact ⟨hj, fun _ _ _ => .int⟩
  · cases e
def oMul := fI fun i j => if i.natAbs.log2 + j.natAbs.log2 < 130000000 then some (.int (i * j)) else none
theorem intBits_le (x : Int) : Builtin.Int.intBits x ≤ x.natAbs.log2 + 1 := by
  unfold Builtin.Int.intBits
  split <;> omega
def CMulS (i j : Int) : Prop := i.natAbs.log2 + j.natAbs.log2 < 130000000
theorem CMulS.ok {i j : Int} (h : CMulS i j) : IntMulOk i j := by
  have h1 := intBits_le i
  have h2 := intBits_le j
  have h3 : i.natAbs.log2 + j.natAbs.log2 < 130000000 := h
  have line : ((134217728 : Nat) : Int) = ((bitsLine : Nat) : Int) := by decide
  unfold IntMulOk
  intro big
  have ⟨_, sum⟩ := (Bool.and_eq_true _ _).mp big
  have over := of_decide_eq_true (show decide (((Builtin.Int.intBits i : Nat) : Int) + ((Builtin.Int.intBits j : Nat) : Int) > ((bitsLine : Nat) : Int)) = true from sum)
  rw [← line] at over
  omega
theorem op_mulS : OpR X (binaryOp .Mult) (rI CMulS fun i j => .int (i * j)) := opI fun _ _ _ _ _ _ _ hc q => mul_int q hc.ok
theorem snd_mul : SndO G (rI CMulS fun i j => .int (i * j)) oMul := snd_I fun i j v e => by
  split at e
  · rename_i hj; cases e; exact ⟨hj, fun _ _ _ => .int⟩
  · cases e
def oPow := fI fun i j => if 0 ≤ j ∧ ((i.natAbs.log2 : Int) + 1) * j ≤ 2 ^ 27 then some (.int (i ^ j.toNat)) else none
def CPowS (i j : Int) : Prop := 0 ≤ j ∧ ((i.natAbs.log2 : Int) + 1) * j ≤ 2 ^ 27
theorem op_powS : OpR X (binaryOp .Pow) (rI CPowS fun i j => .int (i ^ j.toNat)) := opI fun i j _ _ _ _ _ hc q => by
  refine pow_int hc.1 (Int.le_trans (Int.mul_le_mul_of_nonneg_right ?_ hc.1) hc.2) q
  have := intBits_le i
  omega
theorem snd_pow : SndO G (rI CPowS fun i j => .int (i ^ j.toNat)) oPow := snd_I fun i j v e => by
  split at e
  · rename_i hj; cases e; exact ⟨hj, fun _ _ _ => .int⟩
  · cases e
def m1 (f : AV → List AO → Option (AV × List AO)) (ma : AE) : AE := fun e h => bnd (ma e h) fun x h1 => match f x h1 with
  | some (v, h3) => some (.ok v, h3)
  | none => none
def oNeg : AV → List AO → Option (AV × List AO) := fun x h => match x with
  | .int i => some (.int (-i), h)
  | _ => none
theorem se_neg {a : Expr} {ma : AE} {pos : Pos} (ha : SE G X W a ma) : SE G X W (.UnaryOp .USub a pos) (m1 oNeg ma) := by
  obtain ⟨ta, pa, sa⟩ := ha
  refine ⟨_, pe_un un_neg pa, ?_⟩
  intro σ H al e h rr h' Q hr er hm q
  rcases bnd_some hm with ⟨c, k, e1, rfl⟩ | ⟨x, h1, e1, e2⟩
  · exact sa σ H al e h _ _ _ hr er e1 q
  · refine sa σ H al e h _ _ _ hr er e1 ?_
    intro al1 H1 u x1 hr1 r1
    unfold oNeg at e2
    cases x with
    | int i =>
      cases e2
      cases r1
      exact ⟨i, rfl, q al1 H1 _ x1 hr1 .int⟩
    | _ => cases e2

/-! ### sequences joined -/
def oAddS : AV → AV → List AO → Option (AV × List AO) := fun x y h => match x, y with
  | .str a, .str b => if a.length + b.length ≤ 1000000 then some (.str (a ++ b), h) else none
  | _, _ => none
theorem snd_addS : SndO G (fun x y H Q => ∃ i j, x = .str i ∧ y = .str j ∧ i.length + j.length ≤ sizeLine ∧ Q (.str (i ++ j)) H) oAddS := by
  intro H al h x y u w v h' Q hr rx ry e q
  unfold oAddS at e
  split at e
  · rename_i a b
    split at e
    · rename_i hz
      cases e
      cases rx; cases ry
      exact ⟨a, b, rfl, rfl, by rw [sizeLine_eq]; omega, q al H _ .refl hr .str⟩
    · cases e
  · cases e
def oAddL : AV → AV → List AO → Option (AV × List AO) := fun x y h => match x, y with
  | .ref i, .ref j => match h[i]?, h[j]? with
    | some (.lst a), some (.lst b) => if a.length + b.length ≤ 1000000 then some (.ref h.length, h ++ [.lst (a ++ b)]) else none
    | _, _ => none
  | _, _ => none
theorem HR.newL {al : Nat → Addr} {h : List AO} {H : Hp} {xs : List AV} {vs : List V} {p : Addr} (hr : HR G al h H) (hp : H p = none) (rs : RAs G h.length al H xs vs) : HR G (ext1 al h.length p) (h ++ [.lst xs]) (upd H p (.lst vs)) :=
  hr.new hp ⟨vs, upd_same, rs.mono (ext_new hp)⟩
theorem FwV.newL {al : Nat → Addr} {h : List AO} {H : Hp} {xs : List AV} {vs : List V} {p : Addr} {n0 : Nat} {al0 : Nat → Addr} {H0 : Hp} {Q : VK} (x : Ext n0 al0 H0 h.length al H) (hr : HR G al h H) (hp : H p = none) (rs : RAs G h.length al H xs vs)
    (q : FwV G n0 al0 H0 (.ref h.length) (h ++ [.lst xs]) Q) : Q (.ref p) (upd H p (.lst vs)) := by
  have hl : (h ++ [AO.lst xs]).length = h.length + 1 := by rw [List.length_append, List.length_singleton]
  refine q (ext1 al h.length p) _ _ (x.trans (by rw [hl]; exact ext_new hp)) (hr.newL hp rs) ?_
  have r : RA G (h ++ [AO.lst xs]).length (ext1 al h.length p) (upd H p (.lst vs)) (.ref h.length) (.ref (ext1 al h.length p h.length)) := .ref (by rw [hl]; omega)
  rw [ext1_at] at r
  exact r
theorem lstAt {al : Nat → Addr} {h : List AO} {H : Hp} {i : Nat} {xs : List AV} (hr : HR G al h H) (e : h[i]? = some (.lst xs)) : ∃ vs, H (al i) = some (.lst vs) ∧ RAs G h.length al H xs vs := hr.ob i _ e
theorem refAt {al : Nat → Addr} {n i : Nat} {H : Hp} {u : V} (r : RA G n al H (.ref i) u) : u = .ref (al i) := by cases r; rfl
theorem snd_addL : SndO G rCat oAddL := by
  intro H al h x y u w v h' Q hr rx ry e q
  unfold oAddL at e
  split at e
  · rename_i i j
    split at e
    · rename_i a b ha hb
      split at e
      · rename_i hz
        cases e
        obtain ⟨vs, e1, r1⟩ := lstAt hr ha
        obtain ⟨us, e2, r2⟩ := lstAt hr hb
        have l1 := r1.length
        have l2 := r2.length
        exact ⟨al i, al j, vs, us, refAt rx, refAt ry, e1, e2, by rw [sizeLine_eq]; omega, fun p hp => FwV.newL .refl hr hp (r1.append r2) q⟩
      · cases e
    · cases e
  · cases e
def oAddT : AV → AV → List AO → Option (AV × List AO) := fun x y h => match x, y with
  | .tup a, .tup b => if a ≠ [] ∧ a.length + b.length ≤ 1000000 then some (.tup (a ++ b), h) else none
  | _, _ => none
theorem FwV.newT {al : Nat → Addr} {h : List AO} {H : Hp} {xs : List AV} {vs : List V} {p : Addr} {n0 : Nat} {al0 : Nat → Addr} {H0 : Hp} {Q : VK} (hz : G.fz = false) (x : Ext n0 al0 H0 h.length al H) (hr : HR G al h H) (hp : H p = none) (rs : RAs G h.length al H xs vs)
    (q : FwV G n0 al0 H0 (.tup xs) h Q) : Q (.ref p) (upd H p (.tup vs)) :=
  q al _ _ (x.trans (ext_beside hp)) (hr.beside hp) (.tup (.inl ⟨hz, upd_same⟩) (rs.mono (ext_beside hp)))
theorem FwV.newF {al : Nat → Addr} {h : List AO} {H : Hp} {xs : List AV} {vs : List V} {p : Addr} {n0 : Nat} {al0 : Nat → Addr} {H0 : Hp} {Q : VK} {o : Obj} (hz : G.fz = true) (ho : o.dict = none) (x : Ext n0 al0 H0 h.length al H) (hr : HR G al h H) (hp : H p = none) (rs : RAs G h.length al H xs vs)
    (q : FwV G n0 al0 H0 (.tup xs) h Q) : Q (.ref p) (upd H p (.frz o (.tup vs))) :=
  q al _ _ (x.trans (ext_beside hp)) (hr.beside hp) (.tup (.inr (.inl ⟨hz, o, ho, upd_same⟩)) (rs.mono (ext_beside hp)))
theorem tupAt {al : Nat → Addr} {n : Nat} {H : Hp} {xs : List AV} {u : V} (r : RA G n al H (.tup xs) u) : ∃ a vs, u = .ref a ∧ TupAt G H a vs ∧ RAs G n al H xs vs := by
  cases r with
  | tup h hs => exact ⟨_, _, rfl, h, hs⟩
theorem snd_addT (hz : G.fz = false) : SndO G (rCatT G.K) oAddT := by
  intro H al h x y u w v h' Q hr rx ry e q
  unfold oAddT at e
  split at e
  · rename_i a b
    split at e
    · rename_i hl
      cases e
      obtain ⟨p1, vs, rfl, t1, r1⟩ := tupAt rx
      obtain ⟨p2, us, rfl, t2, r2⟩ := tupAt ry
      have l1 := r1.length
      have l2 := r2.length
      refine ⟨p1, p2, vs, us, rfl, rfl, t1.sq, t2.sq, ?_, by rw [sizeLine_eq]; omega, fun z => ?_, fun _ p hp => FwV.newT hz .refl hr hp (r1.append r2) q⟩
      · rintro rfl
        exact hl.1 (List.length_eq_zero_iff.mp l1)
      · subst z
        have b0 : b = [] := List.length_eq_zero_iff.mp l2
        subst b0
        rw [List.append_nil] at q
        exact q al H _ .refl hr rx
    · cases e
  · cases e
/-- + of whatever they are (T: tuples, too) -/
def oAdd : AV → AV → List AO → Option (AV × List AO) := orO (orO oAdd0 oAddS) oAddL
def oAddA : AV → AV → List AO → Option (AV × List AO) := orO oAdd oAddT
theorem se_add {a b : Expr} {ma mb : AE} {pos : Pos} (ha : SE G X W a ma) (hb : SE G X W b mb) : SE G X W (.BinOp a .Add b pos) (m2 oAdd ma mb) :=
  se_bin ((op_add.or op_add_str).or op_cat) ((snd_add0.or snd_addS).or snd_addL) ha hb
theorem se_addT {a b : Expr} {ma mb : AE} {pos : Pos} (hz : G.fz = false) (hK : X.K = G.K) (ha : SE G X W a ma) (hb : SE G X W b mb) : SE G X W (.BinOp a .Add b pos) (m2 oAddA ma mb) :=
  se_bin (((op_add.or op_add_str).or op_cat).or (hK ▸ op_catT)) (((snd_add0.or snd_addS).or snd_addL).or (snd_addT hz)) ha hb
theorem se_sub {a b : Expr} {ma mb : AE} {pos : Pos} (ha : SE G X W a ma) (hb : SE G X W b mb) : SE G X W (.BinOp a .Sub b pos) (m2 oSub ma mb) := se_bin op_sub snd_sub ha hb
theorem se_mul {a b : Expr} {ma mb : AE} {pos : Pos} (ha : SE G X W a ma) (hb : SE G X W b mb) : SE G X W (.BinOp a .Mult b pos) (m2 oMul ma mb) := se_bin op_mulS snd_mul ha hb
theorem se_mod {a b : Expr} {ma mb : AE} {pos : Pos} (ha : SE G X W a ma) (hb : SE G X W b mb) : SE G X W (.BinOp a .Mod b pos) (m2 oMod ma mb) := se_bin op_modN snd_mod ha hb
theorem se_fdiv {a b : Expr} {ma mb : AE} {pos : Pos} (ha : SE G X W a ma) (hb : SE G X W b mb) : SE G X W (.BinOp a .FloorDiv b pos) (m2 oFdiv ma mb) := se_bin op_fdivN snd_fdiv ha hb
theorem se_pow {a b : Expr} {ma mb : AE} {pos : Pos} (ha : SE G X W a ma) (hb : SE G X W b mb) : SE G X W (.BinOp a .Pow b pos) (m2 oPow ma mb) := se_bin op_powS snd_pow ha hb

/-! ### data -/
mutual
def toD0 (rf : Nat → Option PyData) : AV → Option PyData
  | .non => some .none
  | .bl b => some (.bool b)
  | .int i => some (.int i)
  | .str x => some (.str x)
  | .tup xs => (toD0s rf xs).map .tuple
  | .ref i => rf i
  | .cst _ => none
  | .ktp _ => none
def toD0s (rf : Nat → Option PyData) : List AV → Option (List PyData)
  | [] => some []
  | x :: xs => match toD0 rf x, toD0s rf xs with
    | some d0, some rest => some (d0 :: rest)
    | _, _ => none
end
def rfD : Nat → List AO → Nat → Option PyData
  | 0, _, _ => none
  | f + 1, h, i => match h[i]? with
    | some (.lst xs) => (toD0s (rfD f h) xs).map .list
    | some (.rol xs) => (toD0s (rfD f h) xs).map .list
    | _ => none
def toD (h : List AO) (v : AV) : Option PyData := toD0 (rfD 12 h) v
section
variable {al : Nat → Addr} {n : Nat} {H : Hp}
mutual
theorem dp_of {rf : Nat → Option PyData} (hrf : ∀ i d, rf i = some d → Dp G.K H (.ref (al i)) d) : ∀ (v : AV) (u : V) (d : PyData), RA G n al H v u → toD0 rf v = some d → Dp G.K H u d
  | .non, _, _, r, e => by cases r; cases e; exact .non
  | .bl b, _, _, r, e => by cases r; cases e; exact .bl b
  | .int b, _, _, r, e => by cases r; cases e; exact .int b
  | .str b, _, _, r, e => by cases r; cases e; exact .str b
  | .tup xs, _, d, r, e => by
    obtain ⟨a, vs, rfl, t, rs⟩ := tupAt r
    have e' : (toD0s rf xs).map PyData.tuple = some d := e
    cases q : toD0s rf xs with
    | none => rw [q] at e'; cases e'
    | some ds =>
      rw [q] at e'; cases e'
      exact .tup t.sq (dps_of hrf xs vs ds rs q)
  | .ref i, _, d, r, e => by
    have e' : rf i = some d := e
    cases refAt r
    exact hrf i d e'
  | .cst v, _, _, _, e => by cases e
theorem dps_of {rf : Nat → Option PyData} (hrf : ∀ i d, rf i = some d → Dp G.K H (.ref (al i)) d) : ∀ (xs : List AV) (us : List V) (ds : List PyData), RAs G n al H xs us → toD0s rf xs = some ds → DpAll G.K H us ds
  | [], _, _, r, e => by cases r; cases e; exact .nil
  | x :: xs, _, ds, r, e => by
    cases r with
    | cons r rs =>
      unfold toD0s at e
      split at e
      · rename_i d ds' e1 e2
        cases e
        exact .cons (dp_of hrf x _ d r e1) (dps_of hrf xs _ ds' rs e2)
      · cases e
end
theorem rfD_ok {h : List AO} (hr : HR G al h H) : ∀ (f i : Nat) (d : PyData), rfD f h i = some d → Dp G.K H (.ref (al i)) d
  | 0, _, _, e => by cases e
  | f + 1, i, d, e => by
    unfold rfD at e
    split at e
    · rename_i xs hi
      obtain ⟨vs, e1, r1⟩ := lstAt hr hi
      cases q : toD0s (rfD f h) xs with
      | none => rw [q] at e; exact nomatch e
      | some ds =>
        rw [q] at e; cases e
        exact .lst (SqL.of e1) (dps_of (rfD_ok hr f) xs vs ds r1 q)
    · rename_i xs hi
      obtain ⟨vs, e1, r1⟩ := (hr.ob i _ hi : ∃ vs, RoL G.K H (al i) vs ∧ RAs G h.length al H xs vs)
      cases q : toD0s (rfD f h) xs with
      | none => rw [q] at e; exact nomatch e
      | some ds =>
        rw [q] at e; cases e
        exact .lst e1.sq (dps_of (rfD_ok hr f) xs vs ds r1 q)
    · cases e
theorem toD_ok {h : List AO} {v : AV} {u : V} {d : PyData} (hr : HR G al h H) (r : RA G n al H v u) (e : toD h v = some d) : Dp G.K H u d := dp_of (rfD_ok hr 12) v u d r e
end

/-! ### == -/
def eqS : AV → AV → Option Bool
  | .int i, .int j => some (i == j)
  | .str x, .str y => some (x == y)
  | .bl a, .bl b => some (a == b)
  | .non, .non => some true
  | .non, .int _ => some false | .int _, .non => some false | .non, .bl _ => some false | .bl _, .non => some false | .non, .str _ => some false | .str _, .non => some false
  | .int _, .str _ => some false | .str _, .int _ => some false | .bl _, .str _ => some false | .str _, .bl _ => some false
  | _, _ => none
theorem eqS_ok {x y : AV} {u w : V} {b : Bool} {n : Nat} {al : Nat → Addr} {H : Hp} (rx : RA G n al H x u) (ry : RA G n al H y w) (e : eqS x y = some b) : scal u w = true ∧ decide (u = w) = b := by
  unfold eqS at e
  split at e <;> first
    | (cases e; cases rx; cases ry; refine ⟨rfl, ?_⟩; first | exact dec_int | exact dec_str | exact dec_bl | rfl | simp)
    | cases e
def eqA (h : List AO) (x y : AV) : Option Bool := match eqS x y with
  | some b => some b
  | none => match toD h x, toD h y with
    | some d, some e => if SeqAt.shaped d && SeqAt.shaped e then some (PyData.eqv d e) else none
    | _, _ => none
def cEq (neg : Bool) : AV → AV → List AO → Option (AV × List AO) := fun x y h => (eqA h x y).map fun b => (.bl (if neg then !b else b), h)
theorem cEq_some {neg : Bool} {x y v : AV} {h h' : List AO} (e : cEq neg x y h = some (v, h')) : ∃ b, eqA h x y = some b ∧ v = .bl (if neg then !b else b) ∧ h' = h := by
  unfold cEq at e
  cases q : eqA h x y with
  | none => rw [q] at e; exact nomatch e
  | some b => rw [q] at e; cases e; exact ⟨b, rfl, rfl, rfl⟩
theorem snd_eq : SndO G (fun x y H Q => rEq x y H Q ∨ rEqD G.K x y H Q) (cEq false) := by
  intro H al h x y u w v h' Q hr rx ry e q
  obtain ⟨b, e1, rfl, rfl⟩ := cEq_some e
  unfold eqA at e1
  split at e1
  · rename_i b' e2
    cases e1
    obtain ⟨s, e3⟩ := eqS_ok rx ry e2
    refine .inl ⟨s, ?_⟩
    rw [e3]
    exact q al H _ .refl hr .bl
  · split at e1
    · rename_i d1 d2 e3 e4
      split at e1
      · rename_i hs
        cases e1
        rw [Bool.and_eq_true] at hs
        exact .inr ⟨d1, d2, toD_ok hr rx e3, toD_ok hr ry e4, hs.1, hs.2, q al H _ .refl hr .bl⟩
      · cases e1
    · cases e1
theorem snd_ne : SndO G (fun x y H Q => rNe x y H Q ∨ rNeD G.K x y H Q) (cEq true) := by
  intro H al h x y u w v h' Q hr rx ry e q
  obtain ⟨b, e1, rfl, rfl⟩ := cEq_some e
  unfold eqA at e1
  split at e1
  · rename_i b' e2
    cases e1
    obtain ⟨s, e3⟩ := eqS_ok rx ry e2
    refine .inl ⟨s, ?_⟩
    rw [e3]
    exact q al H _ .refl hr .bl
  · split at e1
    · rename_i d1 d2 e3 e4
      split at e1
      · rename_i hs
        cases e1
        rw [Bool.and_eq_true] at hs
        exact .inr ⟨d1, d2, toD_ok hr rx e3, toD_ok hr ry e4, hs.1, hs.2, q al H _ .refl hr .bl⟩
      · cases e1
    · cases e1
end
end SL
/-! SL3: comparisons, tests, displays, subscripts, attributes. -/
namespace SL
open PySem PySem.Spec PyProof.Rows L2
section
variable {G : Gx} {X : Cx} {W : WX}

/-! ### order -/
def cB (g : Int → Int → Bool) (gs : Str → Str → Bool) : AV → AV → List AO → Option (AV × List AO) := fun x y h => match x, y with
  | .int i, .int j => some (.bl (g i j), h)
  | .str a, .str b => some (.bl (gs a b), h)
  | _, _ => none
def rB (g : Int → Int → Bool) (gs : Str → Str → Bool) : R2 := fun x y H Q => rI0 (fun i j => .bl (g i j)) x y H Q ∨ ∃ i j, x = .str i ∧ y = .str j ∧ Q (.bl (gs i j)) H
theorem snd_B {g : Int → Int → Bool} {gs : Str → Str → Bool} : SndO G (rB g gs) (cB g gs) := by
  intro H al h x y u w v h' Q hr rx ry e q
  unfold cB at e
  split at e
  · rename_i i j
    cases e; cases rx; cases ry
    exact .inl ⟨i, j, rfl, rfl, q al H _ .refl hr .bl⟩
  · rename_i i j
    cases e; cases rx; cases ry
    exact .inr ⟨i, j, rfl, rfl, q al H _ .refl hr .bl⟩
  · cases e
def sLt (a b : Str) : Bool := decide (a.cps.toList < b.cps.toList)
def sLe (a b : Str) : Bool := !decide (b.cps.toList < a.cps.toList)
def cLt := cB (fun i j => decide (i < j)) sLt
def cLe := cB (fun i j => decide (i ≤ j)) sLe
theorem opr_lt : OpR X (compareOp .Lt) (rB (fun i j => decide (i < j)) sLt) := op_lt.or op_lt_str
theorem opr_le : OpR X (compareOp .LtE) (rB (fun i j => decide (i ≤ j)) sLe) := op_le.or op_le_str
/-- ints alone -/
def cI (g : Int → Int → Bool) : AV → AV → List AO → Option (AV × List AO) := fI fun i j => some (.bl (g i j))
theorem snd_cI {g : Int → Int → Bool} : SndO G (rI0 fun i j => .bl (g i j)) (cI g) := snd_I0 fun i j v e _ _ _ => by cases e; exact .bl
def cGt := cI fun i j => decide (j < i)
def cGe := cI fun i j => decide (j ≤ i)

/-! ### is None -/
def cIsN (neg : Bool) : AV → AV → List AO → Option (AV × List AO) := fun x y h => match y with
  | .non => match x with
    | .non => some (.bl (!neg), h)
    | .cst _ => none
    | _ => some (.bl neg, h)
  | _ => none
theorem snd_isN : SndO G (fun x y H Q => y = .non ∧ Q (.bl (decide (x = .non))) H) (cIsN false) := by
  intro H al h x y u w v h' Q hr rx ry e q
  unfold cIsN at e
  split at e
  · cases ry
    split at e
    · cases e; cases rx; exact ⟨rfl, q al H _ .refl hr .bl⟩
    · cases e
    · cases e
      refine ⟨rfl, ?_⟩
      have z : decide (u = V.non) = false := by cases rx <;> first | rfl | (exfalso; rename_i z1 z2; first | exact z1 rfl | exact z2 _ rfl)
      rw [z]; exact q al H _ .refl hr .bl
  · cases e
theorem snd_notN : SndO G (fun x y H Q => y = .non ∧ Q (.bl (!decide (x = .non))) H) (cIsN true) := by
  intro H al h x y u w v h' Q hr rx ry e q
  unfold cIsN at e
  split at e
  · cases ry
    split at e
    · cases e; cases rx; exact ⟨rfl, q al H _ .refl hr .bl⟩
    · cases e
    · cases e
      refine ⟨rfl, ?_⟩
      have z : decide (u = V.non) = false := by cases rx <;> first | rfl | (exfalso; rename_i z1 z2; first | exact z1 rfl | exact z2 _ rfl)
      rw [z]; exact q al H _ .refl hr .bl
  · cases e

/-! ### in -/
def flatA : AV → Bool
  | .non => true | .bl _ => true | .int _ => true | .str _ => true
  | _ => false
def eqF : AV → AV → Bool
  | .non, .non => true
  | .bl a, .bl b => a == b
  | .bl t, .int j => (if t then 1 else 0) == j
  | .int i, .bl t => i == (if t then 1 else 0)
  | .int a, .int b => a == b
  | .str a, .str b => a == b
  | _, _ => false
section
variable {n : Nat} {al : Nat → Addr} {H : Hp}
theorem flat_ok {x : AV} {u : V} (r : RA G n al H x u) (f : flatA x = true) : flatV u = true := by cases r <;> first | rfl | cases f
theorem flats_ok : ∀ {xs : List AV} {us : List V}, RAs G n al H xs us → xs.all flatA = true → us.all flatV = true
  | _, _, .nil, _ => rfl
  | _, _, .cons r rs, f => by
    rw [List.all_cons, Bool.and_eq_true] at f ⊢
    exact ⟨flat_ok r f.1, flats_ok rs f.2⟩
theorem eqF_ok {x y : AV} {u w : V} (rx : RA G n al H x u) (ry : RA G n al H y w) (fx : flatA x = true) (fy : flatA y = true) : eqV u w = eqF x y := by
  cases rx <;> first | (cases fx; done) | (cases ry <;> first | rfl | (cases fy; done))
theorem inA_ok {y : AV} {w : V} (ry : RA G n al H y w) (fy : flatA y = true) : ∀ {xs : List AV} {us : List V}, RAs G n al H xs us → xs.all flatA = true → inV w us = xs.any fun x => eqF x y
  | _, _, .nil, _ => rfl
  | _, _, .cons r rs, f => by
    simp only [List.all_cons, Bool.and_eq_true] at f
    unfold inV
    rw [List.any_cons, List.any_cons, eqF_ok r ry f.1 fy]
    have := inA_ok ry fy rs f.2
    unfold inV at this
    rw [this]
end
def rInDT (K : PySem.W.Frag) (neg : Bool) : R2 := fun x y H Q => ∃ d ds, Dp K H x d ∧ (Dp K H y (.tuple ds) ∨ Dp K H y (.list ds)) ∧ SeqAt.shaped d = true ∧ PyData.canLayAll0 ds = true ∧ Q (.bl (if neg then !(ds.any fun z => PyData.eqv z d) else ds.any fun z => PyData.eqv z d)) H
theorem opInDT (neg : Bool) (hu : X.A.units + 65 < cLine) : OpR X (compareOp (if neg then .NotIn else .In)) (rInDT X.K neg) := by
  rintro pins t σ H x y v u Q inv rx ry ⟨d, ds, hd, hy, shp, lay, q⟩
  have ⟨_, ra⟩ := Dp.reads inv d x v hd rx
  have low := Nat.lt_of_le_of_lt (Nat.add_le_add_left (Nat.min_le_right (PyData.depthAll ds) d.depth) (X.A.units + 1)) (show X.A.units + 1 + d.depth < cLine by have := SeqAt.depth_of_shaped shp; omega)
  have cl := SeqAt.canLay_of_shaped shp
  cases neg <;> rcases hy with hy | hy <;> have ⟨_, rb⟩ := Dp.reads inv _ y u hy ry
  · exact SeqAt.in_tuple_reads rb ra lay cl low ⟨V.bl _, _, inv, rfl, q⟩
  · exact SeqAt.in_list_reads rb ra lay cl low ⟨V.bl _, _, inv, rfl, q⟩
  · exact SeqAt.notIn_tuple_reads rb ra lay cl low ⟨V.bl _, _, inv, rfl, q⟩
  · exact SeqAt.notIn_list_reads rb ra lay cl low ⟨V.bl _, _, inv, rfl, q⟩
theorem op_inDT (hu : X.A.units + 65 < cLine) : OpR X (compareOp .In) (rInDT X.K false) := opInDT false hu
theorem op_notInDT (hu : X.A.units + 65 < cLine) : OpR X (compareOp .NotIn) (rInDT X.K true) := opInDT true hu
/-- whether x is one of the items -/
def inX (h : List AO) (x : AV) (ys : List AV) : Option Bool :=
  if flatA x && ys.all flatA then some (ys.any fun y => eqF y x) else match toD h x, toD0s (rfD 12 h) ys with
    | some d, some ds => if SeqAt.shaped d && PyData.canLayAll0 ds then some (ds.any fun z => PyData.eqv z d) else none
    | _, _ => none
def itemsA (h : List AO) : AV → Option (List AV)
  | .tup ys => some ys
  | .ktp ys => some ys
  | .ref i => match h[i]? with
    | some (.lst ys) => some ys
    | some (.rol ys) => some ys
    | _ => none
  | _ => none
def cIn (neg : Bool) : AV → AV → List AO → Option (AV × List AO) := fun x y h => match x, y with
  | .str a, .str z => match a.cps.toList with
    | [c] => some (.bl (if neg then !decide (c ∈ z.cps.toList) else decide (c ∈ z.cps.toList)), h)
    | _ => none
  | _, _ => match itemsA h y with
    | some ys => (inX h x ys).map fun b => (.bl (if neg then !b else b), h)
    | none => none
theorem items_ok {al : Nat → Addr} {h : List AO} {H : Hp} {y : AV} {w : V} {ys : List AV} (hr : HR G al h H) (ry : RA G h.length al H y w) (e : itemsA h y = some ys) : ∃ a vs, w = .ref a ∧ (SqL G.K H a vs ∨ SqT G.K H a vs) ∧ RAs G h.length al H ys vs ∧
    ∀ ds, toD0s (rfD 12 h) ys = some ds → Dp G.K H w (.tuple ds) ∨ Dp G.K H w (.list ds) := by
  unfold itemsA at e
  split at e
  · cases e
    obtain ⟨a, vs, rfl, t, rs⟩ := tupAt ry
    exact ⟨a, vs, rfl, .inr t.sq, rs, fun ds hd => .inl (.tup t.sq (dps_of (rfD_ok hr 12) _ _ _ rs hd))⟩
  · cases e
    cases ry with
    | ktp t rs => exact ⟨_, _, rfl, .inr t.sq, rs, fun ds hd => .inl (.tup t.sq (dps_of (rfD_ok hr 12) _ _ _ rs hd))⟩
  · split at e
    · rename_i hi
      cases e
      obtain ⟨vs, e1, rs⟩ := lstAt hr hi
      exact ⟨_, vs, refAt ry, .inl (SqL.of e1), rs, fun ds hd => by rw [refAt ry]; exact .inr (.lst (SqL.of e1) (dps_of (rfD_ok hr 12) _ _ _ rs hd))⟩
    · rename_i hi
      cases e
      obtain ⟨vs, e1, rs⟩ := (hr.ob _ _ hi : ∃ vs, RoL G.K H (al _) vs ∧ RAs G h.length al H ys vs)
      exact ⟨_, vs, refAt ry, .inl e1.sq, rs, fun ds hd => by rw [refAt ry]; exact .inr (.lst e1.sq (dps_of (rfD_ok hr 12) _ _ _ rs hd))⟩
    · cases e
  · cases e
def rInS (neg : Bool) : R2 := fun x y H Q => ∃ (c : Nat) (z : Str), x = .str ⟨#[c]⟩ ∧ y = .str z ∧ Q (.bl (if neg then !decide (c ∈ z.cps.toList) else decide (c ∈ z.cps.toList))) H
def rInA (K : PySem.W.Frag) (neg : Bool) : R2 := fun x y H Q => rInS neg x y H Q ∨ rIn K neg x y H Q ∨ rInDT K neg x y H Q
theorem inX_ok {al : Nat → Addr} {h : List AO} {H : Hp} {x y : AV} {u w : V} {ys : List AV} {b : Bool} {neg : Bool} {Q : VK} (hr : HR G al h H) (rx : RA G h.length al H x u) (ry : RA G h.length al H y w) (hy : itemsA h y = some ys) (e : inX h x ys = some b)
    (q : Q (.bl (if neg then !b else b)) H) : rInA G.K neg u w H Q := by
  obtain ⟨p, vs, rfl, sq, rs, dd⟩ := items_ok hr ry hy
  unfold inX at e
  split at e
  · rename_i hf
    rw [Bool.and_eq_true] at hf
    cases e
    refine .inr (.inl ⟨p, vs, rfl, sq, flat_ok rx hf.1, flats_ok rs hf.2, ?_⟩)
    rw [inA_ok rx hf.1 rs hf.2]
    exact q
  · split at e
    · rename_i d ds h1 h2
      split at e
      · rename_i hs
        rw [Bool.and_eq_true] at hs
        cases e
        exact .inr (.inr ⟨d, ds, toD_ok hr rx h1, dd ds h2, hs.1, hs.2, q⟩)
      · cases e
    · cases e
theorem snd_in {neg : Bool} : SndO G (rInA G.K neg) (cIn neg) := by
  intro H al h x y u w v h' Q hr rx ry e q
  unfold cIn at e
  split at e
  · rename_i a z
    split at e
    · rename_i c hc
      cases e; cases rx; cases ry
      refine .inl ⟨c, z, ?_, rfl, q al H _ .refl hr .bl⟩
      have : a = ⟨#[c]⟩ := by
        cases a with
        | mk cps =>
          congr
          exact Array.toList_inj.mp hc
      rw [this]
    · cases e
  · split at e
    · rename_i ys hy
      cases z : inX h x ys with
      | none => rw [z] at e; cases e
      | some b =>
        rw [z] at e; cases e
        exact inX_ok hr rx ry hy z (q al H _ .refl hr .bl)
    · cases e
theorem opr_in (hu : X.A.units + 65 < cLine) : OpR X (compareOp .In) (rInA X.K false) := op_in_sign.or (op_in_seq.or (op_inDT hu))
theorem opr_notIn (hu : X.A.units + 65 < cLine) : OpR X (compareOp .NotIn) (rInA X.K true) := op_notIn_sign.or (op_notIn_seq.or (op_notInDT hu))

/-! ### comparisons -/
theorem se_cmp {op : CmpOp} {a b : Expr} {ma mb : AE} {r : R2} {f : AV → AV → List AO → Option (AV × List AO)} {pos : Pos} (ho : OpR X (compareOp op) r) (hs : SndO G r f) (ha : SE G X W a ma) (hb : SE G X W b mb) (hm : behindInMarks op b = false) :
    SE G X W (.Compare a [op] [b] pos) (m2 f ma mb) := by
  obtain ⟨ta, pa, sa⟩ := ha
  obtain ⟨tb, pb, sb⟩ := hb
  exact ⟨_, pe_cmpR ho pa pb hm, snd_2 sa sb hs⟩
/-- the value as a test -/
def mB (m : AE) : AEnv → AM Bool := fun e h => match m e h with
  | some (.ok (.bl b), h') => some (.ok b, h')
  | some (.ex c k, h') => some (.ex c k, h')
  | _ => none
theorem snd_test {t : TE} {m : AE} (s : SndE G W t m) : SndT G W (fun σ H Q => t σ H fun x H' => ∃ k, x = .bl k ∧ Q k H') (mB m) := by
  intro σ H al e h r h' Q hr er hm q
  unfold mB at hm
  split at hm
  · rename_i b h1 e1
    cases hm
    refine s σ H al e h _ _ _ hr er e1 ?_
    intro al1 H1 u x1 hr1 r1
    cases r1
    exact ⟨b, rfl, q al1 H1 x1 hr1⟩
  · rename_i c k h1 e1
    cases hm
    exact s σ H al e h _ _ _ hr er e1 q
  · cases hm
theorem st_cmp {op : CmpOp} {a b : Expr} {ma mb : AE} {r : R2} {f : AV → AV → List AO → Option (AV × List AO)} {pos : Pos} (ho : OpR X (compareOp op) r) (hs : SndO G r f) (ha : SE G X W a ma) (hb : SE G X W b mb) (hm : behindInMarks op b = false) :
    ST G X W (.Compare a [op] [b] pos) (mB (m2 f ma mb)) := by
  obtain ⟨ta, pa, sa⟩ := ha
  obtain ⟨tb, pb, sb⟩ := hb
  exact ⟨_, pt_cmpR ho pa pb hm, snd_test (snd_2 sa sb hs)⟩
/-- a bool as a test -/
theorem st_val {e : Expr} {m : AE} (h : SE G X W e m) (he : ∀ whole, isTrue e X.env whole = (do let v ← whole; standAt e.pos; holding [v] (truthy v)) := by intro _; rfl) : ST G X W e (mB m) := by
  obtain ⟨t, p, s⟩ := h
  exact ⟨_, pt_val p he, snd_test s⟩
def m3c (f f' : AV → AV → List AO → Option (AV × List AO)) (ma mb mc : AE) : AE := fun e h => bnd (ma e h) fun x h1 => bnd (mb e h1) fun y h2 => match f x y h2 with
  | some (.bl true, h3) => bnd (mc e h3) fun z h4 => match f' y z h4 with
    | some (v, h5) => some (.ok v, h5)
    | none => none
  | some (.bl false, h3) => some (.ok (.bl false), h3)
  | _ => none
theorem snd_chain {ta tb tc : TE} {ma mb mc : AE} {r r' : R2} {f f' : AV → AV → List AO → Option (AV × List AO)} (ha : SndE G W ta ma) (hb : SndE G W tb mb) (hc : SndE G W tc mc) (ho : SndO G r f) (ho' : SndO G r' f') : SndE G W (tChain r r' ta tb tc) (m3c f f' ma mb mc) := by
  intro σ H al e h rr h' Q hr er hm q
  rcases bnd_some hm with ⟨c, k, e1, rfl⟩ | ⟨x, h1, e1, e2⟩
  · exact ha σ H al e h _ _ _ hr er e1 q
  · refine ha σ H al e h _ _ _ hr er e1 ?_
    intro al1 H1 u x1 hr1 r1
    rcases bnd_some e2 with ⟨c, k, e3, rfl⟩ | ⟨y, h2, e3, e4⟩
    · exact hb σ H1 al1 e h1 _ _ _ hr1 (er.mono x1) e3 (PoE.after (r := .ex c k) x1 q)
    · refine hb σ H1 al1 e h1 _ _ _ hr1 (er.mono x1) e3 ?_
      intro al2 H2 w x2 hr2 r2
      split at e4
      · rename_i h3 e5
        refine ho H2 al2 h2 x y u w _ _ _ hr2 (r1.mono x2) r2 e5 ?_
        intro al3 H3 z x3 hr3 r3
        cases r3
        refine ⟨true, rfl, ?_⟩
        rw [if_pos rfl]
        rcases bnd_some e4 with ⟨c, k, e6, rfl⟩ | ⟨z, h4, e6, e7⟩
        · exact hc σ H3 al3 e h3 _ _ _ hr3 (er.mono ((x1.trans x2).trans x3)) e6 (PoE.after (r := .ex c k) ((x1.trans x2).trans x3) q)
        · refine hc σ H3 al3 e h3 _ _ _ hr3 (er.mono ((x1.trans x2).trans x3)) e6 ?_
          intro al4 H4 w' x4 hr4 r4
          split at e7
          · rename_i v h5 e8
            cases e7
            exact ho' H4 al4 h4 y z w w' v _ Q hr4 (r2.mono (x3.trans x4)) r4 e8 (FwV.after (((x1.trans x2).trans x3).trans x4) q)
          · cases e7
      · rename_i h3 e5
        cases e4
        refine ho H2 al2 h2 x y u w _ _ _ hr2 (r1.mono x2) r2 e5 ?_
        intro al3 H3 z x3 hr3 r3
        cases r3
        refine ⟨false, rfl, ?_⟩
        rw [if_neg (fun z : false = true => nomatch z)]
        exact q al3 H3 _ ((x1.trans x2).trans x3) hr3 .bl
      · cases e4
theorem se_chain {op op' : CmpOp} {a b c : Expr} {ma mb mc : AE} {r r' : R2} {f f' : AV → AV → List AO → Option (AV × List AO)} {pos : Pos} (ho : OpR X (compareOp op) r) (hs : SndO G r f) (ho' : OpR X (compareOp op') r') (hs' : SndO G r' f')
    (ha : SE G X W a ma) (hb : SE G X W b mb) (hc : SE G X W c mc) (hm : lastMarks [op, op'] [b, c] = false := by with_unfolding_all rfl) : SE G X W (.Compare a [op, op'] [b, c] pos) (m3c f f' ma mb mc) := by
  obtain ⟨ta, pa, sa⟩ := ha
  obtain ⟨tb, pb, sb⟩ := hb
  obtain ⟨tc, pc, sc⟩ := hc
  exact ⟨_, pe_chain ho ho' pa pb pc hm, snd_chain sa sb sc hs hs'⟩
theorem st_chain {op op' : CmpOp} {a b c : Expr} {ma mb mc : AE} {r r' : R2} {f f' : AV → AV → List AO → Option (AV × List AO)} {pos : Pos} (ho : OpR X (compareOp op) r) (hs : SndO G r f) (ho' : OpR X (compareOp op') r') (hs' : SndO G r' f')
    (ha : SE G X W a ma) (hb : SE G X W b mb) (hc : SE G X W c mc) (hm : lastMarks [op, op'] [b, c] = false := by with_unfolding_all rfl) : ST G X W (.Compare a [op, op'] [b, c] pos) (mB (m3c f f' ma mb mc)) := by
  obtain ⟨ta, pa, sa⟩ := ha
  obtain ⟨tb, pb, sb⟩ := hb
  obtain ⟨tc, pc, sc⟩ := hc
  exact ⟨_, pt_chain ho ho' pa pb pc hm, snd_test (snd_chain sa sb sc hs hs')⟩

/-! ### and, or, not, if-else -/
def mAnd (a b : AEnv → AM Bool) : AEnv → AM Bool := fun e h => bnd (a e h) fun c h1 => if c = true then b e h1 else some (.ok false, h1)
def mOr (a b : AEnv → AM Bool) : AEnv → AM Bool := fun e h => bnd (a e h) fun c h1 => if c = true then some (.ok true, h1) else b e h1
def mNot (a : AEnv → AM Bool) : AEnv → AM Bool := fun e h => bnd (a e h) fun c h1 => some (.ok (!c), h1)
theorem snd_and {t u : TT} {a b : AEnv → AM Bool} (ha : SndT G W t a) (hb : SndT G W u b) : SndT G W (tAnd t u) (mAnd a b) := by
  intro σ H al e h r h' Q hr er hm q
  rcases bnd_some hm with ⟨c, k, e1, rfl⟩ | ⟨x, h1, e1, e2⟩
  · exact ha σ H al e h _ _ _ hr er e1 q
  · refine ha σ H al e h _ _ _ hr er e1 ?_
    intro al1 H1 x1 hr1
    split at e2
    · rename_i hx
      rw [if_pos hx]
      exact hb σ H1 al1 e h1 _ _ _ hr1 (er.mono x1) e2 (PoT.after x1 q)
    · rename_i hx
      rw [if_neg hx]
      cases e2
      exact q al1 H1 x1 hr1
theorem snd_or {t u : TT} {a b : AEnv → AM Bool} (ha : SndT G W t a) (hb : SndT G W u b) : SndT G W (tOr t u) (mOr a b) := by
  intro σ H al e h r h' Q hr er hm q
  rcases bnd_some hm with ⟨c, k, e1, rfl⟩ | ⟨x, h1, e1, e2⟩
  · exact ha σ H al e h _ _ _ hr er e1 q
  · refine ha σ H al e h _ _ _ hr er e1 ?_
    intro al1 H1 x1 hr1
    split at e2
    · rename_i hx
      rw [if_pos hx]
      cases e2
      exact q al1 H1 x1 hr1
    · rename_i hx
      rw [if_neg hx]
      exact hb σ H1 al1 e h1 _ _ _ hr1 (er.mono x1) e2 (PoT.after x1 q)
theorem snd_not {t : TT} {a : AEnv → AM Bool} (ha : SndT G W t a) : SndT G W (tNot t) (mNot a) := by
  intro σ H al e h r h' Q hr er hm q
  rcases bnd_some hm with ⟨c, k, e1, rfl⟩ | ⟨x, h1, e1, e2⟩
  · exact ha σ H al e h _ _ _ hr er e1 q
  · cases e2
    exact ha σ H al e h _ _ _ hr er e1 fun al1 H1 x1 hr1 => q al1 H1 x1 hr1
theorem sw_and1 {a : Expr} {ma : AEnv → AM Bool} {pos : Pos} (ha : ST G X W a ma) : SW G X W (.BoolOp .And [a] pos) ma := let ⟨t, p, s⟩ := ha; ⟨t, pw_and1 p, s⟩
theorem sw_or1 {a : Expr} {ma : AEnv → AM Bool} {pos : Pos} (ha : ST G X W a ma) : SW G X W (.BoolOp .Or [a] pos) ma := let ⟨t, p, s⟩ := ha; ⟨t, pw_or1 p, s⟩
theorem sw_and {a b : Expr} {rest : List Expr} {ma mb : AEnv → AM Bool} {pos : Pos} (ha : ST G X W a ma) (hb : SW G X W (.BoolOp .And (b :: rest) pos) mb) : SW G X W (.BoolOp .And (a :: b :: rest) pos) (mAnd ma mb) :=
  let ⟨_, p, s⟩ := ha; let ⟨_, p', s'⟩ := hb; ⟨_, pw_and p p', snd_and s s'⟩
theorem sw_or {a b : Expr} {rest : List Expr} {ma mb : AEnv → AM Bool} {pos : Pos} (ha : ST G X W a ma) (hb : SW G X W (.BoolOp .Or (b :: rest) pos) mb) : SW G X W (.BoolOp .Or (a :: b :: rest) pos) (mOr ma mb) :=
  let ⟨_, p, s⟩ := ha; let ⟨_, p', s'⟩ := hb; ⟨_, pw_or p p', snd_or s s'⟩
theorem st_w {e : Expr} {m : AEnv → AM Bool} (h : SW G X W e m) : ST G X W e m := let ⟨t, p, s⟩ := h; ⟨t, p.pt, s⟩
theorem st_not {a : Expr} {ma : AEnv → AM Bool} {pos : Pos} (ha : ST G X W a ma) : ST G X W (.UnaryOp .Not a pos) (mNot ma) := let ⟨_, p, s⟩ := ha; ⟨_, pt_not p, snd_not s⟩
/-- .. as values -/
def mV (m : AEnv → AM Bool) : AE := fun e h => bnd (m e h) fun b h1 => some (.ok (.bl b), h1)
def mAndV (ma mb : AE) : AE := fun e h => bnd (mB ma e h) fun c h1 => if c = true then mb e h1 else some (.ok (.bl false), h1)
def mOrV (ma mb : AE) : AE := fun e h => bnd (mB ma e h) fun c h1 => if c = true then some (.ok (.bl true), h1) else mb e h1
def mNotV (ma : AE) : AE := fun e h => bnd (mB ma e h) fun c h1 => some (.ok (.bl (!c)), h1)
theorem snd_andV {ta tb : TE} {ma mb : AE} (ha : SndE G W ta ma) (hb : SndE G W tb mb) : SndE G W (tAndV ta tb) (mAndV ma mb) := by
  intro σ H al e h r h' Q hr er hm q
  rcases bnd_some hm with ⟨c, k, e1, rfl⟩ | ⟨x, h1, e1, e2⟩
  · exact snd_test ha σ H al e h _ _ (fun k H' => if k = true then tb σ H' Q else Q (.bl false) H') hr er e1 q
  · refine snd_test ha σ H al e h _ _ (fun k H' => if k = true then tb σ H' Q else Q (.bl false) H') hr er e1 ?_
    intro al1 H1 x1 hr1
    split at e2
    · rename_i hx
      rw [if_pos hx]
      exact hb σ H1 al1 e h1 _ _ _ hr1 (er.mono x1) e2 (PoE.after x1 q)
    · rename_i hx
      rw [if_neg hx]
      cases e2
      exact q al1 H1 _ x1 hr1 .bl
theorem snd_orV {ta tb : TE} {ma mb : AE} (ha : SndE G W ta ma) (hb : SndE G W tb mb) : SndE G W (tOrV ta tb) (mOrV ma mb) := by
  intro σ H al e h r h' Q hr er hm q
  rcases bnd_some hm with ⟨c, k, e1, rfl⟩ | ⟨x, h1, e1, e2⟩
  · exact snd_test ha σ H al e h _ _ (fun k H' => if k = true then Q (.bl true) H' else tb σ H' Q) hr er e1 q
  · refine snd_test ha σ H al e h _ _ (fun k H' => if k = true then Q (.bl true) H' else tb σ H' Q) hr er e1 ?_
    intro al1 H1 x1 hr1
    split at e2
    · rename_i hx
      rw [if_pos hx]
      cases e2
      exact q al1 H1 _ x1 hr1 .bl
    · rename_i hx
      rw [if_neg hx]
      exact hb σ H1 al1 e h1 _ _ _ hr1 (er.mono x1) e2 (PoE.after x1 q)
theorem snd_notV {ta : TE} {ma : AE} (ha : SndE G W ta ma) : SndE G W (tNotV ta) (mNotV ma) := by
  intro σ H al e h r h' Q hr er hm q
  rcases bnd_some hm with ⟨c, k, e1, rfl⟩ | ⟨x, h1, e1, e2⟩
  · exact snd_test ha σ H al e h _ _ (fun k H' => Q (.bl (!k)) H') hr er e1 q
  · cases e2
    exact snd_test ha σ H al e h _ _ (fun k H' => Q (.bl (!k)) H') hr er e1 fun al1 H1 x1 hr1 => q al1 H1 _ x1 hr1 .bl
theorem se_one {op a pos} {ma : AE} (ha : SE G X W a ma) : SE G X W (.BoolOp op [a] pos) ma := let ⟨t, p, s⟩ := ha; ⟨t, pe_one p, s⟩
theorem se_and {a b : Expr} {rest : List Expr} {ma mb : AE} {pos : Pos} (ha : SE G X W a ma) (hb : SE G X W (.BoolOp .And (b :: rest) pos) mb) : SE G X W (.BoolOp .And (a :: b :: rest) pos) (mAndV ma mb) :=
  let ⟨_, p, s⟩ := ha; let ⟨_, p', s'⟩ := hb; ⟨_, pe_and p p', snd_andV s s'⟩
theorem se_or {a b : Expr} {rest : List Expr} {ma mb : AE} {pos : Pos} (ha : SE G X W a ma) (hb : SE G X W (.BoolOp .Or (b :: rest) pos) mb) : SE G X W (.BoolOp .Or (a :: b :: rest) pos) (mOrV ma mb) :=
  let ⟨_, p, s⟩ := ha; let ⟨_, p', s'⟩ := hb; ⟨_, pe_or p p', snd_orV s s'⟩
theorem se_not {a : Expr} {ma : AE} {pos : Pos} (ha : SE G X W a ma) : SE G X W (.UnaryOp .Not a pos) (mNotV ma) := let ⟨_, p, s⟩ := ha; ⟨_, pe_not p, snd_notV s⟩
def mIf (c : AEnv → AM Bool) (a b : AE) : AE := fun e h => bnd (c e h) fun k h1 => if k = true then a e h1 else b e h1
theorem se_if {c a b : Expr} {mc : AEnv → AM Bool} {ma mb : AE} {pos : Pos} (hc : ST G X W c mc) (ha : SE G X W a ma) (hb : SE G X W b mb) : SE G X W (.IfExp c a b pos) (mIf mc ma mb) := by
  obtain ⟨tc, pc, sc⟩ := hc
  obtain ⟨ta, pa, sa⟩ := ha
  obtain ⟨tb, pb, sb⟩ := hb
  refine ⟨_, pe_ifExp pc pa pb, ?_⟩
  intro σ H al e h r h' Q hr er hm q
  rcases bnd_some hm with ⟨c, k, e1, rfl⟩ | ⟨x, h1, e1, e2⟩
  · exact sc σ H al e h _ _ _ hr er e1 q
  · refine sc σ H al e h _ _ _ hr er e1 ?_
    intro al1 H1 x1 hr1
    split at e2
    · rename_i hx
      rw [if_pos hx]
      exact sa σ H1 al1 e h1 _ _ _ hr1 (er.mono x1) e2 (PoE.after x1 q)
    · rename_i hx
      rw [if_neg hx]
      exact sb σ H1 al1 e h1 _ _ _ hr1 (er.mono x1) e2 (PoE.after x1 q)

/-! ### argument lists, displays -/
def mNil : AEnv → AM (List AV) := fun _ h => some (.ok [], h)
def mCons (ma : AE) (mr : AEnv → AM (List AV)) : AEnv → AM (List AV) := fun e h => bnd (ma e h) fun x h1 => bnd (mr e h1) fun xs h2 => some (.ok (x :: xs), h2)
theorem snd_nil : SndA G W tNil mNil := by
  intro σ H al e h r h' Q hr er hm q
  cases hm
  exact q al H [] .refl hr .nil
theorem snd_cons {ta : TE} {tr : TA} {ma : AE} {mr : AEnv → AM (List AV)} (ha : SndE G W ta ma) (hb : SndA G W tr mr) : SndA G W (tCons ta tr) (mCons ma mr) := by
  intro σ H al e h r h' Q hr er hm q
  rcases bnd_some hm with ⟨c, k, e1, rfl⟩ | ⟨x, h1, e1, e2⟩
  · exact ha σ H al e h _ _ _ hr er e1 q
  · refine ha σ H al e h _ _ _ hr er e1 ?_
    intro al1 H1 u x1 hr1 r1
    rcases bnd_some e2 with ⟨c, k, e3, rfl⟩ | ⟨y, h2, e3, e4⟩
    · exact hb σ H1 al1 e h1 _ _ _ hr1 (er.mono x1) e3 (PoA.after (r := .ex c k) x1 q)
    · cases e4
      refine hb σ H1 al1 e h1 _ _ _ hr1 (er.mono x1) e3 ?_
      intro al2 H2 us x2 hr2 r2
      exact q al2 H2 _ (x1.trans x2) hr2 (.cons (r1.mono x2) r2)
theorem sa_nil : SA G X W [] mNil := ⟨_, pa_nil, snd_nil⟩
theorem sa_cons {e : Expr} {es : List Expr} {ma : AE} {mr : AEnv → AM (List AV)} (ha : SE G X W e ma) (hb : SA G X W es mr) (hs : starEach (e :: es) X.env = (false, eval e X.env) :: starEach es X.env := by rfl) : SA G X W (e :: es) (mCons ma mr) :=
  let ⟨_, p, s⟩ := ha; let ⟨_, p', s'⟩ := hb; ⟨_, pa_cons p p' hs, snd_cons s s'⟩
def mTup (ma : AEnv → AM (List AV)) : AE := fun e h => bnd (ma e h) fun xs h1 => if xs.length ≤ 1000000 then some (.ok (.tup xs), h1) else none
def mLst (ma : AEnv → AM (List AV)) : AE := fun e h => bnd (ma e h) fun xs h1 => if xs.length ≤ 1000000 then some (.ok (.ref h1.length), h1 ++ [.lst xs]) else none
theorem snd_tup {ta : TA} {ma : AEnv → AM (List AV)} (hz : G.fz = false) (ha : SndA G W ta ma) : SndE G W (tTup ta) (mTup ma) := by
  intro σ H al e h r h' Q hr er hm q
  rcases bnd_some hm with ⟨c, k, e1, rfl⟩ | ⟨x, h1, e1, e2⟩
  · exact ha σ H al e h _ _ _ hr er e1 q
  · split at e2
    · rename_i hl
      cases e2
      refine ha σ H al e h _ _ _ hr er e1 ?_
      intro al1 H1 us x1 hr1 r1
      have := r1.length
      exact ⟨by rw [sizeLine_eq]; omega, fun p hp => FwV.newT hz x1 hr1 hp r1 q⟩
    · cases e2
/-- a tuple, known to the object -/
def tTupF (t : TA) : TE := fun σ H Q => t σ H fun xs H1 => xs.length ≤ sizeLine ∧ ∀ p (o : Obj), o.dict = none → H1 p = none → Q (.ref p) (upd H1 p (.frz o (.tup xs)))
theorem pe_tupF {es : List Expr} {t : TA} {pos : Pos} {x1} (h : PA X es t) : PE X (.Tuple es x1 pos) (tTupF t) := by
  constructor
  intro pins t0 σ H Q inv hq
  apply wpAny_Tuple_spliced
  apply thn (h.run pos pins t0 σ H _ inv hq)
  rintro us t1 ⟨xs, H1, I1, r, z, q⟩
  have free := I1.hok.fresh (Nat.le_refl t1.heap.objs.size)
  refine ⟨r.length ▸ z, V.ref _, _, I1.laid (t' := t1.toks) (fun _ _ => Heap.get?_push_of_some _) (Nat.le_refl _) ?_, rfl, q _ { cls := .type "tuple", data := .seq us.toArray } rfl free⟩
  exact ⟨Heap.get?_push_size _ rfl, z, us, r, ⟨_, Heap.get?_push_size _ rfl, rfl, _, rfl⟩⟩
theorem snd_tupF {ta : TA} {ma : AEnv → AM (List AV)} (hz : G.fz = true) (ha : SndA G W ta ma) : SndE G W (tTupF ta) (mTup ma) := by
  intro σ H al e h r h' Q hr er hm q
  rcases bnd_some hm with ⟨c, k, e1, rfl⟩ | ⟨x, h1, e1, e2⟩
  · exact ha σ H al e h _ _ _ hr er e1 q
  · split at e2
    · rename_i hl
      cases e2
      refine ha σ H al e h _ _ _ hr er e1 ?_
      intro al1 H1 us x1 hr1 r1
      have := r1.length
      exact ⟨by rw [sizeLine_eq]; omega, fun p o ho hp => FwV.newF hz ho x1 hr1 hp r1 q⟩
    · cases e2
theorem snd_lst {ta : TA} {ma : AEnv → AM (List AV)} (ha : SndA G W ta ma) : SndE G W (tLst ta) (mLst ma) := by
  intro σ H al e h r h' Q hr er hm q
  rcases bnd_some hm with ⟨c, k, e1, rfl⟩ | ⟨x, h1, e1, e2⟩
  · exact ha σ H al e h _ _ _ hr er e1 q
  · split at e2
    · rename_i hz
      cases e2
      refine ha σ H al e h _ _ _ hr er e1 ?_
      intro al1 H1 us x1 hr1 r1
      have := r1.length
      exact ⟨by rw [sizeLine_eq]; omega, fun p hp => FwV.newL x1 hr1 hp r1 q⟩
    · cases e2
theorem se_tup {es : List Expr} {x1} {pos : Pos} {ma : AEnv → AM (List AV)} (hz : G.fz = false) (ha : SA G X W es ma) : SE G X W (.Tuple es x1 pos) (mTup ma) := let ⟨_, p, s⟩ := ha; ⟨_, pe_tup p, snd_tup hz s⟩
theorem se_tupF {es : List Expr} {x1} {pos : Pos} {ma : AEnv → AM (List AV)} (hz : G.fz = true) (ha : SA G X W es ma) : SE G X W (.Tuple es x1 pos) (mTup ma) := let ⟨_, p, s⟩ := ha; ⟨_, pe_tupF p, snd_tupF hz s⟩
theorem se_lst {es : List Expr} {pos : Pos} {ma : AEnv → AM (List AV)} (ha : SA G X W es ma) : SE G X W (.List es pos) (mLst ma) := let ⟨_, p, s⟩ := ha; ⟨_, pe_lst p, snd_lst s⟩
end
end SL
/-! SL4: subscripts, slices, attributes, built-in functions, built-in methods. -/
namespace SL
open PySem PySem.Spec PyProof.Rows L2
section
variable {G : Gx} {X : Cx} {W : WX}

/-! ### a[i] -/
def oIx : AV → AV → List AO → Option (AV × List AO) := fun x y h => match x, y with
  | .str z, .int i => if z.length ≤ 1000000 then (atI z.cps.toList i).map fun c => (.str ⟨#[c]⟩, h) else none
  | x, .int i => match itemsA h x with
    | some ys => (atI ys i).map fun v => (v, h)
    | none => none
  | _, _ => none
section
variable {n : Nat} {al : Nat → Addr} {H : Hp}
theorem atI_ok {xs : List AV} {us : List V} {i : Int} {v : AV} (r : RAs G n al H xs us) (e : atI xs i = some v) : ∃ u, atI us i = some u ∧ RA G n al H v u := by
  unfold atI at e ⊢
  rw [← r.length]
  cases q : ixN xs.length i with
  | none => rw [q] at e; exact nomatch e
  | some j =>
    rw [q] at e
    exact r.get e
end
theorem snd_ix : SndO G (rIx G.K) oIx := by
  intro H al h x y u w v h' Q hr rx ry e q
  unfold oIx at e
  split at e
  · rename_i z i
    split at e
    · rename_i hz
      cases c : atI z.cps.toList i with
      | none => rw [c] at e; cases e
      | some c' =>
        rw [c] at e; cases e
        cases rx; cases ry
        exact .inr (.inr ⟨z, i, c', rfl, rfl, by rw [sizeLine_eq]; omega, c, q al H _ .refl hr .str⟩)
    · cases e
  · rename_i i _
    split at e
    · rename_i ys hy
      cases c : atI ys i with
      | none => rw [c] at e; cases e
      | some v' =>
        rw [c] at e; cases e
        cases ry
        obtain ⟨p, vs, rfl, sq, rs, _⟩ := items_ok hr rx hy
        obtain ⟨u', e2, r2⟩ := atI_ok rs c
        rcases sq with sq | sq
        · exact .inl ⟨p, vs, i, u', rfl, rfl, sq, e2, q al H _ .refl hr r2⟩
        · exact .inr (.inl ⟨p, vs, i, u', rfl, rfl, sq, e2, q al H _ .refl hr r2⟩)
    · cases e
  · cases e
theorem se_ix {a b : Expr} {ma mb : AE} {pos : Pos} (hK : X.K = G.K) (ha : SE G X W a ma) (hb : SE G X W b mb) (hs : PlainIx b := by exact fun _ _ => rfl) : SE G X W (.Subscript a b pos) (m2 oIx ma mb) := by
  obtain ⟨ta, pa, sa⟩ := ha
  obtain ⟨tb, pb, sb⟩ := hb
  exact ⟨_, pe_ix (hK ▸ ix_seq) pa pb hs, snd_2 sa sb snd_ix⟩

/-! ### a[lo:hi] -/
def SndP (G : Gx) (W : WX) (t : TO) (m : AEnv → AM (Option Int)) : Prop := ∀ σ H al e h r h' (Q : Option Int → Hp → Prop), HR G al h H → ER G h.length al H e σ → m e h = some (r, h') →
  (match r with | .ok o => ∀ al' H', Ext h.length al H h'.length al' H' → HR G al' h' H' → Q o H' | .ex c k => FwX G h.length al H c k h' fun cls d H' => W cls d σ H') → t σ H Q
def SP (G : Gx) (X : Cx) (W : WX) (e : Option Expr) (m : AEnv → AM (Option Int)) : Prop := ∃ t, PO X e t ∧ SndP G W t m
def mPn : AEnv → AM (Option Int) := fun _ h => some (.ok none, h)
def mPs (m : AE) : AEnv → AM (Option Int) := fun e h => match m e h with
  | some (.ok (.int i), h') => some (.ok (some i), h')
  | some (.ex c k, h') => some (.ex c k, h')
  | _ => none
theorem sp_none : SP G X W none mPn := ⟨_, po_none, fun σ H al e h r h' Q hr er hm q => by cases hm; exact q al H .refl hr⟩
theorem sp_some {e : Expr} {m : AE} (he : SE G X W e m) : SP G X W (some e) (mPs m) := by
  obtain ⟨t, p, s⟩ := he
  refine ⟨_, po_some p, fun σ H al e h r h' Q hr er hm q => ?_⟩
  unfold mPs at hm
  split at hm
  · rename_i i h1 e1
    cases hm
    refine s σ H al e h _ _ _ hr er e1 ?_
    intro al1 H1 u x1 hr1 r1
    cases r1
    exact ⟨i, rfl, q al1 H1 x1 hr1⟩
  · rename_i c k h1 e1
    cases hm
    exact s σ H al e h _ _ _ hr er e1 q
  · cases hm
def cutA {α : Type} (xs : List α) (lo hi : Option Int) : List α := (xs.drop (HT.sIx xs.length 0 lo)).take (HT.sIx xs.length xs.length hi - HT.sIx xs.length 0 lo)
theorem cutA_ok {n : Nat} {al : Nat → Addr} {H : Hp} {xs : List AV} {us : List V} {lo hi : Option Int} (r : RAs G n al H xs us) : RAs G n al H (cutA xs lo hi) (cutV us lo hi) := by
  unfold cutA cutV
  rw [← r.length]
  exact (r.drop _).take _
def oSl (x : AV) (lo hi : Option Int) (h : List AO) : Option (AV × List AO) := match x with
  | .str z => if z.length ≤ 1000000 then some (.str (cutS z lo hi), h) else none
  | .ref i => match h[i]? with
    | some (.lst xs) => some (.ref h.length, h ++ [.lst (cutA xs lo hi)])
    | some (.rol xs) => some (.ref h.length, h ++ [.lst (cutA xs lo hi)])
    | _ => none
  | _ => none
def oSlT (x : AV) (lo hi : Option Int) (h : List AO) : Option (AV × List AO) := match x with
  | .tup xs => some (.tup (cutA xs lo hi), h)
  | x => oSl x lo hi h
def m3s (f : AV → Option Int → Option Int → List AO → Option (AV × List AO)) (ma : AE) (ml mh : AEnv → AM (Option Int)) : AE := fun e h => bnd (ma e h) fun x h1 => bnd (ml e h1) fun l h2 => bnd (mh e h2) fun u h3 => match f x l u h3 with
  | some (v, h4) => some (.ok v, h4)
  | none => none
def rSl (K : PySem.W.Frag) : V → Option Int → Option Int → Hp → VK → Prop := fun x lo hi H Q => rSlL K x lo hi H Q ∨ rSlS x lo hi H Q
def rSlT' (K : PySem.W.Frag) : V → Option Int → Option Int → Hp → VK → Prop := fun x lo hi H Q => rSlA K x lo hi H Q ∨ rSl K x lo hi H Q
def SndL (G : Gx) (r : V → Option Int → Option Int → Hp → VK → Prop) (f : AV → Option Int → Option Int → List AO → Option (AV × List AO)) : Prop := ∀ H al h x u lo hi v h' (Q : VK), HR G al h H → RA G h.length al H x u → f x lo hi h = some (v, h') → FwV G h.length al H v h' Q → r u lo hi H Q
theorem snd_sl : SndL G (rSl G.K) oSl := by
  intro H al h x u lo hi v h' Q hr rx e q
  unfold oSl at e
  split at e
  · rename_i z
    split at e
    · cases e; cases rx
      exact .inr ⟨z, rfl, by rw [sizeLine_eq]; omega, q al H _ .refl hr .str⟩
    · cases e
  · rename_i i
    split at e
    · rename_i xs hi
      cases e
      obtain ⟨vs, e1, rs⟩ := lstAt hr hi
      exact .inl ⟨al i, vs, refAt rx, SqL.of e1, fun p hp => FwV.newL .refl hr hp (cutA_ok rs) q⟩
    · rename_i xs hi
      cases e
      obtain ⟨vs, e1, rs⟩ := (hr.ob _ _ hi : ∃ vs, RoL G.K H (al i) vs ∧ RAs G h.length al H xs vs)
      exact .inl ⟨al i, vs, refAt rx, e1.sq, fun p hp => FwV.newL .refl hr hp (cutA_ok rs) q⟩
    · cases e
  · cases e
theorem snd_slT (hz : G.fz = false) : SndL G (rSlT' G.K) oSlT := by
  intro H al h x u lo hi v h' Q hr rx e q
  unfold oSlT at e
  split at e
  · rename_i xs
    cases e
    obtain ⟨a, vs, rfl, t, rs⟩ := tupAt rx
    refine .inl ⟨a, vs, rfl, t.sq, fun z => ?_, fun _ p hp => FwV.newT hz .refl hr hp (cutA_ok rs) q⟩
    have e2 : cutA xs lo hi = xs := by
      have l1 := rs.length
      unfold cutA
      rw [l1, z.1, z.2, List.drop_zero, Nat.sub_zero, List.take_of_length_le (by omega)]
    rw [e2] at q
    exact q al H _ .refl hr rx
  · exact .inr (snd_sl H al h _ u lo hi v h' Q hr rx e q)
theorem se_sl {r : V → Option Int → Option Int → Hp → VK → Prop} {f : AV → Option Int → Option Int → List AO → Option (AV × List AO)} {a : Expr} {lo hi : Option Expr} {ma : AE} {ml mh : AEnv → AM (Option Int)} {pos p2 : Pos} (hS : SlR X r) (hs : SndL G r f)
    (ha : SE G X W a ma) (hl : SP G X W lo ml) (hh : SP G X W hi mh) : SE G X W (.Subscript a (.Slice lo hi none p2) pos) (m3s f ma ml mh) := by
  obtain ⟨ta, pa, sa⟩ := ha
  obtain ⟨tl, pl, sl⟩ := hl
  obtain ⟨th, ph, sh⟩ := hh
  refine ⟨_, pe_slice hS pa pl ph, ?_⟩
  intro σ H al e h r h' Q hr er hm q
  rcases bnd_some hm with ⟨c, k, e1, rfl⟩ | ⟨x, h1, e1, e2⟩
  · exact sa σ H al e h _ _ _ hr er e1 q
  · refine sa σ H al e h _ _ _ hr er e1 ?_
    intro al1 H1 u x1 hr1 r1
    rcases bnd_some e2 with ⟨c, k, e3, rfl⟩ | ⟨l, h2, e3, e4⟩
    · exact sl σ H1 al1 e h1 _ _ _ hr1 (er.mono x1) e3 (FwX.after x1 q)
    · refine sl σ H1 al1 e h1 _ _ _ hr1 (er.mono x1) e3 ?_
      intro al2 H2 x2 hr2
      rcases bnd_some e4 with ⟨c, k, e5, rfl⟩ | ⟨g, h3, e5, e6⟩
      · exact sh σ H2 al2 e h2 _ _ _ hr2 (er.mono (x1.trans x2)) e5 (FwX.after (x1.trans x2) q)
      · refine sh σ H2 al2 e h2 _ _ _ hr2 (er.mono (x1.trans x2)) e5 ?_
        intro al3 H3 x3 hr3
        split at e6
        · rename_i v h4 e7
          cases e6
          exact hs H3 al3 h3 x u l g v _ Q hr3 (r1.mono (x2.trans x3)) e7 (FwV.after ((x1.trans x2).trans x3) q)
        · cases e6
theorem se_slice {a : Expr} {lo hi : Option Expr} {ma : AE} {ml mh : AEnv → AM (Option Int)} {pos p2 : Pos} (hK : X.K = G.K) (ha : SE G X W a ma) (hl : SP G X W lo ml) (hh : SP G X W hi mh) : SE G X W (.Subscript a (.Slice lo hi none p2) pos) (m3s oSl ma ml mh) :=
  se_sl (r := rSl G.K) (hK ▸ sl_list.or sl_str) snd_sl ha hl hh
theorem se_sliceT {a : Expr} {lo hi : Option Expr} {ma : AE} {ml mh : AEnv → AM (Option Int)} {pos p2 : Pos} (hz : G.fz = false) (hK : X.K = G.K) (ha : SE G X W a ma) (hl : SP G X W lo ml) (hh : SP G X W hi mh) : SE G X W (.Subscript a (.Slice lo hi none p2) pos) (m3s oSlT ma ml mh) :=
  se_sl (r := rSlT' G.K) (hK ▸ sl_tupA.or (sl_list.or sl_str)) (snd_slT hz) ha hl hh

/-! ### o.f -/
def oFld (c : Nat) (f : Str) : AV → List AO → Option (AV × List AO) := fun x h => match x with
  | .ref i => match h[i]? with
    | some (.ins d fs) => if d = c then (fs.lookup f).map fun v => (v, h) else none
    | _ => none
  | _ => none
theorem insAt {al : Nat → Addr} {h : List AO} {H : Hp} {i c : Nat} {fs : List (Str × AV)} (hr : HR G al h H) (e : h[i]? = some (.ins c fs)) : ∃ dx gs, H (al i) = some (.ins (G.cl c) dx gs) ∧ RF G h.length al H fs gs := hr.ob i _ e
theorem se_fld {c : Nat} {o : Expr} {f : Str} {mo : AE} {pos : Pos} (hK : X.K = G.K) (hc : Cls G.K (G.cl c)) (hn : NoAttr G.K (G.cl c) f) (ho : SE G X W o mo) (hb : attributeBase o f X.env (eval o X.env) = eval o X.env := by rfl) :
    SE G X W (.Attribute o f pos) (m1 (oFld c f) mo) := by
  obtain ⟨t, p, s⟩ := ho
  refine ⟨_, pe_fld p hb, ?_⟩
  intro σ H al e h r h' Q hr er hm q
  rcases bnd_some hm with ⟨cc, k, e1, rfl⟩ | ⟨x, h1, e1, e2⟩
  · exact s σ H al e h _ _ _ hr er e1 q
  · refine s σ H al e h _ _ _ hr er e1 ?_
    intro al1 H1 u x1 hr1 r1
    unfold oFld at e2
    cases x with
    | ref i =>
      simp only at e2
      split at e2
      · rename_i v h2 e3
        cases e2
        split at e3
        · rename_i d fs hi
          split at e3
          · rename_i hd
            subst hd
            cases l : fs.lookup f with
            | none => rw [l] at e3; cases e3
            | some v' =>
              rw [l] at e3; cases e3
              obtain ⟨dx, gs, e4, rf⟩ := insAt hr1 hi
              rcases rf.lookup (x := f) with ⟨z, _⟩ | ⟨v2, u2, l1, l2, r2⟩
              · rw [l] at z; cases z
              · rw [l] at l1; cases l1
                exact ⟨al1 i, G.cl d, dx, gs, u2, refAt r1, e4, hK ▸ hc, hK ▸ hn, l2, q al1 H1 _ x1 hr1 r2⟩
          · cases e3
        · cases e3
      · cases e2
    | _ => cases e2

/-! ### built-in functions -/
def SndC (G : Gx) (r : List V → Hp → VK → Prop) (f : List AV → List AO → Option (AV × List AO)) : Prop := ∀ H al h xs us v h' (Q : VK), HR G al h H → RAs G h.length al H xs us → f xs h = some (v, h') → FwV G h.length al H v h' Q → r us H Q
def mC1 (f : List AV → List AO → Option (AV × List AO)) (ma : AEnv → AM (List AV)) : AE := fun e h => bnd (ma e h) fun xs h1 => match f xs h1 with
  | some (v, h2) => some (.ok v, h2)
  | none => none
theorem snd_CB {r : List V → Hp → VK → Prop} {f : List AV → List AO → Option (AV × List AO)} {t : TA} {ma : AEnv → AM (List AV)} (hs : SndC G r f) (ha : SndA G W t ma) : SndE G W (tCB r t) (mC1 f ma) := by
  intro σ H al e h rr h' Q hr er hm q
  rcases bnd_some hm with ⟨cc, k, e1, rfl⟩ | ⟨x, h1, e1, e2⟩
  · exact ha σ H al e h _ _ _ hr er e1 q
  · refine ha σ H al e h _ _ _ hr er e1 ?_
    intro al1 H1 us x1 hr1 r1
    split at e2
    · rename_i v h2 e3
      cases e2
      exact hs H1 al1 h1 x us v _ Q hr1 r1 e3 (FwV.after x1 q)
    · cases e2
theorem se_callB {id : String} {r : List V → Hp → VK → Prop} {f : List AV → List AO → Option (AV × List AO)} {x : Str} {e : Expr} {es : List Expr} {ma : AEnv → AM (List AV)} {p pos : Pos} (hc : CallR X (.builtin id) r) (hs : SndC G r f) (hm : X.mg x = none) (hv : bootBuiltins x = some (.builtin id)) (ha : SA G X W (e :: es) ma)
    (hg : Gl X x := by rfl) (hn : x ≠ "__name__" := by decide) (hdb : (x == ("__debug__" : Str)) = false := by decide)
    (he : starEach (e :: es) X.env = (false, eval e X.env) :: starEach es X.env := by rfl) (hpl : (backTo pos (starEach es X.env)).any (·.1) = false := by rfl) : SE G X W (.Call (.Name x p) (e :: es) [] pos) (mC1 f ma) := by
  obtain ⟨t, pa, sa⟩ := ha
  exact ⟨_, pe_callB hc hg hm hv pa hn hdb he hpl, snd_CB hs sa⟩
theorem se_callTy {T : String} {r : List V → Hp → VK → Prop} {f : List AV → List AO → Option (AV × List AO)} {x : Str} {e : Expr} {es : List Expr} {ma : AEnv → AM (List AV)} {p pos : Pos} (hc : CallR X (.type T) r) (hs : SndC G r f) (hm : X.mg x = none) (hv : bootBuiltins x = some (.type T)) (ha : SA G X W (e :: es) ma)
    (hg : Gl X x := by rfl) (hn : x ≠ "__name__" := by decide) (hdb : (x == ("__debug__" : Str)) = false := by decide)
    (he : starEach (e :: es) X.env = (false, eval e X.env) :: starEach es X.env := by rfl) (hpl : (backTo pos (starEach es X.env)).any (·.1) = false := by rfl) : SE G X W (.Call (.Name x p) (e :: es) [] pos) (mC1 f ma) := by
  obtain ⟨t, pa, sa⟩ := ha
  exact ⟨_, pe_callTy hc hg hm hv pa hn hdb he hpl, snd_CB hs sa⟩
theorem one_of {n : Nat} {al : Nat → Addr} {H : Hp} {x : AV} {us : List V} (r : RAs G n al H [x] us) : ∃ u, us = [u] ∧ RA G n al H x u := by
  cases r with
  | cons r rr => cases rr; exact ⟨_, rfl, r⟩
theorem two_of {n : Nat} {al : Nat → Addr} {H : Hp} {x y : AV} {us : List V} (r : RAs G n al H [x, y] us) : ∃ u w, us = [u, w] ∧ RA G n al H x u ∧ RA G n al H y w := by
  cases r with
  | cons r rr =>
    obtain ⟨w, rfl, r2⟩ := one_of rr
    exact ⟨_, _, rfl, r, r2⟩
/-- len -/
def fLen : List AV → List AO → Option (AV × List AO) := fun xs h => match xs with
  | [.str y] => if y.length ≤ 1000000 then some (.int y.length, h) else none
  | [x] => (itemsA h x).map fun ys => (.int ys.length, h)
  | _ => none
def rLenA (K : PySem.W.Frag) : List V → Hp → VK → Prop := fun xs H Q => ∃ x n, xs = [x] ∧ LenV K x H n ∧ Q (.int n) H
theorem snd_len : SndC G (rLenA G.K) fLen := by
  intro H al h xs us v h' Q hr rs e q
  unfold fLen at e
  split at e
  · rename_i y
    split at e
    · rename_i hz
      cases e
      obtain ⟨u, rfl, r⟩ := one_of rs
      cases r
      exact ⟨.str y, y.length, rfl, ⟨by rw [sizeLine_eq]; omega, rfl⟩, q al H _ .refl hr .int⟩
    · cases e
  · rename_i x _
    obtain ⟨u, rfl, r⟩ := one_of rs
    cases hy : itemsA h x with
    | none => rw [hy] at e; cases e
    | some ys =>
      rw [hy] at e; cases e
      obtain ⟨p, vs, rfl, sq, rs', _⟩ := items_ok hr r hy
      refine ⟨.ref p, vs.length, rfl, ?_, ?_⟩
      · rcases sq with sq | sq
        · exact .inl ⟨vs, sq, rfl⟩
        · exact .inr ⟨vs, sq, rfl⟩
      · rw [← rs'.length]
        exact q al H _ .refl hr .int
  · cases e
theorem se_len {e : Expr} {ma : AEnv → AM (List AV)} {p pos : Pos} (hK : X.K = G.K) (hm : X.mg "len" = none) (ha : SA G X W [e] ma) (hg : Gl X "len" := by rfl) (he : starEach [e] X.env = (false, eval e X.env) :: starEach [] X.env := by rfl)
    (hpl : (backTo pos (starEach [] X.env)).any (·.1) = false := by rfl) : SE G X W (.Call (.Name "len" p) [e] [] pos) (mC1 fLen ma) := se_callB (r := rLenA G.K) (hK ▸ call_len) snd_len hm boot_len ha hg (by decide) (by decide) he hpl
def fInt1 : List AV → List AO → Option (AV × List AO) := fun xs h => match xs with
  | [.int i] => some (.int i, h)
  | _ => none
def rInt1 : List V → Hp → VK → Prop := fun xs H Q => (∃ i, xs = [.int i] ∧ Q (.int i) H) ∨ ∃ k, xs = [.bl k] ∧ Q (.int (if k then 1 else 0)) H
theorem snd_int1 : SndC G rInt1 fInt1 := by
  intro H al h xs us v h' Q hr rs e q
  unfold fInt1 at e
  split at e
  · rename_i i
    cases e
    obtain ⟨u, rfl, r⟩ := one_of rs
    cases r
    exact .inl ⟨i, rfl, q al H _ .refl hr .int⟩
  · cases e
theorem se_int1 {e : Expr} {ma : AEnv → AM (List AV)} {p pos : Pos} (hm : X.mg "int" = none) (ha : SA G X W [e] ma) (hg : Gl X "int" := by rfl) (he : starEach [e] X.env = (false, eval e X.env) :: starEach [] X.env := by rfl)
    (hpl : (backTo pos (starEach [] X.env)).any (·.1) = false := by rfl) : SE G X W (.Call (.Name "int" p) [e] [] pos) (mC1 fInt1 ma) := se_callTy (r := rInt1) call_int1 snd_int1 hm (by decide +kernel) ha hg (by decide) (by decide) he hpl
def f2I (g : Int → Int → Int) : List AV → List AO → Option (AV × List AO) := fun xs h => match xs with
  | [.int i, .int j] => some (.int (g i j), h)
  | _ => none
def r2I (g : Int → Int → Int) : List V → Hp → VK → Prop := fun xs H Q => ∃ i j, xs = [.int i, .int j] ∧ Q (.int (g i j)) H
theorem snd_2I {g : Int → Int → Int} : SndC G (r2I g) (f2I g) := by
  intro H al h xs us v h' Q hr rs e q
  unfold f2I at e
  split at e
  · rename_i i j
    cases e
    obtain ⟨u, w, rfl, r, r2⟩ := two_of rs
    cases r; cases r2
    exact ⟨i, j, rfl, q al H _ .refl hr .int⟩
  · cases e
def fMax2 := f2I fun i j => if j > i then j else i
def fMin2 := f2I fun i j => if j < i then j else i
theorem se_max2 {a b : Expr} {ma : AEnv → AM (List AV)} {p pos : Pos} (hc : X.calm = true) (hm : X.mg "max" = none) (ha : SA G X W [a, b] ma) (hg : Gl X "max" := by rfl) (he : starEach [a, b] X.env = (false, eval a X.env) :: starEach [b] X.env := by rfl)
    (hpl : (backTo pos (starEach [b] X.env)).any (·.1) = false := by rfl) : SE G X W (.Call (.Name "max" p) [a, b] [] pos) (mC1 fMax2 ma) := se_callB (r := r2I _) (call_max2 hc) snd_2I hm (by decide +kernel) ha hg (by decide) (by decide) he hpl
theorem se_min2 {a b : Expr} {ma : AEnv → AM (List AV)} {p pos : Pos} (hc : X.calm = true) (hm : X.mg "min" = none) (ha : SA G X W [a, b] ma) (hg : Gl X "min" := by rfl) (he : starEach [a, b] X.env = (false, eval a X.env) :: starEach [b] X.env := by rfl)
    (hpl : (backTo pos (starEach [b] X.env)).any (·.1) = false := by rfl) : SE G X W (.Call (.Name "min" p) [a, b] [] pos) (mC1 fMin2 ma) := se_callB (r := r2I _) (call_min2 hc) snd_2I hm (by decide +kernel) ha hg (by decide) (by decide) he hpl
/-- all, any of a list of bools -/
def blsA : List AV → Option (List Bool)
  | [] => some []
  | .bl b :: r => (blsA r).map fun bs => b :: bs
  | _ => none
theorem blsA_ok {n : Nat} {al : Nat → Addr} {H : Hp} : ∀ {xs : List AV} {us : List V} {bs : List Bool}, RAs G n al H xs us → blsA xs = some bs → us = bs.map V.bl
  | [], _, _, .nil, e => by cases e; rfl
  | .bl b :: r, _, bs, .cons ra rs, e => by
    cases ra
    cases q : blsA r with
    | none => unfold blsA at e; rw [q] at e; cases e
    | some bs' =>
      unfold blsA at e; rw [q] at e; cases e
      rw [blsA_ok rs q]; rfl
  | .non :: _, _, _, _, e => by cases e
  | .int _ :: _, _, _, _, e => by cases e
  | .str _ :: _, _, _, _, e => by cases e
  | .tup _ :: _, _, _, _, e => by cases e
  | .ref _ :: _, _, _, _, e => by cases e
  | .cst _ :: _, _, _, _, e => by cases e
def fBs (g : List Bool → Bool) : List AV → List AO → Option (AV × List AO) := fun xs h => match xs with
  | [.ref i] => match h[i]? with
    | some (.lst ys) => (blsA ys).map fun bs => (.bl (g bs), h)
    | _ => none
  | _ => none
def rBs (K : PySem.W.Frag) (g : List Bool → Bool) : List V → Hp → VK → Prop := fun vs H Q => ∃ (a : Addr) (bs : List Bool), vs = [V.ref a] ∧ SqL K H a (bs.map V.bl) ∧ Q (.bl (g bs)) H
theorem snd_bs {g : List Bool → Bool} : SndC G (rBs G.K g) (fBs g) := by
  intro H al h xs us v h' Q hr rs e q
  unfold fBs at e
  split at e
  · rename_i i
    split at e
    · rename_i ys hi
      cases z : blsA ys with
      | none => rw [z] at e; cases e
      | some bs =>
        rw [z] at e; cases e
        obtain ⟨u, rfl, r⟩ := one_of rs
        obtain ⟨vs, e1, r1⟩ := lstAt hr hi
        have := blsA_ok r1 z
        subst this
        exact ⟨al i, bs, by rw [refAt r], SqL.of e1, q al H _ .refl hr .bl⟩
    · cases e
  · cases e
def fAll := fBs fun bs => bs.all id
def fAny := fBs fun bs => bs.any id
theorem se_all {e : Expr} {ma : AEnv → AM (List AV)} {p pos : Pos} (hK : X.K = G.K) (hc : X.calm = true) (hm : X.mg "all" = none) (ha : SA G X W [e] ma) (hg : Gl X "all" := by rfl) (he : starEach [e] X.env = (false, eval e X.env) :: starEach [] X.env := by rfl)
    (hpl : (backTo pos (starEach [] X.env)).any (·.1) = false := by rfl) : SE G X W (.Call (.Name "all" p) [e] [] pos) (mC1 fAll ma) := se_callB (r := rBs G.K _) (hK ▸ cr_all hc) snd_bs hm (by decide +kernel) ha hg (by decide) (by decide) he hpl
theorem se_any {e : Expr} {ma : AEnv → AM (List AV)} {p pos : Pos} (hK : X.K = G.K) (hc : X.calm = true) (hm : X.mg "any" = none) (ha : SA G X W [e] ma) (hg : Gl X "any" := by rfl) (he : starEach [e] X.env = (false, eval e X.env) :: starEach [] X.env := by rfl)
    (hpl : (backTo pos (starEach [] X.env)).any (·.1) = false := by rfl) : SE G X W (.Call (.Name "any" p) [e] [] pos) (mC1 fAny ma) := se_callB (r := rBs G.K _) (hK ▸ cr_any hc) snd_bs hm (by decide +kernel) ha hg (by decide) (by decide) he hpl
/-- list(x) -/
def fList : List AV → List AO → Option (AV × List AO) := fun xs h => match xs with
  | [x] => (itemsA h x).map fun ys => (.ref h.length, h ++ [.lst ys])
  | _ => none
def rListA (K : PySem.W.Frag) : List V → Hp → VK → Prop := fun xs H Q => ∃ p ys, xs = [.ref p] ∧ (SqL K H p ys ∨ SqT K H p ys) ∧ ∀ l, H l = none → Q (.ref l) (upd H l (.lst ys))
theorem snd_list : SndC G (rListA G.K) fList := by
  intro H al h xs us v h' Q hr rs e q
  unfold fList at e
  split at e
  · rename_i x
    obtain ⟨u, rfl, r⟩ := one_of rs
    cases hy : itemsA h x with
    | none => rw [hy] at e; cases e
    | some ys =>
      rw [hy] at e; cases e
      obtain ⟨p, vs, rfl, sq, rs', _⟩ := items_ok hr r hy
      exact ⟨p, vs, rfl, sq, fun l hl => FwV.newL .refl hr hl rs' q⟩
  · cases e
theorem se_list {e : Expr} {ma : AEnv → AM (List AV)} {p pos : Pos} (hK : X.K = G.K) (hm : X.mg "list" = none) (ha : SA G X W [e] ma) (hg : Gl X "list" := by rfl) (he : starEach [e] X.env = (false, eval e X.env) :: starEach [] X.env := by rfl)
    (hpl : (backTo pos (starEach [] X.env)).any (·.1) = false := by rfl) : SE G X W (.Call (.Name "list" p) [e] [] pos) (mC1 fList ma) := se_callTy (r := rListA G.K) (hK ▸ call_list_of) snd_list hm (by decide +kernel) ha hg (by decide) (by decide) he hpl
/-- tuple(x) -/
def itemsT (h : List AO) (x : AV) : Option (List AV) := match x with
  | .ktp _ => none
  | x => itemsA h x
def fTuple : List AV → List AO → Option (AV × List AO) := fun xs h => match xs with
  | [x] => (itemsT h x).map fun ys => (.tup ys, h)
  | _ => none
def rTupF (K : PySem.W.Frag) : List V → Hp → VK → Prop := fun xs H Q => ∃ p ys, xs = [.ref p] ∧ ((SqL K H p ys ∧ ∀ l o, o.dict = none → H l = none → Q (.ref l) (upd H l (.frz o (.tup ys)))) ∨ (SqT K H p ys ∧ Q (.ref p) H))
theorem call_tuple_ofF : CallR X (.type "tuple") (rTupF X.K) := by
  rintro pins t σ H xs us Q inv r ⟨p, ys, rfl, h⟩
  obtain ⟨_, rfl, rx⟩ := vals1 r
  cases rx
  rcases h with ⟨isL, q⟩ | ⟨isT, q⟩
  · have ⟨its, same, pl, few⟩ := inv.list isL
    have long : its.toArray.size ≤ sizeLine := by rw [List.size_toArray, ← same.length]; exact few
    apply call_tuple_list pl.isList
    · intro g kp
      have I1 := inv.kept (t' := t.toks) kp
      refine ⟨V.ref _, _, I1.laid (t' := t.toks) (fun _ _ => Heap.get?_push_of_some _) (Nat.le_refl _) ?_, rfl, q _ { cls := .type "tuple", data := .seq its.toArray } rfl (I1.hok.fresh (Nat.le_refl _))⟩
      exact ⟨Heap.get?_push_size _ rfl, few, its, same, IsTup.new _ _⟩
  · have ⟨_, _, pt, _⟩ := inv.tuple isT
    exact call_tuple_same pt ⟨V.ref p, H, inv, rfl, q⟩
def rTupP (K : PySem.W.Frag) : List V → Hp → VK → Prop := fun xs H Q => ∃ p ys, xs = [.ref p] ∧ ((SqL K H p ys ∧ ∀ l, H l = none → Q (.ref l) (upd H l (.tup ys))) ∨ (SqT K H p ys ∧ Q (.ref p) H))
theorem tupItems {al : Nat → Addr} {h : List AO} {H : Hp} {x : AV} {u : V} {ys : List AV} (hr : HR G al h H) (r : RA G h.length al H x u) (hy : itemsT h x = some ys) : (∃ p vs, u = .ref p ∧ SqL G.K H p vs ∧ RAs G h.length al H ys vs) ∨ (x = .tup ys ∧ ∃ p vs, u = .ref p ∧ SqT G.K H p vs) := by
  cases x with
  | tup zs =>
    cases hy
    obtain ⟨a, vs, rfl, t, rs⟩ := tupAt r
    exact .inr ⟨rfl, a, vs, rfl, t.sq⟩
  | ref i =>
    have hy' : (match h[i]? with | some (.lst ys) => some ys | some (.rol ys) => some ys | _ => none) = some ys := hy
    split at hy'
    · rename_i hi
      cases hy'
      obtain ⟨vs, e1, rs⟩ := lstAt hr hi
      exact .inl ⟨_, vs, refAt r, SqL.of e1, rs⟩
    · rename_i hi
      cases hy'
      obtain ⟨vs, e1, rs⟩ := (hr.ob _ _ hi : ∃ vs, RoL G.K H (al _) vs ∧ RAs G h.length al H ys vs)
      exact .inl ⟨_, vs, refAt r, e1.sq, rs⟩
    · cases hy'
  | _ => cases hy
theorem snd_tupleF (hz : G.fz = true) : SndC G (rTupF G.K) fTuple := by
  intro H al h xs us v h' Q hr rs e q
  unfold fTuple at e
  split at e
  · rename_i x
    obtain ⟨u, rfl, r⟩ := one_of rs
    cases hy : itemsT h x with
    | none => rw [hy] at e; cases e
    | some ys =>
      rw [hy] at e; cases e
      rcases tupItems hr r hy with ⟨p, vs, rfl, sq, rs'⟩ | ⟨rfl, p, vs, rfl, sq⟩
      · exact ⟨p, vs, rfl, .inl ⟨sq, fun l o ho hl => FwV.newF hz ho .refl hr hl rs' q⟩⟩
      · exact ⟨p, vs, rfl, .inr ⟨sq, q al H _ .refl hr r⟩⟩
  · cases e
theorem snd_tupleP (hz : G.fz = false) : SndC G (rTupP G.K) fTuple := by
  intro H al h xs us v h' Q hr rs e q
  unfold fTuple at e
  split at e
  · rename_i x
    obtain ⟨u, rfl, r⟩ := one_of rs
    cases hy : itemsT h x with
    | none => rw [hy] at e; cases e
    | some ys =>
      rw [hy] at e; cases e
      rcases tupItems hr r hy with ⟨p, vs, rfl, sq, rs'⟩ | ⟨rfl, p, vs, rfl, sq⟩
      · exact ⟨p, vs, rfl, .inl ⟨sq, fun l hl => FwV.newT hz .refl hr hl rs' q⟩⟩
      · exact ⟨p, vs, rfl, .inr ⟨sq, q al H _ .refl hr r⟩⟩
  · cases e
theorem se_tupleF {e : Expr} {ma : AEnv → AM (List AV)} {p pos : Pos} (hz : G.fz = true) (hK : X.K = G.K) (hm : X.mg "tuple" = none) (ha : SA G X W [e] ma) (hg : Gl X "tuple" := by rfl) (he : starEach [e] X.env = (false, eval e X.env) :: starEach [] X.env := by rfl)
    (hpl : (backTo pos (starEach [] X.env)).any (·.1) = false := by rfl) : SE G X W (.Call (.Name "tuple" p) [e] [] pos) (mC1 fTuple ma) := se_callTy (r := rTupF G.K) (hK ▸ call_tuple_ofF) (snd_tupleF hz) hm (by decide +kernel) ha hg (by decide) (by decide) he hpl
theorem se_tupleP {e : Expr} {ma : AEnv → AM (List AV)} {p pos : Pos} (hz : G.fz = false) (hK : X.K = G.K) (hm : X.mg "tuple" = none) (ha : SA G X W [e] ma) (hg : Gl X "tuple" := by rfl) (he : starEach [e] X.env = (false, eval e X.env) :: starEach [] X.env := by rfl)
    (hpl : (backTo pos (starEach [] X.env)).any (·.1) = false := by rfl) : SE G X W (.Call (.Name "tuple" p) [e] [] pos) (mC1 fTuple ma) := se_callTy (r := rTupP G.K) (hK ▸ call_tuple_of) (snd_tupleP hz) hm (by decide +kernel) ha hg (by decide) (by decide) he hpl

/-! ### isinstance -/
inductive Ty where
  | int | bool | str | tup | lst | dct
def Ty.nm : Ty → String
  | .int => "int" | .bool => "bool" | .str => "str" | .tup => "tuple" | .lst => "list" | .dct => "dict"
def nmA (h : List AO) : AV → Option String
  | .non => some "NoneType" | .bl _ => some "bool" | .int _ => some "int" | .str _ => some "str" | .tup _ => some "tuple"
  | .ref i => match h[i]? with
    | some (.lst _) => some "list" | some (.rol _) => some "list" | some (.dct _) => some "dict" | some (.dtp _) => some "dict"
    | _ => none
  | .cst _ => none
  | .ktp _ => none
/-- whether a value is of a type -/
def isT (T : Ty) (h : List AO) (x : AV) : Option Bool := match x with
  | .non => some false
  | .bl _ => some (match T with | .int => true | .bool => true | _ => false)
  | .int _ => some (match T with | .int => true | _ => false)
  | .str _ => some (match T with | .str => true | _ => false)
  | .tup _ => some (match T with | .tup => true | _ => false)
  | .ref i => match h[i]? with
    | some (.lst _) => some (match T with | .lst => true | _ => false)
    | some (.rol _) => some (match T with | .lst => true | _ => false)
    | some (.dct _) => some (match T with | .dct => true | _ => false)
    | some (.dtp _) => some (match T with | .dct => true | _ => false)
    | _ => none
  | .cst _ => none
  | .ktp _ => none
theorem isT_ok {h : List AO} {al : Nat → Addr} {H : Hp} {x : AV} {u : V} {T : Ty} {b : Bool} (hr : HR G al h H) (r : RA G h.length al H x u) (e : isT T h x = some b) : ∃ nm, TyX G.K H u (.type nm) ∧ ∀ U c, isT U h x = some c → kitB nm U.nm = some c := by
  have fin : ∀ (nm : String) (f : Ty → Bool), (∀ U, isT U h x = some (f U)) → (∀ U, kitB nm U.nm = some (f U)) → TyX G.K H u (.type nm) → ∃ nm, TyX G.K H u (.type nm) ∧ ∀ U c, isT U h x = some c → kitB nm U.nm = some c :=
    fun nm f h1 h2 t => ⟨nm, t, fun U c z => by rw [h1 U] at z; cases z; exact h2 U⟩
  cases x with
  | non => cases r; exact fin "NoneType" (fun _ => false) (fun _ => rfl) (fun U => by cases U <;> decide +kernel) (.base .non)
  | bl k => cases r; exact fin "bool" (fun | .int => true | .bool => true | _ => false) (fun U => by cases U <;> rfl) (fun U => by cases U <;> decide +kernel) (.base (.bl _))
  | int i => cases r; exact fin "int" (fun | .int => true | _ => false) (fun U => by cases U <;> rfl) (fun U => by cases U <;> decide +kernel) (.base (.int _))
  | str i => cases r; exact fin "str" (fun | .str => true | _ => false) (fun U => by cases U <;> rfl) (fun U => by cases U <;> decide +kernel) (.base (.str _))
  | tup xs =>
    obtain ⟨a, vs, rfl, t, _⟩ := tupAt r
    refine fin "tuple" (fun | .tup => true | _ => false) (fun U => by cases U <;> rfl) (fun U => by cases U <;> decide +kernel) ?_
    rcases t with ⟨_, t⟩ | ⟨_, o, _, t⟩ | ⟨_, o, its, n, t, c, _⟩
    · exact .base (.tup t)
    · exact .fTuple t
    · exact .kTuple t c
  | ktp xs => cases e
  | ref i =>
    cases refAt r
    have e' := e
    unfold isT at e'
    dsimp only at e'
    split at e'
    · rename_i xs hi
      obtain ⟨vs, e1, _⟩ := lstAt hr hi
      exact fin "list" (fun | .lst => true | _ => false) (fun U => by unfold isT; dsimp only; rw [hi]) (fun U => by cases U <;> decide +kernel) (.base (.lst e1))
    · rename_i xs hi
      obtain ⟨vs, e1, _⟩ := (hr.ob _ _ hi : ∃ vs, RoL G.K H (al i) vs ∧ RAs G h.length al H xs vs)
      refine fin "list" (fun | .lst => true | _ => false) (fun U => by unfold isT; dsimp only; rw [hi]) (fun U => by cases U <;> decide +kernel) ?_
      rcases e1 with ⟨o, e1⟩ | ⟨o, its, m, e1, c, _⟩
      · exact .base (.frz e1)
      · exact .kList e1 c
    · rename_i xs hi
      obtain ⟨vs, e1, _⟩ := (hr.ob _ _ hi : ∃ ws, H (al i) = some (.dK ws) ∧ RF G h.length al H xs ws)
      exact fin "dict" (fun | .dct => true | _ => false) (fun U => by unfold isT; dsimp only; rw [hi]) (fun U => by cases U <;> decide +kernel) (.base (.dK e1))
    · rename_i xs hi
      obtain ⟨vs, e1, _⟩ := (hr.ob _ _ hi : ∃ ws, H (al i) = some (.dT ws) ∧ RF G h.length al H xs ws)
      exact fin "dict" (fun | .dct => true | _ => false) (fun U => by unfold isT; dsimp only; rw [hi]) (fun U => by cases U <;> decide +kernel) (.base (.dT e1))
    · cases e'
  | cst c => cases e
def oIsi (Ts : List Ty) : AV → List AO → Option (AV × List AO) := fun x h => match Ts with
  | [] => none
  | [T] => (isT T h x).map fun b => (.bl b, h)
  | [T, U] => match isT T h x, isT U h x with
    | some a, some b => some (.bl (a || b), h)
    | _, _ => none
  | _ => none
theorem se_isi {T : Ty} {e : Expr} {x : Str} {me : AE} {p p2 pos : Pos} (hK : X.K = G.K) (hm : X.mg "isinstance" = none) (hmT : X.mg x = none) (hv : bootBuiltins x = some (.type T.nm)) (he : SE G X W e me) (hg : Gl X "isinstance" := by rfl) (hgT : Gl X x := by rfl)
    (hn : x ≠ "__name__" := by decide) (hd : (x == ("__debug__" : Str)) = false := by decide)
    (hst : starEach [e, .Name x p2] X.env = (false, eval e X.env) :: starEach [.Name x p2] X.env := by rfl) (hst2 : starEach [.Name x p2] X.env = (false, eval (.Name x p2) X.env) :: starEach [] X.env := by rfl) (hpl : (backTo pos (starEach [.Name x p2] X.env)).any (·.1) = false := by rfl) :
    SE G X W (.Call (.Name "isinstance" p) [e, .Name x p2] [] pos) (m1 (oIsi [T]) me) := by
  obtain ⟨t, pe, s⟩ := he
  refine ⟨_, pe_callB call_isi hg hm (by decide +kernel) (pa_cons pe (pa_cons (pe_bltn (v := .ty T.nm) hgT hmT hv rfl hn hd) pa_nil hst2) hst) (by decide) (by decide) hst hpl, ?_⟩
  intro σ H al e h r h' Q hr er hm q
  rcases bnd_some hm with ⟨cc, k, e1, rfl⟩ | ⟨y, h1, e1, e2⟩
  · exact s σ H al e h _ _ _ hr er e1 q
  · refine s σ H al e h _ _ _ hr er e1 ?_
    intro al1 H1 u x1 hr1 r1
    unfold oIsi at e2
    dsimp only at e2
    cases z : isT T h1 y with
    | none => rw [z] at e2; cases e2
    | some b =>
      rw [z] at e2; cases e2
      obtain ⟨nm, ty, kb⟩ := isT_ok hr1 r1 z
      exact ⟨u, .ty T.nm, .type nm, .type T.nm, b, rfl, .ty _, hK ▸ ty, kit_ty (kb T b z), q al1 H1 _ x1 hr1 .bl⟩
theorem se_isi2 {T U : Ty} {e : Expr} {x y : Str} {me : AE} {p p2 p3 p4 pos : Pos} {kk} (hK : X.K = G.K) (hm : X.mg "isinstance" = none) (hmT : X.mg x = none) (hv : bootBuiltins x = some (.type T.nm)) (hmU : X.mg y = none) (hvU : bootBuiltins y = some (.type U.nm)) (he : SE G X W e me) (hg : Gl X "isinstance" := by rfl) (hgT : Gl X x := by rfl) (hgU : Gl X y := by rfl)
    (hn : x ≠ "__name__" := by decide) (hd : (x == ("__debug__" : Str)) = false := by decide) (hn2 : y ≠ "__name__" := by decide) (hd2 : (y == ("__debug__" : Str)) = false := by decide)
    (hst : starEach [e, .Tuple [.Name x p2, .Name y p3] kk p4] X.env = (false, eval e X.env) :: starEach [.Tuple [.Name x p2, .Name y p3] kk p4] X.env := by rfl)
    (hst2 : starEach [.Tuple [.Name x p2, .Name y p3] kk p4] X.env = (false, eval (.Tuple [.Name x p2, .Name y p3] kk p4) X.env) :: starEach [] X.env := by rfl)
    (hst3 : starEach [.Name x p2, .Name y p3] X.env = (false, eval (.Name x p2) X.env) :: starEach [.Name y p3] X.env := by rfl) (hst4 : starEach [.Name y p3] X.env = (false, eval (.Name y p3) X.env) :: starEach [] X.env := by rfl)
    (hpl : (backTo pos (starEach [.Tuple [.Name x p2, .Name y p3] kk p4] X.env)).any (·.1) = false := by rfl) :
    SE G X W (.Call (.Name "isinstance" p) [e, .Tuple [.Name x p2, .Name y p3] kk p4] [] pos) (m1 (oIsi [T, U]) me) := by
  obtain ⟨t, pe, s⟩ := he
  refine ⟨_, pe_callB call_isiT hg hm (by decide +kernel) (pa_cons pe (pa_cons (pe_tup (pa_cons (pe_bltn (v := .ty T.nm) hgT hmT hv rfl hn hd) (pa_cons (pe_bltn (v := .ty U.nm) hgU hmU hvU rfl hn2 hd2) pa_nil hst4) hst3)) pa_nil hst2) hst) (by decide) (by decide) hst hpl, ?_⟩
  intro σ H al e h r h' Q hr er hm q
  rcases bnd_some hm with ⟨cc, k, e1, rfl⟩ | ⟨y, h1, e1, e2⟩
  · exact s σ H al e h _ _ _ hr er e1 q
  · refine s σ H al e h _ _ _ hr er e1 ?_
    intro al1 H1 u x1 hr1 r1
    refine ⟨by show 2 ≤ sizeLine; decide, fun tp htp => ?_⟩
    have hr2 : HR G al1 h1 (upd H1 tp (.tup [.ty T.nm, .ty U.nm])) := hr1.beside htp
    have x2 : Ext h1.length al1 H1 h1.length al1 (upd H1 tp (.tup [.ty T.nm, .ty U.nm])) := ext_beside htp
    unfold oIsi at e2
    dsimp only at e2
    cases z : isT T h1 y with
    | none => rw [z] at e2; cases e2
    | some a =>
      cases z2 : isT U h1 y with
      | none => rw [z, z2] at e2; cases e2
      | some b =>
        rw [z, z2] at e2; cases e2
        obtain ⟨nm, ty, kb⟩ := isT_ok hr2 (r1.mono x2) z
        refine ⟨u, tp, [.ty T.nm, .ty U.nm], .type nm, [.type T.nm, .type U.nm], a || b, rfl, upd_same, .cons (.ty _) (.cons (.ty _) .nil), hK ▸ ty, ?_, q al1 _ _ (x1.trans x2) hr2 .bl⟩
        exact kitAny_cons (kit_ty (kb T a z)) (fun hb => by subst hb; exact kitAny_cons (kit_ty (kb U b z2)) (fun hb => by subst hb; rfl) (fun hb => by subst hb; rfl)) (fun hb => by subst hb; rfl)
end
end SL
/-! SL5: defs, calls, methods, new instances; built-in methods. -/
namespace SL
open PySem PySem.Spec PyProof.Rows L2

/-! ### a def's promise, with the guards known -/
structure FnG (P : Program) (w : World) (K : PySem.W.Frag) (mg : Str → Option Value) (base : Heap) (k : Nat) (f : Addr) (fd : FuncData) (ps : List Str) (sp : Sp) : Prop where
  len : ∀ zs H Q E, sp zs H Q E → zs.length = ps.length
  run : ∀ (A : Around) (outer : List Env) (s : Shared) (H : Hp) (args : Args) (us : List Value) (vs : List V) (Q : VK) (E : XK), Room k A → A.guards = some [] → Env0 P w K mg base A outer s H → BindsTo s fd args (ps.zip us) → Vals vs us → sp vs H Q E →
    codeAny (model P w) A (.call (.ref f) args) (CR (L2.CX P w) outer P w H s Q E) s
theorem FnG.mono {P : Program} {w : World} {K : PySem.W.Frag} {mg : Str → Option Value} {base : Heap} {j k : Nat} {f : Addr} {fd : FuncData} {ps : List Str} {sp : Sp} (F : FnG P w K mg base j f fd ps sp) (h : j ≤ k) :
    FnG P w K mg base k f fd ps sp := ⟨F.len, fun A outer s H args us vs Q E hr => F.run A outer s H args us vs Q E (hr.mono h)⟩
theorem make_guards {A : Around} {C : Addr} {us : List Value} {kw : List (Str × Value)} : (A.under (.builtin "type.__call__" ⟨.ref C :: us, kw⟩)).guards = A.guards := by
  first | rfl | simp [Around.under, Code.guards, Code.isGuard, guardIds, pushGuards]

section
variable {P : Program} {w : World} {K : PySem.W.Frag} {mg : Str → Option Value} {base : Heap}
theorem fnG_of {k : Nat} {f : Addr} {name qual : Str} {params : Arguments} {body : List Stmt} {scope : Scope} {dV kV doc pm cdv ct oc : Value} {an od : Option Addr}
    {osl : Array (Option Value)} {N ps : List Str} {sp : Sp} (S : FnScope N ps scope) (lk : K.lookup f = some ⟨oc, od, .func (PySem.W.fnOf name qual params body scope dV kV doc pm an cdv ct), osl⟩) (hcd : PySem.W.codeIn K cdv qual = true)
    (len : ∀ zs H Q E, sp zs H Q E → zs.length = ps.length)
    (hbody : ∀ (A : Around) (outer : List Env) (s : Shared) (H : Hp) (vs : List V) (Q : VK) (E : XK), Room k (A.deeper (envOfC qual scope s.heap.objs.size f cdv)) → (A.deeper (envOfC qual scope s.heap.objs.size f cdv)).guards = some [] → sp vs H Q E →
      ∃ t, PSs (cxOf (L2.CX P w) P w K mg base N qual scope f cdv A outer s H E) body t ∧ t { nx := fun _ H' => Q .non H', rt := Q } (L2.start N vs) H) :
    FnG P w K mg base (k + 1) f (PySem.W.fnOf name qual params body scope dV kV doc pm an cdv ct) ps sp := by
  refine ⟨len, ?_⟩
  intro A outer t0 H args us vs Q E room noGuards start binds same want
  have kept := fun b o at_ => (start.bs b o at_).1
  have code := start.mod.kin.keeps kept
  apply codeAny_call_function room.depth (code _ _ lk) rfl S.co S.gen rfl (PySem.W.codeRec_of code hcd) (binds _ _ _ _ _)
  refine wpAny_newFunctionEnv_cells S.kind ?_ ?_
  · rintro ⟨n, _⟩ at_
    exact (S.par n (List.of_mem_zip at_).1).imp id fun cell => ⟨cell, PySem.W.cellsFrom_some _ _ _ (.inl cell)⟩
  · rintro _ rfl t1 begun
    refine ⟨(start.mod.nolimit.keeps kept).keeps begun.toInCall.keep, codeAny_func ?_⟩
    have ⟨_, walk, goal_⟩ := hbody A outer t0 H vs Q E (room.deeper _) noGuards want
    have inv : Inv (cxOf (L2.CX P w) P w K mg base N qual scope f cdv A outer t0 H E) [] _ H t1 := inv_start S room.hd start (len _ _ _ _ want) same begun
    apply wpAny_mono (walk.run [] t1 (L2.start N vs) H _ inv goal_)
    · intro fl t2 out
      match fl, out with
      | .ret _, ⟨v, _, H2, J, rv, q⟩ => exact ⟨v, H2, J.os, J.bare, J.base, J.hok, rv, q⟩
      | .next, ⟨_, H2, J, q⟩ => exact ⟨V.non, H2, J.os, J.bare, J.base, J.hok, rfl, q⟩
      | .brk, ⟨_, _, _, no⟩ => exact no.elim
      | .cont, ⟨_, _, _, no⟩ => exact no.elim
    · exact fun _ _ z => z
end

/-! ### a def by its function on abstract values -/
def spG (G : Gx) (np : Nat) (m : List AV → AM AV) : Sp := fun vs H Q E => ∃ al h avs r h', HR G al h H ∧ RAs G h.length al H avs vs ∧ avs.length = np ∧ m avs h = some (r, h') ∧
  match r with
  | .ok v => FwV G h.length al H v h' Q
  | .ex c k => FwX G h.length al H c k h' E
def mFn (N : Nat) (mb : AS) : List AV → AM AV := fun avs h => match mb (avs.map some ++ List.replicate (N - avs.length) none) h with
  | some (.nx _, h') => some (.ok .non, h')
  | some (.rt v, h') => some (.ok v, h')
  | some (.ex c k _, h') => some (.ex c k, h')
  | _ => none
theorem er_start {G : Gx} {n : Nat} {al : Nat → Addr} {H : Hp} {avs : List AV} {vs : List V} (N : List Str) (r : RAs G n al H avs vs) : ER G n al H (avs.map some ++ List.replicate (N.length - avs.length) none) (L2.start N vs) := by
  have hl := r.length
  unfold L2.start
  refine ⟨by simp only [List.length_append, List.length_map, List.length_replicate, hl], fun i v e => ?_⟩
  by_cases hi : i < avs.length
  · rw [List.getElem?_append_left (by simpa using hi), List.getElem?_map] at e
    cases q : avs[i]? with
    | none => rw [q] at e; exact nomatch e
    | some a =>
      rw [q] at e; cases e
      obtain ⟨u, hu, ru⟩ := r.get q
      refine ⟨u, ?_, ru⟩
      rw [List.getElem?_append_left (by simpa [← hl] using hi), List.getElem?_map, hu]
      rfl
  · rw [List.getElem?_append_right (by simpa using hi), List.getElem?_replicate] at e
    split at e <;> cases e
section
variable {f : Addr} {fd : FuncData} {P : Program} {w : World} {K : PySem.W.Frag} {mg : Str → Option Value} {base : Heap} {x qual : Str} {body : List Stmt} {params : Arguments} {scope : Scope} {kws : List (Str × V)} {dvs : List V}
/-- THE RULE for a def -/
theorem okG {G : Gx} {N ps : List Str} {k np : Nat} {mb : AS} (F : FunD K x qual params body scope dvs kws f fd) (S : FnScope N ps scope) (hn : ps.length = np)
    (hb : ∀ (cdv : Value) (A : Around) (outer : List Env) (s : Shared) (H : Hp) (E : XK), Room k (A.deeper (envOfC qual scope s.heap.objs.size f cdv)) → (A.deeper (envOfC qual scope s.heap.objs.size f cdv)).guards = some [] →
      SB G (cxOf (L2.CX P w) P w K mg base N qual scope f cdv A outer s H E) (fun cls d _ H => E cls d H) body mb) : FnG P w K mg base (k + 1) f fd ps (spG G np (mFn N.length mb)) := by
  have ⟨_, _, _, _, _, _, _, cdv, _, _, same, here, code, _⟩ := F.ex
  subst same
  refine fnG_of S here code (fun vs H Q E h => ?_) fun A outer s H vs Q E hr hgu h => ?_
  · obtain ⟨al, hh, avs, r, h', _, rs, hl, _⟩ := h
    rw [← rs.length, hl, hn]
  · obtain ⟨t, pt, st⟩ := hb cdv A outer s H E hr hgu
    refine ⟨t, pt, ?_⟩
    obtain ⟨al, hh, avs, r, h', hR, rs, hl, hm, q⟩ := h
    unfold mFn at hm
    split at hm
    · rename_i e1 h1 e2
      cases hm
      exact st _ H al _ hh _ _ _ hR (er_start N rs) e2 fun al' H' σ' x' hr' _ => q al' H' .non x' hr' .non
    · rename_i v h1 e2
      cases hm
      exact st _ H al _ hh _ _ _ hR (er_start N rs) e2 q
    · rename_i c k' e1 h1 e2
      cases hm
      exact st _ H al _ hh _ _ _ hR (er_start N rs) e2 fun al' H' σ' x' hr' _ al2 x2 hr2 hk hx => q al2 H' x2 hr2 hk hx
    · cases hm
end

/-! ### calls -/
section
variable {G : Gx} {X : Cx} {W : WX} {k np : Nat} {f C : Addr} {fd : FuncData} {ps : List Str} {sp : Sp} {m : List AV → AM AV} {dvs : List V} {davs : List AV} {ds : List Value} {x : Str} {p pos apos : Pos} {e o : Expr} {es : List Expr}
theorem run_fnG {pins : List (Addr × Obj)} {σ : L2.St} {H : Hp} {s : Shared} {Q : VK} {E : XK} {us : List Value} {vs : List V} (F : FnG X.prog X.w X.K X.mg X.base k f fd ps sp) (hr : Room k X.A) (hgu : X.A.guards = some []) (hb : Binds X.K fd ps ds) (hd : Vals dvs ds) (hx : PassesAt (L2.CX X.prog X.w) X σ E)
    (I : Inv X pins σ H s) (same : Vals vs us) (want : sp (vs ++ dvs) H Q E) : wpAny (model X.prog X.w) X.A (call (.ref f) us) (EP X pins σ Q) X.xe s := by
  have all := same.append hd
  have cnt : (us ++ ds).length = ps.length := (F.len _ _ _ _ want) ▸ all.length.symm
  apply wpAny_call
  apply codeAny_mono (F.run X.A X.stack s H ⟨us, []⟩ _ _ Q E hr hgu I.env0 (hb s us I.kIn cnt) all want)
  intro r t ended
  match r, ended with
  | .ok (.ret u), ended => exact I.after ended
  | .error er, ended => exact hx pins H s er t I ended
  | .ok .next, ended | .ok .brk, ended | .ok .cont, ended => exact ended.elim
theorem pe_callG (F : FnG X.prog X.w X.K X.mg X.base k f fd ps sp) (hr : Room k X.A) (hgu : X.A.guards = some []) (hg : Gl X x) (hm : X.mg x = some (.ref f)) (hk : PySem.W.keepIn X.K (.ref f) = true) (hb : Binds X.K fd ps ds) (hd : Vals dvs ds) {E : L2.St → XK} (hx : ∀ σ, PassesAt (L2.CX X.prog X.w) X σ (E σ)) {t : TA}
    (args : PA X (e :: es) t) (notDebug : (x == ("__debug__" : Str)) = false := by decide) (fst : starEach (e :: es) X.env = (false, eval e X.env) :: starEach es X.env := by rfl) (noStar : (backTo pos (starEach es X.env)).any (·.1) = false := by rfl) :
    PE X (.Call (.Name x p) (e :: es) [] pos) (fun σ H Q => t σ H fun vs H1 => sp (vs ++ dvs) H1 Q (E σ)) := by
  constructor
  intro pins s σ H Q I h
  apply wpAny_Call_Name_kw (ld_glob I hg hm _ notDebug)
  have each := args.run pos pins s σ H _ I h
  apply PySem.W.callWith_K (h₀ := X.base) I.ok.mod.kin hk _ fst noStar
  apply thn each
  rintro us t ⟨vs, H1, J, same, want⟩
  exact ⟨J.kIn, run_fnG F hr hgu hb hd (hx σ) J same want⟩
def mCall (m : List AV → AM AV) (davs : List AV) (ma : AEnv → AM (List AV)) : AE := fun e h => bnd (ma e h) fun vs h1 => m (vs ++ davs) h1
/-- the arguments have come -/
theorem spG_in {σ : L2.St} {H H1 : Hp} {al al1 : Nat → Addr} {n0 : Nat} {h1 h' : List AO} {avs : List AV} {vs : List V} {r : Rs AV} {Q : VK} (hl : avs.length = np) (x1 : Ext n0 al H h1.length al1 H1) (hr1 : HR G al1 h1 H1) (rs : RAs G h1.length al1 H1 avs vs) (em : m avs h1 = some (r, h')) (q : PoE G W n0 al H σ r h' Q) :
    spG G np m vs H1 Q (WE W σ) := by
  refine ⟨al1, h1, avs, r, h', hr1, rs, hl, em, ?_⟩
  cases r with
  | ok v => exact FwV.after x1 q
  | ex c k => exact FwX.after (E := fun cls d H' => W cls d σ H') x1 q
theorem se_call (F : FnG X.prog X.w X.K X.mg X.base k f fd ps (spG G np m)) (hr : Room k X.A) (hgu : X.A.guards = some []) (hm : X.mg x = some (.ref f)) (hk : PySem.W.keepIn X.K (.ref f) = true) (hb : Binds X.K fd ps ds) (hd : Vals dvs ds) (hda : ∀ n al H, RAs G n al H davs dvs) (tk : Takes X W)
    {ma : AEnv → AM (List AV)} (hna : (e :: es).length + davs.length = np) (hla : ∀ en h vs h', ma en h = some (.ok vs, h') → vs.length = (e :: es).length) (ha : SA G X W (e :: es) ma) (hg : Gl X x := by rfl) (hdb : (x == ("__debug__" : Str)) = false := by decide)
    (he : starEach (e :: es) X.env = (false, eval e X.env) :: starEach es X.env := by rfl) (hpl : (backTo pos (starEach es X.env)).any (·.1) = false := by rfl) : SE G X W (.Call (.Name x p) (e :: es) [] pos) (mCall m davs ma) := by
  obtain ⟨t, pa, sa⟩ := ha
  refine ⟨_, pe_callG F hr hgu hg hm hk hb hd (fun σ => passAt tk σ) pa hdb he hpl, ?_⟩
  intro σ H al en h r h' Q hR er em q
  rcases bnd_some em with ⟨c, kk, e1, rfl⟩ | ⟨vs, h1, e1, e2⟩
  · exact sa σ H al en h _ _ _ hR er e1 q
  · refine sa σ H al en h _ _ _ hR er e1 ?_
    intro al1 H1 us x1 hr1 r1
    exact spG_in (by rw [List.length_append, hla _ _ _ _ e1]; exact hna) x1 hr1 (r1.append (hda _ _ _)) e2 q

/-! ### methods -/
def mMeth (c : Nat) (nm : Str) (m : List AV → AM AV) (davs : List AV) (mo : AE) (ma : AEnv → AM (List AV)) : AE := fun e h => bnd (mo e h) fun x h1 => match x with
  | .ref i => match h1[i]? with
    | some (.ins d fs) => if d = c ∧ fs.lookup nm = none then bnd (ma e h1) fun vs h2 => m (.ref i :: (vs ++ davs)) h2 else none
    | _ => none
  | _ => none
theorem pe_methG {pl : Sem Bool} {nm : Str} {ta : TE} {t : TA} {E : L2.St → XK} (he : PE X o ta) (c : Cls X.K C) (hm : Meth X.K C nm f) (F : FnG X.prog X.w X.K X.mg X.base k f fd ps sp) (hr : Room k X.A) (hgu : X.A.guards = some []) (hb : Binds X.K fd ps ds) (hd : Vals dvs ds) (hx : ∀ σ, PassesAt (L2.CX X.prog X.w) X σ (E σ)) (ha : PA X (e :: es) t)
    (hst : starEach (e :: es) X.env = (false, eval e X.env) :: starEach es X.env := by rfl) (hpl : (backTo pos (starEach es X.env)).any (·.1) = false := by rfl)
    (ht : eval (.Call (.Attribute o nm apos) (e :: es) [] pos) X.env = (do
      let ov ← eval o X.env
      standAt apos.atName
      let (f, first) ← holding [ov] (getMethod ov nm pl)
      callWith pos f first (backTo pos (starEach (e :: es) X.env)) (backToKw pos (keywordEach [] X.env))) := by rfl) :
    PE X (.Call (.Attribute o nm apos) (e :: es) [] pos) (fun σ H Q => ta σ H fun x H1 => ∃ a dx fs, x = .ref a ∧ H1 a = some (.ins C dx fs) ∧ fs.lookup nm = none ∧ t σ H1 fun vs H2 => sp (x :: (vs ++ dvs)) H2 Q (E σ)) := by
  refine ⟨fun pins s σ H Q I h => ?_⟩
  refine PySem.W.methodCall_KW (pl := pl) (thn (he.run pins s σ H _ I h) fun u s1 ⟨x, H1, I1, rx, a, dx, fs, ex, ea, l, q⟩ => ?_) ht
  subst ex
  obtain rfl : u = Value.ref a := rx
  refine getmeth_ok I1 ea c hm l ?_
  refine PySem.W.callWith_K (first := [.ref a]) (h₀ := X.base) I.ok.mod.kin hm.kp (thn (ha.run pos pins s1 σ H1 _ I1 q) fun us s2 ⟨vs, H2, I2, r, q2⟩ => ⟨I2.kIn, ?_⟩) hst hpl
  exact run_fnG (us := .ref a :: us) (vs := .ref a :: vs) F hr hgu hb hd (hx σ) I2 (.cons rfl r) q2
theorem pe_methG0 {pl : Sem Bool} {nm : Str} {ta : TE} {E : L2.St → XK} (he : PE X o ta) (c : Cls X.K C) (hm : Meth X.K C nm f) (F : FnG X.prog X.w X.K X.mg X.base k f fd ps sp) (hr : Room k X.A) (hgu : X.A.guards = some []) (hb : Binds X.K fd ps ds) (hd : Vals dvs ds) (hx : ∀ σ, PassesAt (L2.CX X.prog X.w) X σ (E σ))
    (ht : eval (.Call (.Attribute o nm apos) [] [] pos) X.env = (do
      let obj ← eval o X.env
      standAt apos.atName
      let fw ← holding [obj] (getMethod obj nm pl)
      callWith pos fw.1 fw.2 (backTo pos (starEach [] X.env)) (backToKw pos (keywordEach [] X.env))) := by rfl) :
    PE X (.Call (.Attribute o nm apos) [] [] pos) (fun σ H Q => ta σ H fun x H1 => ∃ a dx fs, x = .ref a ∧ H1 a = some (.ins C dx fs) ∧ fs.lookup nm = none ∧ tNil σ H1 fun vs H2 => sp (x :: (vs ++ dvs)) H2 Q (E σ)) := by
  refine ⟨fun pins s σ H Q I h => ?_⟩
  refine PySem.W.methodCall_KW (pl := pl) (thn (he.run pins s σ H _ I h) fun u s1 ⟨x, H1, I1, rx, a, dx, fs, ex, ea, l, q⟩ => ?_) ht
  subst ex
  obtain rfl : u = Value.ref a := rx
  refine getmeth_ok I1 ea c hm l ?_
  exact PySem.W.callWith_K0 (first := [.ref a]) I1.kIn hm.kp (run_fnG (us := [.ref a]) (vs := [.ref a]) F hr hgu hb hd (hx σ) I1 (.cons rfl .nil) q)
theorem snd_meth {c : Nat} {nm : Str} {ta : TE} {t : TA} {mo : AE} {ma : AEnv → AM (List AV)} {n1 : Nat} (so : SndE G W ta mo) (sa : SndA G W t ma) (hla : ∀ en h vs h', ma en h = some (.ok vs, h') → vs.length = n1) (hn : n1 + davs.length + 1 = np) (hda : ∀ n al H, RAs G n al H davs dvs) :
    SndE G W (fun σ H Q => ta σ H fun x H1 => ∃ a dx fs, x = .ref a ∧ H1 a = some (.ins (G.cl c) dx fs) ∧ fs.lookup nm = none ∧ t σ H1 fun vs H2 => spG G np m (x :: (vs ++ dvs)) H2 Q (WE W σ)) (mMeth c nm m davs mo ma) := by
  intro σ H al en h r h' Q hR er em q
  rcases bnd_some em with ⟨cc, kk, e1, rfl⟩ | ⟨v, h1, e1, e2⟩
  · exact so σ H al en h _ _ _ hR er e1 q
  · refine so σ H al en h _ _ _ hR er e1 ?_
    intro al1 H1 u x1 hr1 r1
    cases v with
    | ref i =>
      dsimp only at e2
      split at e2
      · rename_i d fs hi
        split at e2
        · rename_i hd
          obtain ⟨rfl, hno⟩ := hd
          obtain ⟨dx, gs, e4, rf⟩ := insAt hr1 hi
          have l2 : gs.lookup nm = none := by
            rcases rf.lookup (x := nm) with ⟨_, z⟩ | ⟨v2, u2, l1, _, _⟩
            · exact z
            · rw [hno] at l1; cases l1
          refine ⟨al1 i, dx, gs, refAt r1, e4, l2, ?_⟩
          rcases bnd_some e2 with ⟨cc, kk, e3, rfl⟩ | ⟨vs, h2, e3, e5⟩
          · exact sa σ H1 al1 en h1 _ _ _ hr1 (er.mono x1) e3 (PoA.after (r := .ex cc kk) x1 q)
          · refine sa σ H1 al1 en h1 _ _ _ hr1 (er.mono x1) e3 ?_
            intro al2 H2 us x2 hr2 r2
            refine spG_in (avs := .ref i :: (vs ++ davs)) ?_ (x1.trans x2) hr2 (.cons (r1.mono x2) (r2.append (hda _ _ _))) e5 q
            rw [List.length_cons, List.length_append, hla _ _ _ _ e3]; exact hn
        · cases e2
      · cases e2
    | _ => cases e2
theorem se_meth {c : Nat} {pl : Sem Bool} {nm : Str} {mo : AE} {ma : AEnv → AM (List AV)} (hK : X.K = G.K) (hc : Cls G.K (G.cl c)) (hme : Meth G.K (G.cl c) nm f) (F : FnG X.prog X.w X.K X.mg X.base k f fd ps (spG G np m)) (hr : Room k X.A) (hgu : X.A.guards = some []) (hb : Binds X.K fd ps ds) (hd : Vals dvs ds) (hda : ∀ n al H, RAs G n al H davs dvs) (tk : Takes X W)
    (hn : (e :: es).length + davs.length + 1 = np) (hla : ∀ en h vs h', ma en h = some (.ok vs, h') → vs.length = (e :: es).length) (ho : SE G X W o mo) (ha : SA G X W (e :: es) ma)
    (hst : starEach (e :: es) X.env = (false, eval e X.env) :: starEach es X.env := by rfl) (hpl : (backTo pos (starEach es X.env)).any (·.1) = false := by rfl)
    (ht : eval (.Call (.Attribute o nm apos) (e :: es) [] pos) X.env = (do
      let ov ← eval o X.env
      standAt apos.atName
      let (f, first) ← holding [ov] (getMethod ov nm pl)
      callWith pos f first (backTo pos (starEach (e :: es) X.env)) (backToKw pos (keywordEach [] X.env))) := by rfl) : SE G X W (.Call (.Attribute o nm apos) (e :: es) [] pos) (mMeth c nm m davs mo ma) := by
  obtain ⟨to, po, so⟩ := ho
  obtain ⟨t, pa, sa⟩ := ha
  exact ⟨_, pe_methG (pl := pl) po (hK ▸ hc) (hK ▸ hme) F hr hgu hb hd (fun σ => passAt tk σ) pa hst hpl ht, snd_meth so sa hla hn hda⟩
theorem se_meth0 {c : Nat} {pl : Sem Bool} {nm : Str} {mo : AE} (hK : X.K = G.K) (hc : Cls G.K (G.cl c)) (hme : Meth G.K (G.cl c) nm f) (F : FnG X.prog X.w X.K X.mg X.base k f fd ps (spG G np m)) (hr : Room k X.A) (hgu : X.A.guards = some []) (hb : Binds X.K fd ps ds) (hd : Vals dvs ds) (hda : ∀ n al H, RAs G n al H davs dvs) (tk : Takes X W)
    (hn : davs.length + 1 = np) (ho : SE G X W o mo)
    (ht : eval (.Call (.Attribute o nm apos) [] [] pos) X.env = (do
      let obj ← eval o X.env
      standAt apos.atName
      let fw ← holding [obj] (getMethod obj nm pl)
      callWith pos fw.1 fw.2 (backTo pos (starEach [] X.env)) (backToKw pos (keywordEach [] X.env))) := by rfl) : SE G X W (.Call (.Attribute o nm apos) [] [] pos) (mMeth c nm m davs mo mNil) := by
  obtain ⟨to, po, so⟩ := ho
  exact ⟨_, pe_methG0 (pl := pl) po (hK ▸ hc) (hK ▸ hme) F hr hgu hb hd (fun σ => passAt tk σ) ht, snd_meth (n1 := 0) so snd_nil (fun _ _ _ _ z => by cases z; rfl) (by omega) hda⟩

/-! ### C(..) -/
theorem run_makeG {pins : List (Addr × Obj)} {σ : L2.St} {H : Hp} {s : Shared} {Q : VK} {E : XK} {us : List Value} {vs : List V} (M : Mk X.K C f) (F : FnG X.prog X.w X.K X.mg X.base k f fd ps sp) (hr : Room (k + 1) X.A) (hgu : X.A.guards = some []) (hb : Binds X.K fd ps ds) (hd : Vals dvs ds)
    (hx : PassesAt (L2.CX X.prog X.w) X σ E) (I : Inv X pins σ H s) (r : Vals vs us) (h : ∀ o d, H o = none → H d = none → d ≠ o → sp (.ref o :: (vs ++ dvs)) (upd (upd H d (.own o)) o (.ins C d [])) (fun v H2 => v = .non ∧ Q (.ref o) H2) E) : wpAny (model X.prog X.w) X.A (call (.ref C) us) (EP X pins σ Q) X.xe s := by
  generalize sz : s.heap.objs.size = d
  have want := h (d + 1) d (I.hok.fresh (by omega)) (I.hok.fresh (by omega)) (Nat.ne_of_lt (Nat.lt_succ_self d))
  have made := Inv.made (C := C) I
  rw [sz] at made
  have all : Vals (V.ref (d + 1) :: (vs ++ dvs)) (Value.ref (d + 1) :: (us ++ ds)) := .cons rfl (r.append hd)
  have cnt : (Value.ref (d + 1) :: us ++ ds).length = ps.length := (F.len _ _ _ _ want) ▸ all.length.symm
  apply wpAny_call
  apply make_map (f := f) I.kIn M.makes M.init (beq_iff_eq.mp M.fn)
  rw [sz]
  apply codeAny_mono (F.run _ X.stack _ _ ⟨Value.ref (d + 1) :: us, []⟩ _ _ _ E (hr.make C us []) (make_guards.trans hgu) (made.env0.make C us []) (hb _ (Value.ref (d + 1) :: us) made.kIn cnt) all want)
  intro r t ended
  match r, ended with
  | .ok (.ret u), ended =>
    have ⟨v, H2, I2, rv, none_, q⟩ := made.after ended
    cases none_
    exact ⟨rv, ⟨V.ref (d + 1), H2, I2, rfl, q⟩⟩
  | .error er, ended => exact hx pins _ _ er t made ended
  | .ok .next, ended | .ok .brk, ended | .ok .cont, ended => exact ended.elim
def mMake (c : Nat) (m : List AV → AM AV) (davs : List AV) (ma : AEnv → AM (List AV)) : AE := fun e h => bnd (ma e h) fun vs h1 => bnd (m (.ref h1.length :: (vs ++ davs)) (h1 ++ [.ins c []])) fun v h2 => match v with
  | .non => some (.ok (.ref h1.length), h2)
  | _ => none
theorem snd_make {c : Nat} {t : TA} {ma : AEnv → AM (List AV)} {n1 : Nat} (sa : SndA G W t ma) (hla : ∀ en h vs h', ma en h = some (.ok vs, h') → vs.length = n1) (hn : n1 + davs.length + 1 = np) (hda : ∀ n al H, RAs G n al H davs dvs) :
    SndE G W (fun σ H Q => t σ H fun vs H1 => ∀ x dx, H1 x = none → H1 dx = none → dx ≠ x → spG G np m (.ref x :: (vs ++ dvs)) (upd (upd H1 dx (.own x)) x (.ins (G.cl c) dx [])) (fun v H2 => v = .non ∧ Q (.ref x) H2) (WE W σ)) (mMake c m davs ma) := by
  intro σ H al en h r h' Q hR er em q
  rcases bnd_some em with ⟨cc, kk, e1, rfl⟩ | ⟨vs, h1, e1, e2⟩
  · exact sa σ H al en h _ _ _ hR er e1 q
  · refine sa σ H al en h _ _ _ hR er e1 ?_
    intro al1 H1 us x1 hr1 r1 x dx hx hdx hne
    have ha : HR G al1 h1 (upd H1 dx (.own x)) := hr1.beside hdx
    have xa : Ext h1.length al1 H1 h1.length al1 (upd H1 dx (.own x)) := ext_beside hdx
    have hx2 : upd H1 dx (.own x) x = none := by rw [upd_ne (Ne.symm hne)]; exact hx
    have hb : HR G (ext1 al1 h1.length x) (h1 ++ [.ins c []]) (upd (upd H1 dx (.own x)) x (.ins (G.cl c) dx [])) := ha.new hx2 ⟨dx, [], upd_same, trivial⟩
    have hlen : (h1 ++ [AO.ins c []]).length = h1.length + 1 := by rw [List.length_append, List.length_singleton]
    have xb : Ext h1.length al1 H1 (h1 ++ [AO.ins c []]).length (ext1 al1 h1.length x) (upd (upd H1 dx (.own x)) x (.ins (G.cl c) dx [])) := by
      rw [hlen]; exact xa.trans (ext_new hx2)
    have rx : RA G (h1 ++ [AO.ins c []]).length (ext1 al1 h1.length x) (upd (upd H1 dx (.own x)) x (.ins (G.cl c) dx [])) (.ref h1.length) (.ref x) := by
      have r0 : RA G (h1 ++ [AO.ins c []]).length (ext1 al1 h1.length x) (upd (upd H1 dx (.own x)) x (.ins (G.cl c) dx [])) (.ref h1.length) (.ref (ext1 al1 h1.length x h1.length)) := .ref (by rw [hlen]; omega)
      rw [ext1_at] at r0
      exact r0
    rcases bnd_some e2 with ⟨cc, kk, e3, rfl⟩ | ⟨v, h2, e3, e4⟩
    · exact ⟨_, _, .ref h1.length :: (vs ++ davs), .ex cc kk, h', hb, .cons rx ((r1.mono xb).append (hda _ _ _)), by rw [List.length_cons, List.length_append, hla _ _ _ _ e1]; exact hn, e3, FwX.after (E := fun cls d H' => W cls d σ H') (x1.trans xb) q⟩
    · refine ⟨_, _, .ref h1.length :: (vs ++ davs), .ok v, h2, hb, .cons rx ((r1.mono xb).append (hda _ _ _)), by rw [List.length_cons, List.length_append, hla _ _ _ _ e1]; exact hn, e3, ?_⟩
      intro al2 H2 u x2 hr2 r2
      cases v with
      | non =>
        cases e4
        cases r2
        exact ⟨rfl, q al2 H2 _ ((x1.trans xb).trans x2) hr2 (rx.mono x2)⟩
      | _ => cases e4
theorem se_make {c : Nat} {ma : AEnv → AM (List AV)} (hK : X.K = G.K) (M : Mk G.K (G.cl c) f) (F : FnG X.prog X.w X.K X.mg X.base k f fd ps (spG G np m)) (hr : Room (k + 1) X.A) (hgu : X.A.guards = some []) (hm : X.mg x = some (.ref (G.cl c))) (hb : Binds X.K fd ps ds) (hd : Vals dvs ds) (hda : ∀ n al H, RAs G n al H davs dvs) (tk : Takes X W)
    (hn : (e :: es).length + davs.length + 1 = np) (hla : ∀ en h vs h', ma en h = some (.ok vs, h') → vs.length = (e :: es).length) (ha : SA G X W (e :: es) ma) (hg : Gl X x := by rfl) (hdb : (x == ("__debug__" : Str)) = false := by decide)
    (he : starEach (e :: es) X.env = (false, eval e X.env) :: starEach es X.env := by rfl) (hpl : (backTo pos (starEach es X.env)).any (·.1) = false := by rfl) : SE G X W (.Call (.Name x p) (e :: es) [] pos) (mMake c m davs ma) := by
  obtain ⟨t, pa, sa⟩ := ha
  refine ⟨_, ?_, snd_make sa hla hn hda⟩
  have M' : Mk X.K (G.cl c) f := hK ▸ M
  constructor
  intro pins s σ H Q I h
  apply wpAny_Call_Name_kw (ld_glob I hg hm _ hdb)
  have each := pa.run pos pins s σ H _ I h
  apply PySem.W.callWith_K (h₀ := X.base) I.ok.mod.kin M'.kp _ he hpl
  apply thn each
  rintro us t ⟨vs, H1, J, same, want⟩
  exact ⟨J.kIn, run_makeG M' F hr hgu hb hd (passAt tk σ) J same want⟩

/-! ### keywords -/
def SK (G : Gx) (X : Cx) (W : WX) (kws : List Keyword) (m : AEnv → AM (List AV)) : Prop := ∃ t, PK X kws t ∧ SndA G W t m
theorem sk_nil : SK G X W [] mNil := ⟨_, pk_nil, snd_nil⟩
theorem sk_cons {kpos : Pos} {kws : List Keyword} {nm : Option Str} {ma : AE} {mr : AEnv → AM (List AV)} (ha : SE G X W e ma) (hb : SK G X W kws mr) : SK G X W (⟨nm, e, kpos⟩ :: kws) (mCons ma mr) :=
  let ⟨_, p, s⟩ := ha; let ⟨_, p', s'⟩ := hb; ⟨_, pk_cons p p', snd_cons s s'⟩
/-- f(e, .., k = v, ..): the positional values, then the keywords' ones, g puts them in the parameters' order -/
def mCallK (m : List AV → AM AV) (g : List AV → List AV → List AV) (ma mk : AEnv → AM (List AV)) : AE := fun e h => bnd (ma e h) fun vs h1 => bnd (mk e h1) fun zs h2 => m (g vs zs) h2
theorem run_fnKG {pins : List (Addr × Obj)} {σ : L2.St} {H : Hp} {s : Shared} {Q : VK} {E : XK} {n1 : Nat} {ks : List Str} {g : List Value → List Value → List Value} {gV : List V → List V → List V} {us ws : List Value} {vs zs : List V} (F : FnG X.prog X.w X.K X.mg X.base k f fd ps sp) (hr : Room k X.A) (hgu : X.A.guards = some []) (hb : KBn X.K fd ps n1 ks g gV) (hx : PassesAt (L2.CX X.prog X.w) X σ E)
    (I : Inv X pins σ H s) (r : Vals vs us) (rz : Vals zs ws) (l1 : us.length = n1) (l2 : ws.length = ks.length) (h : sp (gV vs zs) H Q E) : wpAny (model X.prog X.w) X.A (call (.ref f) us (ks.zip ws)) (EP X pins σ Q) X.xe s := by
  apply wpAny_call
  apply codeAny_mono (F.run X.A X.stack s H ⟨us, ks.zip ws⟩ (g us ws) (gV vs zs) Q E hr hgu I.env0 (hb.to s us ws I.kIn l1 l2) (hb.rel r rz) h)
  intro r t ended
  match r, ended with
  | .ok (.ret u), ended => exact I.after ended
  | .error er, ended => exact hx pins H s er t I ended
  | .ok .next, ended | .ok .brk, ended | .ok .cont, ended => exact ended.elim
theorem se_callK {n1 : Nat} {ks : List Str} {kws : List Keyword} {g : List Value → List Value → List Value} {gV : List V → List V → List V} {gA : List AV → List AV → List AV} {ma mk : AEnv → AM (List AV)} (F : FnG X.prog X.w X.K X.mg X.base k f fd ps (spG G np m)) (hr : Room k X.A) (hgu : X.A.guards = some []) (hm : X.mg x = some (.ref f)) (hk : PySem.W.keepIn X.K (.ref f) = true)
    (hb : KBn X.K fd ps n1 ks g gV) (hgA : ∀ n al H vs us zs ws, RAs G n al H vs us → RAs G n al H zs ws → RAs G n al H (gA vs zs) (gV us ws)) (hlg : ∀ vs zs : List AV, vs.length = n1 → zs.length = ks.length → (gA vs zs).length = np) (tk : Takes X W)
    (hla : ∀ en h vs h', ma en h = some (.ok vs, h') → vs.length = n1) (hlk : ∀ en h vs h', mk en h = some (.ok vs, h') → vs.length = ks.length) (ha : SA G X W (e :: es) ma) (hkw : SK G X W kws mk)
    (hall : (backToKw pos (keywordEach kws X.env)).all (·.1.isSome) = true := by rfl) (hks : (backToKw pos (keywordEach kws X.env)).filterMap (·.1) = ks := by rfl)
    (hg : Gl X x := by rfl) (hdb : (x == ("__debug__" : Str)) = false := by decide) (he : starEach (e :: es) X.env = (false, eval e X.env) :: starEach es X.env := by rfl)
    (hpl : ((backTo pos (starEach (e :: es) X.env)).any (·.1) || (backToKw pos (keywordEach kws X.env)).any (·.1.isNone)) = false := by rfl) : SE G X W (.Call (.Name x p) (e :: es) kws pos) (mCallK m gA ma mk) := by
  obtain ⟨t, pa, sa⟩ := ha
  obtain ⟨t2, pk, sk⟩ := hkw
  refine ⟨fun σ H Q => t σ H fun vs H1 => t2 σ H1 fun zs H2 => (vs.length = n1 ∧ zs.length = ks.length) ∧ spG G np m (gV vs zs) H2 Q (WE W σ), ?_, ?_⟩
  · refine ⟨fun pins s σ H Q I h => ?_⟩
    apply wpAny_Call_Name_kw (ld_glob I hg hm _ hdb)
    refine PySem.W.callWith_KW (h₀ := X.base) I.ok.mod.kin hk hall (thn (pa.run pos pins s σ H _ I h) fun us s1 ⟨vs, H1, I1, r, q⟩ => ?_) hpl he
    refine thn (pk.run pos pins s1 σ H1 _ I1 q) fun ws s2 ⟨zs, H2, I2, rz, ⟨l1, l2⟩, q2⟩ => ⟨I2.kIn, ?_⟩
    rw [hks]
    exact run_fnKG F hr hgu hb (passAt tk σ) I2 r rz (by first | (rw [← r.length]; exact l1) | (rw [List.nil_append, ← r.length]; exact l1)) (by rw [← rz.length]; exact l2) q2
  · intro σ H al en h r h' Q hR er em q
    rcases bnd_some em with ⟨c, kk, e1, rfl⟩ | ⟨vs, h1, e1, e2⟩
    · exact sa σ H al en h _ _ _ hR er e1 q
    · refine sa σ H al en h _ _ _ hR er e1 ?_
      intro al1 H1 us x1 hr1 r1
      rcases bnd_some e2 with ⟨c, kk, e3, rfl⟩ | ⟨zs, h2, e3, e4⟩
      · exact sk σ H1 al1 en h1 _ _ _ hr1 (er.mono x1) e3 (PoA.after (r := .ex c kk) x1 q)
      · refine sk σ H1 al1 en h1 _ _ _ hr1 (er.mono x1) e3 ?_
        intro al2 H2 ws x2 hr2 r2
        have l1 := hla _ _ _ _ e1
        have l2 := hlk _ _ _ _ e3
        exact ⟨⟨by rw [← r1.length]; exact l1, by rw [← r2.length]; exact l2⟩, spG_in (hlg vs zs l1 l2) (x1.trans x2) hr2 (hgA _ _ _ _ _ _ _ (r1.mono x2) r2) e4 q⟩
end
/-- how many values an argument list has -/
theorem len_nil {en : AEnv} {h h' : List AO} {vs : List AV} (e : mNil en h = some (.ok vs, h')) : vs.length = 0 := by cases e; rfl
theorem len_cons {n : Nat} {ma : AE} {mr : AEnv → AM (List AV)} (ih : ∀ en h vs h', mr en h = some (.ok vs, h') → vs.length = n) : ∀ en h vs h', mCons ma mr en h = some (.ok vs, h') → vs.length = n + 1 := fun en h vs h' e => by
  rcases bnd_some e with ⟨c, k, _, z⟩ | ⟨x, h1, _, e2⟩
  · cases z
  · rcases bnd_some e2 with ⟨c, k, _, z⟩ | ⟨xs, h2, e3, e4⟩
    · cases z
    · cases e4
      rw [List.length_cons, ih _ _ _ _ e3]
end SL
/-! SL6: methods of built-in types, dicts with keys ints and texts. -/
namespace SL
open PySem PySem.Spec PyProof.Rows L2
section
variable {G : Gx} {X : Cx} {W : WX}

/-! ### o.m(..) of a built-in type -/
def tyA (T : Ty) (h : List AO) (x : AV) : Bool := match T, x with
  | .str, .str _ => true
  | .lst, .ref i => match h[i]? with
    | some (.lst _) => true
    | _ => false
  | .tup, .tup _ => true
  | _, _ => false
def SndM (G : Gx) (r : V → List V → Hp → VK → Prop) (f : AV → List AV → List AO → Option (AV × List AO)) : Prop := ∀ H al h x xs u us v h' (Q : VK), HR G al h H → RA G h.length al H x u → RAs G h.length al H xs us → f x xs h = some (v, h') → FwV G h.length al H v h' Q → r u us H Q
def mBM (T : Ty) (f : AV → List AV → List AO → Option (AV × List AO)) (mo : AE) (ma : AEnv → AM (List AV)) : AE := fun e h => bnd (mo e h) fun x h1 => if tyA T h1 x = true then bnd (ma e h1) fun xs h2 => match f x xs h2 with
  | some (v, h3) => some (.ok v, h3)
  | none => none
  else none
theorem tyA_ok {T : Ty} {al : Nat → Addr} {h : List AO} {H : Hp} {x : AV} {u : V} (hT : T = .str ∨ T = .lst) (hr : HR G al h H) (r : RA G h.length al H x u) (e : tyA T h x = true) : tyV G.K T.nm u H := by
  rcases hT with rfl | rfl
  · cases x with
    | str y => cases r; rfl
    | _ => cases e
  · cases x with
    | ref i =>
      cases refAt r
      have e' := e
      unfold tyA at e'
      dsimp only at e'
      split at e'
      · rename_i xs hi
        obtain ⟨vs, e1, _⟩ := lstAt hr hi
        exact .inl ⟨rfl, vs, SqL.of e1⟩
      · cases e'
    | _ => cases e
theorem snd_bm {T : Ty} {tV : V → Hp → Prop} {r : V → List V → Hp → VK → Prop} {f : AV → List AV → List AO → Option (AV × List AO)} {to : TE} {t : TA} {mo : AE} {ma : AEnv → AM (List AV)} (hty : ∀ al h H x u, HR G al h H → RA G h.length al H x u → tyA T h x = true → tV u H) (hs : SndM G r f) (so : SndE G W to mo) (sa : SndA G W t ma) :
    SndE G W (fun σ H Q => to σ H fun x H1 => tV x H1 ∧ t σ H1 fun xs H2 => r x xs H2 Q) (mBM T f mo ma) := by
  intro σ H al en h rr h' Q hR er em q
  rcases bnd_some em with ⟨cc, kk, e1, rfl⟩ | ⟨v, h1, e1, e2⟩
  · exact so σ H al en h _ _ _ hR er e1 q
  · refine so σ H al en h _ _ _ hR er e1 ?_
    intro al1 H1 u x1 hr1 r1
    split at e2
    · rename_i ht
      refine ⟨hty _ _ _ _ _ hr1 r1 ht, ?_⟩
      rcases bnd_some e2 with ⟨cc, kk, e3, rfl⟩ | ⟨xs, h2, e3, e4⟩
      · exact sa σ H1 al1 en h1 _ _ _ hr1 (er.mono x1) e3 (PoA.after (r := .ex cc kk) x1 q)
      · refine sa σ H1 al1 en h1 _ _ _ hr1 (er.mono x1) e3 ?_
        intro al2 H2 us x2 hr2 r2
        split at e4
        · rename_i v3 h3 e5
          cases e4
          exact hs H2 al2 h2 v xs u us _ _ Q hr2 (r1.mono x2) r2 e5 (FwV.after (x1.trans x2) q)
        · cases e4
    · cases e2
/-- plain arguments, and few: what the text of a method call is asked -/
abbrev fewSh (X : Cx) (as : List Expr) (at_ : Pos) : Bool := ((backTo at_ (starEach as X.env)).all (fun z => !z.1) && (backToKw at_ (keywordEach [] X.env)).all (fun z => z.1.isSome)) && decide (as.length + ([] : List Keyword).length + (if ([] : List Keyword).isEmpty then 0 else 1) < 30)
theorem se_bm {T : Ty} {id : String} {name : Str} {r : V → List V → Hp → VK → Prop} {f : AV → List AV → List AO → Option (AV × List AO)} {o e : Expr} {es : List Expr} {mo : AE} {ma : AEnv → AM (List AV)} {apos cpos : Pos} (hK : X.K = G.K) (hT : T = .str ∨ T = .lst) (pa : PlainAttrs T.nm) (slot : Slot T.nm name id) (hty : typeOf (.builtin id) = pure (.type "method_descriptor")) (hm : MtR X id r) (hs : SndM G r f) (ho : SE G X W o mo) (ha : SA G X W (e :: es) ma)
    (hbase : attributeBase o name X.env (eval o X.env) = eval o X.env := by rfl) (hfew : fewSh X (e :: es) cpos = true := by rfl)
    (hline : (apos.endLine == cpos.line) = true := by rfl) (hst : starEach (e :: es) X.env = (false, eval e X.env) :: starEach es X.env := by rfl) (hplain : (backTo cpos (starEach es X.env)).any (·.1) = false := by rfl) :
    SE G X W (.Call (.Attribute o name apos) (e :: es) [] cpos) (mBM T f mo ma) := by
  obtain ⟨to, po, so⟩ := ho
  obtain ⟨t, pa', sa⟩ := ha
  exact ⟨_, pe_bm pa slot hty hm po pa' hbase hfew hline hst hplain, snd_bm (tV := fun x H => tyV X.K T.nm x H) (fun al h H x u hr rx e => hK ▸ tyA_ok hT hr rx e) hs so sa⟩
theorem se_bm0 {T : Ty} {id : String} {name : Str} {r : V → List V → Hp → VK → Prop} {f : AV → List AV → List AO → Option (AV × List AO)} {o : Expr} {mo : AE} {apos cpos : Pos} (hK : X.K = G.K) (hT : T = .str ∨ T = .lst) (pa : PlainAttrs T.nm) (slot : Slot T.nm name id) (hty : typeOf (.builtin id) = pure (.type "method_descriptor")) (hm : MtR X id r) (hs : SndM G r f) (ho : SE G X W o mo)
    (hbase : attributeBase o name X.env (eval o X.env) = eval o X.env := by rfl) (hline : (apos.endLine == cpos.line) = true := by rfl) :
    SE G X W (.Call (.Attribute o name apos) [] [] cpos) (mBM T f mo mNil) := by
  obtain ⟨to, po, so⟩ := ho
  exact ⟨_, pe_bm0 pa slot hty hm po hbase hline, snd_bm (tV := fun x H => tyV X.K T.nm x H) (t := tNil) (fun al h H x u hr rx e => hK ▸ tyA_ok hT hr rx e) hs so snd_nil⟩

/-! ### lists -/
theorem FwV.put {al : Nat → Addr} {h : List AO} {H : Hp} {i : Nat} {xs ys : List AV} {us : List V} {v : AV} {w : V} {Q : VK} (hr : HR G al h H) (hi : h[i]? = some (.lst xs)) (rs : RAs G h.length al H ys us) (rv : RA G h.length al H v w)
    (q : FwV G h.length al H v (h.set i (.lst ys)) Q) : Q w (upd H (al i) (.lst us)) := by
  have E := ext_put (u := .lst us) hr hi rfl
  refine q al _ _ (by rw [List.length_set]; exact E) (hr.put hi rfl rfl ⟨us, upd_same, rs.mono E⟩) ?_
  rw [List.length_set]
  exact rv.mono E
def fAppend : AV → List AV → List AO → Option (AV × List AO) := fun x vs h => match x, vs with
  | .ref i, [y] => match h[i]? with
    | some (.lst xs) => if xs.length < 1000000 then some (.non, h.set i (.lst (xs ++ [y]))) else none
    | _ => none
  | _, _ => none
theorem snd_append : SndM G rAppend fAppend := by
  intro H al h x xs u us v h' Q hr rx rs e q
  unfold fAppend at e
  split at e
  · rename_i i y
    split at e
    · rename_i ys hi
      split at e
      · rename_i hz
        cases e
        obtain ⟨w, rfl, rw⟩ := one_of rs
        obtain ⟨vs, e1, r1⟩ := lstAt hr hi
        have := r1.length
        exact ⟨al i, vs, w, refAt rx, rfl, e1, by rw [sizeLine_eq]; omega, FwV.put hr hi (r1.append (.cons rw .nil)) .non q⟩
      · cases e
    · cases e
  · cases e
def fPop : AV → List AV → List AO → Option (AV × List AO) := fun x vs h => match x, vs with
  | .ref i, [] => match h[i]? with
    | some (.lst xs) => match xs[xs.length - 1]? with
      | some y => some (y, h.set i (.lst xs.dropLast))
      | none => none
    | _ => none
  | _, _ => none
theorem RAs.dropLast {n : Nat} {al : Nat → Addr} {H : Hp} {xs : List AV} {us : List V} (r : RAs G n al H xs us) : RAs G n al H xs.dropLast us.dropLast := by
  rw [List.dropLast_eq_take, List.dropLast_eq_take, r.length]
  exact r.take _
theorem snd_pop : SndM G rPop fPop := by
  intro H al h x xs u us v h' Q hr rx rs e q
  unfold fPop at e
  split at e
  · rename_i i
    split at e
    · rename_i ys hi
      split at e
      · rename_i y hy
        cases e
        cases rs
        obtain ⟨vs, e1, r1⟩ := lstAt hr hi
        obtain ⟨w, hw, rw⟩ := r1.get hy
        refine ⟨al i, vs, w, refAt rx, rfl, e1, ?_, FwV.put hr hi r1.dropLast rw q⟩
        rw [← r1.length]; exact hw
      · cases e
    · cases e
  · cases e
def fPopAt : AV → List AV → List AO → Option (AV × List AO) := fun x vs h => match x, vs with
  | .ref i, [.int j] => match h[i]? with
    | some (.lst xs) => if -(2 ^ 63) ≤ j ∧ j < 2 ^ 63 then match seqIndex? j xs.length with
      | some k => match xs[k]? with
        | some y => some (y, h.set i (.lst (xs.eraseIdx k)))
        | none => none
      | none => none
      else none
    | _ => none
  | _, _ => none
theorem RAs.eraseIdx {n : Nat} {al : Nat → Addr} {H : Hp} : ∀ {xs : List AV} {us : List V} (k : Nat), RAs G n al H xs us → RAs G n al H (xs.eraseIdx k) (us.eraseIdx k)
  | _, _, _, .nil => .nil
  | _, _, 0, .cons _ rs => rs
  | _, _, k + 1, .cons r rs => .cons r (RAs.eraseIdx k rs)
theorem snd_popAt : SndM G rPopAt fPopAt := by
  intro H al h x xs u us v h' Q hr rx rs e q
  unfold fPopAt at e
  split at e
  · rename_i i j
    split at e
    · rename_i ys hi
      split at e
      · rename_i hj
        split at e
        · rename_i k hk
          split at e
          · rename_i y hy
            cases e
            obtain ⟨w, rfl, rw⟩ := one_of rs
            cases rw
            obtain ⟨vs, e1, r1⟩ := lstAt hr hi
            obtain ⟨w, hw, rw⟩ := r1.get hy
            exact ⟨al i, vs, j, k, w, refAt rx, rfl, e1, hj.1, hj.2, by rw [← r1.length]; exact hk, hw, FwV.put hr hi (r1.eraseIdx k) rw q⟩
          · cases e
        · cases e
      · cases e
    · cases e
  · cases e
def fExtend : AV → List AV → List AO → Option (AV × List AO) := fun x vs h => match x, vs with
  | .ref i, [.ref j] => match h[i]?, h[j]? with
    | some (.lst xs), some (.lst ys) => if xs.length + ys.length ≤ 1000000 then some (.non, h.set i (.lst (xs ++ ys))) else none
    | _, _ => none
  | _, _ => none
theorem snd_extend : SndM G rExtend fExtend := by
  intro H al h x xs u us v h' Q hr rx rs e q
  unfold fExtend at e
  split at e
  · rename_i i j
    split at e
    · rename_i xs' ys hi hj
      split at e
      · rename_i hz
        cases e
        obtain ⟨w, rfl, rw⟩ := one_of rs
        obtain ⟨vs, e1, r1⟩ := lstAt hr hi
        obtain ⟨us', e2, r2⟩ := lstAt hr hj
        have l1 := r1.length
        have l2 := r2.length
        exact ⟨al i, al j, vs, us', refAt rx, by rw [refAt rw], e1, e2, by rw [sizeLine_eq]; omega, FwV.put hr hi (r1.append r2) .non q⟩
      · cases e
    · cases e
  · cases e
section
variable {o e : Expr} {mo : AE} {ma : AEnv → AM (List AV)} {apos cpos : Pos}
theorem se_append (hK : X.K = G.K) (ho : SE G X W o mo) (ha : SA G X W [e] ma) (hbase : attributeBase o "append" X.env (eval o X.env) = eval o X.env := by rfl)
    (hfew : fewSh X [e] cpos = true := by rfl) (hline : (apos.endLine == cpos.line) = true := by rfl) (hst : starEach [e] X.env = (false, eval e X.env) :: starEach [] X.env := by rfl) (hplain : (backTo cpos (starEach [] X.env)).any (·.1) = false := by rfl) :
    SE G X W (.Call (.Attribute o "append" apos) [e] [] cpos) (mBM .lst fAppend mo ma) := se_bm (T := .lst) hK (.inr rfl) PySem.F.plainAttrs_list PySem.F.slot_list_append PySem.F.type_list_append mt_append snd_append ho ha hbase hfew hline hst hplain
theorem se_extend (hK : X.K = G.K) (ho : SE G X W o mo) (ha : SA G X W [e] ma) (hbase : attributeBase o "extend" X.env (eval o X.env) = eval o X.env := by rfl)
    (hfew : fewSh X [e] cpos = true := by rfl) (hline : (apos.endLine == cpos.line) = true := by rfl) (hst : starEach [e] X.env = (false, eval e X.env) :: starEach [] X.env := by rfl) (hplain : (backTo cpos (starEach [] X.env)).any (·.1) = false := by rfl) :
    SE G X W (.Call (.Attribute o "extend" apos) [e] [] cpos) (mBM .lst fExtend mo ma) := se_bm (T := .lst) hK (.inr rfl) PySem.F.plainAttrs_list PySem.F.slot_list_extend PySem.F.type_list_extend mt_extend snd_extend ho ha hbase hfew hline hst hplain
theorem se_popAt (hK : X.K = G.K) (ho : SE G X W o mo) (ha : SA G X W [e] ma) (hbase : attributeBase o "pop" X.env (eval o X.env) = eval o X.env := by rfl)
    (hfew : fewSh X [e] cpos = true := by rfl) (hline : (apos.endLine == cpos.line) = true := by rfl) (hst : starEach [e] X.env = (false, eval e X.env) :: starEach [] X.env := by rfl) (hplain : (backTo cpos (starEach [] X.env)).any (·.1) = false := by rfl) :
    SE G X W (.Call (.Attribute o "pop" apos) [e] [] cpos) (mBM .lst fPopAt mo ma) := se_bm (T := .lst) hK (.inr rfl) PySem.F.plainAttrs_list PySem.F.slot_list_pop PySem.F.type_list_pop mt_popAt snd_popAt ho ha hbase hfew hline hst hplain
theorem se_pop (hK : X.K = G.K) (ho : SE G X W o mo) (hbase : attributeBase o "pop" X.env (eval o X.env) = eval o X.env := by rfl) (hline : (apos.endLine == cpos.line) = true := by rfl) :
    SE G X W (.Call (.Attribute o "pop" apos) [] [] cpos) (mBM .lst fPop mo mNil) := se_bm0 (T := .lst) hK (.inr rfl) PySem.F.plainAttrs_list PySem.F.slot_list_pop PySem.F.type_list_pop mt_pop snd_pop ho hbase hline
end

/-! ### t.index(x), t a tuple that is known to the object -/
def tyF (K : PySem.W.Frag) (u : V) (H : Hp) : Prop := ∃ a, u = .ref a ∧ ((∃ o vs, o.dict = none ∧ H a = some (.frz o (.tup vs))) ∨ ∃ vs, KTup K a vs)
theorem pe_bmF {name : Str} {id : String} {r : V → List V → Hp → VK → Prop} {o e : Expr} {es : List Expr} {to : TE} {t : TA} {apos cpos : Pos} (pa : PlainAttrs "tuple") (slot : Slot "tuple" name id) (hty : typeOf (.builtin id) = pure (.type "method_descriptor")) (hm : MtR X id r) (ho : PE X o to) (ha : PA X (e :: es) t)
    (hbase : attributeBase o name X.env (eval o X.env) = eval o X.env := by rfl) (hfew : fewSh X (e :: es) cpos = true := by rfl)
    (one : (apos.endLine == cpos.line) = true := by rfl) (first : starEach (e :: es) X.env = (false, eval e X.env) :: starEach es X.env := by rfl) (rest : (backTo cpos (starEach es X.env)).any (·.1) = false := by rfl) :
    PE X (.Call (.Attribute o name apos) (e :: es) [] cpos) (fun σ H Q => to σ H fun x H1 => tyF X.K x H1 ∧ t σ H1 fun xs H2 => r x xs H2 Q) := by
  constructor
  intro pins t0 σ H Q inv want
  apply wpAny_Call_method_late hbase hfew one rfl
  apply thn (ho.run pins t0 σ H _ inv want)
  rintro v t1 ⟨x, H1, I1, rv, ⟨a, rfl, ty⟩, args⟩
  cases rv
  have kind : ∃ ob : Obj, t1.heap.get? a = some ob ∧ ob.cls = .type "tuple" ∧ ob.dict = none := by
    rcases ty with ⟨ob, vs, plain, e1⟩ | ⟨_, ob, _, _, hk, hc, plain, _⟩
    · have ⟨at_, _, _, _, ob2, at2, cls, _⟩ := (show ObjOk X.prog X.w H1 t1.heap a (.frz ob (.tup vs)) from I1.hok a _ e1)
      rw [at_] at at2
      cases at2
      exact ⟨ob, at_, cls, plain⟩
    · exact ⟨ob, I1.kIn a ob hk, hc, plain⟩
  have ⟨ob, at_, cls, plain⟩ := kind
  refine ⟨"tuple", id, pa, slot, hty, ⟨ob, at_, cls⟩, fun b eb => ⟨ob, by cases eb; exact at_, plain⟩, ?_⟩
  have run := ha.run cpos pins t1 σ H1 _ I1 args
  rw [first] at run ⊢
  apply Calls.callWith_builtin
  · exact rest
  · apply Calls.evalArgs_plain
    apply thn run
    rintro us t2 ⟨vs, H2, I2, rvs, q⟩
    exact hm pins t2 σ H2 (V.ref a) vs _ us Q I2 rfl rvs q
def strsA : List AV → Option (List Str)
  | [] => some []
  | .str s :: r => (strsA r).map fun ss => s :: ss
  | _ => none
theorem strsA_eq : ∀ {xs : List AV} {ss : List Str}, strsA xs = some ss → xs = ss.map AV.str
  | [], _, e => by cases e; rfl
  | .str s :: r, ss, e => by
    unfold strsA at e
    cases q : strsA r with
    | none => rw [q] at e; exact nomatch e
    | some ss' => rw [q] at e; cases e; rw [strsA_eq q]; rfl
  | .bl _ :: _, _, e => by cases e
  | .non :: _, _, e => by cases e
  | .int _ :: _, _, e => by cases e
  | .tup _ :: _, _, e => by cases e
  | .ref _ :: _, _, e => by cases e
  | .cst _ :: _, _, e => by cases e
theorem strs_ok {n : Nat} {al : Nat → Addr} {H : Hp} : ∀ {ss : List Str} {us : List V}, RAs G n al H (ss.map AV.str) us → us = ss.map V.str
  | [], _, .nil => rfl
  | s :: ss, _, .cons r rs => by cases r; rw [strs_ok rs]; rfl
/-- the first place of a text -/
def idxS (z : Str) : List Str → Option Nat
  | [] => none
  | y :: r => if y = z then some 0 else (idxS z r).map (· + 1)
theorem idxS_ok {z : Str} : ∀ {ys : List Str} {j : Nat}, idxS z ys = some j → ys[j]? = some z ∧ ∀ m, m < j → ys[m]? ≠ some z
  | [], _, e => by cases e
  | y :: r, j, e => by
    unfold idxS at e
    split at e
    · rename_i hy
      cases e
      exact ⟨by rw [hy]; rfl, fun m hm => absurd hm (Nat.not_lt_zero _)⟩
    · rename_i hy
      cases q : idxS z r with
      | none => rw [q] at e; exact nomatch e
      | some i =>
        rw [q] at e; cases e
        obtain ⟨h1, h2⟩ := idxS_ok q
        refine ⟨by simpa using h1, fun m hm => ?_⟩
        cases m with
        | zero => simpa using hy
        | succ m => simpa using h2 m (Nat.lt_of_succ_lt_succ hm)
def fTIdx : AV → List AV → List AO → Option (AV × List AO) := fun x vs h => match x, vs with
  | .tup xs, [.str z] => match strsA xs with
    | some ys => (idxS z ys).map fun j => (.int (j : Nat), h)
    | none => none
  | _, _ => none
def rTIdx (K : PySem.W.Frag) : V → List V → Hp → VK → Prop := fun x xs H Q => ∃ p, ∃ ys : List Str, ∃ z j, x = .ref p ∧ xs = [.str z] ∧ SqT K H p (ys.map V.str) ∧ ys[j]? = some z ∧ (∀ m, m < j → ys[m]? ≠ some z) ∧ Q (.int (j : Nat)) H
theorem snd_tIdx : SndM G (rTIdx G.K) fTIdx := by
  intro H al h x xs u us v h' Q hr rx rs e q
  unfold fTIdx at e
  split at e
  · rename_i ts z
    split at e
    · rename_i ys hy
      cases c : idxS z ys with
      | none => rw [c] at e; cases e
      | some j =>
        rw [c] at e; cases e
        obtain ⟨w, rfl, rw⟩ := one_of rs
        cases rw
        obtain ⟨a, vs, rfl, t, r1⟩ := tupAt rx
        have e1 := strsA_eq hy
        subst e1
        have e2 := strs_ok r1
        subst e2
        obtain ⟨h1, h2⟩ := idxS_ok c
        exact ⟨a, ys, z, j, rfl, rfl, t.sq, h1, h2, q al H _ .refl hr .int⟩
    · cases e
  · cases e
theorem se_tIndex {o e : Expr} {mo : AE} {ma : AEnv → AM (List AV)} {apos cpos : Pos} (hz : G.fz = true) (hK : X.K = G.K) (ho : SE G X W o mo) (ha : SA G X W [e] ma) (hbase : attributeBase o "index" X.env (eval o X.env) = eval o X.env := by rfl)
    (hfew : fewSh X [e] cpos = true := by rfl) (hline : (apos.endLine == cpos.line) = true := by rfl) (hst : starEach [e] X.env = (false, eval e X.env) :: starEach [] X.env := by rfl) (hplain : (backTo cpos (starEach [] X.env)).any (·.1) = false := by rfl) :
    SE G X W (.Call (.Attribute o "index" apos) [e] [] cpos) (mBM .tup fTIdx mo ma) := by
  obtain ⟨to, po, so⟩ := ho
  obtain ⟨t, pa', sa⟩ := ha
  refine ⟨_, pe_bmF PySem.F.plainAttrs_tuple PySem.F.slot_tuple_index PySem.F.type_tuple_index mt_tup_index po pa' hbase hfew hline hst hplain, snd_bm (tV := fun x H => tyF X.K x H) (fun al h H x u hr rx e => ?_) (hK ▸ snd_tIdx) so sa⟩
  cases x with
  | tup xs =>
    obtain ⟨a, vs, rfl, t, _⟩ := tupAt rx
    refine ⟨a, rfl, ?_⟩
    rcases t with ⟨z, _⟩ | ⟨_, ob, hd, e1⟩ | t
    · rw [hz] at z; cases z
    · exact .inl ⟨ob, vs, hd, e1⟩
    · exact .inr ⟨vs, hK ▸ t.2⟩
  | _ => cases e

/-! ### dicts with keys ints and texts -/
def keyA : AV → Option Key
  | .int i => some (.inl i)
  | .str s => some (.inr s)
  | _ => none
theorem keyA_ok {n : Nat} {al : Nat → Addr} {H : Hp} {x : AV} {u : V} {k : Key} (r : RA G n al H x u) (e : keyA x = some k) : u = kV k := by
  cases x with
  | int i => cases r; cases e; rfl
  | str i => cases r; cases e; rfl
  | _ => cases e
def valA {κ : Type} [DecidableEq κ] (kvs : List (κ × AV)) (k : κ) : Option AV := (kvs.find? fun kv => decide (kv.1 = k)).map (·.2)
def putA {κ : Type} [DecidableEq κ] (kvs : List (κ × AV)) (k : κ) (v : AV) : List (κ × AV) :=
  if (kvs.any fun p => decide (p.1 = k)) = true then kvs.map (fun p => if p.1 = k then (p.1, v) else p) else kvs ++ [(k, v)]
section
variable {κ : Type} [DecidableEq κ] {n : Nat} {al : Nat → Addr} {H : Hp} {k : κ} {v : AV} {u : V}
theorem valA_ok : ∀ {ps : List (κ × AV)} {qs : List (κ × V)}, RF G n al H ps qs → (valA ps k = none ∧ valV qs k = none) ∨ ∃ v u, valA ps k = some v ∧ valV qs k = some u ∧ RA G n al H v u
  | [], [], _ => .inl ⟨rfl, rfl⟩
  | (a, v) :: ps, (b, u) :: qs, h => by
    obtain ⟨e, r, t⟩ := h
    have e' : a = b := e
    subst e'
    by_cases z : a = k
    · refine .inr ⟨v, u, ?_, ?_, r⟩
      · simp [valA, List.find?_cons, z]
      · simp [valV, List.find?_cons, z]
    · rcases valA_ok t with ⟨z1, z2⟩ | ⟨v', u', z1, z2, z3⟩
      · refine .inl ⟨?_, ?_⟩
        · simpa [valA, List.find?_cons, z] using z1
        · simpa [valV, List.find?_cons, z] using z2
      · refine .inr ⟨v', u', ?_, ?_, z3⟩
        · simpa [valA, List.find?_cons, z] using z1
        · simpa [valV, List.find?_cons, z] using z2
  | [], _ :: _, h => h.elim
  | _ :: _, [], h => h.elim
theorem any_ok : ∀ {ps : List (κ × AV)} {qs : List (κ × V)}, RF G n al H ps qs → (ps.any fun kv => decide (kv.1 = k)) = qs.any fun kv => decide (kv.1 = k)
  | [], [], _ => rfl
  | (a, v) :: ps, (b, u) :: qs, h => by
    obtain ⟨e, r, t⟩ := h
    have e' : a = b := e
    subst e'
    rw [List.any_cons, List.any_cons, any_ok t]
  | [], _ :: _, h => h.elim
  | _ :: _, [], h => h.elim
theorem mapPut_ok (r : RA G n al H v u) : ∀ {ps : List (κ × AV)} {qs : List (κ × V)}, RF G n al H ps qs → RF G n al H (ps.map fun kv => if kv.1 = k then (kv.1, v) else kv) (qs.map fun kv => if kv.1 = k then (kv.1, u) else kv)
  | [], [], _ => trivial
  | (a, x) :: ps, (b, y) :: qs, h => by
    obtain ⟨e, rr, t⟩ := h
    have e' : a = b := e
    subst e'
    refine ⟨?_, ?_, mapPut_ok r t⟩
    · dsimp only; split <;> rfl
    · dsimp only; split
      · exact r
      · exact rr
  | [], _ :: _, h => h.elim
  | _ :: _, [], h => h.elim
theorem RF.append {κ : Type} {n : Nat} {al : Nat → Addr} {H : Hp} : ∀ {ps ps' : List (κ × AV)} {qs qs' : List (κ × V)}, RF G n al H ps qs → RF G n al H ps' qs' → RF G n al H (ps ++ ps') (qs ++ qs')
  | [], _, [], _, _, h => h
  | _ :: _, _, _ :: _, _, h, h' => ⟨h.1, h.2.1, RF.append h.2.2 h'⟩
  | [], _, _ :: _, _, h, _ => h.elim
  | _ :: _, _, [], _, h, _ => h.elim
theorem putA_ok {ps : List (κ × AV)} {qs : List (κ × V)} (h : RF G n al H ps qs) (r : RA G n al H v u) : RF G n al H (putA ps k v) (putK qs k u) := by
  unfold putA putK
  rw [any_ok h]
  split
  · exact mapPut_ok r h
  · exact h.append ⟨rfl, r, trivial⟩
end
def oDget : AV → AV → List AO → Option (AV × List AO) := fun x y h => match x with
  | .ref i => match h[i]?, keyA y with
    | some (.dct kvs), some k => (valA kvs k).map fun v => (v, h)
    | _, _ => none
  | _ => none
theorem dctAt {al : Nat → Addr} {h : List AO} {H : Hp} {i : Nat} {kvs : List (Key × AV)} (hr : HR G al h H) (e : h[i]? = some (.dct kvs)) : ∃ ws, H (al i) = some (.dK ws) ∧ RF G h.length al H kvs ws := hr.ob i _ e
def rDG : R2 := fun x y H Q => ∃ a v, x = .ref a ∧ DGet H a y (some v) ∧ Q v H
theorem snd_dget : SndO G rDG oDget := by
  intro H al h x y u w v h' Q hr rx ry e q
  unfold oDget at e
  split at e
  · rename_i i
    split at e
    · rename_i kvs k hi hk
      cases z : valA kvs k with
      | none => rw [z] at e; cases e
      | some v' =>
        rw [z] at e; cases e
        obtain ⟨ws, e1, rf⟩ := dctAt hr hi
        rcases valA_ok (k := k) rf with ⟨z1, _⟩ | ⟨v2, u2, z1, z2, r2⟩
        · rw [z] at z1; cases z1
        · rw [z] at z1; cases z1
          refine ⟨al i, u2, refAt rx, ?_, q al H _ .refl hr r2⟩
          rw [keyA_ok ry hk, ← z2]
          exact DGet.k e1
    · cases e
  · cases e
theorem se_dget {a b : Expr} {ma mb : AE} {pos : Pos} (hu : X.A.units + 1 < cLine) (ha : SE G X W a ma) (hb : SE G X W b mb) (hs : NoSl b := by exact fun _ _ => rfl) : SE G X W (.Subscript a b pos) (m2 oDget ma mb) := by
  obtain ⟨ta, pa, sa⟩ := ha
  obtain ⟨tb, pb, sb⟩ := hb
  exact ⟨_, pe_dget hu pa pb hs, snd_2 sa sb snd_dget⟩
end
end SL
/-! SL7: statements, targets, walks, loops, list comprehensions, dict displays. -/
namespace SL
open PySem PySem.Spec PyProof.Rows L2

def bndS {α : Type} (m : Option (Rs α × List AO)) (e : AEnv) (f : α → List AO → Option (Fl × List AO)) : Option (Fl × List AO) :=
  match m with
  | none => none
  | some (.ex c k, h) => some (.ex c k e, h)
  | some (.ok a, h) => f a h
theorem bndS_some {α : Type} {m : Option (Rs α × List AO)} {en : AEnv} {f : α → List AO → Option (Fl × List AO)} {r : Fl} {h' : List AO} (e : bndS m en f = some (r, h')) :
    (∃ c k, m = some (.ex c k, h') ∧ r = .ex c k en) ∨ ∃ a h, m = some (.ok a, h) ∧ f a h = some (r, h') := by
  unfold bndS at e
  split at e
  · cases e
  · cases e; exact .inl ⟨_, _, rfl, rfl⟩
  · exact .inr ⟨_, _, rfl, e⟩
section
variable {G : Gx} {X : Cx} {W : WX} {n : Nat} {al : Nat → Addr} {H : Hp} {σ : L2.St} {e : AEnv} {h' : List AO} {D : Ends}
theorem PoS.exE {c k : Nat} (er : ER G n al H e σ) (q : PoS G W n al H (.ex c k e) h' D) : FwX G n al H c k h' fun cls d H' => W cls d σ H' := fun al' H' x hr hk hx => q al' H' σ x hr (er.mono ⟨x.le, x.al, x.tp, x.tf⟩ |> fun z => ⟨z.len, z.at_⟩) al' x hr hk hx

/-! ### blocks -/
def mSeq (a b : AS) : AS := fun e h => match a e h with
  | some (.nx e1, h1) => b e1 h1
  | r => r
def mNx : AS := fun e h => some (.nx e, h)
theorem sb_nil : SB G X W [] mNx := ⟨_, pss_nil, by
  intro σ H al e h fl h' D hr er hm q
  cases hm
  exact q al H σ .refl hr er⟩
theorem snd_seq {t u : TS} {a b : AS} (ha : SndS G W t a) (hb : SndS G W u b) : SndS G W (tSeq t u) (mSeq a b) := by
  intro σ H al e h fl h' D hr er hm q
  unfold mSeq at hm
  split at hm
  · rename_i e1 h1 ea
    exact ha σ H al e h _ _ _ hr er ea fun al1 H1 σ1 x1 hr1 er1 => hb σ1 H1 al1 e1 h1 _ _ _ hr1 er1 hm (PoS.after x1 q)
  · rename_i nn
    refine ha σ H al e h fl h' _ hr er hm ?_
    cases fl with
    | nx e1 => exact absurd hm (nn e1 h')
    | rt v => exact q
    | bk e1 => exact q
    | ct e1 => exact q
    | ex c k e1 => exact q
theorem sb_cons {st : Stmt} {rest : List Stmt} {a b : AS} (ha : SS G X W st a) (hb : SB G X W rest b) : SB G X W (st :: rest) (mSeq a b) :=
  let ⟨_, p, s⟩ := ha; let ⟨_, p', s'⟩ := hb; ⟨_, pss_cons p p', snd_seq s s'⟩
theorem sb_one {st : Stmt} {a : AS} (ha : SS G X W st a) : SB G X W [st] a := let ⟨_, p, s⟩ := ha; ⟨_, pss_one p, s⟩

/-! ### small statements -/
variable {pos : Pos}
theorem ss_pass : SS G X W (.Pass pos) mNx := ⟨_, ps_pass, by
  intro σ H al e h fl h' D hr er hm q
  cases hm
  exact q al H σ .refl hr er⟩
theorem ss_doc {x j pos pos'} : SS G X W (.Expr (.Constant (.str x) j pos) pos') mNx := ⟨_, ps_doc, by
  intro σ H al e h fl h' D hr er hm q
  cases hm
  exact q al H σ .refl hr er⟩
def mBk : AS := fun e h => some (.bk e, h)
def mCt : AS := fun e h => some (.ct e, h)
theorem ss_break : SS G X W (.Break pos) mBk := ⟨_, ps_break, by
  intro σ H al e h fl h' D hr er hm q
  cases hm
  exact q al H σ .refl hr er⟩
theorem ss_continue : SS G X W (.Continue pos) mCt := ⟨_, ps_continue, by
  intro σ H al e h fl h' D hr er hm q
  cases hm
  exact q al H σ .refl hr er⟩
/-- a statement that no run reaches -/
def mNo : AS := fun _ _ => none
theorem ss_never {st : Stmt} : SS G X W st mNo := ⟨_, ps_never, by
  intro σ H al e h fl h' D hr er hm q
  cases hm⟩
theorem sb_never {st : List Stmt} : SB G X W st mNo := ⟨_, pss_never, by
  intro σ H al e h fl h' D hr er hm q
  cases hm⟩
def mDrop (m : AE) : AS := fun e h => bndS (m e h) e fun _ h1 => some (.nx e, h1)
theorem ss_expr {ex : Expr} {m : AE} (he : SE G X W ex m) (hs : swapsWith ex none pos.line X.env = pure false := by rfl) : SS G X W (.Expr ex pos) (mDrop m) := by
  obtain ⟨t, p, s⟩ := he
  refine ⟨_, ps_expr p hs, ?_⟩
  intro σ H al e h fl h' D hr er hm q
  rcases bndS_some hm with ⟨c, k, e1, rfl⟩ | ⟨v, h1, e1, e2⟩
  · exact s σ H al e h _ _ _ hr er e1 (PoS.exE er q)
  · cases e2
    exact s σ H al e h _ _ _ hr er e1 fun al1 H1 u x1 hr1 r1 => q al1 H1 σ x1 hr1 (er.mono x1)
def mRet (m : AE) : AS := fun e h => bndS (m e h) e fun v h1 => some (.rt v, h1)
theorem ss_ret {ex : Expr} {m : AE} (he : SE G X W ex m) : SS G X W (.Return (some ex) pos) (mRet m) := by
  obtain ⟨t, p, s⟩ := he
  refine ⟨_, ps_ret p, ?_⟩
  intro σ H al e h fl h' D hr er hm q
  rcases bndS_some hm with ⟨c, k, e1, rfl⟩ | ⟨v, h1, e1, e2⟩
  · exact s σ H al e h _ _ _ hr er e1 (PoS.exE er q)
  · cases e2
    exact s σ H al e h _ _ _ hr er e1 q
def mRetN : AS := fun _ h => some (.rt .non, h)
theorem ss_retN : SS G X W (.Return none pos) mRetN := ⟨_, ps_retN, by
  intro σ H al e h fl h' D hr er hm q
  cases hm
  exact q al H .non .refl hr .non⟩
def mIfS (c : AEnv → AM Bool) (a b : AS) : AS := fun e h => bndS (c e h) e fun d h1 => if d = true then a e h1 else b e h1
theorem ss_if {c : Expr} {a b : List Stmt} {mc : AEnv → AM Bool} {ma mb : AS} (hc : ST G X W c mc) (ha : SB G X W a ma) (hb : SB G X W b mb) : SS G X W (.If c a b pos) (mIfS mc ma mb) := by
  obtain ⟨tc, pc, sc⟩ := hc
  obtain ⟨ta, pa, sa⟩ := ha
  obtain ⟨tb, pb, sb⟩ := hb
  refine ⟨_, ps_if pc pa pb, ?_⟩
  intro σ H al e h fl h' D hr er hm q
  rcases bndS_some hm with ⟨c, k, e1, rfl⟩ | ⟨d, h1, e1, e2⟩
  · exact sc σ H al e h _ _ _ hr er e1 (PoS.exE er q)
  · refine sc σ H al e h _ _ _ hr er e1 ?_
    intro al1 H1 x1 hr1
    cases d with
    | true => exact sa σ H1 al1 e h1 _ _ _ hr1 (er.mono x1) e2 (PoS.after x1 q)
    | false => exact sb σ H1 al1 e h1 _ _ _ hr1 (er.mono x1) e2 (PoS.after x1 q)

/-! ### targets -/
/-- a value, or (lo) a new tuple known by its items alone -/
def RL (G : Gx) (lo : Bool) (n : Nat) (al : Nat → Addr) (H : Hp) (x : AV) (v : V) : Prop := RA G n al H x v ∨ (lo = true ∧ ∃ xs a vs, x = .tup xs ∧ v = .ref a ∧ H a = some (.tup vs) ∧ RAs G n al H xs vs)
def FwG (G : Gx) (n : Nat) (al : Nat → Addr) (H : Hp) (σ : L2.St) (ws : List Nat) (e : AEnv) (h' : List AO) (Q : L2.St → Hp → Prop) : Prop :=
  ∀ al' H' σ', Ext n al H h'.length al' H' → HR G al' h' H' → ER G h'.length al' H' e σ' → σ'.length = σ.length → (∀ i, i ∉ ws → σ'[i]? = σ[i]?) → Q σ' H'
abbrev AG := AV → AEnv → List AO → Option (AEnv × List AO)
abbrev AGs := List AV → AEnv → List AO → Option (AEnv × List AO)
def SndG (G : Gx) (lo : Bool) (ws : List Nat) (g : TG) (m : AG) : Prop := ∀ σ H al e h v u e' h' Q, HR G al h H → ER G h.length al H e σ → RL G lo h.length al H v u → m v e h = some (e', h') → FwG G h.length al H σ ws e' h' Q → g u σ H Q
def SndGs (G : Gx) (ws : List Nat) (g : TGs) (m : AGs) : Prop := ∀ σ H al e h vs us e' h' Q, HR G al h H → ER G h.length al H e σ → RAs G h.length al H vs us → m vs e h = some (e', h') → FwG G h.length al H σ ws e' h' Q → g us σ H Q
def SG (G : Gx) (X : Cx) (lo : Bool) (ws : List Nat) (tg : Expr) (m : AG) : Prop := ∃ g, PG X tg g ∧ SndG G lo ws g m
def SGs (G : Gx) (X : Cx) (ws : List Nat) (tg : List Expr) (m : AGs) : Prop := ∃ g, PGs X tg g ∧ SndGs G ws g m
def gA (i : Nat) : AG := fun v e h => some (e.set i (some v), h)
theorem snd_gA {i : Nat} : SndG G false [i] (gName i) (gA i) := by
  intro σ H al e h v u e' h' Q hr er r hm q
  cases hm
  rcases r with r | ⟨z, _⟩
  · refine q al H _ .refl hr (er.set r) (List.length_set ..) fun j hj => ?_
    rw [List.getElem?_set_ne fun z => hj (by rw [z]; exact List.mem_singleton_self _)]
  · cases z
theorem sg_name (i : Nat) {x : Str} (hN : X.N.Nodup) (hi : X.N[i]? = some x := by rfl) (hx : Loc X.env.scope x := by first | exact Or.inl rfl | exact Or.inr rfl) (hf : X.fn x = true ∨ X.env.scope.names.lookup x = some .local := by first | exact .inl rfl | exact .inr rfl | assumption) :
    SG G X false [i] (.Name x pos) (gA i) := ⟨_, pg_name hN hi hx hf, snd_gA⟩
def gsNil : AGs := fun vs e h => if vs.isEmpty = true then some (e, h) else none
def gsCons (g : AG) (gs : AGs) : AGs := fun vs e h => match vs with
  | v :: vs => match g v e h with
    | some (e1, h1) => gs vs e1 h1
    | none => none
  | [] => none
theorem sgs_nil : SGs G X [] [] gsNil := ⟨_, pgs_nil, by
  intro σ H al e h vs us e' h' Q hr er r hm q
  unfold gsNil at hm
  split at hm
  · rename_i z
    cases hm
    cases r with
    | nil => exact ⟨rfl, q al H σ .refl hr er rfl fun _ _ => rfl⟩
    | cons _ _ => cases z
  · cases hm⟩
theorem sgs_cons {t : Expr} {ts : List Expr} {ws ws' : List Nat} {g : AG} {gs : AGs} (h1 : SG G X false ws t g) (h2 : SGs G X ws' ts gs)
    (hs : (assignEach (t :: ts) X.env).map (·.2) = assign t X.env :: (assignEach ts X.env).map (·.2) := by rfl) : SGs G X (ws ++ ws') (t :: ts) (gsCons g gs) := by
  obtain ⟨_, p1, s1⟩ := h1
  obtain ⟨_, p2, s2⟩ := h2
  refine ⟨_, pgs_cons p1 p2 hs, ?_⟩
  intro σ H al e h vs us e' h' Q hr er r hm q
  cases r with
  | nil => cases hm
  | cons rv rs =>
    dsimp only [gsCons] at hm
    split at hm
    · rename_i e1 h1 ea
      refine ⟨_, _, rfl, s1 σ H al e h _ _ _ _ _ hr er (.inl rv) ea ?_⟩
      intro al1 H1 σ1 x1 hr1 er1 l1 k1
      refine s2 σ1 H1 al1 e1 h1 _ _ _ _ _ hr1 er1 (rs.mono x1) hm ?_
      intro al2 H2 σ2 x2 hr2 er2 l2 k2
      refine q al2 H2 σ2 (x1.trans x2) hr2 er2 (l2.trans l1) fun i hi => ?_
      rw [k2 i fun z => hi (List.mem_append_right _ z), k1 i fun z => hi (List.mem_append_left _ z)]
    · cases hm
def gTupA (gs : AGs) : AG := fun v e h => match v with
  | .tup xs => gs xs e h
  | _ => none
theorem sg_tup {es : List Expr} {kk : Nat} {ws : List Nat} {gs : AGs} {m : Nat} (lo : Bool) (hK : X.K = G.K) (hc : X.calm = true) (hl : ∀ vs e h r, gs vs e h = some r → vs.length = m) (h : SGs G X ws es gs)
    (hn : (assignEach es X.env).length = m := by rfl) (hst : (assignEach es X.env).findIdx? (·.1) = none := by rfl) : SG G X lo ws (.Tuple es kk pos) (gTupA gs) := by
  obtain ⟨_, p, s⟩ := h
  refine ⟨_, pg_tup hc p hn hst, ?_⟩
  intro σ H al e h v u e' h' Q hr er r hm q
  unfold gTupA at hm
  split at hm
  · rename_i xs
    have lx := hl _ _ _ _ hm
    rcases r with r | ⟨_, ys, a, vs, ez, rfl, ha, rs⟩
    · obtain ⟨a, vs, rfl, t, rs⟩ := tupAt r
      exact ⟨a, vs, rfl, hK ▸ t.sq, by rw [← rs.length]; exact lx, s σ H al e h _ _ _ _ _ hr er rs hm q⟩
    · cases ez
      exact ⟨a, vs, rfl, .inl (.inl ha), by rw [← rs.length]; exact lx, s σ H al e h _ _ _ _ _ hr er rs hm q⟩
  · cases hm
theorem gl_nil : ∀ (vs : List AV) (e : AEnv) (h : List AO) r, gsNil vs e h = some r → vs.length = 0 := fun vs e h r q => by
  unfold gsNil at q
  split at q
  · rename_i z; rw [List.isEmpty_iff.mp z]; rfl
  · cases q
theorem gl_cons {m : Nat} {g : AG} {gs : AGs} (hl : ∀ vs e h r, gs vs e h = some r → vs.length = m) : ∀ (vs : List AV) (e : AEnv) (h : List AO) r, gsCons g gs vs e h = some r → vs.length = m + 1 := fun vs e h r q => by
  cases vs with
  | nil => cases q
  | cons v vs =>
    dsimp only [gsCons] at q
    split at q
    · rw [List.length_cons, hl _ _ _ _ q]
    · cases q
/-- target = value -/
def mAsg (m : AE) (g : AG) : AS := fun e h => bndS (m e h) e fun v h1 => (g v e h1).map fun p => (Fl.nx p.1, p.2)
theorem snd_asg {t : TE} {g : TG} {m : AE} {mg : AG} {ws : List Nat} {lo : Bool} (s : SndE G W t m) (sg : SndG G lo ws g mg) : SndS G W (tAsg t g) (mAsg m mg) := by
  intro σ H al e h fl h' D hr er hm q
  rcases bndS_some hm with ⟨c, k, e1, rfl⟩ | ⟨v, h1, e1, e2⟩
  · exact s σ H al e h _ _ _ hr er e1 (PoS.exE er q)
  · cases z : mg v e h1 with
    | none => rw [z] at e2; cases e2
    | some p =>
      obtain ⟨e3, h3⟩ := p
      rw [z] at e2; cases e2
      refine s σ H al e h _ _ _ hr er e1 ?_
      intro al1 H1 u x1 hr1 r1
      exact sg σ H1 al1 e h1 v u e3 _ _ hr1 (er.mono x1) (.inl r1) z fun al2 H2 σ2 x2 hr2 er2 _ _ => q al2 H2 σ2 (x1.trans x2) hr2 er2
theorem ss_set (i : Nat) {x : Str} {ex : Expr} {m : AE} {pos' : Pos} (hN : X.N.Nodup) (he : SE G X W ex m) (hi : X.N[i]? = some x := by rfl) (hx : Loc X.env.scope x := by first | exact Or.inl rfl | exact Or.inr rfl) (hs : swapsWith ex (some (.Name x pos')) pos.line X.env = pure false := by rfl)
    (hf : X.fn x = true ∨ X.env.scope.names.lookup x = some .local := by first | exact .inl rfl | exact .inr rfl | assumption) : SS G X W (.Assign [.Name x pos'] ex pos) (mAsg m (gA i)) := by
  obtain ⟨t, p, s⟩ := he
  exact ⟨_, ps_set hN hi hx p hs hf, snd_asg s snd_gA⟩
theorem ss_asg {tg ex : Expr} {m : AE} {g : AG} {ws : List Nat} {lo : Bool} (he : SE G X W ex m) (hg : SG G X lo ws tg g) (hs : swapsWithSole [tg] ex pos.line X.env = pure false := by rfl) (hw : swappedStores [tg] ex X.env = pure none := by rfl)
    (h1 : (assignEach [tg] X.env).map (·.2) = [assign tg X.env] := by rfl) : SS G X W (.Assign [tg] ex pos) (mAsg m g) := by
  obtain ⟨t, p, s⟩ := he
  obtain ⟨tg', pg, sg⟩ := hg
  exact ⟨_, ps_asg p pg hs hw h1, snd_asg s sg⟩
def mPar (i j : Nat) (ma : AEnv → AM (List AV)) : AS := fun e h => bndS (ma e h) e fun vs h1 => match vs with
  | [v, w] => some (.nx ((e.set i (some v)).set j (some w)), h1)
  | _ => none
theorem ss_par (i j : Nat) {x y : Str} {a b : Expr} {ma : AEnv → AM (List AV)} {px py pt : Pos} {kt k2 pt2} (hc : X.calm = true) (hN : X.N.Nodup) (ha : SA G X W [a, b] ma) (hi : X.N[i]? = some x := by rfl) (hj : X.N[j]? = some y := by rfl) (hij : i ≠ j := by decide)
    (hx : X.env.scope.names.lookup x = some .local := by rfl) (hy : X.env.scope.names.lookup y = some .local := by rfl)
    (hw : swappedStores [.Tuple [.Name x px, .Name y py] kt pt] (.Tuple [a, b] k2 pt2) X.env = pure (some [x, y]) := by rfl)
    (hs : swapsWithSole [.Tuple [.Name x px, .Name y py] kt pt] (.Tuple [a, b] k2 pt2) pos.line X.env = pure false := by rfl) : SS G X W (.Assign [.Tuple [.Name x px, .Name y py] kt pt] (.Tuple [a, b] k2 pt2) pos) (mPar i j ma) := by
  obtain ⟨t, p, s⟩ := ha
  refine ⟨_, ps_par hc hN hi hj hij hx hy p hw hs, ?_⟩
  intro σ H al e h fl h' D hr er hm q
  rcases bndS_some hm with ⟨c, k, e1, rfl⟩ | ⟨vs, h1, e1, e2⟩
  · exact s σ H al e h _ _ _ hr er e1 (PoS.exE er q)
  · refine s σ H al e h _ _ _ hr er e1 ?_
    intro al1 H1 us x1 hr1 rs
    split at e2
    · cases e2
      cases rs with
      | cons r1 rs =>
        cases rs with
        | cons r2 rs =>
          cases rs
          exact ⟨_, _, rfl, q al1 H1 _ x1 hr1 (((er.mono x1).set r1).set r2)⟩
    · cases e2

/-! ### o.f = v, d[k] = v -/
def putFA (f : Str) (v : AV) : List (Str × AV) → List (Str × AV)
  | [] => [(f, v)]
  | (g, x) :: r => if g = f then (g, v) :: r else (g, x) :: putFA f v r
theorem putFA_ok {f : Str} {v : AV} {u : V} (r : RA G n al H v u) : ∀ {ps : List (Str × AV)} {qs : List (Str × V)}, RF G n al H ps qs → RF G n al H (putFA f v ps) (putF f u qs)
  | [], [], _ => ⟨rfl, r, trivial⟩
  | (a, x) :: ps, (b, y) :: qs, h => by
    obtain ⟨e, rr, t⟩ := h
    have e' : a = b := e
    subst e'
    unfold putFA putF
    by_cases z : a = f
    · rw [if_pos z, if_pos z]; exact ⟨rfl, r, t⟩
    · rw [if_neg z, if_neg z]; exact ⟨rfl, rr, putFA_ok r t⟩
  | [], _ :: _, h => h.elim
  | _ :: _, [], h => h.elim
def mFldS (c : Nat) (f : Str) (mo mv : AE) : AS := fun e h => bndS (mv e h) e fun y h1 => bndS (mo e h1) e fun x h2 => match x with
  | .ref i => match h2[i]? with
    | some (.ins d fs) => if d = c ∧ fs.length < 900 then some (.nx e, h2.set i (.ins c (putFA f y fs))) else none
    | _ => none
  | _ => none
theorem ss_fld {c : Nat} {o value : Expr} {f : Str} {pos' : Pos} {mo mv : AE} (hK : X.K = G.K) (hc : Cls G.K (G.cl c)) (hn : NoAttr G.K (G.cl c) f) (ho : SE G X W o mo) (hv : SE G X W value mv) (hs : swapsWith value (some (.Attribute o f pos')) pos.line X.env = pure false := by rfl) :
    SS G X W (.Assign [.Attribute o f pos'] value pos) (mFldS c f mo mv) := by
  obtain ⟨to, po, so⟩ := ho
  obtain ⟨tv, pv, sv⟩ := hv
  refine ⟨_, ps_fld po pv hs, ?_⟩
  intro σ H al e h fl h' D hr er hm q
  rcases bndS_some hm with ⟨cc, k, e1, rfl⟩ | ⟨y, h1, e1, e2⟩
  · exact sv σ H al e h _ _ _ hr er e1 (PoS.exE er q)
  · refine sv σ H al e h _ _ _ hr er e1 ?_
    intro al1 H1 uy x1 hr1 ry
    rcases bndS_some e2 with ⟨cc, k, e3, rfl⟩ | ⟨x, h2, e3, e4⟩
    · exact so σ H1 al1 e h1 _ _ _ hr1 (er.mono x1) e3 (PoS.exE (er.mono x1) (PoS.after x1 q))
    · refine so σ H1 al1 e h1 _ _ _ hr1 (er.mono x1) e3 ?_
      intro al2 H2 ux x2 hr2 rx
      split at e4
      · rename_i i
        split at e4
        · rename_i d fs hi
          split at e4
          · rename_i hd
            obtain ⟨rfl, hl⟩ := hd
            cases e4
            obtain ⟨dx, gs, e5, rf⟩ := insAt hr2 hi
            have E := ext_put (u := .ins (G.cl d) dx (putF f uy gs)) hr2 hi rfl
            refine ⟨al2 i, G.cl d, dx, gs, refAt rx, e5, hK ▸ hc, hK ▸ hn, by rw [← rf.length]; omega, ?_⟩
            refine q al2 _ σ ?_ (hr2.put hi rfl rfl ?_) ?_
            · rw [List.length_set]; exact (x1.trans x2).trans E
            · exact ⟨dx, _, upd_same, putFA_ok ((ry.mono x2).mono E) (RF.mono E rf)⟩
            · rw [List.length_set]; exact er.mono ((x1.trans x2).trans E)
          · cases e4
        · cases e4
      · cases e4
/-- d[k] = v, the key an int or a text -/
def mDput (mo mk mv : AE) : AS := fun e h => bndS (mv e h) e fun v h1 => bndS (mo e h1) e fun x h2 => bndS (mk e h2) e fun y h3 => match x with
  | .ref i => match h3[i]?, keyA y with
    | some (.dct kvs), some k => if kvs.length < 100000 then some (.nx e, h3.set i (.dct (putA kvs k v))) else none
    | _, _ => none
  | _ => none
theorem ss_dput {o i value : Expr} {pos' : Pos} {mo mk mv : AE} (hu : X.A.units + 1 < cLine) (ho : SE G X W o mo) (hk : SE G X W i mk) (hv : SE G X W value mv) (hs : swapsWith value (some (.Subscript o i pos')) pos.line X.env = pure false := by rfl) :
    SS G X W (.Assign [.Subscript o i pos'] value pos) (mDput mo mk mv) := by
  obtain ⟨to, po, so⟩ := ho
  obtain ⟨tk, pk, sk⟩ := hk
  obtain ⟨tv, pv, sv⟩ := hv
  refine ⟨_, ps_dput hu po pk pv hs, ?_⟩
  intro σ H al e h fl h' D hr er hm q
  rcases bndS_some hm with ⟨cc, k, e1, rfl⟩ | ⟨v, h1, e1, e2⟩
  · exact sv σ H al e h _ _ _ hr er e1 (PoS.exE er q)
  · refine sv σ H al e h _ _ _ hr er e1 ?_
    intro al1 H1 uv x1 hr1 rv
    rcases bndS_some e2 with ⟨cc, k, e3, rfl⟩ | ⟨x, h2, e3, e4⟩
    · exact so σ H1 al1 e h1 _ _ _ hr1 (er.mono x1) e3 (PoS.exE (er.mono x1) (PoS.after x1 q))
    · refine so σ H1 al1 e h1 _ _ _ hr1 (er.mono x1) e3 ?_
      intro al2 H2 ux x2 hr2 rx
      rcases bndS_some e4 with ⟨cc, k, e5, rfl⟩ | ⟨y, h3, e5, e6⟩
      · exact sk σ H2 al2 e h2 _ _ _ hr2 (er.mono (x1.trans x2)) e5 (PoS.exE (er.mono (x1.trans x2)) (PoS.after (x1.trans x2) q))
      · refine sk σ H2 al2 e h2 _ _ _ hr2 (er.mono (x1.trans x2)) e5 ?_
        intro al3 H3 uy x3 hr3 ry
        split at e6
        · rename_i j
          split at e6
          · rename_i kvs k hi hk'
            split at e6
            · rename_i hl
              cases e6
              obtain ⟨ws, e7, rf⟩ := dctAt hr3 hi
              have E := ext_put (u := .dK (putK ws k uv)) hr3 hi rfl
              have ek := keyA_ok ry hk'
              subst ek
              refine ⟨al3 j, upd H3 (al3 j) (.dK (putK ws k uv)), refAt (rx.mono x3), DPut.k e7 (by rw [← rf.length, sizeLine_eq]; omega), ?_⟩
              refine q al3 _ σ ?_ (hr3.put hi rfl rfl ?_) ?_
              · rw [List.length_set]; exact ((x1.trans x2).trans x3).trans E
              · exact ⟨_, upd_same, RF.mono E (putA_ok rf ((rv.mono x2).mono x3))⟩
              · rw [List.length_set]; exact er.mono (((x1.trans x2).trans x3).trans E)
            · cases e6
          · cases e6
        · cases e6
end
end SL
/-! SL8: walks, for, while, list comprehensions. -/
namespace SL
open PySem PySem.Spec PyProof.Rows L2

inductive Src where
  | tup (xs : List AV) | lst (k : Nat)
def Src.items (h : List AO) : Src → Option (List AV)
  | .tup xs => some xs
  | .lst k => match h[k]? with
    | some (.lst xs) => some xs
    | some (.rol xs) => some xs
    | _ => none
def toSrc (h : List AO) : AV → Option Src
  | .tup xs => some (.tup xs)
  | .ref k => match Src.items h (.lst k) with
    | some _ => some (.lst k)
    | none => none
  | _ => none
/-- what a loop walks -/
inductive AI where
  | src (s : Src) | rng (lo : Int) (n : Nat) | str (x : Str) | enm (k : Nat) | zip (a b : Src) | dks (k : Nat)
def kA : Key → AV
  | .inl i => .int i
  | .inr z => .str z
def pairUp : Option AV → Option AV → Option AV
  | some x, some y => some (.tup [x, y])
  | _, _ => none
/-- turn i: stuck, at the end, or an item -/
def AI.at : AI → Nat → List AO → Option (Option AV)
  | .src s, i, h => (s.items h).map fun xs => xs[i]?
  | .rng lo n, i, _ => some (if i < n then some (.int (lo + (i : Nat))) else none)
  | .str x, i, _ => some ((x.cps[i]?).map fun c => .str ⟨#[c]⟩)
  | .enm k, i, h => ((Src.lst k).items h).map fun xs => (xs[i]?).map fun x => .tup [.int (i : Nat), x]
  | .zip a b, i, h => match a.items h, b.items h with
    | some xs, some ys => some (pairUp xs[i]? ys[i]?)
    | _, _ => none
  | .dks k, i, h => match h[k]? with
    | some (.ldk kvs) => some ((kvs[i]?).map fun p => kA p.1)
    | some (.ldt kvs) => some ((kvs[i]?).map fun p => .tup (p.1.map kA))
    | _ => none
/-- both of a kind -/
def Src.two : Src → Src → Bool
  | .tup _, .tup _ => true
  | .lst _, .lst _ => true
  | _, _ => false

section
variable {G : Gx} {X : Cx} {W : WX} {n : Nat} {al : Nat → Addr} {H : Hp} {σ : L2.St} {e : AEnv} {h' : List AO} {D : Ends} {pos : Pos}
def SrcR (G : Gx) (n : Nat) (al : Nat → Addr) (H : Hp) (a : Addr) : Src → Prop
  | .tup xs => ∃ vs, TupAt G H a vs ∧ RAs G n al H xs vs
  | .lst k => a = al k ∧ k < n
def Src.Sq (K : PySem.W.Frag) (H : Hp) (a : Addr) (vs : List V) : Src → Prop
  | .tup _ => SqT K H a vs
  | .lst _ => SqL K H a vs
theorem SrcR.mono {n' : Nat} {al' : Nat → Addr} {H' : Hp} {a : Addr} {s : Src} (x : Ext n al H n' al' H') (r : SrcR G n al H a s) : SrcR G n' al' H' a s := by
  cases s with
  | tup xs => obtain ⟨vs, t, rs⟩ := r; exact ⟨vs, t.mono x, rs.mono x⟩
  | lst k => exact ⟨r.1.trans (x.al k r.2).symm, Nat.lt_of_lt_of_le r.2 x.le⟩
theorem src_items {h : List AO} {a : Addr} {s : Src} {xs : List AV} (hr : HR G al h H) (r : SrcR G h.length al H a s) (e : s.items h = some xs) : ∃ vs, s.Sq G.K H a vs ∧ RAs G h.length al H xs vs := by
  cases s with
  | tup ys =>
    cases e
    obtain ⟨vs, t, rs⟩ := r
    exact ⟨vs, t.sq, rs⟩
  | lst k =>
    obtain ⟨rfl, _⟩ := r
    dsimp only [Src.items] at e
    split at e
    · rename_i q
      cases e
      obtain ⟨vs, h1, rs⟩ := lstAt hr q
      exact ⟨vs, .inl (.inl h1), rs⟩
    · rename_i q
      cases e
      obtain ⟨vs, h1, rs⟩ := hr.ob k _ q
      exact ⟨vs, RoL.sq h1, rs⟩
    · cases e
theorem toSrc_ok {h : List AO} {x : AV} {u : V} {s : Src} (r : RA G h.length al H x u) (e : toSrc h x = some s) : (∃ a, u = .ref a ∧ SrcR G h.length al H a s) ∧ ∃ xs, s.items h = some xs := by
  cases x with
  | tup xs =>
    cases e
    obtain ⟨a, vs, rfl, t, rs⟩ := tupAt r
    exact ⟨⟨a, rfl, vs, t, rs⟩, xs, rfl⟩
  | ref k =>
    unfold toSrc at e
    dsimp only at e
    split at e
    · rename_i xs q
      cases e
      cases r with
      | ref hk => exact ⟨⟨_, rfl, rfl, hk⟩, xs, q⟩
    · cases e
  | _ => cases e

/-! ### an iterator and its picture -/
structure ItR (G : Gx) (lo : Bool) (n : Nat) (al : Nat → Addr) (H : Hp) (I : AI) (J : It) : Prop where
  ok : ∀ al' h' H', Ext n al H h'.length al' H' → HR G al' h' H' → ∀ i, (I.at i h' = some none → J.stop i H') ∧ ∀ v, I.at i h' = some (some v) → J.go i H' ∧ ∀ x H2, J.yld i H' x H2 → Ext h'.length al' H' h'.length al' H2 ∧ HR G al' h' H2 ∧ RL G lo h'.length al' H2 v x
def Src.it (K : PySem.W.Frag) (a : Addr) : Src → It
  | .tup _ => Itt K a
  | .lst _ => Itl K a
theorem itr_src {a : Addr} {s : Src} {lo : Bool} (r : SrcR G n al H a s) : ItR G lo n al H (.src s) (s.it G.K a) := by
  refine ⟨fun al' h' H' x hr i => ?_⟩
  have r' := SrcR.mono x r
  refine ⟨fun q => ?_, fun v q => ?_⟩
  · cases z : s.items h' with
    | none => simp [AI.at, z] at q
    | some xs =>
      obtain ⟨vs, sq, rs⟩ := src_items hr r' z
      have hl : vs.length ≤ i := by
        rw [← rs.length]
        simpa [AI.at, z] using q
      cases s with
      | tup ys => exact ⟨vs, sq, hl⟩
      | lst k => exact ⟨vs, sq, hl⟩
  · cases z : s.items h' with
    | none => simp [AI.at, z] at q
    | some xs =>
      obtain ⟨vs, sq, rs⟩ := src_items hr r' z
      have hx : xs[i]? = some v := by simpa [AI.at, z] using q
      obtain ⟨u, hu, ru⟩ := rs.get hx
      cases s with
      | tup ys =>
        refine ⟨⟨vs, u, sq, hu⟩, fun y H2 yl => ?_⟩
        obtain ⟨rfl, y2⟩ := yl
        have := y2 vs sq
        rw [hu] at this
        cases this
        exact ⟨.refl, hr, .inl ru⟩
      | lst k =>
        refine ⟨⟨vs, u, sq, hu⟩, fun y H2 yl => ?_⟩
        obtain ⟨rfl, y2⟩ := yl
        have := y2 vs sq
        rw [hu] at this
        cases this
        exact ⟨.refl, hr, .inl ru⟩
theorem itr_rng {l : Int} {m : Nat} {lo : Bool} : ItR G lo n al H (.rng l m) (Itr l m) := by
  refine ⟨fun al' h' H' x hr i => ⟨fun q => ?_, fun v q => ?_⟩⟩
  · have q' : (if i < m then some (AV.int (l + (i : Nat))) else none) = none := Option.some.inj q
    split at q'
    · cases q'
    · exact Nat.le_of_not_lt (by assumption)
  · have q' : (if i < m then some (AV.int (l + (i : Nat))) else none) = some v := Option.some.inj q
    split at q'
    · cases q'
      refine ⟨by assumption, fun y H2 yl => ?_⟩
      obtain ⟨rfl, rfl⟩ := yl
      exact ⟨.refl, hr, .inl .int⟩
    · cases q'
theorem itr_str {z : Str} {lo : Bool} : ItR G lo n al H (.str z) (Its z) := by
  refine ⟨fun al' h' H' x hr i => ⟨fun q => ?_, fun v q => ?_⟩⟩
  · have q' : (z.cps[i]?).map (fun c => AV.str ⟨#[c]⟩) = none := Option.some.inj q
    rw [Option.map_eq_none_iff] at q'
    exact Array.getElem?_eq_none_iff.mp q'
  · have q' : (z.cps[i]?).map (fun c => AV.str ⟨#[c]⟩) = some v := Option.some.inj q
    cases y : z.cps[i]? with
    | none => rw [y] at q'; cases q'
    | some c =>
      rw [y] at q'
      cases q'
      refine ⟨?_, fun y2 H2 yl => ?_⟩
      · by_cases hlt : i < z.cps.size
        · exact hlt
        · rw [Array.getElem?_eq_none (Nat.le_of_not_lt hlt)] at y; cases y
      · obtain ⟨rfl, c', hc, rfl⟩ := yl
        rw [y] at hc
        cases hc
        exact ⟨.refl, hr, .inl .str⟩
theorem loose {a : Addr} {xs : List AV} {vs : List V} {h : List AO} (hr : HR G al h H) (ha : H a = none) (rs : RAs G h.length al H xs vs) : Ext h.length al H h.length al (upd H a (.tup vs)) ∧ HR G al h (upd H a (.tup vs)) ∧ RL G true h.length al (upd H a (.tup vs)) (.tup xs) (.ref a) :=
  ⟨ext_beside ha, hr.beside ha, .inr ⟨rfl, xs, a, vs, rfl, rfl, upd_same, rs.mono (ext_beside ha)⟩⟩
theorem itr_enm {k : Nat} (r : k < n) : ItR G true n al H (.enm k) (Ite G.K (al k)) := by
  refine ⟨fun al' h' H' x hr i => ?_⟩
  have r' : SrcR G h'.length al' H' (al' k) (.lst k) := ⟨rfl, Nat.lt_of_lt_of_le r x.le⟩
  rw [← x.al k r]
  refine ⟨fun q => ?_, fun v q => ?_⟩
  · cases z : (Src.lst k).items h' with
    | none => simp [AI.at, z] at q
    | some xs =>
      obtain ⟨vs, sq, rs⟩ := src_items hr r' z
      exact ⟨vs, sq, by
        rw [← rs.length]
        simpa [AI.at, z] using q⟩
  · cases z : (Src.lst k).items h' with
    | none => simp [AI.at, z] at q
    | some xs =>
      obtain ⟨vs, sq, rs⟩ := src_items hr r' z
      have hx : (xs[i]?).map (fun y => AV.tup [.int (i : Nat), y]) = some v := by simpa [AI.at, z] using q
      cases hy : xs[i]? with
      | none => rw [hy] at hx; cases hx
      | some y =>
        rw [hy] at hx
        cases hx
        obtain ⟨u, hu, ru⟩ := rs.get hy
        refine ⟨⟨vs, u, sq, hu⟩, fun y H2 yl => ?_⟩
        obtain ⟨T, w, rfl, hT, rfl, y2⟩ := yl
        have := y2 vs sq
        rw [hu] at this
        cases this
        exact loose hr hT (.cons .int (.cons ru .nil))
theorem itr_zip {a b : Addr} {s t : Src} (ra : SrcR G n al H a s) (rb : SrcR G n al H b t) (h2 : s.two t = true) : ItR G true n al H (.zip s t) (match s with | .tup _ => RZ.ItzT G.K a b | .lst _ => Itz G.K a b) := by
  refine ⟨fun al' h' H' x hr i => ?_⟩
  have ra' := SrcR.mono x ra
  have rb' := SrcR.mono x rb
  refine ⟨fun q => ?_, fun v q => ?_⟩
  · cases z : s.items h' with
    | none => simp [AI.at, z] at q
    | some xs =>
      cases z' : t.items h' with
      | none => simp [AI.at, z, z'] at q
      | some ys =>
        obtain ⟨vs, sq, rs⟩ := src_items hr ra' z
        obtain ⟨vs', sq', rs'⟩ := src_items hr rb' z'
        have hp : pairUp xs[i]? ys[i]? = none := by simpa [AI.at, z, z'] using q
        have hl : vs.length ≤ i ∨ vs'.length ≤ i := by
          rw [← rs.length, ← rs'.length]
          cases hx : xs[i]? with
          | none => exact .inl (List.getElem?_eq_none_iff.mp hx)
          | some x => cases hy : ys[i]? with
            | none => exact .inr (List.getElem?_eq_none_iff.mp hy)
            | some y => rw [hx, hy] at hp; cases hp
        cases s with
        | tup _ => cases t with
          | tup _ => exact ⟨vs, vs', sq, sq', hl⟩
          | lst _ => cases h2
        | lst _ => cases t with
          | tup _ => cases h2
          | lst _ => exact ⟨vs, vs', sq, sq', hl⟩
  · cases z : s.items h' with
    | none => simp [AI.at, z] at q
    | some xs =>
      cases z' : t.items h' with
      | none => simp [AI.at, z, z'] at q
      | some ys =>
        obtain ⟨vs, sq, rs⟩ := src_items hr ra' z
        obtain ⟨vs', sq', rs'⟩ := src_items hr rb' z'
        have hp : pairUp xs[i]? ys[i]? = some v := by simpa [AI.at, z, z'] using q
        cases hx : xs[i]? with
        | none => rw [hx] at hp; cases hp
        | some x0 => cases hy : ys[i]? with
          | none => rw [hx, hy] at hp; cases hp
          | some y0 =>
            rw [hx, hy] at hp; cases hp
            obtain ⟨u, hu, ru⟩ := rs.get hx
            obtain ⟨u', hu', ru'⟩ := rs'.get hy
            cases s with
            | tup _ => cases t with
              | tup _ =>
                refine ⟨⟨vs, vs', u, u', sq, sq', hu, hu'⟩, fun y H2 yl => ?_⟩
                obtain ⟨T, w, w', rfl, hT, rfl, y2, y3⟩ := yl
                have q1 := y2 vs sq
                have q2 := y3 vs' sq'
                rw [hu] at q1; rw [hu'] at q2
                cases q1; cases q2
                exact loose hr hT (.cons ru (.cons ru' .nil))
              | lst _ => cases h2
            | lst _ => cases t with
              | tup _ => cases h2
              | lst _ =>
                refine ⟨⟨vs, vs', u, u', sq, sq', hu, hu'⟩, fun y H2 yl => ?_⟩
                obtain ⟨T, w, w', rfl, hT, rfl, y2, y3⟩ := yl
                have q1 := y2 vs sq
                have q2 := y3 vs' sq'
                rw [hu] at q1; rw [hu'] at q2
                cases q1; cases q2
                exact loose hr hT (.cons ru (.cons ru' .nil))

def PoI (G : Gx) (W : WX) (lo : Bool) (n : Nat) (al : Nat → Addr) (H : Hp) (σ : L2.St) (r : Rs AI) (h' : List AO) (R : It → Hp → Prop) : Prop := match r with
  | .ok I => ∀ al' H' J, Ext n al H h'.length al' H' → HR G al' h' H' → ItR G lo h'.length al' H' I J → R J H'
  | .ex c k => FwX G n al H c k h' fun cls d H' => W cls d σ H'
def SndI (G : Gx) (W : WX) (lo : Bool) (wi : TI) (m : AEnv → AM AI) : Prop := ∀ σ H al e h r h' R, HR G al h H → ER G h.length al H e σ → m e h = some (r, h') → PoI G W lo h.length al H σ r h' R → wi σ H R
def SI (G : Gx) (X : Cx) (W : WX) (lo : Bool) (tg iter : Expr) (m : AEnv → AM AI) : Prop := ∃ wi, PI X tg iter wi ∧ SndI G W lo wi m

/-! ### the kinds of walk -/
def iSeq (K : PySem.W.Frag) (tl : TE) : TI := fun σ H R => tl σ H fun x H1 => (∃ a, x = .ref a ∧ (((∃ xs, SqL K H1 a xs) ∧ R (Itl K a) H1) ∨ ((∃ xs, SqT K H1 a xs) ∧ R (Itt K a) H1))) ∨ ∃ z, x = .str z ∧ R (Its z) H1
/-- a new iterator is nobody's -/
theorem it_room {pins : List (Addr × Obj)} {σ : L2.St} {H : Hp} {s : Shared} (I : Inv X pins σ H s) (ob : Obj) : Inv X pins σ H { s with heap := s.heap.push ob } ∧ ∀ c ∈ [s.heap.objs.size], FpOk X pins H c := by
  constructor
  · exact I.kept (t' := s.toks) fun _ _ => Heap.get?_push_of_some _
  · intro c hc
    rw [List.mem_singleton.mp hc]
    have none_ := I.hok.fresh (Nat.le_refl s.heap.objs.size)
    exact I.fpOk (Nat.le_refl _) none_
theorem pi_seq {l tg : Expr} {tl : TE} (hl : PE X l tl) : PI X tg l (iSeq X.K tl) := by
  constructor
  intro pins s σ H R h0 h
  apply thn (hl.run pins s σ H _ h0 h)
  rintro v s1 ⟨x, H1, I1, r1, q1⟩
  have room := it_room I1
  rcases q1 with ⟨a, e, ⟨⟨xs, hq⟩, q⟩ | ⟨⟨xs, hq⟩, q⟩⟩ | ⟨z, ez, q⟩
  · cases e
    cases r1
    have ⟨its, _, pl, _⟩ := I1.list hq
    exact wpAny_pyIter_list pl.isList ⟨_, _, _, _, H1, rfl, (room _).1, turn_list a _, ⟨_, Heap.get?_push_size _ rfl, rfl, rfl⟩, (room default).2, q⟩
  · cases e
    cases r1
    have ⟨its, _, pt, _⟩ := I1.tuple hq
    exact wpAny_pyIter_tuple (show s1.heap.IsTuple a its.toArray from pt) ⟨_, _, _, _, H1, rfl, (room _).1, turn_tuple a _, ⟨_, Heap.get?_push_size _ rfl, rfl, rfl⟩, (room default).2, q⟩
  · subst ez
    obtain ⟨t, rfl⟩ := r1
    cases ha : z.cps.all (· < 128)
    · exact wpAny_pyIter_wide ha (pi_one (tk := s1.toks) I1 _ (turn_str _ z t "str_iterator" (.inr rfl)) ⟨_, Heap.get?_push_size _ rfl, rfl, rfl⟩ q)
    · exact wpAny_pyIter_ascii ha (pi_one (tk := s1.toks) I1 _ (turn_str _ z t "str_ascii_iterator" (.inl rfl)) ⟨_, Heap.get?_push_size _ rfl, rfl, rfl⟩ q)
def iSq (m : AE) : AEnv → AM AI := fun e h => bnd (m e h) fun x h1 => match x with
  | .str z => some (.ok (.str z), h1)
  | x => (toSrc h1 x).map fun s => (.ok (.src s), h1)
theorem si_seq {tg l : Expr} {m : AE} {lo : Bool} (hK : X.K = G.K) (hl : SE G X W l m) : SI G X W lo tg l (iSq m) := by
  obtain ⟨t, p, s⟩ := hl
  refine ⟨_, pi_seq p, ?_⟩
  intro σ H al e h r h' R hr er hm q
  rcases bnd_some hm with ⟨c, k, e1, rfl⟩ | ⟨x, h1, e1, e2⟩
  · exact s σ H al e h _ _ _ hr er e1 q
  · refine s σ H al e h _ _ _ hr er e1 ?_
    intro al1 H1 u x1 hr1 r1
    split at e2
    · cases e2
      cases r1
      exact .inr ⟨_, rfl, q al1 H1 _ x1 hr1 itr_str⟩
    · cases z : toSrc h1 x with
      | none => rw [z] at e2; cases e2
      | some sr =>
        rw [z] at e2; cases e2
        obtain ⟨⟨a, rfl, ra⟩, xs, hx⟩ := toSrc_ok r1 z
        obtain ⟨vs, sq, _⟩ := src_items hr1 ra hx
        refine .inl ⟨a, rfl, ?_⟩
        rw [hK]
        cases sr with
        | tup ys => exact .inr ⟨⟨vs, sq⟩, q al1 H1 _ x1 hr1 (itr_src (s := .tup ys) ra)⟩
        | lst j => exact .inl ⟨⟨vs, sq⟩, q al1 H1 _ x1 hr1 (itr_src (s := .lst j) ra)⟩
def rngOk (i : Int) : Bool := decide (-(2 ^ 62) ≤ i ∧ i < 2 ^ 62)
def iR1 (ma : AEnv → AM (List AV)) : AEnv → AM AI := fun e h => bnd (ma e h) fun vs h1 => match vs with
  | [.int j] => if rngOk j = true then some (.ok (.rng 0 j.toNat), h1) else none
  | _ => none
theorem si_rng1 {tg a : Expr} {ma : AEnv → AM (List AV)} {p pos : Pos} {lo : Bool} (hm : X.mg "range" = none) (ha : SA G X W [a] ma) (hg : Gl X "range" := by rfl) (hs : starEach [a] X.env = [(false, eval a X.env)] := by rfl) : SI G X W lo tg (.Call (.Name "range" p) [a] [] pos) (iR1 ma) := by
  obtain ⟨t, pa, s⟩ := ha
  refine ⟨_, pi_range1 hg hm pa hs, ?_⟩
  intro σ H al e h r h' R hr er hm q
  rcases bnd_some hm with ⟨c, k, e1, rfl⟩ | ⟨vs, h1, e1, e2⟩
  · exact s σ H al e h _ _ _ hr er e1 q
  · refine s σ H al e h _ _ _ hr er e1 ?_
    intro al1 H1 us x1 hr1 rs
    split at e2
    · rename_i j
      split at e2
      · rename_i hj
        cases e2
        obtain ⟨u, rfl, r1⟩ := one_of rs
        cases r1
        obtain ⟨h3, h4⟩ := of_decide_eq_true hj
        exact ⟨j, rfl, h3, h4, q al1 H1 _ x1 hr1 itr_rng⟩
      · cases e2
    · cases e2
def iR2 (ma : AEnv → AM (List AV)) : AEnv → AM AI := fun e h => bnd (ma e h) fun vs h1 => match vs with
  | [.int i, .int j] => if rngOk i = true ∧ rngOk j = true then some (.ok (.rng i (j - i).toNat), h1) else none
  | _ => none
theorem si_rng2 {tg a b : Expr} {ma : AEnv → AM (List AV)} {p pos : Pos} {lo : Bool} (hm : X.mg "range" = none) (ha : SA G X W [a, b] ma) (hg : Gl X "range" := by rfl) (hs : starEach [a, b] X.env = [(false, eval a X.env), (false, eval b X.env)] := by rfl) (hs2 : starEach [b] X.env = [(false, eval b X.env)] := by rfl) :
    SI G X W lo tg (.Call (.Name "range" p) [a, b] [] pos) (iR2 ma) := by
  obtain ⟨t, pa, s⟩ := ha
  refine ⟨_, pi_range2 hg hm pa hs hs2, ?_⟩
  intro σ H al e h r h' R hr er hm q
  rcases bnd_some hm with ⟨c, k, e1, rfl⟩ | ⟨vs, h1, e1, e2⟩
  · exact s σ H al e h _ _ _ hr er e1 q
  · refine s σ H al e h _ _ _ hr er e1 ?_
    intro al1 H1 us x1 hr1 rs
    split at e2
    · rename_i i j
      split at e2
      · rename_i hj
        cases e2
        obtain ⟨u, w, rfl, r1, r2⟩ := two_of rs
        cases r1
        cases r2
        obtain ⟨h3, h4⟩ := of_decide_eq_true hj.1
        obtain ⟨h5, h6⟩ := of_decide_eq_true hj.2
        exact ⟨i, j, rfl, ⟨h3, h4, h5, h6⟩, q al1 H1 _ x1 hr1 itr_rng⟩
      · cases e2
    · cases e2
def iEn (ma : AEnv → AM (List AV)) : AEnv → AM AI := fun e h => bnd (ma e h) fun vs h1 => match vs with
  | [.ref k] => match (Src.lst k).items h1 with
    | some _ => some (.ok (.enm k), h1)
    | none => none
  | _ => none
theorem si_enum {a : Expr} {elts : List Expr} {kk : Nat} {tpos : Pos} {ma : AEnv → AM (List AV)} {p pos : Pos} (hK : X.K = G.K) (hm : X.mg "enumerate" = none) (ha : SA G X W [a] ma) (hg : Gl X "enumerate" := by rfl) (hs : starEach [a] X.env = [(false, eval a X.env)] := by rfl) :
    SI G X W true (.Tuple elts kk tpos) (.Call (.Name "enumerate" p) [a] [] pos) (iEn ma) := by
  obtain ⟨t, pa, s⟩ := ha
  refine ⟨_, pi_enum hg hm pa hs, ?_⟩
  intro σ H al e h r h' R hr er hm q
  rcases bnd_some hm with ⟨c, k, e1, rfl⟩ | ⟨vs, h1, e1, e2⟩
  · exact s σ H al e h _ _ _ hr er e1 q
  · refine s σ H al e h _ _ _ hr er e1 ?_
    intro al1 H1 us x1 hr1 rs
    split at e2
    · rename_i k
      split at e2
      · rename_i xs hx
        cases e2
        obtain ⟨u, rfl, r1⟩ := one_of rs
        cases r1 with
        | ref hk =>
          obtain ⟨vs, sq, _⟩ := src_items hr1 (s := .lst k) ⟨rfl, hk⟩ hx
          rw [hK]
          exact ⟨_, vs, rfl, sq, q al1 H1 _ x1 hr1 (itr_enm hk)⟩
      · cases e2
    · cases e2
def iZp (ma : AEnv → AM (List AV)) : AEnv → AM AI := fun e h => bnd (ma e h) fun vs h1 => match vs with
  | [x, y] => match toSrc h1 x, toSrc h1 y with
    | some s, some t => if s.two t = true then some (.ok (.zip s t), h1) else none
    | _, _ => none
  | _ => none
theorem si_zip {a b : Expr} {elts : List Expr} {kk : Nat} {tpos : Pos} {ma : AEnv → AM (List AV)} {p pos : Pos} (hK : X.K = G.K) (hm : X.mg "zip" = none) (ha : SA G X W [a, b] ma) (hg : Gl X "zip" := by rfl)
    (hs : starEach [a, b] X.env = (false, eval a X.env) :: starEach [b] X.env := by rfl) (hpl : (backTo pos (starEach [b] X.env)).any (·.1) = false := by rfl) :
    SI G X W true (.Tuple elts kk tpos) (.Call (.Name "zip" p) [a, b] [] pos) (iZp ma) := by
  obtain ⟨t, pa, s⟩ := ha
  refine ⟨_, RZ.pi_zipA hg hm pa hs hpl, ?_⟩
  intro σ H al e h r h' R hr er hm q
  rcases bnd_some hm with ⟨c, k, e1, rfl⟩ | ⟨vs, h1, e1, e2⟩
  · exact s σ H al e h _ _ _ hr er e1 q
  · refine s σ H al e h _ _ _ hr er e1 ?_
    intro al1 H1 us x1 hr1 rs
    split at e2
    · rename_i x y
      split at e2
      · rename_i s1 s2 hx hy
        split at e2
        · rename_i h2
          cases e2
          obtain ⟨u, w, rfl, r1, r2⟩ := two_of rs
          obtain ⟨⟨a1, rfl, ra⟩, xs, hxs⟩ := toSrc_ok r1 hx
          obtain ⟨⟨b1, rfl, rb⟩, ys, hys⟩ := toSrc_ok r2 hy
          obtain ⟨vs, sq, _⟩ := src_items hr1 ra hxs
          obtain ⟨vs', sq', _⟩ := src_items hr1 rb hys
          have z := itr_zip ra rb h2
          refine ⟨a1, b1, vs, vs', rfl, ?_⟩
          rw [hK]
          cases s1 with
          | tup _ => cases s2 with
            | tup _ => exact .inr ⟨sq, sq', q al1 H1 _ x1 hr1 z⟩
            | lst _ => cases h2
          | lst _ => cases s2 with
            | tup _ => cases h2
            | lst _ => exact .inl ⟨sq, sq', q al1 H1 _ x1 hr1 z⟩
        · cases e2
      · cases e2
    · cases e2

/-! ### for, while -/
def forL (I : AI) (g : AG) (b : AS) : Nat → Nat → AS
  | 0, _, _, _ => none
  | f + 1, i, e, h => match I.at i h with
    | none => none
    | some none => some (.nx e, h)
    | some (some v) => match g v e h with
      | none => none
      | some (e1, h1) => match b e1 h1 with
        | some (.nx e2, h2) => forL I g b f (i + 1) e2 h2
        | some (.ct e2, h2) => forL I g b f (i + 1) e2 h2
        | some (.bk e2, h2) => some (.nx e2, h2)
        | r => r
def mFor (N : Nat) (mi : AEnv → AM AI) (g : AG) (b : AS) : AS := fun e h => bndS (mi e h) e fun I h1 => forL I g b N 0 e h1
theorem snd_for {wi : TI} {mi : AEnv → AM AI} {g : TG} {mg : AG} {ws : List Nat} {lo : Bool} {tb : TS} {mb : AS} (N : Nat) (si : SndI G W lo wi mi) (sg : SndG G lo ws g mg) (sb : SndS G W tb mb) : SndS G W (tFor wi g tb) (mFor N mi mg mb) := by
  intro σ H al e h fl h' D hr er hm q
  rcases bndS_some hm with ⟨c, k, e1, rfl⟩ | ⟨I, h1, e1, e2⟩
  · exact si σ H al e h _ _ _ hr er e1 (PoS.exE er q)
  · refine si σ H al e h _ _ _ hr er e1 ?_
    intro al1 H1 J x1 hr1 IR
    refine ⟨fun i m σ2 H2 => ∃ al2 e2 h2, Ext h1.length al1 H1 h2.length al2 H2 ∧ HR G al2 h2 H2 ∧ ER G h2.length al2 H2 e2 σ2 ∧ forL I mg mb m i e2 h2 = some (fl, h') ∧ PoS G W h2.length al2 H2 fl h' D, ⟨N, al1, e, h1, .refl, hr1, er.mono x1, e2, PoS.after x1 q⟩, ?_⟩
    rintro i m σ2 H2 ⟨al2, e3, h2, x2, hr2, er2, em, q2⟩
    cases m with
    | zero => cases em
    | succ m =>
      obtain ⟨st, go⟩ := IR.ok al2 h2 H2 x2 hr2 i
      unfold forL at em
      split at em
      · cases em
      · rename_i z
        cases em
        exact .inl ⟨st z, q2 al2 H2 σ2 .refl hr2 er2⟩
      · rename_i v z
        obtain ⟨hg, yl⟩ := go v z
        split at em
        · cases em
        · rename_i e4 h4 ez
          refine .inr ⟨hg, fun σ5 H5 => ∃ al5 e5 h5, Ext h1.length al1 H1 h5.length al5 H5 ∧ HR G al5 h5 H5 ∧ ER G h5.length al5 H5 e5 σ5 ∧ forL I mg mb m (i + 1) e5 h5 = some (fl, h') ∧ PoS G W h5.length al5 H5 fl h' D, fun σ' H' w => ⟨m, Nat.lt_succ_self m, w⟩, fun x H3 y => ?_⟩
          obtain ⟨x3, hr3, rl⟩ := yl x H3 y
          have er3 := er2.mono x3
          refine sg σ2 H3 al2 e3 h2 v x e4 h4 _ hr3 er3 rl ez ?_
          intro al4 H4 σ4 x4 hr4 er4 _ _
          have xx := (x2.trans x3).trans x4
          have q4 := PoS.after (x3.trans x4) q2
          split at em
          · rename_i e5 h5 eb
            exact sb σ4 H4 al4 e4 h4 _ _ _ hr4 er4 eb fun al5 H5 σ5 x5 hr5 er5 => ⟨al5, e5, h5, xx.trans x5, hr5, er5, em, PoS.after x5 q4⟩
          · rename_i e5 h5 eb
            exact sb σ4 H4 al4 e4 h4 _ _ _ hr4 er4 eb fun al5 H5 σ5 x5 hr5 er5 => ⟨al5, e5, h5, xx.trans x5, hr5, er5, em, PoS.after x5 q4⟩
          · rename_i e5 h5 eb
            cases em
            exact sb σ4 H4 al4 e4 h4 _ _ _ hr4 er4 eb q4
          · rename_i n1 n2 n3
            refine sb σ4 H4 al4 e4 h4 fl h' _ hr4 er4 em ?_
            cases fl with
            | nx e5 => exact absurd em (n1 e5 h')
            | ct e5 => exact absurd em (n2 e5 h')
            | bk e5 => exact absurd em (n3 e5 h')
            | rt v => exact q4
            | ex c k e5 => exact q4
theorem ss_for {tg iter : Expr} {body : List Stmt} {mi : AEnv → AM AI} {mg : AG} {mb : AS} {ws : List Nat} {lo : Bool} (N : Nat) (hp : PassesOwn (model X.prog X.w) X.A X.env X.xe) (hc : X.calm = true) (hi : SI G X W lo tg iter mi) (hg : SG G X lo ws tg mg) (hb : SB G X W body mb)
    (hs : ∀ x, foldedSetIterable iter X.env x = pure x := by intro _; rfl) : SS G X W (.For tg iter body [] pos) (mFor N mi mg mb) := by
  obtain ⟨_, p1, s1⟩ := hi
  obtain ⟨_, p2, s2⟩ := hg
  obtain ⟨_, p3, s3⟩ := hb
  exact ⟨_, ps_for hp hc p1 p2 p3 hs, snd_for N s1 s2 s3⟩
def whL (c : AEnv → AM Bool) (b : AS) : Nat → AS
  | 0, _, _ => none
  | f + 1, e, h => match c e h with
    | none => none
    | some (.ex c k, h1) => some (.ex c k e, h1)
    | some (.ok false, h1) => some (.nx e, h1)
    | some (.ok true, h1) => match b e h1 with
      | some (.nx e2, h2) => whL c b f e2 h2
      | some (.ct e2, h2) => whL c b f e2 h2
      | some (.bk e2, h2) => some (.nx e2, h2)
      | r => r
theorem snd_while {tc : TT} {mc : AEnv → AM Bool} {tb : TS} {mb : AS} (N : Nat) (sc : SndT G W tc mc) (sb : SndS G W tb mb) : SndS G W (tWhile tc tb) (whL mc mb N) := by
  intro σ H al e h fl h' D hr er hm q
  refine ⟨fun m σ2 H2 => ∃ al2 e2 h2, HR G al2 h2 H2 ∧ ER G h2.length al2 H2 e2 σ2 ∧ whL mc mb m e2 h2 = some (fl, h') ∧ PoS G W h2.length al2 H2 fl h' D, ⟨N, al, e, h, hr, er, hm, q⟩, ?_⟩
  rintro m σ2 H2 ⟨al2, e2, h2, hr2, er2, em, q2⟩
  cases m with
  | zero => cases em
  | succ m =>
    unfold whL at em
    split at em
    · cases em
    · rename_i c k h3 ec
      cases em
      exact sc σ2 H2 al2 e2 h2 _ _ _ hr2 er2 ec (PoS.exE er2 q2)
    · rename_i h3 ec
      cases em
      exact sc σ2 H2 al2 e2 h2 _ _ _ hr2 er2 ec fun al3 H3 x3 hr3 => q2 al3 H3 σ2 x3 hr3 (er2.mono x3)
    · rename_i h3 ec
      refine sc σ2 H2 al2 e2 h2 _ _ _ hr2 er2 ec fun al3 H3 x3 hr3 => ?_
      have q3 := PoS.after x3 q2
      have er3 := er2.mono x3
      refine ⟨fun σ5 H5 => ∃ al5 e5 h5, HR G al5 h5 H5 ∧ ER G h5.length al5 H5 e5 σ5 ∧ whL mc mb m e5 h5 = some (fl, h') ∧ PoS G W h5.length al5 H5 fl h' D, fun σ' H' w => ⟨m, Nat.lt_succ_self m, w⟩, ?_⟩
      split at em
      · rename_i e5 h5 eb
        exact sb σ2 H3 al3 e2 h3 _ _ _ hr3 er3 eb fun al5 H5 σ5 x5 hr5 er5 => ⟨al5, e5, h5, hr5, er5, em, PoS.after x5 q3⟩
      · rename_i e5 h5 eb
        exact sb σ2 H3 al3 e2 h3 _ _ _ hr3 er3 eb fun al5 H5 σ5 x5 hr5 er5 => ⟨al5, e5, h5, hr5, er5, em, PoS.after x5 q3⟩
      · rename_i e5 h5 eb
        cases em
        exact sb σ2 H3 al3 e2 h3 _ _ _ hr3 er3 eb q3
      · rename_i n1 n2 n3
        refine sb σ2 H3 al3 e2 h3 fl h' _ hr3 er3 em ?_
        cases fl with
        | nx e5 => exact absurd em (n1 e5 h')
        | ct e5 => exact absurd em (n2 e5 h')
        | bk e5 => exact absurd em (n3 e5 h')
        | rt v => exact q3
        | ex c k e5 => exact q3
theorem ss_while {c : Expr} {body : List Stmt} {mc : AEnv → AM Bool} {mb : AS} (N : Nat) (hp : PassesOwn (model X.prog X.w) X.A X.env X.xe) (hc : ST G X W c mc) (hb : SB G X W body mb) : SS G X W (.While c body [] pos) (whL mc mb N) := by
  obtain ⟨_, p1, s1⟩ := hc
  obtain ⟨_, p2, s2⟩ := hb
  exact ⟨_, ps_while hp p1 p2, snd_while N s1 s2⟩
end
end SL
/-! SL9: list comprehensions, dict displays. -/
namespace SL
open PySem PySem.Spec PyProof.Rows L2

/-- no exception leaves a comprehension's block -/
abbrev W0 : WX := fun _ _ _ _ => False
/-- the block's context -/
abbrev bk (X : Cx) (scope : Scope) (s : Shared) (H : Hp) (C : Addr) (cl : List (Str × Addr)) (fp : List Addr) : Cx := X.blk s H scope (compEnvC scope cl C X.env) fp
section
variable {G : Gx} {X : Cx} {W : WX} {n : Nat} {al : Nat → Addr} {H : Hp} {σ : L2.St} {e : AEnv} {h' : List AO} {D : Ends} {pos : Pos}
/-! ### the readings that serve in every block -/
def rdE (G : Gx) (m : AE) : TE := fun σ H Q => ∃ al e h r h', HR G al h H ∧ ER G h.length al H e σ ∧ m e h = some (r, h') ∧ PoE G W0 h.length al H σ r h' Q
def rdT (G : Gx) (m : AEnv → AM Bool) : TT := fun σ H Q => ∃ al e h r h', HR G al h H ∧ ER G h.length al H e σ ∧ m e h = some (r, h') ∧ PoT G W0 h.length al H σ r h' Q
def rdG (G : Gx) (lo : Bool) (ws : List Nat) (m : AG) : TG := fun u σ H Q => ∃ al e h v e' h', HR G al h H ∧ ER G h.length al H e σ ∧ RL G lo h.length al H v u ∧ m v e h = some (e', h') ∧ FwG G h.length al H σ ws e' h' Q
theorem se_rd {ex : Expr} {m : AE} (h : SE G X W0 ex m) : PE X ex (rdE G m) := by
  obtain ⟨t, p, s⟩ := h
  refine ⟨fun pins sh σ H Q I hw => p.run pins sh σ H Q I ?_⟩
  obtain ⟨al, e, hh, r, h', hr, er, hm, q⟩ := hw
  exact s σ H al e hh r h' Q hr er hm q
theorem st_rd {ex : Expr} {m : AEnv → AM Bool} (h : ST G X W0 ex m) : PT X ex (rdT G m) := by
  obtain ⟨t, p, s⟩ := h
  refine ⟨fun pins sh σ H Q I hw => p.run pins sh σ H Q I ?_⟩
  obtain ⟨al, e, hh, r, h', hr, er, hm, q⟩ := hw
  exact s σ H al e hh r h' Q hr er hm q
theorem sg_rd {tg : Expr} {lo : Bool} {ws : List Nat} {m : AG} (h : SG G X lo ws tg m) : PG X tg (rdG G lo ws m) := by
  obtain ⟨g, p, s⟩ := h
  refine ⟨fun pins sh σ H v u Q I rv hw => p.run pins sh σ H v u Q I rv ?_⟩
  obtain ⟨al, e, hh, x, e', h', hr, er, rl, hm, q⟩ := hw
  exact s σ H al e hh x v e' h' Q hr er rl hm q
def mYes : AEnv → AM Bool := fun _ h => some (.ok true, h)
/-- the tests of a comprehension -/
def STs (G : Gx) (X : Cx) (ifs : List Expr) (m : AEnv → AM Bool) : Prop := PTs X ifs (rdT G m)
theorem sts_nil : STs G X [] mYes := by
  refine ⟨fun pins sh σ H Q I hw => pts_nil.run pins sh σ H Q I ?_⟩
  obtain ⟨al, e, hh, r, h', hr, er, hm, q⟩ := hw
  cases hm
  exact q al H .refl hr
theorem sts_one {c : Expr} {m : AEnv → AM Bool} (h : ST G X W0 c m) : STs G X [c] m := pts_one (st_rd h)

/-! ### the slots forgotten -/
theorem wipe_off (σ : L2.St) (i : Nat) : ∀ (vs : List Nat), i ∉ vs → (wipe σ vs)[i]? = σ[i]?
  | [], _ => rfl
  | v :: vs, h => by
    have h1 : v ≠ i := fun z => h (by rw [z]; exact List.mem_cons_self ..)
    show ((wipe σ vs).set v none)[i]? = _
    rw [List.getElem?_set_ne h1]
    exact wipe_off σ i vs fun z => h (List.mem_cons_of_mem _ z)
theorem wipe_on (σ : L2.St) (i : Nat) (hi : i < σ.length) : ∀ (vs : List Nat), i ∈ vs → (wipe σ vs)[i]? = some none
  | [], h => by cases h
  | v :: vs, h => by
    show ((wipe σ vs).set v none)[i]? = _
    by_cases z : v = i
    · subst z
      exact List.getElem?_set_self (by rw [wipe_length]; exact hi)
    · rw [List.getElem?_set_ne z]
      exact wipe_on σ i hi vs ((List.mem_cons.mp h).resolve_left fun q => z q.symm)
theorem wipe_same {σ τ : L2.St} {ws vs : List Nat} (hl : τ.length = σ.length) (hk : ∀ i, i ∉ ws → τ[i]? = σ[i]?) (hs : ∀ i, i ∈ ws → i ∈ vs) : wipe τ vs = wipe σ vs := by
  apply List.ext_getElem?
  intro i
  by_cases hi : i ∈ vs
  · by_cases hlt : i < σ.length
    · rw [wipe_on _ _ hlt _ hi, wipe_on _ _ (by rw [hl]; exact hlt) _ hi]
    · rw [List.getElem?_eq_none (by rw [wipe_length]; omega), List.getElem?_eq_none (by rw [wipe_length]; omega)]
  · rw [wipe_off _ _ _ hi, wipe_off _ _ _ hi]
    exact hk i fun z => hi (hs i z)
theorem wipe_twice (σ : L2.St) (vs : List Nat) : wipe (wipe σ vs) vs = wipe σ vs := by
  apply List.ext_getElem?
  intro i
  by_cases hi : i ∈ vs
  · by_cases hlt : i < σ.length
    · rw [wipe_on _ _ hlt _ hi, wipe_on _ _ (by rw [wipe_length]; exact hlt) _ hi]
    · rw [List.getElem?_eq_none (by rw [wipe_length, wipe_length]; omega), List.getElem?_eq_none (by rw [wipe_length]; omega)]
  · rw [wipe_off _ _ _ hi]

/-! ### [elt for tg in iter if ..] -/
def lcL (I : AI) (g : AG) (t : AEnv → AM Bool) (el : AE) (d : Nat) (e : AEnv) : Nat → Nat → List AO → Option (List AO)
  | 0, _, _ => none
  | f + 1, i, h => match I.at i h with
    | none => none
    | some none => some h
    | some (some v) => match g v e h with
      | none => none
      | some (e1, h1) => match t e1 h1 with
        | some (.ok false, h2) => lcL I g t el d e f (i + 1) h2
        | some (.ok true, h2) => match el e1 h2 with
          | some (.ok y, h3) => match h3[d]? with
            | some (.lst acc) => if acc.length < 100000 then lcL I g t el d e f (i + 1) (h3.set d (.lst (acc ++ [y]))) else none
            | _ => none
          | _ => none
        | _ => none
def mLc (N : Nat) (vs : List Nat) (mi : AEnv → AM AI) (g : AG) (t : AEnv → AM Bool) (el : AE) : AE := fun e h => bnd (mi e h) fun I h1 => match lcL I g t el h1.length (awipe e vs) N 0 (h1 ++ [.lst []]) with
  | some h2 => some (.ok (.ref h1.length), h2)
  | none => none
theorem snd_lc {wi : TI} {mi : AEnv → AM AI} {g : AG} {t : AEnv → AM Bool} {el : AE} {ws vs : List Nat} {lo : Bool} (N : Nat) (si : SndI G W lo wi mi) (hs : ∀ i, i ∈ ws → i ∈ vs) : SndE G W (tLc wi (rdG G lo ws g) (rdT G t) (rdE G el) vs) (mLc N vs mi g t el) := by
  intro σ H al e h r h' Q hr er hm q
  rcases bnd_some hm with ⟨c, k, e1, rfl⟩ | ⟨I, h1, e1, e2⟩
  · exact si σ H al e h _ _ _ hr er e1 q
  · refine si σ H al e h _ _ _ hr er e1 ?_
    intro al1 H1 J x1 hr1 IR Dl hD
    split at e2
    · rename_i hf ef
      cases e2
      have hlen : (h1 ++ [AO.lst []]).length = h1.length + 1 := by rw [List.length_append, List.length_singleton]
      have xb : Ext h1.length al1 H1 (h1 ++ [AO.lst []]).length (ext1 al1 h1.length Dl) (upd H1 Dl (.lst [])) := by rw [hlen]; exact ext_new hD
      have hr0 : HR G (ext1 al1 h1.length Dl) (h1 ++ [.lst []]) (upd H1 Dl (.lst [])) := hr1.newL hD .nil
      have er0 : ER G (h1 ++ [AO.lst []]).length (ext1 al1 h1.length Dl) (upd H1 Dl (.lst [])) (awipe e vs) (wipe σ vs) := (er.mono (x1.trans xb)).wipe vs
      refine ⟨fun i m H2 => ∃ al2 h2, Ext (h1 ++ [AO.lst []]).length (ext1 al1 h1.length Dl) (upd H1 Dl (.lst [])) h2.length al2 H2 ∧ HR G al2 h2 H2 ∧ lcL I g t el h1.length (awipe e vs) m i h2 = some h', ⟨N, _, _, .refl, hr0, ef⟩, ?_⟩
      rintro i m H2 ⟨al2, h2, x2, hr2, em⟩
      have dal : al2 h1.length = Dl := by
        rw [x2.al _ (by rw [hlen]; omega)]; exact ext1_at
      cases m with
      | zero => cases em
      | succ m =>
        obtain ⟨st, go⟩ := IR.ok al2 h2 H2 (xb.trans x2) hr2 i
        unfold lcL at em
        split at em
        · cases em
        · rename_i z
          cases em
          refine .inl ⟨st z, ?_⟩
          have rr := RA.ref (G := G) (n := h'.length) (al := al2) (H := H2) (i := h1.length) (by have := x2.le; rw [hlen] at this; omega)
          rw [dal] at rr
          exact q al2 H2 _ ((x1.trans xb).trans x2) hr2 rr
        · rename_i v z
          obtain ⟨hg, yl⟩ := go v z
          split at em
          · cases em
          · rename_i e4 h4 ez
            refine .inr ⟨hg, fun H5 => ∃ al5 h5, Ext (h1 ++ [AO.lst []]).length (ext1 al1 h1.length Dl) (upd H1 Dl (.lst [])) h5.length al5 H5 ∧ HR G al5 h5 H5 ∧ lcL I g t el h1.length (awipe e vs) m (i + 1) h5 = some h', fun H' w => ⟨m, Nat.lt_succ_self m, w⟩, fun x H3 y => ?_⟩
            obtain ⟨x3, hr3, rl⟩ := yl x H3 y
            have er3 := er0.mono (x2.trans x3)
            refine ⟨al2, awipe e vs, h2, v, e4, h4, hr3, er3, rl, ez, ?_⟩
            intro al4 H4 σ4 x4 hr4 er4 l4 k4
            refine ⟨(wipe_same l4 k4 hs).trans (wipe_twice σ vs), ?_⟩
            have xx := (x2.trans x3).trans x4
            split at em
            · rename_i h5 et
              refine ⟨al4, e4, h4, _, _, hr4, er4, et, ?_⟩
              intro al5 H5 x5 hr5
              rw [if_neg (by decide)]
              exact ⟨al5, h5, xx.trans x5, hr5, em⟩
            · rename_i h5 et
              refine ⟨al4, e4, h4, _, _, hr4, er4, et, ?_⟩
              intro al5 H5 x5 hr5
              rw [if_pos rfl]
              split at em
              · rename_i yv h6 ey
                refine ⟨al5, e4, h5, _, _, hr5, er4.mono x5, ey, ?_⟩
                intro al6 H6 u6 x6 hr6 r6
                split at em
                · rename_i acc hacc
                  split at em
                  · rename_i hsz
                    obtain ⟨us, hus, rus⟩ := lstAt hr6 hacc
                    have x7 := (xx.trans x5).trans x6
                    have dal6 : al6 h1.length = Dl := by
                      rw [x7.al _ (by rw [hlen]; omega)]; exact ext1_at
                    rw [dal6] at hus
                    have E := ext_put (u := .lst (us ++ [u6])) hr6 hacc rfl
                    rw [dal6] at E
                    refine ⟨us, hus, by rw [← rus.length, sizeLine_eq]; omega, al6, h6.set h1.length (.lst (acc ++ [yv])), ?_, ?_, em⟩
                    · rw [List.length_set]; exact x7.trans E
                    · have z7 := hr6.put (u := .lst (us ++ [u6])) (o' := .lst (acc ++ [yv])) hacc rfl rfl ?_
                      · rw [dal6] at z7; exact z7
                      · refine ⟨us ++ [u6], upd_same, ?_⟩
                        rw [dal6]
                        exact (rus.mono E).append (.cons (r6.mono E) .nil)
                  · cases em
                · cases em
              · cases em
            · cases em
    · cases e2
theorem se_lc {elt tg iter : Expr} {ifs : List Expr} {scope : Scope} {mi : AEnv → AM AI} {g : AG} {t : AEnv → AM Bool} {el : AE} {ws : List Nat} {lo : Bool} (N : Nat) (own : List (Str × Nat)) (hc : X.calm = true) (hN : X.N.Nodup) (ok : blkC X.N X.env.scope scope own = true) (hi : SI G X W lo tg iter mi)
    (hg : ∀ s H C cl fp, SG G (bk X scope s H C cl fp) lo ws tg g) (ht : ∀ s H C cl fp, STs G (bk X scope s H C cl fp) ifs t) (he : ∀ s H C cl fp, SE G (bk X scope s H C cl fp) W0 elt el)
    (hw : ws.all (fun i => decide (i ∈ own.map (·.2))) = true := by decide) (hs : ∀ x, foldedSetIterable iter X.env x = pure x := by intro _; rfl) :
    SE G X W (.ListComp elt [⟨tg, iter, ifs, 0⟩] scope pos) (mLc N (own.map (·.2)) mi g t el) := by
  obtain ⟨wi, pi, si⟩ := hi
  refine ⟨_, pe_lc hc hN pi (blkOk_by ok) (fun s H C cl fp => sg_rd (hg s H C cl fp)) (fun s H C cl fp => ht s H C cl fp) (fun s H C cl fp => se_rd (he s H C cl fp)) hs, snd_lc N si fun i h => ?_⟩
  exact of_decide_eq_true (List.all_eq_true.mp hw i h)
theorem ss_setLc (i : Nat) {y : Str} {py spos : Pos} {elt tg iter : Expr} {ifs : List Expr} {scope : Scope} {mi : AEnv → AM AI} {g : AG} {t : AEnv → AM Bool} {el : AE} {ws : List Nat} {lo : Bool} (N : Nat) (own : List (Str × Nat)) (hc : X.calm = true) (hN : X.N.Nodup) (ok : blkC X.N X.env.scope scope own = true) (hi : SI G X W lo tg iter mi)
    (hg : ∀ s H C cl fp, SG G (bk X scope s H C cl fp) lo ws tg g) (ht : ∀ s H C cl fp, STs G (bk X scope s H C cl fp) ifs t) (he : ∀ s H C cl fp, SE G (bk X scope s H C cl fp) W0 elt el)
    (hk : X.env.scope.kind = .function := by rfl) (hy : X.N[i]? = some y := by rfl) (hyl : X.env.scope.names.lookup y = some .local := by rfl) (hl : (py.line == pos.line) = true := by rfl)
    (ha : (scope.names.any fun (n, k) => n == y && (k == .local || k == .cell)) = false := by rfl)
    (hw : ws.all (fun i => decide (i ∈ own.map (·.2))) = true := by decide) (hs : ∀ x, foldedSetIterable iter X.env x = pure x := by intro _; rfl) :
    SS G X W (.Assign [.Name y py] (.ListComp elt [⟨tg, iter, ifs, 0⟩] scope pos) spos) (mAsg (mLc N (own.map (·.2)) mi g t el) (gA i)) := by
  obtain ⟨wi, pi, si⟩ := hi
  refine ⟨_, ps_setLc hc hN hy hyl (sw_true hk hyl hl ha) pi (blkOk_by ok) (fun s H C cl fp => sg_rd (hg s H C cl fp)) (fun s H C cl fp => ht s H C cl fp) (fun s H C cl fp => se_rd (he s H C cl fp)) hs, snd_asg (snd_lc N si fun i h => ?_) snd_gA⟩
  exact of_decide_eq_true (List.all_eq_true.mp hw i h)

/-! ### {k: v, ..} with constant int and text keys -/
def SPs (G : Gx) (X : Cx) (W : WX) (pos : Pos) (ks : List (Option Expr)) (vs : List Expr) (m : AEnv → AM (List (AV × AV))) : Prop := ∃ trs, PPs X pos ks vs trs ∧
  ∀ σ H al e h r h' (Q : List (V × V) → Hp → Prop), HR G al h H → ER G h.length al H e σ → m e h = some (r, h') →
    (match r with
      | .ok ps => ∀ al' H' us, Ext h.length al H h'.length al' H' → HR G al' h' H' → RAs G h'.length al' H' (ps.map (·.1)) (us.map (·.1)) → RAs G h'.length al' H' (ps.map (·.2)) (us.map (·.2)) → Q us H'
      | .ex c k => FwX G h.length al H c k h' fun cls d H' => W cls d σ H') → tPairs trs σ H Q
theorem sps_nil : SPs G X W pos [] [] (fun _ h => some (.ok [], h)) := ⟨[], pps_nil, by
  intro σ H al e h r h' Q hr er hm q
  cases hm
  exact q al H [] .refl hr .nil .nil⟩
def mPr (ma mb : AE) (mr : AEnv → AM (List (AV × AV))) : AEnv → AM (List (AV × AV)) := fun e h => bnd (ma e h) fun x h1 => bnd (mb e h1) fun y h2 => bnd (mr e h2) fun r h3 => some (.ok ((x, y) :: r), h3)
theorem sps_cons {k v : Expr} {ks : List (Option Expr)} {vs : List Expr} {ma mb : AE} {mr : AEnv → AM (List (AV × AV))} (ha : SE G X W k ma) (hb : SE G X W v mb) (hc : SPs G X W pos ks vs mr) : SPs G X W pos (some k :: ks) (v :: vs) (mPr ma mb mr) := by
  obtain ⟨ta, pa, sa⟩ := ha
  obtain ⟨tb, pb, sb⟩ := hb
  obtain ⟨tr, pr, sr⟩ := hc
  refine ⟨_, pps_cons pa pb pr, ?_⟩
  intro σ H al e h r h' Q hr er hm q
  rcases bnd_some hm with ⟨c, kk, e1, rfl⟩ | ⟨x, h1, e1, e2⟩
  · exact sa σ H al e h _ _ _ hr er e1 q
  · refine sa σ H al e h _ _ _ hr er e1 ?_
    intro al1 H1 u1 x1 hr1 r1
    rcases bnd_some e2 with ⟨c, kk, e3, rfl⟩ | ⟨y, h2, e3, e4⟩
    · exact sb σ H1 al1 e h1 _ _ _ hr1 (er.mono x1) e3 (PoE.after (r := .ex c kk) (Q := fun _ _ => True) x1 q)
    · refine sb σ H1 al1 e h1 _ _ _ hr1 (er.mono x1) e3 ?_
      intro al2 H2 u2 x2 hr2 r2
      rcases bnd_some e4 with ⟨c, kk, e5, rfl⟩ | ⟨rs, h3, e5, e6⟩
      · exact sr σ H2 al2 e h2 _ _ _ hr2 (er.mono (x1.trans x2)) e5 (PoE.after (r := .ex c kk) (Q := fun _ _ => True) (x1.trans x2) q)
      · cases e6
        refine sr σ H2 al2 e h2 _ _ _ hr2 (er.mono (x1.trans x2)) e5 ?_
        intro al3 H3 us x3 hr3 k3 v3
        exact q al3 H3 ((u1, u2) :: us) ((x1.trans x2).trans x3) hr3 (.cons (r1.mono (x2.trans x3)) k3) (.cons (r2.mono x3) v3)
def keysA : List (AV × AV) → Option (List (Key × AV))
  | [] => some []
  | (k, v) :: r => match keyA k, keysA r with
    | some k, some r => some ((k, v) :: r)
    | _, _ => none
theorem keysA_ok : ∀ {ps : List (AV × AV)} {kvs : List (Key × AV)} {us : List (V × V)}, RAs G n al H (ps.map (·.1)) (us.map (·.1)) → RAs G n al H (ps.map (·.2)) (us.map (·.2)) → keysA ps = some kvs →
    ∃ ws : List (Key × V), us = ws.map (fun kv => (kV kv.1, kv.2)) ∧ RF G n al H kvs ws
  | [], kvs, us, k3, v3, e => by
    cases e
    cases us with
    | nil => exact ⟨[], rfl, trivial⟩
    | cons u us => cases k3
  | (k, v) :: ps, kvs, us, k3, v3, e => by
    cases us with
    | nil => cases k3
    | cons u us =>
      obtain ⟨a, b⟩ := u
      cases k3 with
      | cons ka ks =>
        cases v3 with
        | cons va vs =>
          unfold keysA at e
          split at e
          · rename_i kk r e1 e2
            cases e
            obtain ⟨ws, rfl, rf⟩ := keysA_ok ks vs e2
            have := keyA_ok ka e1
            dsimp only at this va
            subst this
            exact ⟨(kk, b) :: ws, rfl, rfl, va, rf⟩
          · cases e
def mergeA (acc more : List (Key × AV)) : List (Key × AV) := more.foldl (fun acc kv => putA acc kv.1 kv.2) acc
theorem mergeA_ok : ∀ {more : List (Key × AV)} {ws : List (Key × V)} {acc : List (Key × AV)} {wa : List (Key × V)}, RF G n al H more ws → RF G n al H acc wa → RF G n al H (mergeA acc more) (mergeK wa ws)
  | [], [], _, _, _, ha => ha
  | (k, v) :: more, (k', u) :: ws, acc, wa, h, ha => by
    obtain ⟨e, r, t⟩ := h
    have e' : k = k' := e
    subst e'
    exact mergeA_ok (acc := putA acc k v) (wa := putK wa k u) t (putA_ok ha r)
  | [], _ :: _, _, _, h, _ => h.elim
  | _ :: _, [], _, _, h, _ => h.elim
def mDisp (mr : AEnv → AM (List (AV × AV))) : AE := fun e h => bnd (mr e (h ++ [.dct []])) fun ps h1 => match keysA ps, h1[h.length]? with
  | some kvs, some (.dct []) => if kvs.length ≤ 15 then some (.ok (.ref h.length), h1.set h.length (.dct (mergeA [] kvs))) else none
  | _, _ => none
theorem se_disp {ks : List (Option Expr)} {vs : List Expr} {mr : AEnv → AM (List (AV × AV))} (hm : SPs G X W pos ks vs mr) (hall : ks.all (·.isSome) = true := by rfl) (hl : ks.length = vs.length := by rfl) (h0 : ks ≠ [] := by exact List.cons_ne_nil _ _) (h15 : ks.length ≤ 15 := by decide) : SE G X W (.Dict ks vs pos) (mDisp mr) := by
  obtain ⟨trs, p, s⟩ := hm
  refine ⟨_, pe_disp p hall hl h0 h15, ?_⟩
  intro σ H al e h r h' Q hr er hm q p hp
  have hlen : (h ++ [AO.dct []]).length = h.length + 1 := by rw [List.length_append, List.length_singleton]
  have xb : Ext h.length al H (h ++ [AO.dct []]).length (ext1 al h.length p) (upd H p (.dK [])) := by rw [hlen]; exact ext_new hp
  have hr0 : HR G (ext1 al h.length p) (h ++ [.dct []]) (upd H p (.dK [])) := hr.new hp ⟨[], upd_same, trivial⟩
  rcases bnd_some hm with ⟨c, k, e1, rfl⟩ | ⟨ps, h1, e1, e2⟩
  · exact s σ _ _ e _ _ _ _ hr0 (er.mono xb) e1 (PoE.after (r := .ex c k) (Q := fun _ _ => True) xb q)
  · refine s σ _ _ e _ _ _ _ hr0 (er.mono xb) e1 ?_
    intro al1 H1 us x1 hr1 k3 v3
    split at e2
    · rename_i kvs ek ed
      split at e2
      · rename_i hle
        cases e2
        obtain ⟨ws, rfl, rf⟩ := keysA_ok k3 v3 ek
        obtain ⟨wd, e5, rfd⟩ := dctAt hr1 ed
        have dal : al1 h.length = p := by
          rw [x1.al _ (by rw [hlen]; omega)]; exact ext1_at
        rw [dal] at e5
        cases wd with
        | nil =>
          refine ⟨e5, ws, rfl, by rw [← rf.length]; exact hle, ?_⟩
          have E := ext_put (u := .dK (mergeK [] ws)) hr1 ed rfl
          have P := hr1.put (u := .dK (mergeK [] ws)) (o' := .dct (mergeA [] kvs)) ed rfl rfl ⟨_, upd_same, RF.mono E (mergeA_ok rf trivial)⟩
          have rr := RA.ref (G := G) (n := h1.length) (al := al1) (H := upd H1 (al1 h.length) (.dK (mergeK [] ws))) (i := h.length) (Nat.lt_of_lt_of_le (by rw [hlen]; omega) x1.le)
          rw [dal] at E P rr
          refine q al1 _ _ ?_ P (by rw [List.length_set]; exact rr)
          rw [List.length_set]
          exact (xb.trans x1).trans E
        | cons _ _ => exact rfd.elim
      · cases e2
    · cases e2
end
end SL
/-! SL10: a def's context, constants of the module, the end of a law row. -/
namespace SL
open PySem PySem.Spec PyProof.Rows L2

section
variable {P : Program} {w : World} {K : PySem.W.Frag} {mg : Str → Option Value} {base : Heap} {N : List Str} {qual : Str} {scope : Scope} {f : Addr} {cd : Value} {A : Around} {outer : List Env} {s : Shared} {H : Hp} {E : XK}
theorem tk_cx : Takes (cxOf (L2.CX P w) P w K mg base N qual scope f cd A outer s H E) (fun cls d _ H' => E cls d H') :=
  takes_of (E₁ := fun e' s'' => L2.CX P w outer H s E e' s'') rfl rfl rfl rfl
theorem own_cx : PassesOwn (model P w) (cxOf (L2.CX P w) P w K mg base N qual scope f cd A outer s H E).A (cxOf (L2.CX P w) P w K mg base N qual scope f cd A outer s H E).env (cxOf (L2.CX P w) P w K mg base N qual scope f cd A outer s H E).xe :=
  passes_of (X := cxOf (L2.CX P w) P w K mg base N qual scope f cd A outer s H E) (K := fun e s'' => L2.CX P w outer H s E e s'') (E₁ := fun e' s'' => L2.CX P w outer H s E e' s'') rfl
end
/-- a tuple that the module keeps -/
theorem ktup_of {K : PySem.W.Frag} {a : Addr} {its : Array Value} {n : Nat} {sl : Array (Option Value)} {vs : List V} (l : K.lookup a = some ⟨.type "tuple", none, .seq its n, sl⟩) (v : Vals vs its.toList) (z : vs.length ≤ 1000 := by decide) : KTup K a vs :=
  ⟨_, its, n, l, rfl, rfl, rfl, by
    have h1 : its.size = vs.length := by rw [← Array.length_toList]; exact v.length.symm
    rw [h1, sizeLine_eq]
    omega, v⟩
section
variable {K : PySem.W.Frag} {f : Addr} {x qual : Str} {fd : FuncData} {ps : List Str} {params : Arguments} {body : List Stmt} {scope : Scope} {kws : List (Str × V)}
/-- a def with keyword-only parameters, all of them written -/
theorem kbnAll (F : FunD K x qual params body scope [] kws f fd) (n : Nat) (ks : List Str)
    (h : ∀ (kV doc pm : Value) (an : Option Addr) (cdv ct : Value) (us ws : List Value), us.length = n → ws.length = ks.length → bindArgs (PySem.W.fnOf x qual params body scope .none kV doc pm an cdv ct) ⟨us, ks.zip ws⟩ = pure (ps.zip (us ++ ws))) :
    KBn K fd ps n ks (fun us ws => us ++ ws) (fun vs zs => vs ++ zs) := by
  have ⟨_, _, dV, _, _, _, _, _, _, _, is, _, _, dflt, _⟩ := F.ex
  have none_ : dV = .none := dflt.elim (fun z => z.2) fun z => absurd rfl z.1
  cases is
  cases none_
  exact ⟨fun _ us ws _ l1 l2 => .of_eq (h _ _ _ _ _ _ us ws l1 l2), fun r1 r2 => r1.append r2⟩
theorem funD0 {oc : Value} {od an : Option Addr} {osl : Array (Option Value)} {kV doc pm cdv ct : Value} (l : K.lookup f = some ⟨oc, od, .func (PySem.W.fnOf x qual params body scope .none kV doc pm an cdv ct), osl⟩)
    (c : PySem.W.codeIn K cdv qual = true) (k : PySem.W.keepIn K (.ref f) = true) : FunD K x qual params body scope [] [] f (PySem.W.fnOf x qual params body scope .none kV doc pm an cdv ct) := ⟨⟨oc, od, .none, kV, doc, pm, an, cdv, ct, osl, rfl, l, c, .inl ⟨rfl, rfl⟩, .inl rfl⟩, k⟩
theorem funDk {D : Addr} {oc : Value} {od an : Option Addr} {osl : Array (Option Value)} {doc pm cdv ct : Value} (l : K.lookup f = some ⟨oc, od, .func (PySem.W.fnOf x qual params body scope .none (.ref D) doc pm an cdv ct), osl⟩)
    (c : PySem.W.codeIn K cdv qual = true) (k : PySem.W.keepIn K (.ref f) = true) (hk : ∀ q ∈ kws, ∃ u, PySem.W.nsIn K D q.1 = some (some u) ∧ RelV q.2 u) : FunD K x qual params body scope [] kws f (PySem.W.fnOf x qual params body scope .none (.ref D) doc pm an cdv ct) := ⟨⟨oc, od, .none, .ref D, doc, pm, an, cdv, ct, osl, rfl, l, c, .inl ⟨rfl, rfl⟩, .inr ⟨D, rfl, hk⟩⟩, k⟩
end
theorem kws1 {K : PySem.W.Frag} {D : Addr} {x : Str} {v : V} {u : Value} (h : PySem.W.nsIn K D x = some (some u)) (r : RelV v u) : ∀ q ∈ [(x, v)], ∃ u, PySem.W.nsIn K D q.1 = some (some u) ∧ RelV q.2 u := fun q hq => by
  rw [List.mem_singleton.mp hq]
  exact ⟨u, h, r⟩

/-! ### the end -/
theorem vints {G : Gx} {n : Nat} {al : Nat → Addr} {H : Hp} : ∀ ns : List Int, RAs G n al H (ns.map AV.int) (ns.map V.int)
  | [] => .nil
  | _ :: ns => .cons .int (vints ns)
/-- the script, only read -/
theorem hr_script {G : Gx} {H : Hp} {a : Addr} {ns : List Int} (hO : Only H) (hS : SqL G.K H a (ns.map V.int)) : HR G (fun _ => a) [.rol (ns.map AV.int)] H := by
  refine ⟨fun i o hi => ?_, fun i j oi oj hi hj ti tj _ => ?_⟩
  · cases i with
    | zero =>
      cases hi
      refine ⟨ns.map V.int, ?_, vints ns⟩
      rcases hS with (h | ⟨o, h⟩) | h
      · rcases hO a with z | ⟨o, xs, z⟩
        · rw [z] at h; cases h
        · rw [z] at h; cases h
      · exact .inl ⟨o, h⟩
      · exact .inr h
    | succ i => cases hi
  · cases i with
    | zero => cases hi; cases ti
    | succ i => cases hi
/-- the same, for the def's promise -/
theorem law_start {G : Gx} {m : List AV → AM AV} {H : Hp} {a : Addr} {ns : List Int} {h' : List AO} (hO : Only H) (hS : SqL G.K H a (ns.map V.int)) (hm : m [.ref 0] [.rol (ns.map AV.int)] = some (.ok (.bl true), h')) : spG G 1 m [.ref a] H (fun v _ => v = .bl true) fun _ _ _ => False := by
  refine ⟨fun _ => a, [.rol (ns.map AV.int)], [.ref 0], _, h', hr_script hO hS, .cons (.ref (Nat.zero_lt_succ _)) .nil, rfl, hm, ?_⟩
  intro al' H' u x hr r
  cases r
  rfl

open PySem.W in
/-- how things stand when the law's def is called: the module, the script at a -/
structure Begun (K : PySem.W.Frag) (mg mb : Str → Option Value) (a : Addr) (vs : List Value) (ns : List Int) (t : Shared) : Prop where
  kin : K.In t.heap
  glob : t.heap.Ns mainGlobals mg
  blt : t.heap.Ns builtinsNs mb
  boot : ∀ x : Str, x ≠ "__name__" → mb x = bootBuiltins x
  lim : t.heap.NoLimit
  gens : t.gens = #[]
  at_ : t.heap.get? a = some { cls := .type "list", data := .seq vs.toArray }
  nums : IntsAre vs ns
  few : ns.length ≤ sizeLine
open PySem.W in
/-- the law's def is called once, behind the top (its body is met with an abstract heap that tracks the script alone) -/
theorem law_runs {P : Program} {w : World} {K : PySem.W.Frag} {mg mb : Str → Option Value} {k : Nat} {fa a : Addr} {fd : FuncData} {x : Str} {sp : Sp} {s₁ : Shared} {vs : List Value} {ns : List Int} (B : Begun K mg mb a vs ns s₁) (hr : Room k callerA)
    (F : ∀ base : Heap, K.In base → base.Ns mainGlobals mg → FnG P w K mg base k fa fd [x] sp) (hbind : ∀ (s : Shared) (u : Value), BindsTo s fd ⟨[u], []⟩ [(x, u)]) (hsp : ∀ H : Hp, Only H → SqL K H a (ns.map V.int) → sp [.ref a] H (fun v _ => v = .bl true) fun _ _ _ => False) :
    codeAny (model P w) callerA (.call (.ref fa) ⟨[.ref a], []⟩) (fun out t => out = .ok (.ret (.bool true)) ∧ OldK s₁.heap t.heap ∧ t.os = s₁.os ∧ AllBare t.gens) s₁ := by
  have ⟨KX, hns, hb, hbb, hlim, hg, ha, hi, hl⟩ := B
  -- the abstract heap: the script by its object, unless the module holds it
  obtain ⟨H, hO, hS, hok, hA, hK⟩ : ∃ H : Hp, Only H ∧ SqL K H a (ns.map V.int) ∧ HOk P w H s₁.heap ∧ (∀ b, H b ≠ none → b = a) ∧ (H a ≠ none → K.lookup a = none) := by
    have rv := vals_ints hi
    have ll : (ns.map V.int).length ≤ sizeLine := by rw [List.length_map]; exact hl
    cases hk : K.lookup a with
    | some o =>
      have e := KX a o hk
      rw [ha] at e
      cases e
      refine ⟨fun _ => none, fun _ => .inl rfl, .inr ⟨_, vs.toArray, _, hk, rfl, rfl, rfl, by rw [List.size_toArray, hi.length]; exact hl, by simpa using rv⟩, fun b u (z : (none : Option HO) = some u) => ?_, fun b z => absurd rfl z, fun z => absurd rfl z⟩
      cases z
    | none =>
      refine ⟨upd (fun _ => none) a (.frz { cls := .type "list", data := .seq vs.toArray } (.lst (ns.map V.int))), fun b => ?_, .inl (.inr ⟨_, upd_same⟩), fun b u z => ?_, fun b z => ?_, fun _ => rfl⟩
      · by_cases e : b = a
        · subst e; exact .inr ⟨_, _, upd_same⟩
        · exact .inl (upd_ne e)
      · by_cases e : b = a
        · subst e
          rw [upd_same] at z
          cases z
          exact ⟨ha, ll, vs, _, rv, ha⟩
        · rw [upd_ne e] at z; cases z
      · by_cases e : b = a
        · exact e
        · exact absurd (upd_ne e) z
  -- what stands beside the script
  have off : ∀ {b : Addr} {o : Obj}, s₁.heap.get? b = some o → H b = none → (hidT s₁.heap H).get? b = some o := fun e n => hidT_get e n
  have only : ∀ {b : Addr} {u : HO}, H b = some u → b = a := fun {b u} q => hA b (by rw [q]; exact Option.some_ne_none u)
  have nsd : ∀ {b : Addr} {m : Str → Option Value}, s₁.heap.Ns b m → (hidT s₁.heap H).Ns b m := fun {b m} ⟨o, es, ep, e, d, r⟩ => by
    refine ⟨o, es, ep, off e ?_, d, r⟩
    cases q : H b with
    | none => rfl
    | some u =>
      have e' := only q
      subst e'
      rw [ha] at e
      cases e
      nomatch (show Data.seq vs.toArray _ = Data.dict es ep from d)
  have KB : K.In (hidT s₁.heap H) := fun b o e => off (KX b o e) (by
    cases q : H b with
    | none => rfl
    | some u =>
      have e' := only q
      subst e'
      rw [hK (by rw [q]; exact Option.some_ne_none u)] at e
      cases e)
  have M : Mod K mg (hidT s₁.heap H) := ⟨KB, nsd hns, ⟨mb, nsd hb, hbb⟩, let ⟨mc, h1, h2⟩ := hlim; ⟨mc, nsd h1, h2⟩⟩
  have e0 : Env0 P w K mg (hidT s₁.heap H) callerA [] s₁ H := ⟨rfl, M, fun b o e => of_hidT e, Nat.le_of_eq (hidT_size _ _), trivial, fun b hb => absurd (show b ∈ ([] : List Addr) from hb) (by simp), hok, .of_eq hg⟩
  refine codeAny_mono ((F _ KB (nsd hns)).run callerA [] s₁ H ⟨[.ref a], []⟩ [.ref a] [.ref a] _ _ hr rfl e0 (hbind s₁ (.ref a)) (.cons rfl .nil) (hsp H hO hS)) fun r s' h => ?_
  cases r with
  | error e =>
    obtain ⟨_, _, _, _, _, _, _, _, _, _, _, _, z⟩ := (show L2.CX P w [] H s₁ (fun _ _ _ => False) e s' from h)
    exact z.elim
  | ok fl =>
    cases fl with
    | next => exact False.elim h
    | brk => exact False.elim h
    | cont => exact False.elim h
    | ret u =>
      have ⟨_, _, os, bare, un, after, isTrue_, told⟩ := h
      cases told
      refine ⟨congrArg (fun z => Except.ok (Flow.ret z)) isTrue_, OldK.of_keep ?_, os, bare⟩
      intro b o before
      cases hO b with
      | inl free => exact un.keep b o before free (fun z => absurd z List.not_mem_nil) (by simp)
      | inr lk =>
        have ⟨ob, _, z⟩ := lk
        have same := (hok b _ z).1
        rw [before] at same
        cases same
        exact (after b _ (un.frzs b _ _ z)).1
open PySem.W in
theorem walkG {l : PySem.W.OpenLaw} {n k : Nat} {fz : Bool} {q : Program} {loose : List Str} {XP : (Str → Option Value) → Heap → Prop} {YP : World → Heap → Prop} {d : DefRec} {K : Params → PySem.W.Frag} {m : List AV → AM AV}
    (hn : l.most = some n) (hn2 : n ≤ sizeLine) (noDef : d.params.defaults = []) (room : Room k callerA) (hY : ∀ (w : World) (h : Heap), YP w h → (K w.params).In h)
    (F : ∀ (w : World) (mg : Str → Option Value) (fa : Addr) (h : Heap), (K w.params).In h → h.Ns mainGlobals mg → mg d.name = some (.ref fa) →
      ∃ (fd : FuncData) (cl : Nat → Addr), (∀ (s : Shared) (u : Value), BindsTo s fd ⟨[u], []⟩ [("script", u)]) ∧
        ∀ base : Heap, (K w.params).In base → base.Ns mainGlobals mg → FnG l.prog w (K w.params) mg base k fa fd ["script"] (spG ⟨K w.params, cl, fz⟩ 1 m))
    (hm : ∀ ns : List Int, ns.length ≤ n → (∀ z ∈ ns, Builtin.Int.intBits z ≤ 1048576) → ∃ h', m [.ref 0] [.rol (ns.map AV.int)] = some (.ok (.bl true), h')) :
    WalkO q loose XP YP l.row.toRowW d [] (fun f us => PySem.call f us) := by
  apply Att.attach_callB hn noDef
  intro w _ t mg mb fa _ _ _ _ a us ns G Y _ _ _ glob at_ nums few bits gens
  have kin := hY w _ Y
  have ⟨fd, cl, binds, made⟩ := F w mg fa _ kin G.T.g glob
  have ⟨_, yes⟩ := hm ns few bits
  exact law_runs ⟨kin, G.T.g, G.T.b, G.T.builtins, G.T.nolimit, gens, at_, nums, Nat.le_trans few hn2⟩ room made binds fun _ only is => law_start (G := ⟨K w.params, cl, fz⟩) only is yes
end SL
/-! SL11: the rules in the short form that the printed terms use. -/
namespace SL
open PySem PySem.Spec PyProof.Rows L2
section
variable {G : Gx} {X : Cx} {W : WX} {k : Nat} {A : Around}
theorem hu1 (hr : Room k A) : A.units + 1 < cLine := by have := hr.un; omega
theorem hu64 (hr : Room k A) : A.units + 64 < cLine := by have := hr.un; omega
theorem hu65 (hr : Room k A) : A.units + 65 < cLine := by have := hr.un; omega
theorem o_eq (hr : Room k X.A) : OpR X (compareOp .Eq) (fun x y H Q => rEq x y H Q ∨ rEqD X.K x y H Q) := op_eq.or (op_eqD (hu64 hr))
theorem o_ne (hr : Room k X.A) : OpR X (compareOp .NotEq) (fun x y H Q => rNe x y H Q ∨ rNeD X.K x y H Q) := op_ne.or (op_neD (hu64 hr))
end
end SL
/-! PL1: plain laws of the semantic functions, for simp (continuations by name, so that simp does not walk into what is still to come). -/
namespace SL
open PySem PySem.Spec PyProof.Rows L2
abbrev OV (α : Type) := Option (Rs α × List AO)
abbrev OS := Option (Fl × List AO)
abbrev F1 := AV → List AO → Option (AV × List AO)
abbrev F2 := AV → AV → List AO → Option (AV × List AO)
abbrev FL := List AV → List AO → Option (AV × List AO)
abbrev FM := AV → List AV → List AO → Option (AV × List AO)
abbrev F3 := AV → Option Int → Option Int → List AO → Option (AV × List AO)
abbrev EL := AEnv → AM (List AV)
abbrev EB := AEnv → AM Bool
abbrev EO := AEnv → AM (Option Int)
def lft (o : Option (AV × List AO)) : OV AV := match o with
  | some (v, h) => some (.ok v, h)
  | none => none
def vrK (o : Option (Option AV)) (h : List AO) : OV AV := match o with
  | some (some v) => some (.ok v, h)
  | _ => none
def tBK (o : OV AV) : OV Bool := match o with
  | some (.ok (.bl b), h') => some (.ok b, h')
  | some (.ex c k, h') => some (.ex c k, h')
  | _ => none
def pSK (o : OV AV) : OV (Option Int) := match o with
  | some (.ok (.int i), h') => some (.ok (some i), h')
  | some (.ex c k, h') => some (.ex c k, h')
  | _ => none
def sqK (b : AS) (o : OS) : OS := match o with
  | some (.nx e1, h1) => b e1 h1
  | r => r
def fnK (o : OS) : OV AV := match o with
  | some (.nx _, h') => some (.ok .non, h')
  | some (.rt v, h') => some (.ok v, h')
  | some (.ex c k _, h') => some (.ex c k, h')
  | _ => none
def asK (o : Option (AEnv × List AO)) : OS := o.map fun p => (Fl.nx p.1, p.2)
def gsK (gs : AGs) (vs : List AV) (o : Option (AEnv × List AO)) : Option (AEnv × List AO) := match o with
  | some (e1, h1) => gs vs e1 h1
  | none => none
def fldK (c : Nat) (f : Str) (h : List AO) (o : Option AO) : Option (AV × List AO) := match o with
  | some (.ins d fs) => if d = c then (fs.lookup f).map fun v => (v, h) else none
  | _ => none
def putK' (c i : Nat) (f : Str) (y : AV) (e : AEnv) (h : List AO) (o : Option AO) : OS := match o with
  | some (.ins d fs) => if d = c ∧ fs.length < 900 then some (.nx e, h.set i (.ins c (putFA f y fs))) else none
  | _ => none
def lstK (o : Option AO) : Option (List AV) := match o with
  | some (.lst ys) => some ys
  | some (.rol ys) => some ys
  | _ => none
def isLst (o : Option AO) : Bool := match o with
  | some (.lst _) => true
  | _ => false
def appK (i : Nat) (y : AV) (h : List AO) (o : Option AO) : Option (AV × List AO) := match o with
  | some (.lst xs) => if xs.length < 1000000 then some (.non, h.set i (.lst (xs ++ [y]))) else none
  | _ => none
def popK (i : Nat) (h : List AO) (o : Option AO) : Option (AV × List AO) := match o with
  | some (.lst xs) => match xs[xs.length - 1]? with
    | some y => some (y, h.set i (.lst xs.dropLast))
    | none => none
  | _ => none
def slcK (lo hi : Option Int) (h : List AO) (o : Option AO) : Option (AV × List AO) := match o with
  | some (.lst xs) => some (.ref h.length, h ++ [.lst (cutA xs lo hi)])
  | some (.rol xs) => some (.ref h.length, h ++ [.lst (cutA xs lo hi)])
  | _ => none
def mapV (o : Option AV) (h : List AO) : Option (AV × List AO) := match o with
  | some v => some (v, h)
  | none => none
def lenV (o : Option (List AV)) (h : List AO) : Option (AV × List AO) := match o with
  | some ys => some (.int ys.length, h)
  | none => none
def eqK (neg : Bool) (h : List AO) (o : Option Bool) : Option (AV × List AO) := match o with
  | some b => some (.bl (if neg then !b else b), h)
  | none => none
section
variable {α β : Type} {e : AEnv} {h h1 h2 : List AO} {v x y : AV} {i j c d k : Nat} {f : Str} {fs : List (Str × AV)} {xs ys vs : List AV}
@[simp] theorem lft_some : lft (some (v, h)) = some (.ok v, h) := (rfl)
@[simp] theorem vrK_some : vrK (some (some v)) h = some (.ok v, h) := (rfl)
@[simp] theorem tBK_bl {b : Bool} : tBK (some (.ok (.bl b), h)) = some (.ok b, h) := (rfl)
@[simp] theorem tBK_ex : tBK (some (.ex c k, h)) = some (.ex c k, h) := (rfl)
@[simp] theorem pSK_int {i : Int} : pSK (some (.ok (.int i), h)) = some (.ok (some i), h) := (rfl)
@[simp] theorem sqK_nx {b : AS} : sqK b (some (.nx e, h)) = b e h := (rfl)
@[simp] theorem sqK_rt {b : AS} : sqK b (some (.rt v, h)) = some (.rt v, h) := (rfl)
@[simp] theorem sqK_ex {b : AS} : sqK b (some (.ex c k e, h)) = some (.ex c k e, h) := (rfl)
@[simp] theorem fnK_nx : fnK (some (.nx e, h)) = some (.ok .non, h) := (rfl)
@[simp] theorem fnK_rt : fnK (some (.rt v, h)) = some (.ok v, h) := (rfl)
@[simp] theorem fnK_ex : fnK (some (.ex c k e, h)) = some (.ex c k, h) := (rfl)
@[simp] theorem asK_some : asK (some (e, h)) = some (.nx e, h) := (rfl)
@[simp] theorem gsK_some {gs : AGs} : gsK gs vs (some (e, h)) = gs vs e h := (rfl)
@[simp] theorem fldK_some : fldK c f h (some (.ins c fs)) = mapV (fs.lookup f) h := by
  show (if c = c then (fs.lookup f).map (fun v => (v, h)) else none) = _
  rw [if_pos rfl]; cases fs.lookup f <;> rfl
@[simp] theorem mapV_some : mapV (some v) h = some (v, h) := (rfl)
@[simp] theorem lenV_some : lenV (some xs) h = some (.int xs.length, h) := (rfl)
@[simp] theorem eqK_some {n b : Bool} : eqK n h (some b) = some (.bl (if n then !b else b), h) := (rfl)
theorem putK_some (hl : fs.length < 900) : putK' c i f y e h (some (.ins c fs)) = some (.nx e, h.set i (.ins c (putFA f y fs))) := if_pos ⟨rfl, hl⟩
@[simp] theorem lstK_lst : lstK (some (.lst xs)) = some xs := (rfl)
@[simp] theorem lstK_rol : lstK (some (.rol xs)) = some xs := (rfl)
@[simp] theorem isLst_lst : isLst (some (.lst xs)) = true := (rfl)
theorem appK_lst (hl : xs.length < 1000000) : appK i y h (some (.lst xs)) = some (.non, h.set i (.lst (xs ++ [y]))) := if_pos hl
@[simp] theorem popK_lst : popK i h (some (.lst (xs ++ [y]))) = some (y, h.set i (.lst xs)) := by
  show (match (xs ++ [y])[(xs ++ [y]).length - 1]? with | some z => some (z, h.set i (.lst (xs ++ [y]).dropLast)) | none => none) = _
  rw [List.length_append, List.length_singleton, Nat.add_sub_cancel, List.getElem?_concat_length, List.dropLast_concat]
@[simp] theorem slcK_lst {lo hi : Option Int} : slcK lo hi h (some (.lst xs)) = some (.ref h.length, h ++ [.lst (cutA xs lo hi)]) := (rfl)
-- the parts of a text
@[simp] theorem e_mC : mC v e h = some (.ok v, h) := (rfl)
@[simp] theorem e_mVar : mVar i e h = vrK e[i]? h := (rfl)
@[simp] theorem e_mNil : mNil e h = some (.ok [], h) := (rfl)
@[simp] theorem e_mPn : mPn e h = some (.ok none, h) := (rfl)
@[simp] theorem e_mNx : mNx e h = some (.nx e, h) := (rfl)
@[simp] theorem e_mNo : mNo e h = none := (rfl)
@[simp] theorem e_mRetN : mRetN e h = some (.rt .non, h) := (rfl)
@[simp] theorem e_mBk : mBk e h = some (.bk e, h) := (rfl)
@[simp] theorem e_mCt : mCt e h = some (.ct e, h) := (rfl)
@[simp] theorem e_mB {m : AE} : mB m e h = tBK (m e h) := (rfl)
@[simp] theorem e_mPs {m : AE} : mPs m e h = pSK (m e h) := (rfl)
@[simp] theorem e_mSeq {a b : AS} : mSeq a b e h = sqK b (a e h) := (rfl)
@[simp] theorem e_mFn {N : Nat} {mb : AS} {avs : List AV} : mFn N mb avs h = fnK (mb (avs.map some ++ List.replicate (N - avs.length) none) h) := (rfl)
@[simp] theorem e_gA : gA i v e h = some (e.set i (some v), h) := (rfl)
@[simp] theorem e_gsNil : gsNil [] e h = some (e, h) := (rfl)
@[simp] theorem e_gsCons {g : AG} {gs : AGs} : gsCons g gs (v :: vs) e h = gsK gs vs (g v e h) := (rfl)
@[simp] theorem e_gTupA {gs : AGs} : gTupA gs (.tup xs) e h = gs xs e h := (rfl)
end
def m1K (f : F1) (o : OV AV) : OV AV := bnd o fun x h => lft (f x h)
@[simp] theorem m1K_ok (f : F1) {x : AV} {h : List AO} : m1K f (some (.ok x, h)) = lft (f x h) := (rfl)
@[simp] theorem e_m1 {f : F1} {ma : AE} {e : AEnv} {h : List AO} : m1 f ma e h = m1K f (ma e h) := (rfl)
def m2L (f : F2) (x : AV) (o : OV AV) : OV AV := bnd o fun y h => lft (f x y h)
@[simp] theorem m2L_ok (f : F2) (x : AV) {y : AV} {h : List AO} : m2L f x (some (.ok y, h)) = lft (f x y h) := (rfl)
def m2K (f : F2) (mb : AE) (e : AEnv) (o : OV AV) : OV AV := bnd o fun x h => m2L f x (mb e h)
@[simp] theorem m2K_ok (f : F2) (mb : AE) (e : AEnv) {x : AV} {h : List AO} : m2K f mb e (some (.ok x, h)) = m2L f x (mb e h) := (rfl)
@[simp] theorem e_m2 {f : F2} {ma mb : AE} {e : AEnv} {h : List AO} : m2 f ma mb e h = m2K f mb e (ma e h) := (rfl)
def mC1K (f : FL) (o : OV (List AV)) : OV AV := bnd o fun xs h => lft (f xs h)
@[simp] theorem mC1K_ok (f : FL) {xs : (List AV)} {h : List AO} : mC1K f (some (.ok xs, h)) = lft (f xs h) := (rfl)
@[simp] theorem e_mC1 {f : FL} {ma : EL} {e : AEnv} {h : List AO} : mC1 f ma e h = mC1K f (ma e h) := (rfl)
def mCoL (x : AV) (o : OV (List AV)) : OV (List AV) := bnd o fun xs h => some (.ok (x :: xs), h)
@[simp] theorem mCoL_ok (x : AV) {xs : (List AV)} {h : List AO} : mCoL x (some (.ok xs, h)) = some (.ok (x :: xs), h) := (rfl)
def mCoK (mr : EL) (e : AEnv) (o : OV AV) : OV (List AV) := bnd o fun x h => mCoL x (mr e h)
@[simp] theorem mCoK_ok (mr : EL) (e : AEnv) {x : AV} {h : List AO} : mCoK mr e (some (.ok x, h)) = mCoL x (mr e h) := (rfl)
@[simp] theorem e_mCons {ma : AE} {mr : EL} {e : AEnv} {h : List AO} : mCons ma mr e h = mCoK mr e (ma e h) := (rfl)
def mTupK  (o : OV (List AV)) : OV AV := bnd o fun xs h => if xs.length ≤ 1000000 then some (.ok (.tup xs), h) else none
@[simp] theorem mTupK_ok  {xs : (List AV)} {h : List AO} : mTupK  (some (.ok xs, h)) = if xs.length ≤ 1000000 then some (.ok (.tup xs), h) else none := (rfl)
@[simp] theorem e_mTup {ma : EL} {e : AEnv} {h : List AO} : mTup ma e h = mTupK (ma e h) := (rfl)
def mLstK  (o : OV (List AV)) : OV AV := bnd o fun xs h => if xs.length ≤ 1000000 then some (.ok (.ref h.length), h ++ [.lst xs]) else none
@[simp] theorem mLstK_ok  {xs : (List AV)} {h : List AO} : mLstK  (some (.ok xs, h)) = if xs.length ≤ 1000000 then some (.ok (.ref h.length), h ++ [.lst xs]) else none := (rfl)
@[simp] theorem e_mLst {ma : EL} {e : AEnv} {h : List AO} : mLst ma e h = mLstK (ma e h) := (rfl)
def mIfK (a b : AE) (e : AEnv) (o : OV Bool) : OV AV := bnd o fun k h => if k = true then a e h else b e h
@[simp] theorem mIfK_ok (a b : AE) (e : AEnv) {k : Bool} {h : List AO} : mIfK a b e (some (.ok k, h)) = if k = true then a e h else b e h := (rfl)
@[simp] theorem e_mIf {c : EB} {a b : AE} {e : AEnv} {h : List AO} : mIf c a b e h = mIfK a b e (c e h) := (rfl)
def andK (b : EB) (e : AEnv) (o : OV Bool) : OV Bool := bnd o fun c h => if c = true then b e h else some (.ok false, h)
@[simp] theorem andK_ok (b : EB) (e : AEnv) {c : Bool} {h : List AO} : andK b e (some (.ok c, h)) = if c = true then b e h else some (.ok false, h) := (rfl)
@[simp] theorem e_mAnd {a b : EB} {e : AEnv} {h : List AO} : mAnd a b e h = andK b e (a e h) := (rfl)
def orK (b : EB) (e : AEnv) (o : OV Bool) : OV Bool := bnd o fun c h => if c = true then some (.ok true, h) else b e h
@[simp] theorem orK_ok (b : EB) (e : AEnv) {c : Bool} {h : List AO} : orK b e (some (.ok c, h)) = if c = true then some (.ok true, h) else b e h := (rfl)
@[simp] theorem e_mOr {a b : EB} {e : AEnv} {h : List AO} : mOr a b e h = orK b e (a e h) := (rfl)
def notK  (o : OV Bool) : OV Bool := bnd o fun c h => some (.ok (!c), h)
@[simp] theorem notK_ok  {c : Bool} {h : List AO} : notK  (some (.ok c, h)) = some (.ok (!c), h) := (rfl)
@[simp] theorem e_mNot {a : EB} {e : AEnv} {h : List AO} : mNot a e h = notK (a e h) := (rfl)
def andVK (mb : AE) (e : AEnv) (o : OV Bool) : OV AV := bnd o fun c h => if c = true then mb e h else some (.ok (.bl false), h)
@[simp] theorem andVK_ok (mb : AE) (e : AEnv) {c : Bool} {h : List AO} : andVK mb e (some (.ok c, h)) = if c = true then mb e h else some (.ok (.bl false), h) := (rfl)
@[simp] theorem e_mAndV {ma mb : AE} {e : AEnv} {h : List AO} : mAndV ma mb e h = andVK mb e (tBK (ma e h)) := (rfl)
def orVK (mb : AE) (e : AEnv) (o : OV Bool) : OV AV := bnd o fun c h => if c = true then some (.ok (.bl true), h) else mb e h
@[simp] theorem orVK_ok (mb : AE) (e : AEnv) {c : Bool} {h : List AO} : orVK mb e (some (.ok c, h)) = if c = true then some (.ok (.bl true), h) else mb e h := (rfl)
@[simp] theorem e_mOrV {ma mb : AE} {e : AEnv} {h : List AO} : mOrV ma mb e h = orVK mb e (tBK (ma e h)) := (rfl)
def notVK  (o : OV Bool) : OV AV := bnd o fun c h => some (.ok (.bl (!c)), h)
@[simp] theorem notVK_ok  {c : Bool} {h : List AO} : notVK  (some (.ok c, h)) = some (.ok (.bl (!c)), h) := (rfl)
@[simp] theorem e_mNotV {ma : AE} {e : AEnv} {h : List AO} : mNotV ma e h = notVK (tBK (ma e h)) := (rfl)
def m3sM (f : F3) (x : AV) (l : Option Int) (o : OV (Option Int)) : OV AV := bnd o fun u h => lft (f x l u h)
@[simp] theorem m3sM_ok (f : F3) (x : AV) (l : Option Int) {u : (Option Int)} {h : List AO} : m3sM f x l (some (.ok u, h)) = lft (f x l u h) := (rfl)
def m3sL (f : F3) (x : AV) (mh : EO) (e : AEnv) (o : OV (Option Int)) : OV AV := bnd o fun l h => m3sM f x l (mh e h)
@[simp] theorem m3sL_ok (f : F3) (x : AV) (mh : EO) (e : AEnv) {l : (Option Int)} {h : List AO} : m3sL f x mh e (some (.ok l, h)) = m3sM f x l (mh e h) := (rfl)
def m3sK (f : F3) (ml mh : EO) (e : AEnv) (o : OV AV) : OV AV := bnd o fun x h => m3sL f x mh e (ml e h)
@[simp] theorem m3sK_ok (f : F3) (ml mh : EO) (e : AEnv) {x : AV} {h : List AO} : m3sK f ml mh e (some (.ok x, h)) = m3sL f x mh e (ml e h) := (rfl)
@[simp] theorem e_m3s {f : F3} {ma : AE} {ml mh : EO} {e : AEnv} {h : List AO} : m3s f ma ml mh e h = m3sK f ml mh e (ma e h) := (rfl)
def mBML (f : FM) (x : AV) (o : OV (List AV)) : OV AV := bnd o fun xs h => lft (f x xs h)
@[simp] theorem mBML_ok (f : FM) (x : AV) {xs : (List AV)} {h : List AO} : mBML f x (some (.ok xs, h)) = lft (f x xs h) := (rfl)
def mBMK (T : Ty) (f : FM) (ma : EL) (e : AEnv) (o : OV AV) : OV AV := bnd o fun x h => if tyA T h x = true then mBML f x (ma e h) else none
@[simp] theorem mBMK_ok (T : Ty) (f : FM) (ma : EL) (e : AEnv) {x : AV} {h : List AO} : mBMK T f ma e (some (.ok x, h)) = if tyA T h x = true then mBML f x (ma e h) else none := (rfl)
@[simp] theorem e_mBM {T : Ty} {f : FM} {mo : AE} {ma : EL} {e : AEnv} {h : List AO} : mBM T f mo ma e h = mBMK T f ma e (mo e h) := (rfl)
def mCallL (m : List AV → AM AV) (davs : List AV) (o : OV (List AV)) : OV AV := bnd o fun vs h => m (vs ++ davs) h
@[simp] theorem mCallL_ok (m : List AV → AM AV) (davs : List AV) {vs : (List AV)} {h : List AO} : mCallL m davs (some (.ok vs, h)) = m (vs ++ davs) h := (rfl)
@[simp] theorem e_mCall {m : List AV → AM AV} {davs : List AV} {ma : EL} {e : AEnv} {h : List AO} : mCall m davs ma e h = mCallL m davs (ma e h) := (rfl)
def mCalKL (m : List AV → AM AV) (g : List AV → List AV → List AV) (vs : List AV) (o : OV (List AV)) : OV AV := bnd o fun zs h => m (g vs zs) h
@[simp] theorem mCalKL_ok (m : List AV → AM AV) (g : List AV → List AV → List AV) (vs : List AV) {zs : (List AV)} {h : List AO} : mCalKL m g vs (some (.ok zs, h)) = m (g vs zs) h := (rfl)
def mCalKK (m : List AV → AM AV) (g : List AV → List AV → List AV) (mk : EL) (e : AEnv) (o : OV (List AV)) : OV AV := bnd o fun vs h => mCalKL m g vs (mk e h)
@[simp] theorem mCalKK_ok (m : List AV → AM AV) (g : List AV → List AV → List AV) (mk : EL) (e : AEnv) {vs : (List AV)} {h : List AO} : mCalKK m g mk e (some (.ok vs, h)) = mCalKL m g vs (mk e h) := (rfl)
@[simp] theorem e_mCallK {m : List AV → AM AV} {g : List AV → List AV → List AV} {ma mk : EL} {e : AEnv} {h : List AO} : mCallK m g ma mk e h = mCalKK m g mk e (ma e h) := (rfl)
def metL (m : List AV → AM AV) (davs : List AV) (i : Nat) (o : OV (List AV)) : OV AV := bnd o fun vs h => m (.ref i :: (vs ++ davs)) h
@[simp] theorem metL_ok {m : List AV → AM AV} {davs vs : List AV} {i : Nat} {h : List AO} : metL m davs i (some (.ok vs, h)) = m (.ref i :: (vs ++ davs)) h := (rfl)
def metK (c i : Nat) (nm : Str) (m : List AV → AM AV) (davs : List AV) (ma : EL) (e : AEnv) (h : List AO) (o : Option AO) : OV AV := match o with
  | some (.ins d fs) => if d = c ∧ fs.lookup nm = none then metL m davs i (ma e h) else none
  | _ => none
theorem metK_some {c i : Nat} {nm : Str} {m : List AV → AM AV} {davs : List AV} {ma : EL} {e : AEnv} {h : List AO} {fs : List (Str × AV)} (hl : fs.lookup nm = none) : metK c i nm m davs ma e h (some (.ins c fs)) = metL m davs i (ma e h) := if_pos ⟨rfl, hl⟩
def metX (c : Nat) (nm : Str) (m : List AV → AM AV) (davs : List AV) (ma : EL) (e : AEnv) (h : List AO) (x : AV) : OV AV := match x with
  | .ref i => metK c i nm m davs ma e h h[i]?
  | _ => none
@[simp] theorem metX_ref {c i : Nat} {nm : Str} {m : List AV → AM AV} {davs : List AV} {ma : EL} {e : AEnv} {h : List AO} : metX c nm m davs ma e h (.ref i) = metK c i nm m davs ma e h h[i]? := (rfl)
def metM (c : Nat) (nm : Str) (m : List AV → AM AV) (davs : List AV) (ma : EL) (e : AEnv) (o : OV AV) : OV AV := bnd o fun x h => metX c nm m davs ma e h x
@[simp] theorem metM_ok (c : Nat) (nm : Str) (m : List AV → AM AV) (davs : List AV) (ma : EL) (e : AEnv) {x : AV} {h : List AO} : metM c nm m davs ma e (some (.ok x, h)) = metX c nm m davs ma e h x := (rfl)
@[simp] theorem e_mMeth {c : Nat} {nm : Str} {m : List AV → AM AV} {davs : List AV} {mo : AE} {ma : EL} {e : AEnv} {h : List AO} : mMeth c nm m davs mo ma e h = metM c nm m davs ma e (mo e h) := (rfl)
def dropK (e : AEnv) (o : OV AV) : OS := bndS o e fun x h => some (.nx e, h)
@[simp] theorem dropK_ok (e : AEnv) {x : AV} {h : List AO} : dropK e (some (.ok x, h)) = some (.nx e, h) := (rfl)
@[simp] theorem e_mDrop {m : AE} {e : AEnv} {h : List AO} : mDrop m e h = dropK e (m e h) := (rfl)
def retK (e : AEnv) (o : OV AV) : OS := bndS o e fun x h => some (.rt x, h)
@[simp] theorem retK_ok (e : AEnv) {x : AV} {h : List AO} : retK e (some (.ok x, h)) = some (.rt x, h) := (rfl)
@[simp] theorem e_mRet {m : AE} {e : AEnv} {h : List AO} : mRet m e h = retK e (m e h) := (rfl)
def ifSK (a b : AS) (e : AEnv) (o : OV Bool) : OS := bndS o e fun d h => if d = true then a e h else b e h
@[simp] theorem ifSK_ok (a b : AS) (e : AEnv) {d : Bool} {h : List AO} : ifSK a b e (some (.ok d, h)) = if d = true then a e h else b e h := (rfl)
@[simp] theorem e_mIfS {c : EB} {a b : AS} {e : AEnv} {h : List AO} : mIfS c a b e h = ifSK a b e (c e h) := (rfl)
def asgK (g : AG) (e : AEnv) (o : OV AV) : OS := bndS o e fun x h => asK (g x e h)
@[simp] theorem asgK_ok (g : AG) (e : AEnv) {x : AV} {h : List AO} : asgK g e (some (.ok x, h)) = asK (g x e h) := (rfl)
@[simp] theorem e_mAsg {m : AE} {g : AG} {e : AEnv} {h : List AO} : mAsg m g e h = asgK g e (m e h) := (rfl)
def parL (i j : Nat) (e : AEnv) (vs : List AV) (h : List AO) : OS := match vs with
  | [v, w] => some (.nx ((e.set i (some v)).set j (some w)), h)
  | _ => none
@[simp] theorem parL_two {i j : Nat} {e : AEnv} {h : List AO} {v w : AV} : parL i j e [v, w] h = some (.nx ((e.set i (some v)).set j (some w)), h) := (rfl)
def parK (i j : Nat) (e : AEnv) (o : OV (List AV)) : OS := bndS o e fun vs h => parL i j e vs h
@[simp] theorem parK_ok (i j : Nat) (e : AEnv) {vs : (List AV)} {h : List AO} : parK i j e (some (.ok vs, h)) = parL i j e vs h := (rfl)
@[simp] theorem e_mPar {i j : Nat} {ma : EL} {e : AEnv} {h : List AO} : mPar i j ma e h = parK i j e (ma e h) := (rfl)
def ptX (c : Nat) (f : Str) (y : AV) (e : AEnv) (h : List AO) (x : AV) : OS := match x with
  | .ref i => putK' c i f y e h h[i]?
  | _ => none
@[simp] theorem ptX_ref {c i : Nat} {f : Str} {y : AV} {e : AEnv} {h : List AO} : ptX c f y e h (.ref i) = putK' c i f y e h h[i]? := (rfl)
def fSL (c : Nat) (f : Str) (y : AV) (e : AEnv) (o : OV AV) : OS := bndS o e fun x h => ptX c f y e h x
@[simp] theorem fSL_ok (c : Nat) (f : Str) (y : AV) (e : AEnv) {x : AV} {h : List AO} : fSL c f y e (some (.ok x, h)) = ptX c f y e h x := (rfl)
def fSK (c : Nat) (f : Str) (mo : AE) (e : AEnv) (o : OV AV) : OS := bndS o e fun y h => fSL c f y e (mo e h)
@[simp] theorem fSK_ok (c : Nat) (f : Str) (mo : AE) (e : AEnv) {y : AV} {h : List AO} : fSK c f mo e (some (.ok y, h)) = fSL c f y e (mo e h) := (rfl)
@[simp] theorem e_mFldS {c : Nat} {f : Str} {mo mv : AE} {e : AEnv} {h : List AO} : mFldS c f mo mv e h = fSK c f mo e (mv e h) := (rfl)
def dpF (v x y : AV) (e : AEnv) (h : List AO) : OS := match x with
  | .ref i => match h[i]?, keyA y with
    | some (.dct kvs), some k => if kvs.length < 100000 then some (.nx e, h.set i (.dct (putA kvs k v))) else none
    | _, _ => none
  | _ => none
def dpM (v x : AV) (e : AEnv) (o : OV AV) : OS := bndS o e fun y h => dpF v x y e h
@[simp] theorem dpM_ok (v x : AV) (e : AEnv) {y : AV} {h : List AO} : dpM v x e (some (.ok y, h)) = dpF v x y e h := (rfl)
def dpL (v : AV) (mk : AE) (e : AEnv) (o : OV AV) : OS := bndS o e fun x h => dpM v x e (mk e h)
@[simp] theorem dpL_ok (v : AV) (mk : AE) (e : AEnv) {x : AV} {h : List AO} : dpL v mk e (some (.ok x, h)) = dpM v x e (mk e h) := (rfl)
def dpK (mo mk : AE) (e : AEnv) (o : OV AV) : OS := bndS o e fun v h => dpL v mk e (mo e h)
@[simp] theorem dpK_ok (mo mk : AE) (e : AEnv) {v : AV} {h : List AO} : dpK mo mk e (some (.ok v, h)) = dpL v mk e (mo e h) := (rfl)
@[simp] theorem e_mDput {mo mk mv : AE} {e : AEnv} {h : List AO} : mDput mo mk mv e h = dpK mo mk e (mv e h) := (rfl)
section
variable {e : AEnv} {h h1 h2 : List AO} {v x y : AV} {i j c d k : Nat} {f : Str} {fs : List (Str × AV)} {xs ys vs : List AV}
-- the operations
@[simp] theorem oFld_ref : oFld c f (.ref i) h = fldK c f h h[i]? := (rfl)
@[simp] theorem oAdd_int {i j : Int} : oAdd (.int i) (.int j) h = some (.int (i + j), h) := (rfl)
@[simp] theorem oSub_int {i j : Int} : oSub (.int i) (.int j) h = some (.int (i - j), h) := (rfl)
@[simp] theorem oNeg_int {i : Int} : oNeg (.int i) h = some (.int (-i), h) := (rfl)
@[simp] theorem cLt_int {i j : Int} : cLt (.int i) (.int j) h = some (.bl (decide (i < j)), h) := (rfl)
@[simp] theorem cLe_int {i j : Int} : cLe (.int i) (.int j) h = some (.bl (decide (i ≤ j)), h) := (rfl)
@[simp] theorem cGt_int {i j : Int} : cGt (.int i) (.int j) h = some (.bl (decide (j < i)), h) := (rfl)
@[simp] theorem cGe_int {i j : Int} : cGe (.int i) (.int j) h = some (.bl (decide (j ≤ i)), h) := (rfl)
@[simp] theorem cEq_k {n : Bool} : cEq n x y h = eqK n h (eqA h x y) := by unfold cEq eqK; cases eqA h x y <;> rfl
@[simp] theorem eqA_int {i j : Int} : eqA h (.int i) (.int j) = some (decide (i = j)) := (rfl)
@[simp] theorem eqA_str {i j : Str} : eqA h (.str i) (.str j) = some (decide (i = j)) := (rfl)
@[simp] theorem itemsA_tup : itemsA h (.tup xs) = some xs := (rfl)
@[simp] theorem itemsA_ref : itemsA h (.ref i) = lstK h[i]? := (rfl)
@[simp] theorem fLen_tup : fLen [.tup xs] h = some (.int xs.length, h) := (rfl)
@[simp] theorem itemsA_ktp : itemsA h (.ktp xs) = some xs := (rfl)
@[simp] theorem fLen_ref : fLen [.ref i] h = lenV (lstK h[i]?) h := by
  show (lstK h[i]?).map (fun ys => (AV.int ys.length, h)) = _
  cases lstK h[i]? <;> rfl
@[simp] theorem tyA_lst : tyA .lst h (.ref i) = isLst h[i]? := (rfl)
@[simp] theorem fAppend_ref : fAppend (.ref i) [y] h = appK i y h h[i]? := (rfl)
@[simp] theorem fPop_ref : fPop (.ref i) [] h = popK i h h[i]? := (rfl)
@[simp] theorem oSl_ref {lo hi : Option Int} : oSl (.ref i) lo hi h = slcK lo hi h h[i]? := (rfl)
@[simp] theorem isN_non : cIsN false .non .non h = some (.bl true, h) := (rfl)
@[simp] theorem isN_int {i : Int} : cIsN false (.int i) .non h = some (.bl false, h) := (rfl)
@[simp] theorem isN_str {i : Str} : cIsN false (.str i) .non h = some (.bl false, h) := (rfl)
@[simp] theorem notN_non : cIsN true .non .non h = some (.bl false, h) := (rfl)
@[simp] theorem notN_tup : cIsN true (.tup xs) .non h = some (.bl true, h) := (rfl)
theorem get_app {o : AO} (q : h[i]? = some o) (h1 : List AO) : (h ++ h1)[i]? = some o := by
  rw [List.getElem?_append_left (List.getElem?_eq_some_iff.mp q).1]; exact q
theorem set_app {o : AO} (q : h[i]? = some o) (h1 : List AO) (y : AO) : (h ++ h1).set i y = h.set i y ++ h1 := List.set_append_left _ _ (List.getElem?_eq_some_iff.mp q).1
theorem set_at {o : AO} (q : h[i]? = some o) (y : AO) : (h.set i y)[i]? = some y := List.getElem?_set_self (List.getElem?_eq_some_iff.mp q).1
theorem set_ne (q : i ≠ j) (y : AO) : (h.set i y)[j]? = h[j]? := List.getElem?_set_ne q
theorem lt_of_at {o : AO} (q : h[i]? = some o) : i < h.length := (List.getElem?_eq_some_iff.mp q).1
end

/-! ### loops -/
section
variable {I : AI} {g : AG} {b : AS} {c : EB} {t : EB} {el : AE} {e : AEnv} {h : List AO} {d f i n : Nat}
theorem forL_inv (Iv : Nat → AEnv → List AO → Prop) (n : Nat) (hstop : ∀ e h, Iv n e h → I.at n h = some none)
    (hstep : ∀ i e h, i < n → Iv i e h → ∃ v e1 h1 e2 h2, I.at i h = some (some v) ∧ g v e h = some (e1, h1) ∧ b e1 h1 = some (.nx e2, h2) ∧ Iv (i + 1) e2 h2) :
    ∀ (k i f : Nat) (e : AEnv) (h : List AO), i + k = n → k < f → Iv i e h → ∃ e' h', forL I g b f i e h = some (.nx e', h') ∧ Iv n e' h'
  | 0, i, f + 1, e, h, hk, hf, h0 => by
    have : i = n := by omega
    subst this
    exact ⟨e, h, by unfold forL; rw [hstop e h h0], h0⟩
  | k + 1, i, f + 1, e, h, hk, hf, h0 => by
    obtain ⟨v, e1, h1, e2, h2, q1, q2, q3, q4⟩ := hstep i e h (by omega) h0
    obtain ⟨e', h', r1, r2⟩ := forL_inv Iv n hstop hstep k (i + 1) f e2 h2 (by omega) (by omega) q4
    exact ⟨e', h', by unfold forL; simp only [q1, q2, q3]; exact r1, r2⟩
  | _, _, 0, _, _, _, hf, _ => by omega
def frA (I : AI) (g : AG) (b : AS) (f i : Nat) (o : OS) : OS := match o with
  | some (.nx e2, h2) => forL I g b f (i + 1) e2 h2
  | some (.ct e2, h2) => forL I g b f (i + 1) e2 h2
  | some (.bk e2, h2) => some (.nx e2, h2)
  | r => r
def frB (I : AI) (g : AG) (b : AS) (f i : Nat) (o : Option (AEnv × List AO)) : OS := match o with
  | none => none
  | some (e1, h1) => frA I g b f i (b e1 h1)
def frC (I : AI) (g : AG) (b : AS) (f i : Nat) (e : AEnv) (h : List AO) (o : Option (Option AV)) : OS := match o with
  | none => none
  | some none => some (.nx e, h)
  | some (some v) => frB I g b f i (g v e h)
theorem forL_st : forL I g b (f + 1) i e h = frC I g b f i e h (I.at i h) := (rfl)
@[simp] theorem frC_end : frC I g b f i e h (some none) = some (.nx e, h) := (rfl)
@[simp] theorem frC_it {v : AV} : frC I g b f i e h (some (some v)) = frB I g b f i (g v e h) := (rfl)
@[simp] theorem frB_some : frB I g b f i (some (e, h)) = frA I g b f i (b e h) := (rfl)
@[simp] theorem frA_nx : frA I g b f i (some (.nx e, h)) = forL I g b f (i + 1) e h := (rfl)
@[simp] theorem frA_ct : frA I g b f i (some (.ct e, h)) = forL I g b f (i + 1) e h := (rfl)
@[simp] theorem frA_bk : frA I g b f i (some (.bk e, h)) = some (.nx e, h) := (rfl)
@[simp] theorem frA_rt {v : AV} : frA I g b f i (some (.rt v, h)) = some (.rt v, h) := (rfl)
def whA (c : EB) (b : AS) (f : Nat) (o : OS) : OS := match o with
  | some (.nx e2, h2) => whL c b f e2 h2
  | some (.ct e2, h2) => whL c b f e2 h2
  | some (.bk e2, h2) => some (.nx e2, h2)
  | r => r
def whB (c : EB) (b : AS) (f : Nat) (e : AEnv) (o : OV Bool) : OS := match o with
  | none => none
  | some (.ex c k, h1) => some (.ex c k e, h1)
  | some (.ok false, h1) => some (.nx e, h1)
  | some (.ok true, h1) => whA c b f (b e h1)
theorem whL_st : whL c b (f + 1) e h = whB c b f e (c e h) := (rfl)
@[simp] theorem whB_f : whB c b f e (some (.ok false, h)) = some (.nx e, h) := (rfl)
@[simp] theorem whB_t : whB c b f e (some (.ok true, h)) = whA c b f (b e h) := (rfl)
@[simp] theorem whA_nx : whA c b f (some (.nx e, h)) = whL c b f e h := (rfl)
@[simp] theorem whA_ct : whA c b f (some (.ct e, h)) = whL c b f e h := (rfl)
@[simp] theorem whA_bk : whA c b f (some (.bk e, h)) = some (.nx e, h) := (rfl)
@[simp] theorem whA_rt {v : AV} : whA c b f (some (.rt v, h)) = some (.rt v, h) := (rfl)
def lcF (I : AI) (g : AG) (t : EB) (el : AE) (d : Nat) (e : AEnv) (f i : Nat) (y : AV) (h : List AO) (o : Option AO) : Option (List AO) := match o with
  | some (.lst acc) => if acc.length < 100000 then lcL I g t el d e f (i + 1) (h.set d (.lst (acc ++ [y]))) else none
  | _ => none
def lcE (I : AI) (g : AG) (t : EB) (el : AE) (d : Nat) (e : AEnv) (f i : Nat) (o : OV AV) : Option (List AO) := match o with
  | some (.ok y, h3) => lcF I g t el d e f i y h3 h3[d]?
  | _ => none
def lcD (I : AI) (g : AG) (t : EB) (el : AE) (d : Nat) (e : AEnv) (f i : Nat) (e1 : AEnv) (o : OV Bool) : Option (List AO) := match o with
  | some (.ok false, h2) => lcL I g t el d e f (i + 1) h2
  | some (.ok true, h2) => lcE I g t el d e f i (el e1 h2)
  | _ => none
def lcB (I : AI) (g : AG) (t : EB) (el : AE) (d : Nat) (e : AEnv) (f i : Nat) (o : Option (AEnv × List AO)) : Option (List AO) := match o with
  | none => none
  | some (e1, h1) => lcD I g t el d e f i e1 (t e1 h1)
def lcA (I : AI) (g : AG) (t : EB) (el : AE) (d : Nat) (e : AEnv) (f i : Nat) (h : List AO) (o : Option (Option AV)) : Option (List AO) := match o with
  | none => none
  | some none => some h
  | some (some v) => lcB I g t el d e f i (g v e h)
theorem lcL_st : lcL I g t el d e (f + 1) i h = lcA I g t el d e f i h (I.at i h) := by
  rw [lcL]
  unfold lcA lcB lcD lcE lcF
  rcases I.at i h with _ | _ | v
  · rfl
  · rfl
  · dsimp only
    rcases g v e h with _ | ⟨e1, h1⟩
    · rfl
    · dsimp only
      rcases t e1 h1 with _ | ⟨_ | _, h2⟩
      · rfl
      · rename_i b
        cases b
        · rfl
        · dsimp only
          rcases el e1 h2 with _ | ⟨_ | _, h3⟩
          · rfl
          · first
            | rfl
            | (rcases h3[d]? with _ | o
               · rfl
               · cases o <;> rfl)
          · rfl
      · rfl
@[simp] theorem lcA_end : lcA I g t el d e f i h (some none) = some h := (rfl)
@[simp] theorem lcA_it {v : AV} : lcA I g t el d e f i h (some (some v)) = lcB I g t el d e f i (g v e h) := (rfl)
@[simp] theorem lcB_some {e1 : AEnv} : lcB I g t el d e f i (some (e1, h)) = lcD I g t el d e f i e1 (t e1 h) := (rfl)
@[simp] theorem lcD_f {e1 : AEnv} : lcD I g t el d e f i e1 (some (.ok false, h)) = lcL I g t el d e f (i + 1) h := (rfl)
@[simp] theorem lcD_t {e1 : AEnv} : lcD I g t el d e f i e1 (some (.ok true, h)) = lcE I g t el d e f i (el e1 h) := (rfl)
@[simp] theorem lcE_ok {y : AV} : lcE I g t el d e f i (some (.ok y, h)) = lcF I g t el d e f i y h h[d]? := (rfl)
@[simp] theorem lcF_lst {y : AV} {acc : List AV} : lcF I g t el d e f i y h (some (.lst acc)) = if acc.length < 100000 then lcL I g t el d e f (i + 1) (h.set d (.lst (acc ++ [y]))) else none := (rfl)
@[simp] theorem e_mYes : mYes e h = some (.ok true, h) := (rfl)
def lcZ (d : Nat) (o : Option (List AO)) : OV AV := match o with
  | some h2 => some (.ok (.ref d), h2)
  | none => none
@[simp] theorem lcZ_some : lcZ d (some h) = some (.ok (.ref d), h) := (rfl)
def mLcK (N : Nat) (vs : List Nat) (g : AG) (t : EB) (el : AE) (e : AEnv) (o : OV AI) : OV AV := bnd o fun I h1 => lcZ h1.length (lcL I g t el h1.length (awipe e vs) N 0 (h1 ++ [.lst []]))
@[simp] theorem e_mLc {N : Nat} {vs : List Nat} {mi : AEnv → AM AI} : mLc N vs mi g t el e h = mLcK N vs g t el e (mi e h) := (rfl)
@[simp] theorem mLcK_ok {N : Nat} {vs : List Nat} : mLcK N vs g t el e (some (.ok I, h)) = lcZ h.length (lcL I g t el h.length (awipe e vs) N 0 (h ++ [.lst []])) := (rfl)
def mForK (N : Nat) (g : AG) (b : AS) (e : AEnv) (o : OV AI) : OS := bndS o e fun I h1 => forL I g b N 0 e h1
@[simp] theorem e_mFor {N : Nat} {mi : AEnv → AM AI} : mFor N mi g b e h = mForK N g b e (mi e h) := (rfl)
@[simp] theorem mForK_ok {N : Nat} : mForK N g b e (some (.ok I, h)) = forL I g b N 0 e h := (rfl)
def iSqF (x : AV) (h : List AO) : OV AI := match x with
  | .str z => some (.ok (.str z), h)
  | x => (toSrc h x).map fun s => (.ok (.src s), h)
def iSqK (o : OV AV) : OV AI := bnd o iSqF
@[simp] theorem e_iSq {m : AE} : iSq m e h = iSqK (m e h) := (rfl)
@[simp] theorem iSqK_ok {x : AV} : iSqK (some (.ok x, h)) = iSqF x h := (rfl)
@[simp] theorem iSqF_str {z : Str} : iSqF (.str z) h = some (.ok (.str z), h) := (rfl)
@[simp] theorem iSqF_tup {xs : List AV} : iSqF (.tup xs) h = some (.ok (.src (.tup xs)), h) := (rfl)
def srcK (k : Nat) (h : List AO) (o : Option (List AV)) : OV AI := match o with
  | some _ => some (.ok (.src (.lst k)), h)
  | none => none
@[simp] theorem srcK_some {k : Nat} {xs : List AV} : srcK k h (some xs) = some (.ok (.src (.lst k)), h) := (rfl)
@[simp] theorem iSqF_ref {k : Nat} : iSqF (.ref k) h = srcK k h (lstK h[k]?) := by
  cases q : h[k]? with
  | none => simp [iSqF, toSrc, Src.items, lstK, srcK, q]
  | some o => cases o <;> simp [iSqF, toSrc, Src.items, lstK, srcK, q]
def iR1F (vs : List AV) (h : List AO) : OV AI := match vs with
  | [.int j] => if rngOk j = true then some (.ok (.rng 0 j.toNat), h) else none
  | _ => none
def iR1K (o : OV (List AV)) : OV AI := bnd o iR1F
@[simp] theorem e_iR1 {ma : EL} : iR1 ma e h = iR1K (ma e h) := (rfl)
@[simp] theorem iR1K_ok {vs : List AV} : iR1K (some (.ok vs, h)) = iR1F vs h := (rfl)
@[simp] theorem iR1F_one {j : Int} : iR1F [.int j] h = if rngOk j = true then some (.ok (.rng 0 j.toNat), h) else none := (rfl)
@[simp] theorem at_tup {xs : List AV} : AI.at (.src (.tup xs)) i h = some xs[i]? := (rfl)
def atK (i : Nat) (o : Option (List AV)) : Option (Option AV) := match o with
  | some xs => some xs[i]?
  | none => none
@[simp] theorem atK_some {xs : List AV} : atK i (some xs) = some xs[i]? := (rfl)
@[simp] theorem at_lst {k : Nat} : AI.at (.src (.lst k)) i h = atK i (lstK h[k]?) := by
  cases q : h[k]? with
  | none => simp [AI.at, Src.items, lstK, atK, q]
  | some o => cases o <;> simp [AI.at, Src.items, lstK, atK, q]
@[simp] theorem at_rng {lo : Int} {m : Nat} : AI.at (.rng lo m) i h = some (if i < m then some (.int (lo + (i : Nat))) else none) := (rfl)
def dgK (k : Key) (h : List AO) (o : Option AO) : Option (AV × List AO) := match o with
  | some (.dct kvs) => mapV (valA kvs k) h
  | _ => none
@[simp] theorem dgK_dct {k : Key} {kvs : List (Key × AV)} : dgK k h (some (.dct kvs)) = mapV (valA kvs k) h := (rfl)
@[simp] theorem oDget_str {k : Nat} {z : Str} : oDget (.ref k) (.str z) h = dgK (.inr z) h h[k]? := by
  cases q : h[k]? with
  | none => simp [oDget, dgK, q]
  | some o => cases o <;> simp [oDget, dgK, q, keyA, mapV] <;> (rename_i kvs; cases valA kvs (Sum.inr z : Key) <;> rfl)
def dpO (k : Key) (v : AV) (j : Nat) (e : AEnv) (h : List AO) (o : Option AO) : OS := match o with
  | some (.dct kvs) => if kvs.length < 100000 then some (.nx e, h.set j (.dct (putA kvs k v))) else none
  | _ => none
theorem dpO_dct {k : Key} {v : AV} {j : Nat} {kvs : List (Key × AV)} (hl : kvs.length < 100000) : dpO k v j e h (some (.dct kvs)) = some (.nx e, h.set j (.dct (putA kvs k v))) := if_pos hl
@[simp] theorem dpF_str {j : Nat} {z : Str} {v : AV} : dpF v (.ref j) (.str z) e h = dpO (.inr z) v j e h h[j]? := by
  cases q : h[j]? with
  | none => simp [dpF, dpO, q]
  | some o => cases o <;> simp [dpF, dpO, q, keyA]
theorem oMod_int {i j : Int} (q : j ≠ 0) : oMod (.int i) (.int j) h = some (.int (i.fmod j), h) := by
  show (if j = 0 then none else some (AV.int (i.fmod j))).map (fun v => (v, h)) = _
  rw [if_neg q]; rfl
theorem oFdiv_int {i j : Int} (q : j ≠ 0 ∧ j.natAbs < 1073741824) : oFdiv (.int i) (.int j) h = some (.int (i.fdiv j), h) := by
  show (if j ≠ 0 ∧ j.natAbs < 1073741824 then some (AV.int (i.fdiv j)) else none).map (fun v => (v, h)) = _
  rw [if_pos q]; rfl
theorem oMul_int {i j : Int} (q : i.natAbs.log2 + j.natAbs.log2 < 130000000) : oMul (.int i) (.int j) h = some (.int (i * j), h) := by
  show (if i.natAbs.log2 + j.natAbs.log2 < 130000000 then some (AV.int (i * j)) else none).map (fun v => (v, h)) = _
  rw [if_pos q]; rfl
theorem oPow_int {i j : Int} (q : 0 ≤ j ∧ ((i.natAbs.log2 : Int) + 1) * j ≤ 2 ^ 27) : oPow (.int i) (.int j) h = some (.int (i ^ j.toNat), h) := by
  show (if 0 ≤ j ∧ ((i.natAbs.log2 : Int) + 1) * j ≤ 2 ^ 27 then some (AV.int (i ^ j.toNat)) else none).map (fun v => (v, h)) = _
  rw [if_pos q]; rfl
@[simp] theorem fInt1_int {i : Int} : fInt1 [.int i] h = some (.int i, h) := (rfl)
theorem log2_lt' {n k : Nat} (q : n < 2 ^ k) (hk : 0 < k) : n.log2 < k := by
  by_cases z : n = 0
  · subst z; simpa using hk
  · exact (Nat.log2_lt z).mpr q
theorem log2_nn {i : Int} {k : Nat} (h0 : 0 ≤ i) (q : i < 2 ^ k) (hk : 0 < k) : i.natAbs.log2 < k := by
  refine log2_lt' ?_ hk
  have : ((i.natAbs : Nat) : Int) < ((2 ^ k : Nat) : Int) := by
    rw [Int.natAbs_of_nonneg h0]
    rw [Int.natCast_pow]
    exact q
  exact Int.ofNat_lt.mp this
def ixK (i : Int) (h : List AO) (o : Option (List AV)) : Option (AV × List AO) := match o with
  | some ys => mapV (atI ys i) h
  | none => none
@[simp] theorem ixK_some {i : Int} {ys : List AV} : ixK i h (some ys) = mapV (atI ys i) h := (rfl)
@[simp] theorem oIx_tup {i : Int} {xs : List AV} : oIx (.tup xs) (.int i) h = mapV (atI xs i) h := by
  show (atI xs i).map (fun v => (v, h)) = _
  cases atI xs i <;> rfl
@[simp] theorem oIx_ref {i : Int} {k : Nat} : oIx (.ref k) (.int i) h = ixK i h (lstK h[k]?) := by
  cases q : h[k]? with
  | none => simp [oIx, itemsA, q, lstK, ixK]
  | some o => cases o <;> simp [oIx, itemsA, q, lstK, ixK] <;> (rename_i xs; cases atI xs i <;> rfl)
theorem atI_n {α : Type} {xs : List α} {i : Nat} : atI xs (i : Int) = xs[i]? := by
  unfold atI ixN
  rw [if_pos (Int.natCast_nonneg i)]
  by_cases hi : (i : Int) < xs.length
  · rw [if_pos hi]; simp
  · rw [if_neg hi]
    exact (List.getElem?_eq_none (by omega)).symm
@[simp] theorem get_off {l : List AO} {k : Nat} : (h ++ l)[h.length + k]? = l[k]? := by
  rw [List.getElem?_append_right (Nat.le_add_right _ _), Nat.add_sub_cancel_left]
@[simp] theorem get_off0 {l : List AO} : (h ++ l)[h.length]? = l[0]? := get_off (k := 0)
@[simp] theorem set_off {l : List AO} {k : Nat} {y : AO} : (h ++ l).set (h.length + k) y = h ++ l.set k y := by
  rw [List.set_append_right _ _ (Nat.le_add_right _ _), Nat.add_sub_cancel_left]
@[simp] theorem set_off0 {l : List AO} {y : AO} : (h ++ l).set h.length y = h ++ l.set 0 y := set_off (k := 0)
def dispF (n : Nat) (ps : List (AV × AV)) (h1 : List AO) : OV AV := match keysA ps, h1[n]? with
  | some kvs, some (.dct []) => if kvs.length ≤ 15 then some (.ok (.ref n), h1.set n (.dct (mergeA [] kvs))) else none
  | _, _ => none
def dispK (n : Nat) (o : OV (List (AV × AV))) : OV AV := bnd o (dispF n)
abbrev EP' := AEnv → AM (List (AV × AV))
@[simp] theorem e_mDisp {mr : EP'} : mDisp mr e h = dispK h.length (mr e (h ++ [.dct []])) := (rfl)
@[simp] theorem dispK_ok {n : Nat} {ps : List (AV × AV)} : dispK n (some (.ok ps, h)) = dispF n ps h := (rfl)
theorem dispF_ok {n : Nat} {ps : List (AV × AV)} {kvs : List (Key × AV)} (q1 : keysA ps = some kvs) (q2 : h[n]? = some (.dct [])) (q3 : kvs.length ≤ 15) : dispF n ps h = some (.ok (.ref n), h.set n (.dct (mergeA [] kvs))) := by
  unfold dispF; rw [q1, q2]; exact if_pos q3
def mPrM (x y : AV) (o : OV (List (AV × AV))) : OV (List (AV × AV)) := bnd o fun r h3 => some (.ok ((x, y) :: r), h3)
def mPrL (x : AV) (mr : EP') (e : AEnv) (o : OV AV) : OV (List (AV × AV)) := bnd o fun y h2 => mPrM x y (mr e h2)
def mPrK (mb : AE) (mr : EP') (e : AEnv) (o : OV AV) : OV (List (AV × AV)) := bnd o fun x h1 => mPrL x mr e (mb e h1)
@[simp] theorem e_mPr {ma mb : AE} {mr : EP'} : mPr ma mb mr e h = mPrK mb mr e (ma e h) := (rfl)
@[simp] theorem mPrK_ok {mb : AE} {mr : EP'} {x : AV} : mPrK mb mr e (some (.ok x, h)) = mPrL x mr e (mb e h) := (rfl)
@[simp] theorem mPrL_ok {mr : EP'} {x y : AV} : mPrL x mr e (some (.ok y, h)) = mPrM x y (mr e h) := (rfl)
@[simp] theorem mPrM_ok {x y : AV} {r : List (AV × AV)} : mPrM x y (some (.ok r, h)) = some (.ok ((x, y) :: r), h) := (rfl)
@[simp] theorem at_str {z : Str} : AI.at (.str z) i h = some ((z.cps[i]?).map fun c => .str ⟨#[c]⟩) := (rfl)
end
end SL
/-! PL3: more plain laws for simp: making, isinstance, in, deep equality, pops. -/
namespace SL
open PySem PySem.Spec PyProof.Rows L2
def mkL (n : Nat) (o : OV AV) : OV AV := bnd o fun v h2 => match v with
  | .non => some (.ok (.ref n), h2)
  | _ => none
def makeK (c : Nat) (m : List AV → AM AV) (davs : List AV) (o : OV (List AV)) : OV AV := bnd o fun vs h1 => mkL h1.length (m (.ref h1.length :: (vs ++ davs)) (h1 ++ [.ins c []]))
def m3cM (f' : F2) (y : AV) (o : OV AV) : OV AV := bnd o fun z h4 => lft (f' y z h4)
def m3cT (f' : F2) (y : AV) (mc : AE) (e : AEnv) (o : Option (AV × List AO)) : OV AV := match o with
  | some (.bl true, h3) => m3cM f' y (mc e h3)
  | some (.bl false, h3) => some (.ok (.bl false), h3)
  | _ => none
def m3cL (f f' : F2) (x : AV) (mc : AE) (e : AEnv) (o : OV AV) : OV AV := bnd o fun y h2 => m3cT f' y mc e (f x y h2)
def m3cK (f f' : F2) (mb mc : AE) (e : AEnv) (o : OV AV) : OV AV := bnd o fun x h1 => m3cL f f' x mc e (mb e h1)
def isiK (o : Option Bool) (h : List AO) : Option (AV × List AO) := match o with
  | some b => some (.bl b, h)
  | none => none
def isi2K (o o' : Option Bool) (h : List AO) : Option (AV × List AO) := match o, o' with
  | some a, some b => some (.bl (a || b), h)
  | _, _ => none
def inK (neg : Bool) (h : List AO) (o : Option Bool) : Option (AV × List AO) := match o with
  | some b => some (.bl (if neg then !b else b), h)
  | none => none
def bsK (g : List Bool → Bool) (h : List AO) (o : Option (List AV)) : Option (AV × List AO) := match o with
  | some ys => match blsA ys with
    | some bs => some (.bl (g bs), h)
    | none => none
  | none => none
def onlyL (o : Option AO) : Option (List AV) := match o with
  | some (.lst xs) => some xs
  | _ => none
def lisK (o : Option (List AV)) (h : List AO) : Option (AV × List AO) := match o with
  | some ys => some (.ref h.length, h ++ [.lst ys])
  | none => none
def tupK (o : Option (List AV)) (h : List AO) : Option (AV × List AO) := match o with
  | some ys => some (.tup ys, h)
  | none => none
def idK (o : Option Nat) (h : List AO) : Option (AV × List AO) := match o with
  | some j => some (.int (j : Nat), h)
  | none => none
def pop0K (i : Nat) (h : List AO) (o : Option AO) : Option (AV × List AO) := match o with
  | some (.lst (x :: xs)) => some (x, h.set i (.lst xs))
  | _ => none
def dqK (o o' : Option PyData) : Option Bool := match o, o' with
  | some d, some e => if SeqAt.shaped d && SeqAt.shaped e then some (PyData.eqv d e) else none
  | _, _ => none
def rfK (f : Nat) (h : List AO) (o : Option AO) : Option PyData := match o with
  | some (.lst xs) => (toD0s (rfD f h) xs).map .list
  | some (.rol xs) => (toD0s (rfD f h) xs).map .list
  | _ => none
section
variable {e : AEnv} {h h1 h2 : List AO} {v x y z : AV} {i j c d k : Nat} {f f' : F2} {xs ys vs : List AV}
@[simp] theorem e_mMake {m : List AV → AM AV} {davs : List AV} {ma : EL} : mMake c m davs ma e h = makeK c m davs (ma e h) := by
  unfold mMake makeK mkL
  rfl
@[simp] theorem makeK_ok {m : List AV → AM AV} {davs : List AV} : makeK c m davs (some (.ok vs, h)) = mkL h.length (m (.ref h.length :: (vs ++ davs)) (h ++ [.ins c []])) := (rfl)
@[simp] theorem mkL_ok : mkL i (some (.ok .non, h)) = some (.ok (.ref i), h) := (rfl)
@[simp] theorem e_m3c {ma mb mc : AE} : m3c f f' ma mb mc e h = m3cK f f' mb mc e (ma e h) := by
  unfold m3c m3cK m3cL m3cT m3cM lft
  rfl
@[simp] theorem m3cK_ok {mb mc : AE} : m3cK f f' mb mc e (some (.ok x, h)) = m3cL f f' x mc e (mb e h) := (rfl)
@[simp] theorem m3cL_ok {mc : AE} : m3cL f f' x mc e (some (.ok y, h)) = m3cT f' y mc e (f x y h) := (rfl)
@[simp] theorem m3cT_t {mc : AE} : m3cT f' y mc e (some (.bl true, h)) = m3cM f' y (mc e h) := (rfl)
@[simp] theorem m3cT_f {mc : AE} : m3cT f' y mc e (some (.bl false, h)) = some (.ok (.bl false), h) := (rfl)
@[simp] theorem m3cM_ok : m3cM f' y (some (.ok z, h)) = lft (f' y z h) := (rfl)
@[simp] theorem oIsi1 {T : Ty} : oIsi [T] x h = isiK (isT T h x) h := by
  show (isT T h x).map (fun b => (AV.bl b, h)) = _
  cases isT T h x <;> rfl
@[simp] theorem oIsi2 {T U : Ty} : oIsi [T, U] x h = isi2K (isT T h x) (isT U h x) h := by
  unfold oIsi isi2K
  first
    | rfl
    | (cases isT T h x <;> cases isT U h x <;> rfl)
@[simp] theorem isiK_some {b : Bool} : isiK (some b) h = some (.bl b, h) := (rfl)
@[simp] theorem isi2K_some {a b : Bool} : isi2K (some a) (some b) h = some (.bl (a || b), h) := (rfl)
@[simp] theorem isT_int {T : Ty} {i : Int} : isT T h (.int i) = some (match T with | .int => true | _ => false) := (rfl)
@[simp] theorem isT_str {T : Ty} {i : Str} : isT T h (.str i) = some (match T with | .str => true | _ => false) := (rfl)
@[simp] theorem isT_bl {T : Ty} {i : Bool} : isT T h (.bl i) = some (match T with | .int => true | .bool => true | _ => false) := (rfl)
@[simp] theorem isT_tup {T : Ty} : isT T h (.tup xs) = some (match T with | .tup => true | _ => false) := (rfl)
@[simp] theorem isT_non {T : Ty} : isT T h .non = some false := (rfl)
def isLK (T : Ty) (o : Option AO) : Option Bool := match o with
  | some (.lst _) => some (match T with | .lst => true | _ => false)
  | some (.rol _) => some (match T with | .lst => true | _ => false)
  | some (.dct _) => some (match T with | .dct => true | _ => false)
  | some (.dtp _) => some (match T with | .dct => true | _ => false)
  | _ => none
@[simp] theorem isT_ref {T : Ty} : isT T h (.ref i) = isLK T h[i]? := (rfl)
@[simp] theorem isLK_lst {T : Ty} : isLK T (some (.lst xs)) = some (match T with | .lst => true | _ => false) := (rfl)
@[simp] theorem isLK_rol {T : Ty} : isLK T (some (.rol xs)) = some (match T with | .lst => true | _ => false) := (rfl)
@[simp] theorem cIn_str {n : Bool} {a : Str} : cIn n (.str a) (.tup xs) h = inK n h (inX h (.str a) xs) := by
  show (inX h (.str a) xs).map (fun b => (AV.bl (if n then !b else b), h)) = _
  cases inX h (.str a) xs <;> rfl
@[simp] theorem cIn_int {n : Bool} {a : Int} : cIn n (.int a) (.tup xs) h = inK n h (inX h (.int a) xs) := by
  show (inX h (.int a) xs).map (fun b => (AV.bl (if n then !b else b), h)) = _
  cases inX h (.int a) xs <;> rfl
@[simp] theorem cIn_strK {n : Bool} {a : Str} : cIn n (.str a) (.ktp xs) h = inK n h (inX h (.str a) xs) := by
  show (inX h (.str a) xs).map (fun b => (AV.bl (if n then !b else b), h)) = _
  cases inX h (.str a) xs <;> rfl
@[simp] theorem inK_some {n b : Bool} : inK n h (some b) = some (.bl (if n then !b else b), h) := (rfl)
theorem inX_flat (q : (flatA x && ys.all flatA) = true) : inX h x ys = some (ys.any fun y => eqF y x) := if_pos q
@[simp] theorem fAll_ref : fAll [.ref i] h = bsK (fun bs => bs.all id) h (onlyL h[i]?) := by
  cases q : h[i]? with
  | none => simp [fAll, fBs, q, onlyL, bsK]
  | some o => cases o <;> simp [fAll, fBs, q, onlyL, bsK] <;> (rename_i xs; cases blsA xs <;> rfl)
@[simp] theorem onlyL_lst : onlyL (some (.lst xs)) = some xs := (rfl)
theorem bsK_some {g : List Bool → Bool} {bs : List Bool} (q : blsA ys = some bs) : bsK g h (some ys) = some (.bl (g bs), h) := by
  simp only [bsK, q]
@[simp] theorem blsA_nil : blsA [] = some [] := (rfl)
@[simp] theorem fList_ref : fList [.ref i] h = lisK (lstK h[i]?) h := by
  show (lstK h[i]?).map (fun ys => (AV.ref h.length, h ++ [.lst ys])) = _
  cases lstK h[i]? <;> rfl
@[simp] theorem lisK_some : lisK (some ys) h = some (.ref h.length, h ++ [.lst ys]) := (rfl)
@[simp] theorem fTuple_ref : fTuple [.ref i] h = tupK (lstK h[i]?) h := by
  show (lstK h[i]?).map (fun ys => (AV.tup ys, h)) = _
  cases lstK h[i]? <;> rfl
@[simp] theorem fTuple_tup : fTuple [.tup xs] h = some (.tup xs, h) := (rfl)
@[simp] theorem tupK_some : tupK (some ys) h = some (.tup ys, h) := (rfl)
@[simp] theorem fPopAt_0 : fPopAt (.ref i) [.int 0] h = pop0K i h h[i]? := by
  cases q : h[i]? with
  | none => simp [fPopAt, q, pop0K]
  | some o => cases o <;> simp [fPopAt, q, pop0K] <;> (rename_i xs; cases xs <;> simp [seqIndex?])
@[simp] theorem pop0K_cons : pop0K i h (some (.lst (x :: xs))) = some (x, h.set i (.lst xs)) := (rfl)
@[simp] theorem tyA_tup : tyA .tup h (.tup xs) = true := (rfl)
@[simp] theorem fTIdx_tup {a : Str} {ss : List Str} (q : strsA xs = some ss) : fTIdx (.tup xs) [.str a] h = idK (idxS a ss) h := by
  show (match strsA xs with | some ys => (idxS a ys).map (fun j => (AV.int (j : Nat), h)) | none => none) = _
  rw [q]
  dsimp only
  cases idxS a ss <;> rfl
@[simp] theorem idK_some : idK (some j) h = some (.int (j : Nat), h) := (rfl)
@[simp] theorem eqA_ref : eqA h (.ref i) y = dqK (toD h (.ref i)) (toD h y) := by
  unfold eqA dqK
  cases y <;> rfl
@[simp] theorem eqA_tup : eqA h (.tup xs) y = dqK (toD h (.tup xs)) (toD h y) := by
  unfold eqA dqK
  cases y <;> rfl
theorem dqK_same {d : PyData} (q : SeqAt.shaped d = true) : dqK (some d) (some d) = some true := by
  unfold dqK
  have c : d.canLay0 = true := by
    unfold SeqAt.shaped at q
    rw [Bool.and_eq_true] at q
    exact q.1
  show (if (SeqAt.shaped d && SeqAt.shaped d) = true then some (PyData.eqv d d) else none) = _
  rw [q, SeqAt.eqv_refl d c]
  rfl
theorem dqK_some {d e : PyData} (q : SeqAt.shaped d = true) (q' : SeqAt.shaped e = true) : dqK (some d) (some e) = some (PyData.eqv d e) := by
  unfold dqK
  show (if (SeqAt.shaped d && SeqAt.shaped e) = true then some (PyData.eqv d e) else none) = _
  rw [q, q']
  rfl
theorem rfD_st {f : Nat} : rfD (f + 1) h i = rfK f h h[i]? := by
  cases q : h[i]? with
  | none => simp [rfD, rfK, q]
  | some o => cases o <;> simp [rfD, rfK, q]
@[simp] theorem rfK_lst {f : Nat} : rfK f h (some (.lst xs)) = (toD0s (rfD f h) xs).map .list := (rfl)
@[simp] theorem toD_ref : toD h (.ref i) = rfD 12 h i := (rfl)
@[simp] theorem toD_tup : toD h (.tup xs) = (toD0s (rfD 12 h) xs).map .tuple := by
  show toD0 (rfD 12 h) (.tup xs) = _
  simp [toD0]
@[simp] theorem atI_0 : atI xs 0 = xs[0]? := atI_n (i := 0)
@[simp] theorem atI_1 : atI xs 1 = xs[1]? := atI_n (i := 1)
@[simp] theorem atI_pos {i : Int} (q : 0 ≤ i) : atI xs i = xs[i.toNat]? := by
  obtain ⟨n, rfl⟩ := Int.eq_ofNat_of_zero_le q
  rw [atI_n, Int.toNat_natCast]
@[simp] theorem atI_m1 : atI xs (-1) = xs[xs.length - 1]? := by
  unfold atI ixN
  rw [if_neg (by decide)]
  by_cases q : xs = []
  · subst q; rfl
  · have hl : 0 < xs.length := List.length_pos_iff.mpr q
    by_cases z : (-(xs.length : Int) ≤ -1)
    · rw [if_pos z]
      simp
      congr 1
      omega
    · exact absurd (by omega) z
theorem ofStr_inj' {a b : String} (q : Str.ofString a = Str.ofString b) : a = b := by
  rw [Str.ofString_eq_toList, Str.ofString_eq_toList] at q
  have q1 : (a.toList.map Char.toNat).toArray = (b.toList.map Char.toNat).toArray := congrArg Str.cps q
  have q2 : a.toList.map Char.toNat = b.toList.map Char.toNat := by simpa using q1
  have inj : ∀ l m : List Char, l.map Char.toNat = m.map Char.toNat → l = m := by
    intro l
    induction l with
    | nil => intro m hm; cases m <;> simp_all
    | cons c l ih =>
      intro m hm
      cases m with
      | nil => simp at hm
      | cons d m =>
        simp only [List.map_cons, List.cons.injEq] at hm
        have cd : c = d := by
          apply Char.ext
          exact UInt32.toNat_inj.mp hm.1
        rw [cd, ih m hm.2]
  have q3 := inj _ _ q2
  exact String.toList_inj.mp q3
@[simp] theorem ofStr_inj {a b : String} : (Str.ofString a = Str.ofString b) = (a = b) := propext ⟨ofStr_inj', fun q => by rw [q]⟩
@[simp] theorem ofStr_beq {a b : String} : (Str.ofString a == Str.ofString b) = (a == b) := by
  by_cases q : a = b
  · subst q; simp
  · have : ¬ Str.ofString a = Str.ofString b := fun z => q (ofStr_inj' z)
    rw [beq_eq_false_iff_ne.mpr this, beq_eq_false_iff_ne.mpr q]
@[simp] theorem strOk_lit {s : String} : PyData.strOk (Str.ofString s) = true := by
  rw [Str.ofString_eq_toList]
  unfold PyData.strOk
  simp only [List.all_toArray, List.all_map, List.all_eq_true, Function.comp_apply, decide_eq_true_eq]
  intro c _
  have := c.valid
  rcases this with q | ⟨_, q⟩
  · exact Nat.lt_trans q (by decide)
  · exact q
@[simp] theorem fLen_str' {z : Str} : fLen [.str z] h = if z.length ≤ 1000000 then some (.int z.length, h) else none := (rfl)
theorem dqK_two {d e : PyData} : dqK (some d) (some e) = if SeqAt.shaped d && SeqAt.shaped e then some (PyData.eqv d e) else none := (rfl)
def lastOf (x : AV) : List AV → AV
  | [] => x
  | y :: ys => lastOf y ys
@[simp] theorem lastOf_nil : lastOf x [] = x := (rfl)
@[simp] theorem lastOf_cons : lastOf x (y :: ys) = lastOf y ys := (rfl)
theorem lastOf_at : ∀ (x : AV) (xs : List AV), (x :: xs)[(x :: xs).length - 1]? = some (lastOf x xs)
  | x, [] => rfl
  | x, y :: ys => by
    have := lastOf_at y ys
    simpa using this
@[simp] theorem popK_cons : popK i h (some (.lst (x :: xs))) = some (lastOf x xs, h.set i (.lst (x :: xs).dropLast)) := by
  show (match (x :: xs)[(x :: xs).length - 1]? with | some z => some (z, h.set i (.lst (x :: xs).dropLast)) | none => none) = _
  rw [lastOf_at]
def catK (h : List AO) (o o' : Option AO) : Option (AV × List AO) := match o, o' with
  | some (.lst xs), some (.lst ys) => if xs.length + ys.length ≤ 1000000 then some (.ref h.length, h ++ [.lst (xs ++ ys)]) else none
  | _, _ => none
@[simp] theorem oAdd_ref : oAdd (.ref i) (.ref j) h = catK h h[i]? h[j]? := (rfl)
@[simp] theorem catK_two : catK h (some (.lst xs)) (some (.lst ys)) = if xs.length + ys.length ≤ 1000000 then some (.ref h.length, h ++ [.lst (xs ++ ys)]) else none := (rfl)
end
end SL
namespace K63
open PySem PySem.Spec PyProof.Rows L2 SL
def top (i : Nat) : Stmt := PySem.Challenge.pw_warmsteps_k63_runs_by_hand.main.body.getD i (.Pass ⟨0, 0, 0, 0⟩)
abbrev s_law_tape : Stmt := top 19
abbrev s_law_pick : Stmt := top 20
abbrev s_is_name : Stmt := top 7
abbrev s_is_integer : Stmt := top 6
abbrev s_is_step : Stmt := top 13
abbrev s_is_program : Stmt := top 14
abbrev s_must_be_program : Stmt := top 15
abbrev s_Hand_init : Stmt := inClass (top 16) 0
abbrev s_is_number : Stmt := top 12
abbrev s_Hand_shape_for : Stmt := inClass (top 16) 3
abbrev s_Hand_can_pop : Stmt := inClass (top 16) 2
abbrev s_Hand_can_do : Stmt := inClass (top 16) 5
abbrev s_Hand_go : Stmt := inClass (top 16) 7
abbrev s_Hand_lead : Stmt := inClass (top 16) 8
abbrev s_Hand_pushed : Stmt := inClass (top 16) 4
abbrev s_Hand_work : Stmt := inClass (top 16) 6
abbrev s_Hand_step : Stmt := inClass (top 16) 9
abbrev s_run : Stmt := top 17
abbrev s_law : Stmt := top 21
theorem sc_law_tape : FnScope ["script", "start", "mixed", "cell", "digits", "names"] ["script", "start"] (defScope s_law_tape) := ⟨rfl, rfl, rfl, by decide +kernel, rfl, by decide +kernel, by decide +kernel⟩
theorem sc_law_pick : FnScope ["tape", "many", "found", "once"] ["tape", "many"] (defScope s_law_pick) := ⟨rfl, rfl, rfl, by decide +kernel, rfl, by decide +kernel, by decide +kernel⟩
theorem sc_is_name : FnScope ["value", "letter"] ["value"] (defScope s_is_name) := ⟨rfl, rfl, rfl, by decide +kernel, rfl, by decide +kernel, by decide +kernel⟩
theorem sc_is_integer : FnScope ["value", "low", "high"] ["value", "low", "high"] (defScope s_is_integer) := ⟨rfl, rfl, rfl, by decide +kernel, rfl, by decide +kernel, by decide +kernel⟩
theorem sc_is_step : FnScope ["value", "many"] ["value", "many"] (defScope s_is_step) := ⟨rfl, rfl, rfl, by decide +kernel, rfl, by decide +kernel, by decide +kernel⟩
theorem sc_is_program : FnScope ["value", "step"] ["value"] (defScope s_is_program) := ⟨rfl, rfl, rfl, by decide +kernel, rfl, by decide +kernel, by decide +kernel⟩
theorem sc_must_be_program : FnScope ["value"] ["value"] (defScope s_must_be_program) := ⟨rfl, rfl, rfl, by decide +kernel, rfl, by decide +kernel, by decide +kernel⟩
theorem sc_Hand_init : FnScope ["self", "program", "inputs"] ["self", "program", "inputs"] (defScope s_Hand_init) := ⟨rfl, rfl, rfl, by decide +kernel, rfl, by decide +kernel, by decide +kernel⟩
theorem sc_is_number : FnScope ["value"] ["value"] (defScope s_is_number) := ⟨rfl, rfl, rfl, by decide +kernel, rfl, by decide +kernel, by decide +kernel⟩
theorem sc_Hand_shape_for : FnScope ["self", "name"] ["self", "name"] (defScope s_Hand_shape_for) := ⟨rfl, rfl, rfl, by decide +kernel, rfl, by decide +kernel, by decide +kernel⟩
theorem sc_Hand_can_pop : FnScope ["self", "many", "top", "value"] ["self", "many"] (defScope s_Hand_can_pop) := ⟨rfl, rfl, rfl, by decide +kernel, rfl, by decide +kernel, by decide +kernel⟩
theorem sc_Hand_can_do : FnScope ["self", "step"] ["self", "step"] (defScope s_Hand_can_do) := ⟨rfl, rfl, rfl, by decide +kernel, rfl, by decide +kernel, by decide +kernel⟩
theorem sc_Hand_go : FnScope ["self", "place"] ["self", "place"] (defScope s_Hand_go) := ⟨rfl, rfl, rfl, by decide +kernel, rfl, by decide +kernel, by decide +kernel⟩
theorem sc_Hand_lead : FnScope ["self", "step", "is_led"] ["self"] (defScope s_Hand_lead) := ⟨rfl, rfl, rfl, by decide +kernel, rfl, by decide +kernel, by decide +kernel⟩
theorem sc_Hand_pushed : FnScope ["self", "place", "value"] ["self", "place", "value"] (defScope s_Hand_pushed) := ⟨rfl, rfl, rfl, by decide +kernel, rfl, by decide +kernel, by decide +kernel⟩
theorem sc_Hand_work : FnScope ["self", "place", "step", "shape", "values"] ["self", "place"] (defScope s_Hand_work) := ⟨rfl, rfl, rfl, by decide +kernel, rfl, by decide +kernel, by decide +kernel⟩
theorem sc_Hand_step : FnScope ["self"] ["self"] (defScope s_Hand_step) := ⟨rfl, rfl, rfl, by decide +kernel, rfl, by decide +kernel, by decide +kernel⟩
theorem sc_run : FnScope ["program", "inputs", "most", "hand"] ["program", "inputs", "most"] (defScope s_run) := ⟨rfl, rfl, rfl, by decide +kernel, rfl, by decide +kernel, by decide +kernel⟩
theorem sc_law : FnScope ["script", "start", "tape", "a", "b", "one", "two", "rows", "due", "program", "inputs"] ["script"] (defScope s_law) := ⟨rfl, rfl, rfl, by decide +kernel, rfl, by decide +kernel, by decide +kernel⟩
def lb_law_tape_0 : AS :=
  mAsg (m2 oAdd (m2 oMod (mC1 fInt1 (mCons (m2 oPow (m2 oAdd (m2 oAdd (m2 oMul (mVar 2) (mC (.int 30013))) (m2 oMul (mVar 3) (mVar 3))) (mC (.int 11))) (mC (.int 2))) (mNil))) (mC (.int 2147483563))) (mC (.int 2))) (gA 2)
theorem ulb_law_tape_0 {e : AEnv} {h : List AO} : lb_law_tape_0 e h = (
  mAsg (m2 oAdd (m2 oMod (mC1 fInt1 (mCons (m2 oPow (m2 oAdd (m2 oAdd (m2 oMul (mVar 2) (mC (.int 30013))) (m2 oMul (mVar 3) (mVar 3))) (mC (.int 11))) (mC (.int 2))) (mNil))) (mC (.int 2147483563))) (mC (.int 2))) (gA 2)) e h := (rfl)
def b_law_tape : AS :=
  mSeq (mAsg (m2 oAdd (mC (.int 89)) (m2 oMul (mVar 1) (mC (.int 37)))) (gA 2)) (mSeq (mFor 100000 (iSq (mVar 0)) (gA 3) (lb_law_tape_0)) (mSeq (mAsg (mIf (mAnd (mB (m2 cLt (mVar 1) (mC1 fLen (mCons (mVar 0) (mNil))))) (mB (m2 cGe (m2 oIx (mVar 0) (mVar 1)) (m2 oPow (mC (.int 10)) (mC (.int 18)))))) (m2 oSub (m2 oIx (mVar 0) (mVar 1)) (m2 oPow (mC (.int 10)) (mC (.int 18)))) (mC (.int 0))) (gA 4)) (mSeq (mAsg (m2 oIx (mLst (mCons (mTup (mCons (mC (.str "x")) (mCons (mC (.str "y")) (mCons (mC (.str "a")) (mCons (mC (.str "b")) (mNil)))))) (mCons (mTup (mCons (mC (.str "name")) (mCons (mC (.str "zz")) (mCons (mC (.str "middle")) (mCons (mC (.str "tell")) (mNil)))))) (mCons (mTup (mCons (mC (.str "add")) (mCons (mC (.str "look")) (mCons (mC (.str "jump")) (mCons (mC (.str "az")) (mNil)))))) (mNil))))) (m2 oMod (mC1 fInt1 (mCons (mVar 2) (mNil))) (mC (.int 3)))) (gA 5)) (mRet (mDisp (mPr (mC (.str "digits")) (mVar 4) (mPr (mC (.str "mixed")) (mVar 2) (mPr (mC (.str "names")) (mVar 5) (fun _ h => some (.ok [], h))))))))))
def m_law_tape : List AV → AM AV := mFn 6 b_law_tape
theorem u_law_tape {a : List AV} {h : List AO} : m_law_tape a h = SL.fnK ((
  mSeq (mAsg (m2 oAdd (mC (.int 89)) (m2 oMul (mVar 1) (mC (.int 37)))) (gA 2)) (mSeq (mFor 100000 (iSq (mVar 0)) (gA 3) (lb_law_tape_0)) (mSeq (mAsg (mIf (mAnd (mB (m2 cLt (mVar 1) (mC1 fLen (mCons (mVar 0) (mNil))))) (mB (m2 cGe (m2 oIx (mVar 0) (mVar 1)) (m2 oPow (mC (.int 10)) (mC (.int 18)))))) (m2 oSub (m2 oIx (mVar 0) (mVar 1)) (m2 oPow (mC (.int 10)) (mC (.int 18)))) (mC (.int 0))) (gA 4)) (mSeq (mAsg (m2 oIx (mLst (mCons (mTup (mCons (mC (.str "x")) (mCons (mC (.str "y")) (mCons (mC (.str "a")) (mCons (mC (.str "b")) (mNil)))))) (mCons (mTup (mCons (mC (.str "name")) (mCons (mC (.str "zz")) (mCons (mC (.str "middle")) (mCons (mC (.str "tell")) (mNil)))))) (mCons (mTup (mCons (mC (.str "add")) (mCons (mC (.str "look")) (mCons (mC (.str "jump")) (mCons (mC (.str "az")) (mNil)))))) (mNil))))) (m2 oMod (mC1 fInt1 (mCons (mVar 2) (mNil))) (mC (.int 3)))) (gA 5)) (mRet (mDisp (mPr (mC (.str "digits")) (mVar 4) (mPr (mC (.str "mixed")) (mVar 2) (mPr (mC (.str "names")) (mVar 5) (fun _ h => some (.ok [], h))))))))))) (a.map some ++ List.replicate (6 - a.length) none) h) := (rfl)
def b_law_pick : AS :=
  mSeq (mIfS (mB (m2 cGe (m2 oDget (mVar 0) (mC (.str "digits"))) (mVar 1))) (mSeq (mAsg (m2 oMod (mC1 fInt1 (mCons (m2 oDget (mVar 0) (mC (.str "digits"))) (mNil))) (mVar 1)) (gA 2)) (mSeq (mDput (mVar 0) (mC (.str "digits")) (m2 oFdiv (m2 oDget (mVar 0) (mC (.str "digits"))) (mVar 1))) (mRet (mVar 2)))) (mNx)) (mSeq (mDput (mVar 0) (mC (.str "mixed")) (m2 oMod (mC1 fInt1 (mCons (m2 oAdd (m2 oMul (m2 oDget (mVar 0) (mC (.str "mixed"))) (mC (.int 40014))) (mC (.int 1017))) (mNil))) (mC (.int 2147483563)))) (mSeq (mAsg (m2 oMod (mC1 fInt1 (mCons (m2 oPow (m2 oDget (mVar 0) (mC (.str "mixed"))) (mC (.int 2))) (mNil))) (mC (.int 2147483399))) (gA 3)) (mRet (m2 oMod (mC1 fInt1 (mCons (m2 oFdiv (m2 oMod (mC1 fInt1 (mCons (m2 oPow (mVar 3) (mC (.int 3))) (mNil))) (mC (.int 998244353))) (mC (.int 7))) (mNil))) (mVar 1)))))
def m_law_pick : List AV → AM AV := mFn 4 b_law_pick
theorem u_law_pick {a : List AV} {h : List AO} : m_law_pick a h = SL.fnK ((
  mSeq (mIfS (mB (m2 cGe (m2 oDget (mVar 0) (mC (.str "digits"))) (mVar 1))) (mSeq (mAsg (m2 oMod (mC1 fInt1 (mCons (m2 oDget (mVar 0) (mC (.str "digits"))) (mNil))) (mVar 1)) (gA 2)) (mSeq (mDput (mVar 0) (mC (.str "digits")) (m2 oFdiv (m2 oDget (mVar 0) (mC (.str "digits"))) (mVar 1))) (mRet (mVar 2)))) (mNx)) (mSeq (mDput (mVar 0) (mC (.str "mixed")) (m2 oMod (mC1 fInt1 (mCons (m2 oAdd (m2 oMul (m2 oDget (mVar 0) (mC (.str "mixed"))) (mC (.int 40014))) (mC (.int 1017))) (mNil))) (mC (.int 2147483563)))) (mSeq (mAsg (m2 oMod (mC1 fInt1 (mCons (m2 oPow (m2 oDget (mVar 0) (mC (.str "mixed"))) (mC (.int 2))) (mNil))) (mC (.int 2147483399))) (gA 3)) (mRet (m2 oMod (mC1 fInt1 (mCons (m2 oFdiv (m2 oMod (mC1 fInt1 (mCons (m2 oPow (mVar 3) (mC (.int 3))) (mNil))) (mC (.int 998244353))) (mC (.int 7))) (mNil))) (mVar 1)))))) (a.map some ++ List.replicate (4 - a.length) none) h) := (rfl)
def le_is_name_0 : AE :=
  m3c cLe cLe (mC (.str "a")) (mVar 1) (mC (.str "z"))
theorem ule_is_name_0 {e : AEnv} {h : List AO} : le_is_name_0 e h = (
  m3c cLe cLe (mC (.str "a")) (mVar 1) (mC (.str "z"))) e h := (rfl)
def b_is_name : AS :=
  mSeq (mIfS (mOr (mNot (mB (m1 (oIsi [.str]) (mVar 0)))) (mNot (mB (m3c cLe cLe (mC (.int 1)) (mC1 fLen (mCons (mVar 0) (mNil))) (mC (.int 6)))))) (mRet (mC (.bl false))) (mNx)) (mRet (mC1 fAll (mCons (mLc 100000 [1] (iSq (mVar 0)) (gA 1) mYes (le_is_name_0)) (mNil))))
def m_is_name : List AV → AM AV := mFn 2 b_is_name
theorem u_is_name {a : List AV} {h : List AO} : m_is_name a h = SL.fnK ((
  mSeq (mIfS (mOr (mNot (mB (m1 (oIsi [.str]) (mVar 0)))) (mNot (mB (m3c cLe cLe (mC (.int 1)) (mC1 fLen (mCons (mVar 0) (mNil))) (mC (.int 6)))))) (mRet (mC (.bl false))) (mNx)) (mRet (mC1 fAll (mCons (mLc 100000 [1] (iSq (mVar 0)) (gA 1) mYes (le_is_name_0)) (mNil))))) (a.map some ++ List.replicate (2 - a.length) none) h) := (rfl)
def b_is_integer : AS :=
  mRet (mAndV (m1 (oIsi [.int]) (mVar 0)) (mAndV (mNotV (m1 (oIsi [.bool]) (mVar 0))) (m3c cLe cLe (mVar 1) (mVar 0) (mVar 2))))
def m_is_integer : List AV → AM AV := mFn 3 b_is_integer
theorem u_is_integer {a : List AV} {h : List AO} : m_is_integer a h = SL.fnK ((
  mRet (mAndV (m1 (oIsi [.int]) (mVar 0)) (mAndV (mNotV (m1 (oIsi [.bool]) (mVar 0))) (m3c cLe cLe (mVar 1) (mVar 0) (mVar 2))))) (a.map some ++ List.replicate (3 - a.length) none) h) := (rfl)
def b_is_step : AS :=
  mSeq (mIfS (mOr (mNot (mB (m1 (oIsi [.tup]) (mVar 0)))) (mOr (mB (m2 (cIn true) (mC1 fLen (mCons (mVar 0) (mNil))) (mTup (mCons (mC (.int 1)) (mCons (mC (.int 2)) (mNil)))))) (mNot (mB (m1 (oIsi [.str]) (m2 oIx (mVar 0) (mC (.int 0)))))))) (mRet (mC (.bl false))) (mNx)) (mSeq (mIfS (mB (m2 (cEq false) (mC1 fLen (mCons (mVar 0) (mNil))) (mC (.int 1)))) (mRet (m2 (cIn false) (m2 oIx (mVar 0) (mC (.int 0))) (mC (.tup [(.str "take"), (.str "add"), (.str "tell")])))) (mNx)) (mSeq (mIfS (mB (m2 (cEq false) (m2 oIx (mVar 0) (mC (.int 0))) (mC (.str "look")))) (mRet (mCall m_is_name [] (mCons (m2 oIx (mVar 0) (mC (.int 1))) (mNil)))) (mNx)) (mRet (mAndV (m2 (cIn false) (m2 oIx (mVar 0) (mC (.int 0))) (mC (.tup [(.str "jump"), (.str "branch")]))) (mCall m_is_integer [] (mCons (m2 oIx (mVar 0) (mC (.int 1))) (mCons (mC (.int 0)) (mCons (mVar 1) (mNil)))))))))
def m_is_step : List AV → AM AV := mFn 2 b_is_step
theorem u_is_step {a : List AV} {h : List AO} : m_is_step a h = SL.fnK ((
  mSeq (mIfS (mOr (mNot (mB (m1 (oIsi [.tup]) (mVar 0)))) (mOr (mB (m2 (cIn true) (mC1 fLen (mCons (mVar 0) (mNil))) (mTup (mCons (mC (.int 1)) (mCons (mC (.int 2)) (mNil)))))) (mNot (mB (m1 (oIsi [.str]) (m2 oIx (mVar 0) (mC (.int 0)))))))) (mRet (mC (.bl false))) (mNx)) (mSeq (mIfS (mB (m2 (cEq false) (mC1 fLen (mCons (mVar 0) (mNil))) (mC (.int 1)))) (mRet (m2 (cIn false) (m2 oIx (mVar 0) (mC (.int 0))) (mC (.tup [(.str "take"), (.str "add"), (.str "tell")])))) (mNx)) (mSeq (mIfS (mB (m2 (cEq false) (m2 oIx (mVar 0) (mC (.int 0))) (mC (.str "look")))) (mRet (mCall m_is_name [] (mCons (m2 oIx (mVar 0) (mC (.int 1))) (mNil)))) (mNx)) (mRet (mAndV (m2 (cIn false) (m2 oIx (mVar 0) (mC (.int 0))) (mC (.tup [(.str "jump"), (.str "branch")]))) (mCall m_is_integer [] (mCons (m2 oIx (mVar 0) (mC (.int 1))) (mCons (mC (.int 0)) (mCons (mVar 1) (mNil)))))))))) (a.map some ++ List.replicate (2 - a.length) none) h) := (rfl)
def le_is_program_0 : AE :=
  mCall m_is_step [] (mCons (mVar 1) (mCons (mC1 fLen (mCons (mVar 0) (mNil))) (mNil)))
theorem ule_is_program_0 {e : AEnv} {h : List AO} : le_is_program_0 e h = (
  mCall m_is_step [] (mCons (mVar 1) (mCons (mC1 fLen (mCons (mVar 0) (mNil))) (mNil)))) e h := (rfl)
def b_is_program : AS :=
  mSeq (mIfS (mOr (mNot (mB (m1 (oIsi [.lst, .tup]) (mVar 0)))) (mNot (mB (m3c cLe cLe (mC (.int 1)) (mC1 fLen (mCons (mVar 0) (mNil))) (mC (.int 40)))))) (mRet (mC (.bl false))) (mNx)) (mRet (mC1 fAll (mCons (mLc 100000 [1] (iSq (mVar 0)) (gA 1) mYes (le_is_program_0)) (mNil))))
def m_is_program : List AV → AM AV := mFn 2 b_is_program
theorem u_is_program {a : List AV} {h : List AO} : m_is_program a h = SL.fnK ((
  mSeq (mIfS (mOr (mNot (mB (m1 (oIsi [.lst, .tup]) (mVar 0)))) (mNot (mB (m3c cLe cLe (mC (.int 1)) (mC1 fLen (mCons (mVar 0) (mNil))) (mC (.int 40)))))) (mRet (mC (.bl false))) (mNx)) (mRet (mC1 fAll (mCons (mLc 100000 [1] (iSq (mVar 0)) (gA 1) mYes (le_is_program_0)) (mNil))))) (a.map some ++ List.replicate (2 - a.length) none) h) := (rfl)
def b_must_be_program : AS :=
  mIfS (mNot (mB (mCall m_is_program [] (mCons (mVar 0) (mNil))))) (mNo) (mNx)
def m_must_be_program : List AV → AM AV := mFn 1 b_must_be_program
theorem u_must_be_program {a : List AV} {h : List AO} : m_must_be_program a h = SL.fnK ((
  mIfS (mNot (mB (mCall m_is_program [] (mCons (mVar 0) (mNil))))) (mNo) (mNx)) (a.map some ++ List.replicate (1 - a.length) none) h) := (rfl)
def b_Hand_init : AS :=
  mSeq (mFldS 2 "program" (mVar 0) (mVar 1)) (mSeq (mFldS 2 "spot" (mVar 0) (mC (.int 0))) (mSeq (mFldS 2 "stack" (mVar 0) (mLst (mNil))) (mSeq (mFldS 2 "left" (mVar 0) (mC1 fList (mCons (mVar 2) (mNil)))) (mSeq (mFldS 2 "notes" (mVar 0) (mLst (mNil))) (mFldS 2 "outcome" (mVar 0) (mC .non))))))
def m_Hand_init : List AV → AM AV := mFn 3 b_Hand_init
theorem u_Hand_init {a : List AV} {h : List AO} : m_Hand_init a h = SL.fnK ((
  mSeq (mFldS 2 "program" (mVar 0) (mVar 1)) (mSeq (mFldS 2 "spot" (mVar 0) (mC (.int 0))) (mSeq (mFldS 2 "stack" (mVar 0) (mLst (mNil))) (mSeq (mFldS 2 "left" (mVar 0) (mC1 fList (mCons (mVar 2) (mNil)))) (mSeq (mFldS 2 "notes" (mVar 0) (mLst (mNil))) (mFldS 2 "outcome" (mVar 0) (mC .non))))))) (a.map some ++ List.replicate (3 - a.length) none) h) := (rfl)
def b_is_number : AS :=
  mRet (mAndV (m1 (oIsi [.int]) (mVar 0)) (mNotV (m1 (oIsi [.bool]) (mVar 0))))
def m_is_number : List AV → AM AV := mFn 1 b_is_number
theorem u_is_number {a : List AV} {h : List AO} : m_is_number a h = SL.fnK ((
  mRet (mAndV (m1 (oIsi [.int]) (mVar 0)) (mNotV (m1 (oIsi [.bool]) (mVar 0))))) (a.map some ++ List.replicate (1 - a.length) none) h) := (rfl)
def b_Hand_shape_for : AS :=
  mSeq (mIfS (mOr (mB (m2 (cEq false) (m1 (oFld 2 "stack") (mVar 0)) (mLst (mNil)))) (mOr (mB (mCall m_is_number [] (mCons (m2 oIx (m1 (oFld 2 "stack") (mVar 0)) (m1 oNeg (mC (.int 1)))) (mNil)))) (mB (m2 (cIn true) (mVar 1) (m2 oIx (m2 oIx (m1 (oFld 2 "stack") (mVar 0)) (m1 oNeg (mC (.int 1)))) (mC (.int 0))))))) (mRet (mC .non)) (mNx)) (mRet (m2 oIx (m2 oIx (m1 (oFld 2 "stack") (mVar 0)) (m1 oNeg (mC (.int 1)))) (mC (.int 0))))
def m_Hand_shape_for : List AV → AM AV := mFn 2 b_Hand_shape_for
theorem u_Hand_shape_for {a : List AV} {h : List AO} : m_Hand_shape_for a h = SL.fnK ((
  mSeq (mIfS (mOr (mB (m2 (cEq false) (m1 (oFld 2 "stack") (mVar 0)) (mLst (mNil)))) (mOr (mB (mCall m_is_number [] (mCons (m2 oIx (m1 (oFld 2 "stack") (mVar 0)) (m1 oNeg (mC (.int 1)))) (mNil)))) (mB (m2 (cIn true) (mVar 1) (m2 oIx (m2 oIx (m1 (oFld 2 "stack") (mVar 0)) (m1 oNeg (mC (.int 1)))) (mC (.int 0))))))) (mRet (mC .non)) (mNx)) (mRet (m2 oIx (m2 oIx (m1 (oFld 2 "stack") (mVar 0)) (m1 oNeg (mC (.int 1)))) (mC (.int 0))))) (a.map some ++ List.replicate (2 - a.length) none) h) := (rfl)
def le_Hand_can_pop_0 : AE :=
  mCall m_is_number [] (mCons (mVar 3) (mNil))
theorem ule_Hand_can_pop_0 {e : AEnv} {h : List AO} : le_Hand_can_pop_0 e h = (
  mCall m_is_number [] (mCons (mVar 3) (mNil))) e h := (rfl)
def b_Hand_can_pop : AS :=
  mSeq (mAsg (mIf (mB (m2 cGe (mC1 fLen (mCons (m1 (oFld 2 "stack") (mVar 0)) (mNil))) (mVar 1))) (m3s oSl (m1 (oFld 2 "stack") (mVar 0)) (mPs (m2 oSub (mC1 fLen (mCons (m1 (oFld 2 "stack") (mVar 0)) (mNil))) (mVar 1))) mPn) (mLst (mNil))) (gA 2)) (mRet (mAndV (m2 (cEq false) (mC1 fLen (mCons (mVar 2) (mNil))) (mVar 1)) (mC1 fAll (mCons (mLc 100000 [3] (iSq (mVar 2)) (gA 3) mYes (le_Hand_can_pop_0)) (mNil)))))
def m_Hand_can_pop : List AV → AM AV := mFn 4 b_Hand_can_pop
theorem u_Hand_can_pop {a : List AV} {h : List AO} : m_Hand_can_pop a h = SL.fnK ((
  mSeq (mAsg (mIf (mB (m2 cGe (mC1 fLen (mCons (m1 (oFld 2 "stack") (mVar 0)) (mNil))) (mVar 1))) (m3s oSl (m1 (oFld 2 "stack") (mVar 0)) (mPs (m2 oSub (mC1 fLen (mCons (m1 (oFld 2 "stack") (mVar 0)) (mNil))) (mVar 1))) mPn) (mLst (mNil))) (gA 2)) (mRet (mAndV (m2 (cEq false) (mC1 fLen (mCons (mVar 2) (mNil))) (mVar 1)) (mC1 fAll (mCons (mLc 100000 [3] (iSq (mVar 2)) (gA 3) mYes (le_Hand_can_pop_0)) (mNil)))))) (a.map some ++ List.replicate (4 - a.length) none) h) := (rfl)
def b_Hand_can_do : AS :=
  mSeq (mIfS (mB (m2 (cEq false) (m2 oIx (mVar 1) (mC (.int 0))) (mC (.str "look")))) (mRet (m2 (cIsN true) (mMeth 2 "shape_for" m_Hand_shape_for [] (mVar 0) (mCons (m2 oIx (mVar 1) (mC (.int 1))) (mNil))) (mC .non))) (mNx)) (mSeq (mIfS (mB (m2 (cEq false) (m2 oIx (mVar 1) (mC (.int 0))) (mC (.str "add")))) (mRet (mMeth 2 "can_pop" m_Hand_can_pop [] (mVar 0) (mCons (mC (.int 2)) (mNil)))) (mNx)) (mRet (mOrV (m2 (cIn false) (m2 oIx (mVar 1) (mC (.int 0))) (mTup (mCons (mC (.str "take")) (mCons (mC (.str "jump")) (mNil))))) (mMeth 2 "can_pop" m_Hand_can_pop [] (mVar 0) (mCons (mC (.int 1)) (mNil))))))
def m_Hand_can_do : List AV → AM AV := mFn 2 b_Hand_can_do
theorem u_Hand_can_do {a : List AV} {h : List AO} : m_Hand_can_do a h = SL.fnK ((
  mSeq (mIfS (mB (m2 (cEq false) (m2 oIx (mVar 1) (mC (.int 0))) (mC (.str "look")))) (mRet (m2 (cIsN true) (mMeth 2 "shape_for" m_Hand_shape_for [] (mVar 0) (mCons (m2 oIx (mVar 1) (mC (.int 1))) (mNil))) (mC .non))) (mNx)) (mSeq (mIfS (mB (m2 (cEq false) (m2 oIx (mVar 1) (mC (.int 0))) (mC (.str "add")))) (mRet (mMeth 2 "can_pop" m_Hand_can_pop [] (mVar 0) (mCons (mC (.int 2)) (mNil)))) (mNx)) (mRet (mOrV (m2 (cIn false) (m2 oIx (mVar 1) (mC (.int 0))) (mTup (mCons (mC (.str "take")) (mCons (mC (.str "jump")) (mNil))))) (mMeth 2 "can_pop" m_Hand_can_pop [] (mVar 0) (mCons (mC (.int 1)) (mNil))))))) (a.map some ++ List.replicate (2 - a.length) none) h) := (rfl)
def b_Hand_go : AS :=
  mSeq (mFldS 2 "spot" (mVar 0) (mVar 1)) (mIfS (mB (m2 (cEq false) (mVar 1) (mC1 fLen (mCons (m1 (oFld 2 "program") (mVar 0)) (mNil))))) (mFldS 2 "outcome" (mVar 0) (mC (.str "over"))) (mNx))
def m_Hand_go : List AV → AM AV := mFn 2 b_Hand_go
theorem u_Hand_go {a : List AV} {h : List AO} : m_Hand_go a h = SL.fnK ((
  mSeq (mFldS 2 "spot" (mVar 0) (mVar 1)) (mIfS (mB (m2 (cEq false) (mVar 1) (mC1 fLen (mCons (m1 (oFld 2 "program") (mVar 0)) (mNil))))) (mFldS 2 "outcome" (mVar 0) (mC (.str "over"))) (mNx))) (a.map some ++ List.replicate (2 - a.length) none) h) := (rfl)
def b_Hand_lead : AS :=
  mSeq (mAsg (m2 oIx (m1 (oFld 2 "program") (mVar 0)) (m1 (oFld 2 "spot") (mVar 0))) (gA 1)) (mSeq (mIfS (mNot (mB (mMeth 2 "can_do" m_Hand_can_do [] (mVar 0) (mCons (mVar 1) (mNil))))) (mSeq (mFldS 2 "outcome" (mVar 0) (mC (.str "faulted"))) (mRetN)) (mNx)) (mSeq (mAsg (mOrV (m2 (cEq false) (m2 oIx (mVar 1) (mC (.int 0))) (mC (.str "jump"))) (m2 (cEq false) (mBM .lst fPop (m1 (oFld 2 "stack") (mVar 0)) mNil) (mC (.int 0)))) (gA 2)) (mSeq (mDrop (mBM .lst fAppend (m1 (oFld 2 "notes") (mVar 0)) (mCons (mTup (mCons (m1 (oFld 2 "spot") (mVar 0)) (mCons (mC .non) (mNil)))) (mNil)))) (mDrop (mMeth 2 "go" m_Hand_go [] (mVar 0) (mCons (mIf (mB (mVar 2)) (m2 oIx (mVar 1) (mC (.int 1))) (m2 oAdd (m1 (oFld 2 "spot") (mVar 0)) (mC (.int 1)))) (mNil)))))))
def m_Hand_lead : List AV → AM AV := mFn 3 b_Hand_lead
theorem u_Hand_lead {a : List AV} {h : List AO} : m_Hand_lead a h = SL.fnK ((
  mSeq (mAsg (m2 oIx (m1 (oFld 2 "program") (mVar 0)) (m1 (oFld 2 "spot") (mVar 0))) (gA 1)) (mSeq (mIfS (mNot (mB (mMeth 2 "can_do" m_Hand_can_do [] (mVar 0) (mCons (mVar 1) (mNil))))) (mSeq (mFldS 2 "outcome" (mVar 0) (mC (.str "faulted"))) (mRetN)) (mNx)) (mSeq (mAsg (mOrV (m2 (cEq false) (m2 oIx (mVar 1) (mC (.int 0))) (mC (.str "jump"))) (m2 (cEq false) (mBM .lst fPop (m1 (oFld 2 "stack") (mVar 0)) mNil) (mC (.int 0)))) (gA 2)) (mSeq (mDrop (mBM .lst fAppend (m1 (oFld 2 "notes") (mVar 0)) (mCons (mTup (mCons (m1 (oFld 2 "spot") (mVar 0)) (mCons (mC .non) (mNil)))) (mNil)))) (mDrop (mMeth 2 "go" m_Hand_go [] (mVar 0) (mCons (mIf (mB (mVar 2)) (m2 oIx (mVar 1) (mC (.int 1))) (m2 oAdd (m1 (oFld 2 "spot") (mVar 0)) (mC (.int 1)))) (mNil)))))))) (a.map some ++ List.replicate (3 - a.length) none) h) := (rfl)
def b_Hand_pushed : AS :=
  mSeq (mDrop (mBM .lst fAppend (m1 (oFld 2 "stack") (mVar 0)) (mCons (mVar 2) (mNil)))) (mDrop (mBM .lst fAppend (m1 (oFld 2 "notes") (mVar 0)) (mCons (mTup (mCons (mVar 1) (mCons (mVar 2) (mNil)))) (mNil))))
def m_Hand_pushed : List AV → AM AV := mFn 3 b_Hand_pushed
theorem u_Hand_pushed {a : List AV} {h : List AO} : m_Hand_pushed a h = SL.fnK ((
  mSeq (mDrop (mBM .lst fAppend (m1 (oFld 2 "stack") (mVar 0)) (mCons (mVar 2) (mNil)))) (mDrop (mBM .lst fAppend (m1 (oFld 2 "notes") (mVar 0)) (mCons (mTup (mCons (mVar 1) (mCons (mVar 2) (mNil)))) (mNil))))) (a.map some ++ List.replicate (3 - a.length) none) h) := (rfl)
def b_Hand_work : AS :=
  mSeq (mAsg (m2 oIx (m1 (oFld 2 "program") (mVar 0)) (mVar 1)) (gA 2)) (mIfS (mAnd (mB (m2 (cEq false) (m2 oIx (mVar 2) (mC (.int 0))) (mC (.str "take")))) (mB (m2 (cEq false) (m1 (oFld 2 "left") (mVar 0)) (mLst (mNil))))) (mFldS 2 "outcome" (mVar 0) (mC (.str "over"))) (mIfS (mNot (mB (mMeth 2 "can_do" m_Hand_can_do [] (mVar 0) (mCons (mVar 2) (mNil))))) (mFldS 2 "outcome" (mVar 0) (mC (.str "faulted"))) (mIfS (mB (m2 (cEq false) (m2 oIx (mVar 2) (mC (.int 0))) (mC (.str "take")))) (mDrop (mMeth 2 "pushed" m_Hand_pushed [] (mVar 0) (mCons (mVar 1) (mCons (mBM .lst fPopAt (m1 (oFld 2 "left") (mVar 0)) (mCons (mC (.int 0)) (mNil))) (mNil))))) (mIfS (mB (m2 (cEq false) (m2 oIx (mVar 2) (mC (.int 0))) (mC (.str "look")))) (mSeq (mAsg (mBM .lst fPop (m1 (oFld 2 "stack") (mVar 0)) mNil) (gTupA (gsCons (gA 3) (gsCons (gA 4) gsNil)))) (mDrop (mMeth 2 "pushed" m_Hand_pushed [] (mVar 0) (mCons (mVar 1) (mCons (m2 oIx (mVar 4) (mBM .tup fTIdx (mVar 3) (mCons (m2 oIx (mVar 2) (mC (.int 1))) (mNil)))) (mNil)))))) (mIfS (mB (m2 (cEq false) (m2 oIx (mVar 2) (mC (.int 0))) (mC (.str "add")))) (mDrop (mMeth 2 "pushed" m_Hand_pushed [] (mVar 0) (mCons (mVar 1) (mCons (m2 oAdd (mBM .lst fPop (m1 (oFld 2 "stack") (mVar 0)) mNil) (mBM .lst fPop (m1 (oFld 2 "stack") (mVar 0)) mNil)) (mNil))))) (mDrop (mBM .lst fAppend (m1 (oFld 2 "notes") (mVar 0)) (mCons (mTup (mCons (mVar 1) (mCons (mBM .lst fPop (m1 (oFld 2 "stack") (mVar 0)) mNil) (mNil)))) (mNil)))))))))
def m_Hand_work : List AV → AM AV := mFn 5 b_Hand_work
theorem u_Hand_work {a : List AV} {h : List AO} : m_Hand_work a h = SL.fnK ((
  mSeq (mAsg (m2 oIx (m1 (oFld 2 "program") (mVar 0)) (mVar 1)) (gA 2)) (mIfS (mAnd (mB (m2 (cEq false) (m2 oIx (mVar 2) (mC (.int 0))) (mC (.str "take")))) (mB (m2 (cEq false) (m1 (oFld 2 "left") (mVar 0)) (mLst (mNil))))) (mFldS 2 "outcome" (mVar 0) (mC (.str "over"))) (mIfS (mNot (mB (mMeth 2 "can_do" m_Hand_can_do [] (mVar 0) (mCons (mVar 2) (mNil))))) (mFldS 2 "outcome" (mVar 0) (mC (.str "faulted"))) (mIfS (mB (m2 (cEq false) (m2 oIx (mVar 2) (mC (.int 0))) (mC (.str "take")))) (mDrop (mMeth 2 "pushed" m_Hand_pushed [] (mVar 0) (mCons (mVar 1) (mCons (mBM .lst fPopAt (m1 (oFld 2 "left") (mVar 0)) (mCons (mC (.int 0)) (mNil))) (mNil))))) (mIfS (mB (m2 (cEq false) (m2 oIx (mVar 2) (mC (.int 0))) (mC (.str "look")))) (mSeq (mAsg (mBM .lst fPop (m1 (oFld 2 "stack") (mVar 0)) mNil) (gTupA (gsCons (gA 3) (gsCons (gA 4) gsNil)))) (mDrop (mMeth 2 "pushed" m_Hand_pushed [] (mVar 0) (mCons (mVar 1) (mCons (m2 oIx (mVar 4) (mBM .tup fTIdx (mVar 3) (mCons (m2 oIx (mVar 2) (mC (.int 1))) (mNil)))) (mNil)))))) (mIfS (mB (m2 (cEq false) (m2 oIx (mVar 2) (mC (.int 0))) (mC (.str "add")))) (mDrop (mMeth 2 "pushed" m_Hand_pushed [] (mVar 0) (mCons (mVar 1) (mCons (m2 oAdd (mBM .lst fPop (m1 (oFld 2 "stack") (mVar 0)) mNil) (mBM .lst fPop (m1 (oFld 2 "stack") (mVar 0)) mNil)) (mNil))))) (mDrop (mBM .lst fAppend (m1 (oFld 2 "notes") (mVar 0)) (mCons (mTup (mCons (mVar 1) (mCons (mBM .lst fPop (m1 (oFld 2 "stack") (mVar 0)) mNil) (mNil)))) (mNil)))))))))) (a.map some ++ List.replicate (5 - a.length) none) h) := (rfl)
def b_Hand_step : AS :=
  mSeq (mIfS (mB (m2 (cIn false) (m2 oIx (m2 oIx (m1 (oFld 2 "program") (mVar 0)) (m1 (oFld 2 "spot") (mVar 0))) (mC (.int 0))) (mC (.tup [(.str "jump"), (.str "branch")])))) (mSeq (mDrop (mMeth 2 "lead" m_Hand_lead [] (mVar 0) mNil)) (mRetN)) (mNx)) (mSeq (mDrop (mMeth 2 "work" m_Hand_work [] (mVar 0) (mCons (m1 (oFld 2 "spot") (mVar 0)) (mNil)))) (mIfS (mB (m2 (cIsN false) (m1 (oFld 2 "outcome") (mVar 0)) (mC .non))) (mDrop (mMeth 2 "go" m_Hand_go [] (mVar 0) (mCons (m2 oAdd (m1 (oFld 2 "spot") (mVar 0)) (mC (.int 1))) (mNil)))) (mNx)))
def m_Hand_step : List AV → AM AV := mFn 1 b_Hand_step
theorem u_Hand_step {a : List AV} {h : List AO} : m_Hand_step a h = SL.fnK ((
  mSeq (mIfS (mB (m2 (cIn false) (m2 oIx (m2 oIx (m1 (oFld 2 "program") (mVar 0)) (m1 (oFld 2 "spot") (mVar 0))) (mC (.int 0))) (mC (.tup [(.str "jump"), (.str "branch")])))) (mSeq (mDrop (mMeth 2 "lead" m_Hand_lead [] (mVar 0) mNil)) (mRetN)) (mNx)) (mSeq (mDrop (mMeth 2 "work" m_Hand_work [] (mVar 0) (mCons (m1 (oFld 2 "spot") (mVar 0)) (mNil)))) (mIfS (mB (m2 (cIsN false) (m1 (oFld 2 "outcome") (mVar 0)) (mC .non))) (mDrop (mMeth 2 "go" m_Hand_go [] (mVar 0) (mCons (m2 oAdd (m1 (oFld 2 "spot") (mVar 0)) (mC (.int 1))) (mNil)))) (mNx)))) (a.map some ++ List.replicate (1 - a.length) none) h) := (rfl)
def lb_run_0 : AS :=
  mDrop (mMeth 2 "step" m_Hand_step [] (mVar 3) mNil)
theorem ulb_run_0 {e : AEnv} {h : List AO} : lb_run_0 e h = (
  mDrop (mMeth 2 "step" m_Hand_step [] (mVar 3) mNil)) e h := (rfl)
def lc_run_1 : AEnv → AM Bool :=
  mAnd (mB (m2 (cIsN false) (m1 (oFld 2 "outcome") (mVar 3)) (mC .non))) (mB (m2 cLt (mC1 fLen (mCons (m1 (oFld 2 "notes") (mVar 3)) (mNil))) (mVar 2)))
theorem ulc_run_1 {e : AEnv} {h : List AO} : lc_run_1 e h = (
  mAnd (mB (m2 (cIsN false) (m1 (oFld 2 "outcome") (mVar 3)) (mC .non))) (mB (m2 cLt (mC1 fLen (mCons (m1 (oFld 2 "notes") (mVar 3)) (mNil))) (mVar 2)))) e h := (rfl)
def b_run : AS :=
  mSeq (mDrop (mCall m_must_be_program [] (mCons (mVar 0) (mNil)))) (mSeq (mAsg (mMake 2 m_Hand_init [] (mCons (mC1 fTuple (mCons (mVar 0) (mNil))) (mCons (mVar 1) (mNil)))) (gA 3)) (mSeq (whL (lc_run_1) (lb_run_0) 100000) (mRet (mTup (mCons (m1 (oFld 2 "notes") (mVar 3)) (mCons (m1 (oFld 2 "outcome") (mVar 3)) (mNil)))))))
def m_run : List AV → AM AV := mFn 4 b_run
theorem u_run {a : List AV} {h : List AO} : m_run a h = SL.fnK ((
  mSeq (mDrop (mCall m_must_be_program [] (mCons (mVar 0) (mNil)))) (mSeq (mAsg (mMake 2 m_Hand_init [] (mCons (mC1 fTuple (mCons (mVar 0) (mNil))) (mCons (mVar 1) (mNil)))) (gA 3)) (mSeq (whL (lc_run_1) (lb_run_0) 100000) (mRet (mTup (mCons (m1 (oFld 2 "notes") (mVar 3)) (mCons (m1 (oFld 2 "outcome") (mVar 3)) (mNil)))))))) (a.map some ++ List.replicate (4 - a.length) none) h) := (rfl)
def le_law_0 : AE :=
  mCall m_run [(.int 1000)] (mCons (mVar 9) (mCons (mVar 10) (mNil)))
theorem ule_law_0 {e : AEnv} {h : List AO} : le_law_0 e h = (
  mCall m_run [(.int 1000)] (mCons (mVar 9) (mCons (mVar 10) (mNil)))) e h := (rfl)
def lb_law_1 : AS :=
  mSeq (mAsg (mCall m_law_tape [] (mCons (mVar 0) (mCons (mVar 1) (mNil)))) (gA 2)) (mSeq (mPar 3 4 (mCons (mCall m_law_pick [] (mCons (mVar 2) (mCons (m2 oPow (mC (.int 10)) (mC (.int 9))) (mNil)))) (mCons (m2 oAdd (mC (.int 1)) (mCall m_law_pick [] (mCons (mVar 2) (mCons (m2 oPow (mC (.int 10)) (mC (.int 9))) (mNil))))) (mNil)))) (mSeq (mPar 5 6 (mCons (mTup (mCons (mTup (mCons (mC (.str "x")) (mNil))) (mCons (mTup (mCons (mVar 3) (mNil))) (mNil)))) (mCons (mTup (mCons (mTup (mCons (mC (.str "y")) (mCons (mC (.str "x")) (mNil)))) (mCons (mTup (mCons (mC (.int 7)) (mCons (mVar 4) (mNil)))) (mNil)))) (mNil)))) (mSeq (mAsg (mLst (mCons (mTup (mCons (mLst (mCons (mTup (mCons (mC (.str "take")) (mNil))) (mCons (mTup (mCons (mC (.str "look")) (mCons (mC (.str "x")) (mNil)))) (mCons (mTup (mCons (mC (.str "tell")) (mNil))) (mCons (mTup (mCons (mC (.str "jump")) (mCons (mC (.int 0)) (mNil)))) (mNil)))))) (mCons (mLst (mCons (mVar 5) (mCons (mVar 6) (mNil)))) (mNil)))) (mNil))) (gA 7)) (mSeq (mAsg (mLst (mCons (mTup (mCons (mLst (mCons (mTup (mCons (mC (.int 0)) (mCons (mVar 5) (mNil)))) (mCons (mTup (mCons (mC (.int 1)) (mCons (mVar 3) (mNil)))) (mCons (mTup (mCons (mC (.int 2)) (mCons (mVar 3) (mNil)))) (mCons (mTup (mCons (mC (.int 3)) (mCons (mC .non) (mNil)))) (mCons (mTup (mCons (mC (.int 0)) (mCons (mVar 6) (mNil)))) (mCons (mTup (mCons (mC (.int 1)) (mCons (mVar 4) (mNil)))) (mCons (mTup (mCons (mC (.int 2)) (mCons (mVar 4) (mNil)))) (mCons (mTup (mCons (mC (.int 3)) (mCons (mC .non) (mNil)))) (mNil)))))))))) (mCons (mC (.str "over")) (mNil)))) (mNil))) (gA 8)) (mSeq (mDrop (mBM .lst fAppend (mVar 7) (mCons (mTup (mCons (mLst (mCons (mTup (mCons (mC (.str "take")) (mNil))) (mCons (mTup (mCons (mC (.str "take")) (mNil))) (mCons (mTup (mCons (mC (.str "add")) (mNil))) (mCons (mTup (mCons (mC (.str "branch")) (mCons (mC (.int 5)) (mNil)))) (mCons (mTup (mCons (mC (.str "jump")) (mCons (mC (.int 0)) (mNil)))) (mCons (mTup (mCons (mC (.str "take")) (mNil))) (mNil)))))))) (mCons (mLst (mCons (mVar 3) (mCons (m2 oSub (mC (.int 0)) (mVar 3)) (mCons (mC (.int 9)) (mNil))))) (mNil)))) (mNil)))) (mSeq (mDrop (mBM .lst fAppend (mVar 8) (mCons (mTup (mCons (mLst (mCons (mTup (mCons (mC (.int 0)) (mCons (mVar 3) (mNil)))) (mCons (mTup (mCons (mC (.int 1)) (mCons (m2 oSub (mC (.int 0)) (mVar 3)) (mNil)))) (mCons (mTup (mCons (mC (.int 2)) (mCons (mC (.int 0)) (mNil)))) (mCons (mTup (mCons (mC (.int 3)) (mCons (mC .non) (mNil)))) (mCons (mTup (mCons (mC (.int 5)) (mCons (mC (.int 9)) (mNil)))) (mNil))))))) (mCons (mC (.str "over")) (mNil)))) (mNil)))) (mSeq (mDrop (mBM .lst fAppend (mVar 7) (mCons (mTup (mCons (mLst (mCons (mTup (mCons (mC (.str "take")) (mNil))) (mCons (mTup (mCons (mC (.str "branch")) (mCons (mC (.int 3)) (mNil)))) (mCons (mTup (mCons (mC (.str "jump")) (mCons (mC (.int 0)) (mNil)))) (mCons (mTup (mCons (mC (.str "tell")) (mNil))) (mNil)))))) (mCons (mLst (mCons (mVar 4) (mCons (mC (.int 0)) (mNil)))) (mNil)))) (mNil)))) (mSeq (mDrop (mBM .lst fAppend (mVar 8) (mCons (mTup (mCons (mLst (mCons (mTup (mCons (mC (.int 0)) (mCons (mVar 4) (mNil)))) (mCons (mTup (mCons (mC (.int 1)) (mCons (mC .non) (mNil)))) (mCons (mTup (mCons (mC (.int 2)) (mCons (mC .non) (mNil)))) (mCons (mTup (mCons (mC (.int 0)) (mCons (mC (.int 0)) (mNil)))) (mCons (mTup (mCons (mC (.int 1)) (mCons (mC .non) (mNil)))) (mNil))))))) (mCons (mC (.str "faulted")) (mNil)))) (mNil)))) (mSeq (mDrop (mBM .lst fAppend (mVar 7) (mCons (mTup (mCons (mLst (mCons (mTup (mCons (mC (.str "take")) (mNil))) (mCons (mTup (mCons (mC (.str "take")) (mNil))) (mCons (mTup (mCons (mC (.str "add")) (mNil))) (mNil))))) (mCons (mLst (mCons (mVar 5) (mCons (mVar 3) (mNil)))) (mNil)))) (mNil)))) (mSeq (mDrop (mBM .lst fAppend (mVar 8) (mCons (mTup (mCons (mLst (mCons (mTup (mCons (mC (.int 0)) (mCons (mVar 5) (mNil)))) (mCons (mTup (mCons (mC (.int 1)) (mCons (mVar 3) (mNil)))) (mNil)))) (mCons (mC (.str "faulted")) (mNil)))) (mNil)))) (mSeq (mDrop (mBM .lst fAppend (mVar 7) (mCons (mTup (mCons (mLst (mCons (mTup (mCons (mC (.str "take")) (mNil))) (mCons (mTup (mCons (mC (.str "look")) (mCons (mC (.str "y")) (mNil)))) (mNil)))) (mCons (mLst (mCons (mVar 5) (mNil))) (mNil)))) (mNil)))) (mSeq (mDrop (mBM .lst fAppend (mVar 8) (mCons (mTup (mCons (mLst (mCons (mTup (mCons (mC (.int 0)) (mCons (mVar 5) (mNil)))) (mNil))) (mCons (mC (.str "faulted")) (mNil)))) (mNil)))) (mSeq (mDrop (mBM .lst fAppend (mVar 7) (mCons (mTup (mCons (mLst (mCons (mTup (mCons (mC (.str "take")) (mNil))) (mCons (mTup (mCons (mC (.str "look")) (mCons (mC (.str "x")) (mNil)))) (mCons (mTup (mCons (mC (.str "look")) (mCons (mC (.str "x")) (mNil)))) (mNil))))) (mCons (mLst (mCons (mVar 6) (mNil))) (mNil)))) (mNil)))) (mSeq (mDrop (mBM .lst fAppend (mVar 8) (mCons (mTup (mCons (mLst (mCons (mTup (mCons (mC (.int 0)) (mCons (mVar 6) (mNil)))) (mCons (mTup (mCons (mC (.int 1)) (mCons (mVar 4) (mNil)))) (mNil)))) (mCons (mC (.str "faulted")) (mNil)))) (mNil)))) (mSeq (mDrop (mBM .lst fAppend (mVar 7) (mCons (mTup (mCons (mLst (mCons (mTup (mCons (mC (.str "take")) (mNil))) (mCons (mTup (mCons (mC (.str "tell")) (mNil))) (mNil)))) (mCons (mLst (mCons (mVar 6) (mNil))) (mNil)))) (mNil)))) (mSeq (mDrop (mBM .lst fAppend (mVar 8) (mCons (mTup (mCons (mLst (mCons (mTup (mCons (mC (.int 0)) (mCons (mVar 6) (mNil)))) (mNil))) (mCons (mC (.str "faulted")) (mNil)))) (mNil)))) (mSeq (mAsg (m2 oAdd (mVar 7) (mLst (mCons (mTup (mCons (mLst (mCons (mTup (mCons (mC (.str "branch")) (mCons (mC (.int 1)) (mNil)))) (mNil))) (mCons (mLst (mNil)) (mNil)))) (mCons (mTup (mCons (mLst (mCons (mTup (mCons (mC (.str "jump")) (mCons (mC (.int 1)) (mNil)))) (mNil))) (mCons (mLst (mCons (mVar 3) (mNil))) (mNil)))) (mCons (mTup (mCons (mLst (mCons (mTup (mCons (mC (.str "take")) (mNil))) (mCons (mTup (mCons (mC (.str "take")) (mNil))) (mNil)))) (mCons (mLst (mCons (mVar 3) (mNil))) (mNil)))) (mNil)))))) (gA 7)) (mSeq (mAsg (m2 oAdd (mVar 8) (mLst (mCons (mTup (mCons (mLst (mNil)) (mCons (mC (.str "faulted")) (mNil)))) (mCons (mTup (mCons (mLst (mCons (mTup (mCons (mC (.int 0)) (mCons (mC .non) (mNil)))) (mNil))) (mCons (mC (.str "over")) (mNil)))) (mCons (mTup (mCons (mLst (mCons (mTup (mCons (mC (.int 0)) (mCons (mVar 3) (mNil)))) (mNil))) (mCons (mC (.str "over")) (mNil)))) (mNil)))))) (gA 8)) (mSeq (mIfS (mB (m2 (cEq true) (mLc 100000 [9, 10] (iSq (mVar 7)) (gTupA (gsCons (gA 9) (gsCons (gA 10) gsNil))) mYes (le_law_0)) (mVar 8))) (mRet (mC (.bl false))) (mNx)) (mSeq (mIfS (mOr (mB (m2 (cEq true) (mCallK m_run (fun vs zs => vs ++ zs) (mCons (m2 oIx (m2 oIx (mVar 7) (mC (.int 0))) (mC (.int 0))) (mCons (mLst (mCons (mVar 5) (mCons (mVar 6) (mNil)))) (mNil))) (mCons (mC (.int 3)) (mNil))) (mTup (mCons (m3s oSl (m2 oIx (m2 oIx (mVar 8) (mC (.int 0))) (mC (.int 0))) mPn (mPs (mC (.int 3)))) (mCons (mC .non) (mNil)))))) (mB (m2 (cEq true) (mCallK m_run (fun vs zs => vs ++ zs) (mCons (m2 oIx (m2 oIx (mVar 7) (mC (.int 0))) (mC (.int 0))) (mCons (mLst (mCons (mVar 5) (mNil))) (mNil))) (mCons (mC (.int 0)) (mNil))) (mTup (mCons (mLst (mNil)) (mCons (mC .non) (mNil))))))) (mRet (mC (.bl false))) (mNx)) (mIfS (mB (m2 (cEq true) (mCallK m_run (fun vs zs => vs ++ zs) (mCons (mLst (mCons (mTup (mCons (mC (.str "take")) (mNil))) (mNil))) (mCons (mLst (mCons (mVar 3) (mNil))) (mNil))) (mCons (mC (.int 1)) (mNil))) (mTup (mCons (mLst (mCons (mTup (mCons (mC (.int 0)) (mCons (mVar 3) (mNil)))) (mNil))) (mCons (mC (.str "over")) (mNil)))))) (mRet (mC (.bl false))) (mNx))))))))))))))))))))))
theorem ulb_law_1 {e : AEnv} {h : List AO} : lb_law_1 e h = (
  mSeq (mAsg (mCall m_law_tape [] (mCons (mVar 0) (mCons (mVar 1) (mNil)))) (gA 2)) (mSeq (mPar 3 4 (mCons (mCall m_law_pick [] (mCons (mVar 2) (mCons (m2 oPow (mC (.int 10)) (mC (.int 9))) (mNil)))) (mCons (m2 oAdd (mC (.int 1)) (mCall m_law_pick [] (mCons (mVar 2) (mCons (m2 oPow (mC (.int 10)) (mC (.int 9))) (mNil))))) (mNil)))) (mSeq (mPar 5 6 (mCons (mTup (mCons (mTup (mCons (mC (.str "x")) (mNil))) (mCons (mTup (mCons (mVar 3) (mNil))) (mNil)))) (mCons (mTup (mCons (mTup (mCons (mC (.str "y")) (mCons (mC (.str "x")) (mNil)))) (mCons (mTup (mCons (mC (.int 7)) (mCons (mVar 4) (mNil)))) (mNil)))) (mNil)))) (mSeq (mAsg (mLst (mCons (mTup (mCons (mLst (mCons (mTup (mCons (mC (.str "take")) (mNil))) (mCons (mTup (mCons (mC (.str "look")) (mCons (mC (.str "x")) (mNil)))) (mCons (mTup (mCons (mC (.str "tell")) (mNil))) (mCons (mTup (mCons (mC (.str "jump")) (mCons (mC (.int 0)) (mNil)))) (mNil)))))) (mCons (mLst (mCons (mVar 5) (mCons (mVar 6) (mNil)))) (mNil)))) (mNil))) (gA 7)) (mSeq (mAsg (mLst (mCons (mTup (mCons (mLst (mCons (mTup (mCons (mC (.int 0)) (mCons (mVar 5) (mNil)))) (mCons (mTup (mCons (mC (.int 1)) (mCons (mVar 3) (mNil)))) (mCons (mTup (mCons (mC (.int 2)) (mCons (mVar 3) (mNil)))) (mCons (mTup (mCons (mC (.int 3)) (mCons (mC .non) (mNil)))) (mCons (mTup (mCons (mC (.int 0)) (mCons (mVar 6) (mNil)))) (mCons (mTup (mCons (mC (.int 1)) (mCons (mVar 4) (mNil)))) (mCons (mTup (mCons (mC (.int 2)) (mCons (mVar 4) (mNil)))) (mCons (mTup (mCons (mC (.int 3)) (mCons (mC .non) (mNil)))) (mNil)))))))))) (mCons (mC (.str "over")) (mNil)))) (mNil))) (gA 8)) (mSeq (mDrop (mBM .lst fAppend (mVar 7) (mCons (mTup (mCons (mLst (mCons (mTup (mCons (mC (.str "take")) (mNil))) (mCons (mTup (mCons (mC (.str "take")) (mNil))) (mCons (mTup (mCons (mC (.str "add")) (mNil))) (mCons (mTup (mCons (mC (.str "branch")) (mCons (mC (.int 5)) (mNil)))) (mCons (mTup (mCons (mC (.str "jump")) (mCons (mC (.int 0)) (mNil)))) (mCons (mTup (mCons (mC (.str "take")) (mNil))) (mNil)))))))) (mCons (mLst (mCons (mVar 3) (mCons (m2 oSub (mC (.int 0)) (mVar 3)) (mCons (mC (.int 9)) (mNil))))) (mNil)))) (mNil)))) (mSeq (mDrop (mBM .lst fAppend (mVar 8) (mCons (mTup (mCons (mLst (mCons (mTup (mCons (mC (.int 0)) (mCons (mVar 3) (mNil)))) (mCons (mTup (mCons (mC (.int 1)) (mCons (m2 oSub (mC (.int 0)) (mVar 3)) (mNil)))) (mCons (mTup (mCons (mC (.int 2)) (mCons (mC (.int 0)) (mNil)))) (mCons (mTup (mCons (mC (.int 3)) (mCons (mC .non) (mNil)))) (mCons (mTup (mCons (mC (.int 5)) (mCons (mC (.int 9)) (mNil)))) (mNil))))))) (mCons (mC (.str "over")) (mNil)))) (mNil)))) (mSeq (mDrop (mBM .lst fAppend (mVar 7) (mCons (mTup (mCons (mLst (mCons (mTup (mCons (mC (.str "take")) (mNil))) (mCons (mTup (mCons (mC (.str "branch")) (mCons (mC (.int 3)) (mNil)))) (mCons (mTup (mCons (mC (.str "jump")) (mCons (mC (.int 0)) (mNil)))) (mCons (mTup (mCons (mC (.str "tell")) (mNil))) (mNil)))))) (mCons (mLst (mCons (mVar 4) (mCons (mC (.int 0)) (mNil)))) (mNil)))) (mNil)))) (mSeq (mDrop (mBM .lst fAppend (mVar 8) (mCons (mTup (mCons (mLst (mCons (mTup (mCons (mC (.int 0)) (mCons (mVar 4) (mNil)))) (mCons (mTup (mCons (mC (.int 1)) (mCons (mC .non) (mNil)))) (mCons (mTup (mCons (mC (.int 2)) (mCons (mC .non) (mNil)))) (mCons (mTup (mCons (mC (.int 0)) (mCons (mC (.int 0)) (mNil)))) (mCons (mTup (mCons (mC (.int 1)) (mCons (mC .non) (mNil)))) (mNil))))))) (mCons (mC (.str "faulted")) (mNil)))) (mNil)))) (mSeq (mDrop (mBM .lst fAppend (mVar 7) (mCons (mTup (mCons (mLst (mCons (mTup (mCons (mC (.str "take")) (mNil))) (mCons (mTup (mCons (mC (.str "take")) (mNil))) (mCons (mTup (mCons (mC (.str "add")) (mNil))) (mNil))))) (mCons (mLst (mCons (mVar 5) (mCons (mVar 3) (mNil)))) (mNil)))) (mNil)))) (mSeq (mDrop (mBM .lst fAppend (mVar 8) (mCons (mTup (mCons (mLst (mCons (mTup (mCons (mC (.int 0)) (mCons (mVar 5) (mNil)))) (mCons (mTup (mCons (mC (.int 1)) (mCons (mVar 3) (mNil)))) (mNil)))) (mCons (mC (.str "faulted")) (mNil)))) (mNil)))) (mSeq (mDrop (mBM .lst fAppend (mVar 7) (mCons (mTup (mCons (mLst (mCons (mTup (mCons (mC (.str "take")) (mNil))) (mCons (mTup (mCons (mC (.str "look")) (mCons (mC (.str "y")) (mNil)))) (mNil)))) (mCons (mLst (mCons (mVar 5) (mNil))) (mNil)))) (mNil)))) (mSeq (mDrop (mBM .lst fAppend (mVar 8) (mCons (mTup (mCons (mLst (mCons (mTup (mCons (mC (.int 0)) (mCons (mVar 5) (mNil)))) (mNil))) (mCons (mC (.str "faulted")) (mNil)))) (mNil)))) (mSeq (mDrop (mBM .lst fAppend (mVar 7) (mCons (mTup (mCons (mLst (mCons (mTup (mCons (mC (.str "take")) (mNil))) (mCons (mTup (mCons (mC (.str "look")) (mCons (mC (.str "x")) (mNil)))) (mCons (mTup (mCons (mC (.str "look")) (mCons (mC (.str "x")) (mNil)))) (mNil))))) (mCons (mLst (mCons (mVar 6) (mNil))) (mNil)))) (mNil)))) (mSeq (mDrop (mBM .lst fAppend (mVar 8) (mCons (mTup (mCons (mLst (mCons (mTup (mCons (mC (.int 0)) (mCons (mVar 6) (mNil)))) (mCons (mTup (mCons (mC (.int 1)) (mCons (mVar 4) (mNil)))) (mNil)))) (mCons (mC (.str "faulted")) (mNil)))) (mNil)))) (mSeq (mDrop (mBM .lst fAppend (mVar 7) (mCons (mTup (mCons (mLst (mCons (mTup (mCons (mC (.str "take")) (mNil))) (mCons (mTup (mCons (mC (.str "tell")) (mNil))) (mNil)))) (mCons (mLst (mCons (mVar 6) (mNil))) (mNil)))) (mNil)))) (mSeq (mDrop (mBM .lst fAppend (mVar 8) (mCons (mTup (mCons (mLst (mCons (mTup (mCons (mC (.int 0)) (mCons (mVar 6) (mNil)))) (mNil))) (mCons (mC (.str "faulted")) (mNil)))) (mNil)))) (mSeq (mAsg (m2 oAdd (mVar 7) (mLst (mCons (mTup (mCons (mLst (mCons (mTup (mCons (mC (.str "branch")) (mCons (mC (.int 1)) (mNil)))) (mNil))) (mCons (mLst (mNil)) (mNil)))) (mCons (mTup (mCons (mLst (mCons (mTup (mCons (mC (.str "jump")) (mCons (mC (.int 1)) (mNil)))) (mNil))) (mCons (mLst (mCons (mVar 3) (mNil))) (mNil)))) (mCons (mTup (mCons (mLst (mCons (mTup (mCons (mC (.str "take")) (mNil))) (mCons (mTup (mCons (mC (.str "take")) (mNil))) (mNil)))) (mCons (mLst (mCons (mVar 3) (mNil))) (mNil)))) (mNil)))))) (gA 7)) (mSeq (mAsg (m2 oAdd (mVar 8) (mLst (mCons (mTup (mCons (mLst (mNil)) (mCons (mC (.str "faulted")) (mNil)))) (mCons (mTup (mCons (mLst (mCons (mTup (mCons (mC (.int 0)) (mCons (mC .non) (mNil)))) (mNil))) (mCons (mC (.str "over")) (mNil)))) (mCons (mTup (mCons (mLst (mCons (mTup (mCons (mC (.int 0)) (mCons (mVar 3) (mNil)))) (mNil))) (mCons (mC (.str "over")) (mNil)))) (mNil)))))) (gA 8)) (mSeq (mIfS (mB (m2 (cEq true) (mLc 100000 [9, 10] (iSq (mVar 7)) (gTupA (gsCons (gA 9) (gsCons (gA 10) gsNil))) mYes (le_law_0)) (mVar 8))) (mRet (mC (.bl false))) (mNx)) (mSeq (mIfS (mOr (mB (m2 (cEq true) (mCallK m_run (fun vs zs => vs ++ zs) (mCons (m2 oIx (m2 oIx (mVar 7) (mC (.int 0))) (mC (.int 0))) (mCons (mLst (mCons (mVar 5) (mCons (mVar 6) (mNil)))) (mNil))) (mCons (mC (.int 3)) (mNil))) (mTup (mCons (m3s oSl (m2 oIx (m2 oIx (mVar 8) (mC (.int 0))) (mC (.int 0))) mPn (mPs (mC (.int 3)))) (mCons (mC .non) (mNil)))))) (mB (m2 (cEq true) (mCallK m_run (fun vs zs => vs ++ zs) (mCons (m2 oIx (m2 oIx (mVar 7) (mC (.int 0))) (mC (.int 0))) (mCons (mLst (mCons (mVar 5) (mNil))) (mNil))) (mCons (mC (.int 0)) (mNil))) (mTup (mCons (mLst (mNil)) (mCons (mC .non) (mNil))))))) (mRet (mC (.bl false))) (mNx)) (mIfS (mB (m2 (cEq true) (mCallK m_run (fun vs zs => vs ++ zs) (mCons (mLst (mCons (mTup (mCons (mC (.str "take")) (mNil))) (mNil))) (mCons (mLst (mCons (mVar 3) (mNil))) (mNil))) (mCons (mC (.int 1)) (mNil))) (mTup (mCons (mLst (mCons (mTup (mCons (mC (.int 0)) (mCons (mVar 3) (mNil)))) (mNil))) (mCons (mC (.str "over")) (mNil)))))) (mRet (mC (.bl false))) (mNx))))))))))))))))))))))) e h := (rfl)
def b_law : AS :=
  mSeq (mFor 100000 (iR1 (mCons (mC1 fMax2 (mCons (mC (.int 1)) (mCons (mC1 fMin2 (mCons (mC (.int 3)) (mCons (mC1 fLen (mCons (mVar 0) (mNil))) (mNil)))) (mNil)))) (mNil))) (gA 1) (lb_law_1)) (mRet (mC (.bl true)))
def m_law : List AV → AM AV := mFn 11 b_law
theorem u_law {a : List AV} {h : List AO} : m_law a h = SL.fnK ((
  mSeq (mFor 100000 (iR1 (mCons (mC1 fMax2 (mCons (mC (.int 1)) (mCons (mC1 fMin2 (mCons (mC (.int 3)) (mCons (mC1 fLen (mCons (mVar 0) (mNil))) (mNil)))) (mNil)))) (mNil))) (gA 1) (lb_law_1)) (mRet (mC (.bl true)))) (a.map some ++ List.replicate (11 - a.length) none) h) := (rfl)
/-- what stands behind the top -/
structure Txt (K : PySem.W.Frag) (mg : Str → Option Value) where
  C2 : Addr
  g2 : mg "Hand" = some (.ref C2)
  cls2 : Cls K C2
  n2_left : NoAttr K C2 "left"
  n2_notes : NoAttr K C2 "notes"
  n2_outcome : NoAttr K C2 "outcome"
  n2_program : NoAttr K C2 "program"
  n2_spot : NoAttr K C2 "spot"
  n2_stack : NoAttr K C2 "stack"
  a_law_tape : Addr
  d_law_tape : FuncData
  F_law_tape : FunD K "_law_tape" "_law_tape" (defArgs s_law_tape) (defBody s_law_tape) (defScope s_law_tape) [] [] a_law_tape d_law_tape
  g_law_tape : mg "_law_tape" = some (.ref a_law_tape)
  b_law_tape : Binds K d_law_tape ["script", "start"] []
  a_law_pick : Addr
  d_law_pick : FuncData
  F_law_pick : FunD K "_law_pick" "_law_pick" (defArgs s_law_pick) (defBody s_law_pick) (defScope s_law_pick) [] [] a_law_pick d_law_pick
  g_law_pick : mg "_law_pick" = some (.ref a_law_pick)
  b_law_pick : Binds K d_law_pick ["tape", "many"] []
  a_is_name : Addr
  d_is_name : FuncData
  F_is_name : FunD K "is_name" "is_name" (defArgs s_is_name) (defBody s_is_name) (defScope s_is_name) [] [] a_is_name d_is_name
  g_is_name : mg "is_name" = some (.ref a_is_name)
  b_is_name : Binds K d_is_name ["value"] []
  a_is_integer : Addr
  d_is_integer : FuncData
  F_is_integer : FunD K "is_integer" "is_integer" (defArgs s_is_integer) (defBody s_is_integer) (defScope s_is_integer) [] [] a_is_integer d_is_integer
  g_is_integer : mg "is_integer" = some (.ref a_is_integer)
  b_is_integer : Binds K d_is_integer ["value", "low", "high"] []
  a_is_step : Addr
  d_is_step : FuncData
  F_is_step : FunD K "is_step" "is_step" (defArgs s_is_step) (defBody s_is_step) (defScope s_is_step) [] [] a_is_step d_is_step
  g_is_step : mg "is_step" = some (.ref a_is_step)
  b_is_step : Binds K d_is_step ["value", "many"] []
  a_is_program : Addr
  d_is_program : FuncData
  F_is_program : FunD K "is_program" "is_program" (defArgs s_is_program) (defBody s_is_program) (defScope s_is_program) [] [] a_is_program d_is_program
  g_is_program : mg "is_program" = some (.ref a_is_program)
  b_is_program : Binds K d_is_program ["value"] []
  a_must_be_program : Addr
  d_must_be_program : FuncData
  F_must_be_program : FunD K "must_be_program" "must_be_program" (defArgs s_must_be_program) (defBody s_must_be_program) (defScope s_must_be_program) [] [] a_must_be_program d_must_be_program
  g_must_be_program : mg "must_be_program" = some (.ref a_must_be_program)
  b_must_be_program : Binds K d_must_be_program ["value"] []
  a_Hand_init : Addr
  d_Hand_init : FuncData
  F_Hand_init : FunD K "__init__" "Hand.__init__" (defArgs s_Hand_init) (defBody s_Hand_init) (defScope s_Hand_init) [] [] a_Hand_init d_Hand_init
  mk2 : Mk K C2 a_Hand_init
  b_Hand_init : Binds K d_Hand_init ["self", "program", "inputs"] []
  a_is_number : Addr
  d_is_number : FuncData
  F_is_number : FunD K "is_number" "is_number" (defArgs s_is_number) (defBody s_is_number) (defScope s_is_number) [] [] a_is_number d_is_number
  g_is_number : mg "is_number" = some (.ref a_is_number)
  b_is_number : Binds K d_is_number ["value"] []
  a_Hand_shape_for : Addr
  d_Hand_shape_for : FuncData
  F_Hand_shape_for : FunD K "shape_for" "Hand.shape_for" (defArgs s_Hand_shape_for) (defBody s_Hand_shape_for) (defScope s_Hand_shape_for) [] [] a_Hand_shape_for d_Hand_shape_for
  h_Hand_shape_for : Meth K C2 "shape_for" a_Hand_shape_for
  b_Hand_shape_for : Binds K d_Hand_shape_for ["self", "name"] []
  a_Hand_can_pop : Addr
  d_Hand_can_pop : FuncData
  F_Hand_can_pop : FunD K "can_pop" "Hand.can_pop" (defArgs s_Hand_can_pop) (defBody s_Hand_can_pop) (defScope s_Hand_can_pop) [] [] a_Hand_can_pop d_Hand_can_pop
  h_Hand_can_pop : Meth K C2 "can_pop" a_Hand_can_pop
  b_Hand_can_pop : Binds K d_Hand_can_pop ["self", "many"] []
  a_Hand_can_do : Addr
  d_Hand_can_do : FuncData
  F_Hand_can_do : FunD K "can_do" "Hand.can_do" (defArgs s_Hand_can_do) (defBody s_Hand_can_do) (defScope s_Hand_can_do) [] [] a_Hand_can_do d_Hand_can_do
  h_Hand_can_do : Meth K C2 "can_do" a_Hand_can_do
  b_Hand_can_do : Binds K d_Hand_can_do ["self", "step"] []
  a_Hand_go : Addr
  d_Hand_go : FuncData
  F_Hand_go : FunD K "go" "Hand.go" (defArgs s_Hand_go) (defBody s_Hand_go) (defScope s_Hand_go) [] [] a_Hand_go d_Hand_go
  h_Hand_go : Meth K C2 "go" a_Hand_go
  b_Hand_go : Binds K d_Hand_go ["self", "place"] []
  a_Hand_lead : Addr
  d_Hand_lead : FuncData
  F_Hand_lead : FunD K "lead" "Hand.lead" (defArgs s_Hand_lead) (defBody s_Hand_lead) (defScope s_Hand_lead) [] [] a_Hand_lead d_Hand_lead
  h_Hand_lead : Meth K C2 "lead" a_Hand_lead
  b_Hand_lead : Binds K d_Hand_lead ["self"] []
  a_Hand_pushed : Addr
  d_Hand_pushed : FuncData
  F_Hand_pushed : FunD K "pushed" "Hand.pushed" (defArgs s_Hand_pushed) (defBody s_Hand_pushed) (defScope s_Hand_pushed) [] [] a_Hand_pushed d_Hand_pushed
  h_Hand_pushed : Meth K C2 "pushed" a_Hand_pushed
  b_Hand_pushed : Binds K d_Hand_pushed ["self", "place", "value"] []
  a_Hand_work : Addr
  d_Hand_work : FuncData
  F_Hand_work : FunD K "work" "Hand.work" (defArgs s_Hand_work) (defBody s_Hand_work) (defScope s_Hand_work) [] [] a_Hand_work d_Hand_work
  h_Hand_work : Meth K C2 "work" a_Hand_work
  b_Hand_work : Binds K d_Hand_work ["self", "place"] []
  a_Hand_step : Addr
  d_Hand_step : FuncData
  F_Hand_step : FunD K "step" "Hand.step" (defArgs s_Hand_step) (defBody s_Hand_step) (defScope s_Hand_step) [] [] a_Hand_step d_Hand_step
  h_Hand_step : Meth K C2 "step" a_Hand_step
  b_Hand_step : Binds K d_Hand_step ["self"] []
  a_run : Addr
  d_run : FuncData
  F_run : FunD K "run" "run" (defArgs s_run) (defBody s_run) (defScope s_run) [] [("most", (.int 1000))] a_run d_run
  g_run : mg "run" = some (.ref a_run)
  ds_run : List Value
  vd_run : Vals [(.int 1000)] ds_run
  bd_run : Binds K d_run ["program", "inputs", "most"] ds_run
  bk_run : KBn K d_run ["program", "inputs", "most"] 2 ["most"] (fun us ws => us ++ ws) (fun vs zs => vs ++ zs)
  a_law : Addr
  d_law : FuncData
  F_law : FunD K "law" "law" (defArgs s_law) (defBody s_law) (defScope s_law) [] [] a_law d_law
  b_law : Binds K d_law ["script"] []
  u_MOST_STEPS : Value
  c_MOST_STEPS : mg "MOST_STEPS" = some u_MOST_STEPS
  r_MOST_STEPS : RelV (.int 40) u_MOST_STEPS
  a_PLAIN_WORDS : Addr
  c_PLAIN_WORDS : mg "PLAIN_WORDS" = some (.ref a_PLAIN_WORDS)
  t_PLAIN_WORDS : KTup K a_PLAIN_WORDS [(.str "take"), (.str "add"), (.str "tell")]
  a_LEADING : Addr
  c_LEADING : mg "LEADING" = some (.ref a_LEADING)
  t_LEADING : KTup K a_LEADING [(.str "jump"), (.str "branch")]
  u_MOST_LETTERS : Value
  c_MOST_LETTERS : mg "MOST_LETTERS" = some u_MOST_LETTERS
  r_MOST_LETTERS : RelV (.int 6) u_MOST_LETTERS
  z_range : mg "range" = none
  z_max : mg "max" = none
  z_min : mg "min" = none
  z_len : mg "len" = none
  z_int : mg "int" = none
  z_tuple : mg "tuple" = none
  z_isinstance : mg "isinstance" = none
  z_list : mg "list" = none
  z_all : mg "all" = none
  z_str : mg "str" = none
  z_bool : mg "bool" = none
abbrev gx {K : PySem.W.Frag} {mg : Str → Option Value} (T : Txt K mg) : Gx := ⟨K, fun c => if c = 2 then T.C2 else 0, true⟩
section
variable {P : Program} {w : World} {K : PySem.W.Frag} {mg : Str → Option Value} {base : Heap}
theorem ok_law_tape (T : Txt K mg) : FnG P w K mg base 1 T.a_law_tape T.d_law_tape ["script", "start"] (spG (gx T) 2 m_law_tape) :=
  okG T.F_law_tape sc_law_tape rfl fun cdv A outer s H E hr hgu => sb_cons (ss_set 2 sc_law_tape.nd (se_add (se_int) (se_mul (se_var 1) (se_int))))
  (sb_cons (ss_for 100000 own_cx rfl (si_seq rfl (se_var 0)) (sg_name 3 sc_law_tape.nd) (sb_one (ss_set 2 sc_law_tape.nd (se_add (se_mod (se_int1 T.z_int (sa_cons (se_pow (se_add (se_add (se_mul (se_var 2) (se_int)) (se_mul (se_var 3) (se_var 3))) (se_int)) (se_int)) (sa_nil))) (se_int)) (se_int)))))
  (sb_cons (ss_set 4 sc_law_tape.nd (se_if (st_w (sw_and (st_cmp opr_lt snd_B (se_var 1) (se_len rfl T.z_len (sa_cons (se_var 0) (sa_nil))) (by rfl)) (sw_and1 (st_cmp op_ge snd_cI (se_ix rfl (se_var 0) (se_var 1)) (se_pow (se_int) (se_int)) (by rfl))))) (se_sub (se_ix rfl (se_var 0) (se_var 1)) (se_pow (se_int) (se_int))) (se_int)))
  (sb_cons (ss_set 5 sc_law_tape.nd (se_ix rfl (se_lst (sa_cons (se_tupF rfl (sa_cons (se_str) (sa_cons (se_str) (sa_cons (se_str) (sa_cons (se_str) (sa_nil)))))) (sa_cons (se_tupF rfl (sa_cons (se_str) (sa_cons (se_str) (sa_cons (se_str) (sa_cons (se_str) (sa_nil)))))) (sa_cons (se_tupF rfl (sa_cons (se_str) (sa_cons (se_str) (sa_cons (se_str) (sa_cons (se_str) (sa_nil)))))) (sa_nil))))) (se_mod (se_int1 T.z_int (sa_cons (se_var 2) (sa_nil))) (se_int))))
  (sb_one (ss_ret (se_disp (sps_cons (se_str) (se_var 4) (sps_cons (se_str) (se_var 2) (sps_cons (se_str) (se_var 5) sps_nil)))))))))
theorem ok_law_pick (T : Txt K mg) : FnG P w K mg base 1 T.a_law_pick T.d_law_pick ["tape", "many"] (spG (gx T) 2 m_law_pick) :=
  okG T.F_law_pick sc_law_pick rfl fun cdv A outer s H E hr hgu => sb_cons (ss_if (st_cmp op_ge snd_cI (se_dget (hu1 hr) (se_var 0) (se_str)) (se_var 1) (by rfl)) (sb_cons (ss_set 2 sc_law_pick.nd (se_mod (se_int1 T.z_int (sa_cons (se_dget (hu1 hr) (se_var 0) (se_str)) (sa_nil))) (se_var 1)))
  (sb_cons (ss_dput (hu1 hr) (se_var 0) (se_str) (se_fdiv (se_dget (hu1 hr) (se_var 0) (se_str)) (se_var 1)))
  (sb_one (ss_ret (se_var 2))))) (sb_nil))
  (sb_cons (ss_dput (hu1 hr) (se_var 0) (se_str) (se_mod (se_int1 T.z_int (sa_cons (se_add (se_mul (se_dget (hu1 hr) (se_var 0) (se_str)) (se_int)) (se_int)) (sa_nil))) (se_int)))
  (sb_cons (ss_set 3 sc_law_pick.nd (se_mod (se_int1 T.z_int (sa_cons (se_pow (se_dget (hu1 hr) (se_var 0) (se_str)) (se_int)) (sa_nil))) (se_int)))
  (sb_one (ss_ret (se_mod (se_int1 T.z_int (sa_cons (se_fdiv (se_mod (se_int1 T.z_int (sa_cons (se_pow (se_var 3) (se_int)) (sa_nil))) (se_int)) (se_int)) (sa_nil))) (se_var 1))))))
theorem ok_is_name (T : Txt K mg) : FnG P w K mg base 1 T.a_is_name T.d_is_name ["value"] (spG (gx T) 1 m_is_name) :=
  okG T.F_is_name sc_is_name rfl fun cdv A outer s H E hr hgu => sb_cons (ss_if (st_w (sw_or (st_not (st_val (se_isi (T := .str) rfl T.z_isinstance T.z_str (by decide +kernel) (se_var 0)))) (sw_or1 (st_not (st_chain opr_le snd_B opr_le snd_B (se_int) (se_len rfl T.z_len (sa_cons (se_var 0) (sa_nil))) (se_glob T.c_MOST_LETTERS (w := (.int 6)) (T.r_MOST_LETTERS) (fun _ _ _ => .int))))))) (sb_one (ss_ret (se_bl))) (sb_nil))
  (sb_one (ss_ret (se_all rfl rfl T.z_all (sa_cons (se_lc 100000 [("letter", 1)] rfl sc_is_name.nd (by rfl) (si_seq rfl (se_var 0)) (fun _ _ _ _ _ => sg_name 1 sc_is_name.nd) (fun _ _ _ _ _ => sts_nil) (fun _ _ _ _ _ => se_chain opr_le snd_B opr_le snd_B (se_str) (se_var 1) (se_str))) (sa_nil)))))
theorem ok_is_integer (T : Txt K mg) : FnG P w K mg base 1 T.a_is_integer T.d_is_integer ["value", "low", "high"] (spG (gx T) 3 m_is_integer) :=
  okG T.F_is_integer sc_is_integer rfl fun cdv A outer s H E hr hgu => sb_one (ss_ret (se_and (se_isi (T := .int) rfl T.z_isinstance T.z_int (by decide +kernel) (se_var 0)) (se_and (se_not (se_isi (T := .bool) rfl T.z_isinstance T.z_bool (by decide +kernel) (se_var 0))) (se_one (se_chain opr_le snd_B opr_le snd_B (se_var 1) (se_var 0) (se_var 2))))))
theorem ok_is_step (T : Txt K mg) : FnG P w K mg base 2 T.a_is_step T.d_is_step ["value", "many"] (spG (gx T) 2 m_is_step) :=
  okG T.F_is_step sc_is_step rfl fun cdv A outer s H E hr hgu => sb_cons (ss_if (st_w (sw_or (st_not (st_val (se_isi (T := .tup) rfl T.z_isinstance T.z_tuple (by decide +kernel) (se_var 0)))) (sw_or (st_cmp (opr_notIn (hu65 hr)) snd_in (se_len rfl T.z_len (sa_cons (se_var 0) (sa_nil))) (se_tupF rfl (sa_cons (se_int) (sa_cons (se_int) (sa_nil)))) (by rfl)) (sw_or1 (st_not (st_val (se_isi (T := .str) rfl T.z_isinstance T.z_str (by decide +kernel) (se_ix rfl (se_var 0) (se_int))))))))) (sb_one (ss_ret (se_bl))) (sb_nil))
  (sb_cons (ss_if (st_cmp (o_eq hr) snd_eq (se_len rfl T.z_len (sa_cons (se_var 0) (sa_nil))) (se_int) (by rfl)) (sb_one (ss_ret (se_cmp (opr_in (hu65 hr)) snd_in (se_ix rfl (se_var 0) (se_int)) (se_glob T.c_PLAIN_WORDS (w := .ref T.a_PLAIN_WORDS) rfl (fun _ _ _ => .tup (.inr (.inr ⟨rfl, T.t_PLAIN_WORDS⟩)) (.cons .str (.cons .str (.cons .str .nil))))) (by rfl)))) (sb_nil))
  (sb_cons (ss_if (st_cmp (o_eq hr) snd_eq (se_ix rfl (se_var 0) (se_int)) (se_str) (by rfl)) (sb_one (ss_ret (se_call ((ok_is_name T).mono (by decide)) hr hgu T.g_is_name T.F_is_name.kp T.b_is_name .nil (fun _ _ _ => .nil) tk_cx rfl (len_cons (fun _ _ _ _ z => len_nil z)) (sa_cons (se_ix rfl (se_var 0) (se_int)) (sa_nil))))) (sb_nil))
  (sb_one (ss_ret (se_and (se_cmp (opr_in (hu65 hr)) snd_in (se_ix rfl (se_var 0) (se_int)) (se_glob T.c_LEADING (w := .ref T.a_LEADING) rfl (fun _ _ _ => .tup (.inr (.inr ⟨rfl, T.t_LEADING⟩)) (.cons .str (.cons .str .nil)))) (by rfl)) (se_one (se_call ((ok_is_integer T).mono (by decide)) hr hgu T.g_is_integer T.F_is_integer.kp T.b_is_integer .nil (fun _ _ _ => .nil) tk_cx rfl (len_cons (len_cons (len_cons (fun _ _ _ _ z => len_nil z)))) (sa_cons (se_ix rfl (se_var 0) (se_int)) (sa_cons (se_int) (sa_cons (se_var 1) (sa_nil)))))))))))
theorem ok_is_program (T : Txt K mg) : FnG P w K mg base 3 T.a_is_program T.d_is_program ["value"] (spG (gx T) 1 m_is_program) :=
  okG T.F_is_program sc_is_program rfl fun cdv A outer s H E hr hgu => sb_cons (ss_if (st_w (sw_or (st_not (st_val (se_isi2 (T := .lst) (U := .tup) rfl T.z_isinstance T.z_list (by decide +kernel) T.z_tuple (by decide +kernel) (se_var 0)))) (sw_or1 (st_not (st_chain opr_le snd_B opr_le snd_B (se_int) (se_len rfl T.z_len (sa_cons (se_var 0) (sa_nil))) (se_glob T.c_MOST_STEPS (w := (.int 40)) (T.r_MOST_STEPS) (fun _ _ _ => .int))))))) (sb_one (ss_ret (se_bl))) (sb_nil))
  (sb_one (ss_ret (se_all rfl rfl T.z_all (sa_cons (se_lc 100000 [("step", 1)] rfl sc_is_program.nd (by rfl) (si_seq rfl (se_var 0)) (fun _ _ _ _ _ => sg_name 1 sc_is_program.nd) (fun _ _ _ _ _ => sts_nil) (fun _ _ _ _ _ => se_call ((ok_is_step T).mono (by decide)) hr hgu T.g_is_step T.F_is_step.kp T.b_is_step .nil (fun _ _ _ => .nil) takes0 rfl (len_cons (len_cons (fun _ _ _ _ z => len_nil z))) (sa_cons (se_var 1) (sa_cons (se_len rfl T.z_len (sa_cons (se_var 0) (sa_nil))) (sa_nil))))) (sa_nil)))))
theorem ok_must_be_program (T : Txt K mg) : FnG P w K mg base 4 T.a_must_be_program T.d_must_be_program ["value"] (spG (gx T) 1 m_must_be_program) :=
  okG T.F_must_be_program sc_must_be_program rfl fun cdv A outer s H E hr hgu => sb_one (ss_if (st_not (st_val (se_call ((ok_is_program T).mono (by decide)) hr hgu T.g_is_program T.F_is_program.kp T.b_is_program .nil (fun _ _ _ => .nil) tk_cx rfl (len_cons (fun _ _ _ _ z => len_nil z)) (sa_cons (se_var 0) (sa_nil))))) (sb_one (ss_never)) (sb_nil))
theorem ok_Hand_init (T : Txt K mg) : FnG P w K mg base 1 T.a_Hand_init T.d_Hand_init ["self", "program", "inputs"] (spG (gx T) 3 m_Hand_init) :=
  okG T.F_Hand_init sc_Hand_init rfl fun cdv A outer s H E hr hgu => sb_cons (ss_fld (c := 2) rfl T.cls2 T.n2_program (se_var 0) (se_var 1))
  (sb_cons (ss_fld (c := 2) rfl T.cls2 T.n2_spot (se_var 0) (se_int))
  (sb_cons (ss_fld (c := 2) rfl T.cls2 T.n2_stack (se_var 0) (se_lst (sa_nil)))
  (sb_cons (ss_fld (c := 2) rfl T.cls2 T.n2_left (se_var 0) (se_list rfl T.z_list (sa_cons (se_var 2) (sa_nil))))
  (sb_cons (ss_fld (c := 2) rfl T.cls2 T.n2_notes (se_var 0) (se_lst (sa_nil)))
  (sb_one (ss_fld (c := 2) rfl T.cls2 T.n2_outcome (se_var 0) (se_non)))))))
theorem ok_is_number (T : Txt K mg) : FnG P w K mg base 1 T.a_is_number T.d_is_number ["value"] (spG (gx T) 1 m_is_number) :=
  okG T.F_is_number sc_is_number rfl fun cdv A outer s H E hr hgu => sb_one (ss_ret (se_and (se_isi (T := .int) rfl T.z_isinstance T.z_int (by decide +kernel) (se_var 0)) (se_one (se_not (se_isi (T := .bool) rfl T.z_isinstance T.z_bool (by decide +kernel) (se_var 0))))))
theorem ok_Hand_shape_for (T : Txt K mg) : FnG P w K mg base 2 T.a_Hand_shape_for T.d_Hand_shape_for ["self", "name"] (spG (gx T) 2 m_Hand_shape_for) :=
  okG T.F_Hand_shape_for sc_Hand_shape_for rfl fun cdv A outer s H E hr hgu => sb_cons (ss_if (st_w (sw_or (st_cmp (o_eq hr) snd_eq (se_fld (c := 2) rfl T.cls2 T.n2_stack (se_var 0)) (se_lst (sa_nil)) (by rfl)) (sw_or (st_val (se_call ((ok_is_number T).mono (by decide)) hr hgu T.g_is_number T.F_is_number.kp T.b_is_number .nil (fun _ _ _ => .nil) tk_cx rfl (len_cons (fun _ _ _ _ z => len_nil z)) (sa_cons (se_ix rfl (se_fld (c := 2) rfl T.cls2 T.n2_stack (se_var 0)) (se_neg (se_int))) (sa_nil)))) (sw_or1 (st_cmp (opr_notIn (hu65 hr)) snd_in (se_var 1) (se_ix rfl (se_ix rfl (se_fld (c := 2) rfl T.cls2 T.n2_stack (se_var 0)) (se_neg (se_int))) (se_int)) (by rfl)))))) (sb_one (ss_ret (se_non))) (sb_nil))
  (sb_one (ss_ret (se_ix rfl (se_ix rfl (se_fld (c := 2) rfl T.cls2 T.n2_stack (se_var 0)) (se_neg (se_int))) (se_int))))
theorem ok_Hand_can_pop (T : Txt K mg) : FnG P w K mg base 2 T.a_Hand_can_pop T.d_Hand_can_pop ["self", "many"] (spG (gx T) 2 m_Hand_can_pop) :=
  okG T.F_Hand_can_pop sc_Hand_can_pop rfl fun cdv A outer s H E hr hgu => sb_cons (ss_set 2 sc_Hand_can_pop.nd (se_if (st_cmp op_ge snd_cI (se_len rfl T.z_len (sa_cons (se_fld (c := 2) rfl T.cls2 T.n2_stack (se_var 0)) (sa_nil))) (se_var 1) (by rfl)) (se_slice rfl (se_fld (c := 2) rfl T.cls2 T.n2_stack (se_var 0)) (sp_some (se_sub (se_len rfl T.z_len (sa_cons (se_fld (c := 2) rfl T.cls2 T.n2_stack (se_var 0)) (sa_nil))) (se_var 1))) sp_none) (se_lst (sa_nil))))
  (sb_one (ss_ret (se_and (se_cmp (o_eq hr) snd_eq (se_len rfl T.z_len (sa_cons (se_var 2) (sa_nil))) (se_var 1) (by rfl)) (se_one (se_all rfl rfl T.z_all (sa_cons (se_lc 100000 [("value", 3)] rfl sc_Hand_can_pop.nd (by rfl) (si_seq rfl (se_var 2)) (fun _ _ _ _ _ => sg_name 3 sc_Hand_can_pop.nd) (fun _ _ _ _ _ => sts_nil) (fun _ _ _ _ _ => se_call ((ok_is_number T).mono (by decide)) hr hgu T.g_is_number T.F_is_number.kp T.b_is_number .nil (fun _ _ _ => .nil) takes0 rfl (len_cons (fun _ _ _ _ z => len_nil z)) (sa_cons (se_var 3) (sa_nil)))) (sa_nil)))))))
theorem ok_Hand_can_do (T : Txt K mg) : FnG P w K mg base 3 T.a_Hand_can_do T.d_Hand_can_do ["self", "step"] (spG (gx T) 2 m_Hand_can_do) :=
  okG T.F_Hand_can_do sc_Hand_can_do rfl fun cdv A outer s H E hr hgu => sb_cons (ss_if (st_cmp (o_eq hr) snd_eq (se_ix rfl (se_var 1) (se_int)) (se_str) (by rfl)) (sb_one (ss_ret (se_cmp op_notN snd_notN (se_meth (c := 2) (davs := []) rfl T.cls2 T.h_Hand_shape_for ((ok_Hand_shape_for T).mono (by decide)) hr hgu T.b_Hand_shape_for .nil (fun _ _ _ => .nil) tk_cx rfl (len_cons (fun _ _ _ _ z => len_nil z)) (se_var 0) (sa_cons (se_ix rfl (se_var 1) (se_int)) (sa_nil))) (se_non) (by rfl)))) (sb_nil))
  (sb_cons (ss_if (st_cmp (o_eq hr) snd_eq (se_ix rfl (se_var 1) (se_int)) (se_str) (by rfl)) (sb_one (ss_ret (se_meth (c := 2) (davs := []) rfl T.cls2 T.h_Hand_can_pop ((ok_Hand_can_pop T).mono (by decide)) hr hgu T.b_Hand_can_pop .nil (fun _ _ _ => .nil) tk_cx rfl (len_cons (fun _ _ _ _ z => len_nil z)) (se_var 0) (sa_cons (se_int) (sa_nil))))) (sb_nil))
  (sb_one (ss_ret (se_or (se_cmp (opr_in (hu65 hr)) snd_in (se_ix rfl (se_var 1) (se_int)) (se_tupF rfl (sa_cons (se_str) (sa_cons (se_str) (sa_nil)))) (by rfl)) (se_one (se_meth (c := 2) (davs := []) rfl T.cls2 T.h_Hand_can_pop ((ok_Hand_can_pop T).mono (by decide)) hr hgu T.b_Hand_can_pop .nil (fun _ _ _ => .nil) tk_cx rfl (len_cons (fun _ _ _ _ z => len_nil z)) (se_var 0) (sa_cons (se_int) (sa_nil))))))))
theorem ok_Hand_go (T : Txt K mg) : FnG P w K mg base 1 T.a_Hand_go T.d_Hand_go ["self", "place"] (spG (gx T) 2 m_Hand_go) :=
  okG T.F_Hand_go sc_Hand_go rfl fun cdv A outer s H E hr hgu => sb_cons (ss_fld (c := 2) rfl T.cls2 T.n2_spot (se_var 0) (se_var 1))
  (sb_one (ss_if (st_cmp (o_eq hr) snd_eq (se_var 1) (se_len rfl T.z_len (sa_cons (se_fld (c := 2) rfl T.cls2 T.n2_program (se_var 0)) (sa_nil))) (by rfl)) (sb_one (ss_fld (c := 2) rfl T.cls2 T.n2_outcome (se_var 0) (se_str))) (sb_nil)))
theorem ok_Hand_lead (T : Txt K mg) : FnG P w K mg base 4 T.a_Hand_lead T.d_Hand_lead ["self"] (spG (gx T) 1 m_Hand_lead) :=
  okG T.F_Hand_lead sc_Hand_lead rfl fun cdv A outer s H E hr hgu => sb_cons (ss_set 1 sc_Hand_lead.nd (se_ix rfl (se_fld (c := 2) rfl T.cls2 T.n2_program (se_var 0)) (se_fld (c := 2) rfl T.cls2 T.n2_spot (se_var 0))))
  (sb_cons (ss_if (st_not (st_val (se_meth (c := 2) (davs := []) rfl T.cls2 T.h_Hand_can_do ((ok_Hand_can_do T).mono (by decide)) hr hgu T.b_Hand_can_do .nil (fun _ _ _ => .nil) tk_cx rfl (len_cons (fun _ _ _ _ z => len_nil z)) (se_var 0) (sa_cons (se_var 1) (sa_nil))))) (sb_cons (ss_fld (c := 2) rfl T.cls2 T.n2_outcome (se_var 0) (se_str))
  (sb_one (ss_retN))) (sb_nil))
  (sb_cons (ss_set 2 sc_Hand_lead.nd (se_or (se_cmp (o_eq hr) snd_eq (se_ix rfl (se_var 1) (se_int)) (se_str) (by rfl)) (se_one (se_cmp (o_eq hr) snd_eq (se_pop rfl (se_fld (c := 2) rfl T.cls2 T.n2_stack (se_var 0))) (se_int) (by rfl)))))
  (sb_cons (ss_expr (se_append rfl (se_fld (c := 2) rfl T.cls2 T.n2_notes (se_var 0)) (sa_cons (se_tupF rfl (sa_cons (se_fld (c := 2) rfl T.cls2 T.n2_spot (se_var 0)) (sa_cons (se_non) (sa_nil)))) (sa_nil))))
  (sb_one (ss_expr (se_meth (c := 2) (davs := []) rfl T.cls2 T.h_Hand_go ((ok_Hand_go T).mono (by decide)) hr hgu T.b_Hand_go .nil (fun _ _ _ => .nil) tk_cx rfl (len_cons (fun _ _ _ _ z => len_nil z)) (se_var 0) (sa_cons (se_if (st_val (se_var 2)) (se_ix rfl (se_var 1) (se_int)) (se_add (se_fld (c := 2) rfl T.cls2 T.n2_spot (se_var 0)) (se_int))) (sa_nil))))))))
theorem ok_Hand_pushed (T : Txt K mg) : FnG P w K mg base 1 T.a_Hand_pushed T.d_Hand_pushed ["self", "place", "value"] (spG (gx T) 3 m_Hand_pushed) :=
  okG T.F_Hand_pushed sc_Hand_pushed rfl fun cdv A outer s H E hr hgu => sb_cons (ss_expr (se_append rfl (se_fld (c := 2) rfl T.cls2 T.n2_stack (se_var 0)) (sa_cons (se_var 2) (sa_nil))))
  (sb_one (ss_expr (se_append rfl (se_fld (c := 2) rfl T.cls2 T.n2_notes (se_var 0)) (sa_cons (se_tupF rfl (sa_cons (se_var 1) (sa_cons (se_var 2) (sa_nil)))) (sa_nil)))))
theorem ok_Hand_work (T : Txt K mg) : FnG P w K mg base 4 T.a_Hand_work T.d_Hand_work ["self", "place"] (spG (gx T) 2 m_Hand_work) :=
  okG T.F_Hand_work sc_Hand_work rfl fun cdv A outer s H E hr hgu => sb_cons (ss_set 2 sc_Hand_work.nd (se_ix rfl (se_fld (c := 2) rfl T.cls2 T.n2_program (se_var 0)) (se_var 1)))
  (sb_one (ss_if (st_w (sw_and (st_cmp (o_eq hr) snd_eq (se_ix rfl (se_var 2) (se_int)) (se_str) (by rfl)) (sw_and1 (st_cmp (o_eq hr) snd_eq (se_fld (c := 2) rfl T.cls2 T.n2_left (se_var 0)) (se_lst (sa_nil)) (by rfl))))) (sb_one (ss_fld (c := 2) rfl T.cls2 T.n2_outcome (se_var 0) (se_str))) (sb_one (ss_if (st_not (st_val (se_meth (c := 2) (davs := []) rfl T.cls2 T.h_Hand_can_do ((ok_Hand_can_do T).mono (by decide)) hr hgu T.b_Hand_can_do .nil (fun _ _ _ => .nil) tk_cx rfl (len_cons (fun _ _ _ _ z => len_nil z)) (se_var 0) (sa_cons (se_var 2) (sa_nil))))) (sb_one (ss_fld (c := 2) rfl T.cls2 T.n2_outcome (se_var 0) (se_str))) (sb_one (ss_if (st_cmp (o_eq hr) snd_eq (se_ix rfl (se_var 2) (se_int)) (se_str) (by rfl)) (sb_one (ss_expr (se_meth (c := 2) (davs := []) rfl T.cls2 T.h_Hand_pushed ((ok_Hand_pushed T).mono (by decide)) hr hgu T.b_Hand_pushed .nil (fun _ _ _ => .nil) tk_cx rfl (len_cons (len_cons (fun _ _ _ _ z => len_nil z))) (se_var 0) (sa_cons (se_var 1) (sa_cons (se_popAt rfl (se_fld (c := 2) rfl T.cls2 T.n2_left (se_var 0)) (sa_cons (se_int) (sa_nil))) (sa_nil)))))) (sb_one (ss_if (st_cmp (o_eq hr) snd_eq (se_ix rfl (se_var 2) (se_int)) (se_str) (by rfl)) (sb_cons (ss_asg (se_pop rfl (se_fld (c := 2) rfl T.cls2 T.n2_stack (se_var 0))) (sg_tup false rfl rfl (gl_cons (gl_cons gl_nil)) (sgs_cons (sg_name 3 sc_Hand_work.nd) (sgs_cons (sg_name 4 sc_Hand_work.nd) sgs_nil))))
  (sb_one (ss_expr (se_meth (c := 2) (davs := []) rfl T.cls2 T.h_Hand_pushed ((ok_Hand_pushed T).mono (by decide)) hr hgu T.b_Hand_pushed .nil (fun _ _ _ => .nil) tk_cx rfl (len_cons (len_cons (fun _ _ _ _ z => len_nil z))) (se_var 0) (sa_cons (se_var 1) (sa_cons (se_ix rfl (se_var 4) (se_tIndex rfl rfl (se_var 3) (sa_cons (se_ix rfl (se_var 2) (se_int)) (sa_nil)))) (sa_nil))))))) (sb_one (ss_if (st_cmp (o_eq hr) snd_eq (se_ix rfl (se_var 2) (se_int)) (se_str) (by rfl)) (sb_one (ss_expr (se_meth (c := 2) (davs := []) rfl T.cls2 T.h_Hand_pushed ((ok_Hand_pushed T).mono (by decide)) hr hgu T.b_Hand_pushed .nil (fun _ _ _ => .nil) tk_cx rfl (len_cons (len_cons (fun _ _ _ _ z => len_nil z))) (se_var 0) (sa_cons (se_var 1) (sa_cons (se_add (se_pop rfl (se_fld (c := 2) rfl T.cls2 T.n2_stack (se_var 0))) (se_pop rfl (se_fld (c := 2) rfl T.cls2 T.n2_stack (se_var 0)))) (sa_nil)))))) (sb_one (ss_expr (se_append rfl (se_fld (c := 2) rfl T.cls2 T.n2_notes (se_var 0)) (sa_cons (se_tupF rfl (sa_cons (se_var 1) (sa_cons (se_pop rfl (se_fld (c := 2) rfl T.cls2 T.n2_stack (se_var 0))) (sa_nil)))) (sa_nil)))))))))))))))
theorem ok_Hand_step (T : Txt K mg) : FnG P w K mg base 5 T.a_Hand_step T.d_Hand_step ["self"] (spG (gx T) 1 m_Hand_step) :=
  okG T.F_Hand_step sc_Hand_step rfl fun cdv A outer s H E hr hgu => sb_cons (ss_if (st_cmp (opr_in (hu65 hr)) snd_in (se_ix rfl (se_ix rfl (se_fld (c := 2) rfl T.cls2 T.n2_program (se_var 0)) (se_fld (c := 2) rfl T.cls2 T.n2_spot (se_var 0))) (se_int)) (se_glob T.c_LEADING (w := .ref T.a_LEADING) rfl (fun _ _ _ => .tup (.inr (.inr ⟨rfl, T.t_LEADING⟩)) (.cons .str (.cons .str .nil)))) (by rfl)) (sb_cons (ss_expr (se_meth0 (c := 2) (davs := []) rfl T.cls2 T.h_Hand_lead ((ok_Hand_lead T).mono (by decide)) hr hgu T.b_Hand_lead .nil (fun _ _ _ => .nil) tk_cx rfl (se_var 0)))
  (sb_one (ss_retN))) (sb_nil))
  (sb_cons (ss_expr (se_meth (c := 2) (davs := []) rfl T.cls2 T.h_Hand_work ((ok_Hand_work T).mono (by decide)) hr hgu T.b_Hand_work .nil (fun _ _ _ => .nil) tk_cx rfl (len_cons (fun _ _ _ _ z => len_nil z)) (se_var 0) (sa_cons (se_fld (c := 2) rfl T.cls2 T.n2_spot (se_var 0)) (sa_nil))))
  (sb_one (ss_if (st_cmp op_isN snd_isN (se_fld (c := 2) rfl T.cls2 T.n2_outcome (se_var 0)) (se_non) (by rfl)) (sb_one (ss_expr (se_meth (c := 2) (davs := []) rfl T.cls2 T.h_Hand_go ((ok_Hand_go T).mono (by decide)) hr hgu T.b_Hand_go .nil (fun _ _ _ => .nil) tk_cx rfl (len_cons (fun _ _ _ _ z => len_nil z)) (se_var 0) (sa_cons (se_add (se_fld (c := 2) rfl T.cls2 T.n2_spot (se_var 0)) (se_int)) (sa_nil))))) (sb_nil))))
theorem ok_run (T : Txt K mg) : FnG P w K mg base 6 T.a_run T.d_run ["program", "inputs", "most"] (spG (gx T) 3 m_run) :=
  okG T.F_run sc_run rfl fun cdv A outer s H E hr hgu => sb_cons (ss_expr (se_call ((ok_must_be_program T).mono (by decide)) hr hgu T.g_must_be_program T.F_must_be_program.kp T.b_must_be_program .nil (fun _ _ _ => .nil) tk_cx rfl (len_cons (fun _ _ _ _ z => len_nil z)) (sa_cons (se_var 0) (sa_nil))))
  (sb_cons (ss_set 3 sc_run.nd (se_make (c := 2) (davs := []) rfl T.mk2 ((ok_Hand_init T).mono (by decide)) hr hgu T.g2 T.b_Hand_init .nil (fun _ _ _ => .nil) tk_cx rfl (len_cons (len_cons (fun _ _ _ _ z => len_nil z))) (sa_cons (se_tupleF rfl rfl T.z_tuple (sa_cons (se_var 0) (sa_nil))) (sa_cons (se_var 1) (sa_nil)))))
  (sb_cons (ss_while 100000 own_cx (st_w (sw_and (st_cmp op_isN snd_isN (se_fld (c := 2) rfl T.cls2 T.n2_outcome (se_var 3)) (se_non) (by rfl)) (sw_and1 (st_cmp opr_lt snd_B (se_len rfl T.z_len (sa_cons (se_fld (c := 2) rfl T.cls2 T.n2_notes (se_var 3)) (sa_nil))) (se_var 2) (by rfl))))) (sb_one (ss_expr (se_meth0 (c := 2) (davs := []) rfl T.cls2 T.h_Hand_step ((ok_Hand_step T).mono (by decide)) hr hgu T.b_Hand_step .nil (fun _ _ _ => .nil) tk_cx rfl (se_var 3)))))
  (sb_one (ss_ret (se_tupF rfl (sa_cons (se_fld (c := 2) rfl T.cls2 T.n2_notes (se_var 3)) (sa_cons (se_fld (c := 2) rfl T.cls2 T.n2_outcome (se_var 3)) (sa_nil))))))))
theorem ok_law (T : Txt K mg) : FnG P w K mg base 7 T.a_law T.d_law ["script"] (spG (gx T) 1 m_law) :=
  okG T.F_law sc_law rfl fun cdv A outer s H E hr hgu => sb_cons (ss_for 100000 own_cx rfl (si_rng1 T.z_range (sa_cons (se_max2 rfl T.z_max (sa_cons (se_int) (sa_cons (se_min2 rfl T.z_min (sa_cons (se_int) (sa_cons (se_len rfl T.z_len (sa_cons (se_var 0) (sa_nil))) (sa_nil)))) (sa_nil)))) (sa_nil))) (sg_name 1 sc_law.nd) (sb_cons (ss_set 2 sc_law.nd (se_call ((ok_law_tape T).mono (by decide)) hr hgu T.g_law_tape T.F_law_tape.kp T.b_law_tape .nil (fun _ _ _ => .nil) tk_cx rfl (len_cons (len_cons (fun _ _ _ _ z => len_nil z))) (sa_cons (se_var 0) (sa_cons (se_var 1) (sa_nil)))))
  (sb_cons (ss_par 3 4 rfl sc_law.nd (sa_cons (se_call ((ok_law_pick T).mono (by decide)) hr hgu T.g_law_pick T.F_law_pick.kp T.b_law_pick .nil (fun _ _ _ => .nil) tk_cx rfl (len_cons (len_cons (fun _ _ _ _ z => len_nil z))) (sa_cons (se_var 2) (sa_cons (se_pow (se_int) (se_int)) (sa_nil)))) (sa_cons (se_add (se_int) (se_call ((ok_law_pick T).mono (by decide)) hr hgu T.g_law_pick T.F_law_pick.kp T.b_law_pick .nil (fun _ _ _ => .nil) tk_cx rfl (len_cons (len_cons (fun _ _ _ _ z => len_nil z))) (sa_cons (se_var 2) (sa_cons (se_pow (se_int) (se_int)) (sa_nil))))) (sa_nil))))
  (sb_cons (ss_par 5 6 rfl sc_law.nd (sa_cons (se_tupF rfl (sa_cons (se_tupF rfl (sa_cons (se_str) (sa_nil))) (sa_cons (se_tupF rfl (sa_cons (se_var 3) (sa_nil))) (sa_nil)))) (sa_cons (se_tupF rfl (sa_cons (se_tupF rfl (sa_cons (se_str) (sa_cons (se_str) (sa_nil)))) (sa_cons (se_tupF rfl (sa_cons (se_int) (sa_cons (se_var 4) (sa_nil)))) (sa_nil)))) (sa_nil))))
  (sb_cons (ss_set 7 sc_law.nd (se_lst (sa_cons (se_tupF rfl (sa_cons (se_lst (sa_cons (se_tupF rfl (sa_cons (se_str) (sa_nil))) (sa_cons (se_tupF rfl (sa_cons (se_str) (sa_cons (se_str) (sa_nil)))) (sa_cons (se_tupF rfl (sa_cons (se_str) (sa_nil))) (sa_cons (se_tupF rfl (sa_cons (se_str) (sa_cons (se_int) (sa_nil)))) (sa_nil)))))) (sa_cons (se_lst (sa_cons (se_var 5) (sa_cons (se_var 6) (sa_nil)))) (sa_nil)))) (sa_nil))))
  (sb_cons (ss_set 8 sc_law.nd (se_lst (sa_cons (se_tupF rfl (sa_cons (se_lst (sa_cons (se_tupF rfl (sa_cons (se_int) (sa_cons (se_var 5) (sa_nil)))) (sa_cons (se_tupF rfl (sa_cons (se_int) (sa_cons (se_var 3) (sa_nil)))) (sa_cons (se_tupF rfl (sa_cons (se_int) (sa_cons (se_var 3) (sa_nil)))) (sa_cons (se_tupF rfl (sa_cons (se_int) (sa_cons (se_non) (sa_nil)))) (sa_cons (se_tupF rfl (sa_cons (se_int) (sa_cons (se_var 6) (sa_nil)))) (sa_cons (se_tupF rfl (sa_cons (se_int) (sa_cons (se_var 4) (sa_nil)))) (sa_cons (se_tupF rfl (sa_cons (se_int) (sa_cons (se_var 4) (sa_nil)))) (sa_cons (se_tupF rfl (sa_cons (se_int) (sa_cons (se_non) (sa_nil)))) (sa_nil)))))))))) (sa_cons (se_str) (sa_nil)))) (sa_nil))))
  (sb_cons (ss_expr (se_append rfl (se_var 7) (sa_cons (se_tupF rfl (sa_cons (se_lst (sa_cons (se_tupF rfl (sa_cons (se_str) (sa_nil))) (sa_cons (se_tupF rfl (sa_cons (se_str) (sa_nil))) (sa_cons (se_tupF rfl (sa_cons (se_str) (sa_nil))) (sa_cons (se_tupF rfl (sa_cons (se_str) (sa_cons (se_int) (sa_nil)))) (sa_cons (se_tupF rfl (sa_cons (se_str) (sa_cons (se_int) (sa_nil)))) (sa_cons (se_tupF rfl (sa_cons (se_str) (sa_nil))) (sa_nil)))))))) (sa_cons (se_lst (sa_cons (se_var 3) (sa_cons (se_sub (se_int) (se_var 3)) (sa_cons (se_int) (sa_nil))))) (sa_nil)))) (sa_nil))))
  (sb_cons (ss_expr (se_append rfl (se_var 8) (sa_cons (se_tupF rfl (sa_cons (se_lst (sa_cons (se_tupF rfl (sa_cons (se_int) (sa_cons (se_var 3) (sa_nil)))) (sa_cons (se_tupF rfl (sa_cons (se_int) (sa_cons (se_sub (se_int) (se_var 3)) (sa_nil)))) (sa_cons (se_tupF rfl (sa_cons (se_int) (sa_cons (se_int) (sa_nil)))) (sa_cons (se_tupF rfl (sa_cons (se_int) (sa_cons (se_non) (sa_nil)))) (sa_cons (se_tupF rfl (sa_cons (se_int) (sa_cons (se_int) (sa_nil)))) (sa_nil))))))) (sa_cons (se_str) (sa_nil)))) (sa_nil))))
  (sb_cons (ss_expr (se_append rfl (se_var 7) (sa_cons (se_tupF rfl (sa_cons (se_lst (sa_cons (se_tupF rfl (sa_cons (se_str) (sa_nil))) (sa_cons (se_tupF rfl (sa_cons (se_str) (sa_cons (se_int) (sa_nil)))) (sa_cons (se_tupF rfl (sa_cons (se_str) (sa_cons (se_int) (sa_nil)))) (sa_cons (se_tupF rfl (sa_cons (se_str) (sa_nil))) (sa_nil)))))) (sa_cons (se_lst (sa_cons (se_var 4) (sa_cons (se_int) (sa_nil)))) (sa_nil)))) (sa_nil))))
  (sb_cons (ss_expr (se_append rfl (se_var 8) (sa_cons (se_tupF rfl (sa_cons (se_lst (sa_cons (se_tupF rfl (sa_cons (se_int) (sa_cons (se_var 4) (sa_nil)))) (sa_cons (se_tupF rfl (sa_cons (se_int) (sa_cons (se_non) (sa_nil)))) (sa_cons (se_tupF rfl (sa_cons (se_int) (sa_cons (se_non) (sa_nil)))) (sa_cons (se_tupF rfl (sa_cons (se_int) (sa_cons (se_int) (sa_nil)))) (sa_cons (se_tupF rfl (sa_cons (se_int) (sa_cons (se_non) (sa_nil)))) (sa_nil))))))) (sa_cons (se_str) (sa_nil)))) (sa_nil))))
  (sb_cons (ss_expr (se_append rfl (se_var 7) (sa_cons (se_tupF rfl (sa_cons (se_lst (sa_cons (se_tupF rfl (sa_cons (se_str) (sa_nil))) (sa_cons (se_tupF rfl (sa_cons (se_str) (sa_nil))) (sa_cons (se_tupF rfl (sa_cons (se_str) (sa_nil))) (sa_nil))))) (sa_cons (se_lst (sa_cons (se_var 5) (sa_cons (se_var 3) (sa_nil)))) (sa_nil)))) (sa_nil))))
  (sb_cons (ss_expr (se_append rfl (se_var 8) (sa_cons (se_tupF rfl (sa_cons (se_lst (sa_cons (se_tupF rfl (sa_cons (se_int) (sa_cons (se_var 5) (sa_nil)))) (sa_cons (se_tupF rfl (sa_cons (se_int) (sa_cons (se_var 3) (sa_nil)))) (sa_nil)))) (sa_cons (se_str) (sa_nil)))) (sa_nil))))
  (sb_cons (ss_expr (se_append rfl (se_var 7) (sa_cons (se_tupF rfl (sa_cons (se_lst (sa_cons (se_tupF rfl (sa_cons (se_str) (sa_nil))) (sa_cons (se_tupF rfl (sa_cons (se_str) (sa_cons (se_str) (sa_nil)))) (sa_nil)))) (sa_cons (se_lst (sa_cons (se_var 5) (sa_nil))) (sa_nil)))) (sa_nil))))
  (sb_cons (ss_expr (se_append rfl (se_var 8) (sa_cons (se_tupF rfl (sa_cons (se_lst (sa_cons (se_tupF rfl (sa_cons (se_int) (sa_cons (se_var 5) (sa_nil)))) (sa_nil))) (sa_cons (se_str) (sa_nil)))) (sa_nil))))
  (sb_cons (ss_expr (se_append rfl (se_var 7) (sa_cons (se_tupF rfl (sa_cons (se_lst (sa_cons (se_tupF rfl (sa_cons (se_str) (sa_nil))) (sa_cons (se_tupF rfl (sa_cons (se_str) (sa_cons (se_str) (sa_nil)))) (sa_cons (se_tupF rfl (sa_cons (se_str) (sa_cons (se_str) (sa_nil)))) (sa_nil))))) (sa_cons (se_lst (sa_cons (se_var 6) (sa_nil))) (sa_nil)))) (sa_nil))))
  (sb_cons (ss_expr (se_append rfl (se_var 8) (sa_cons (se_tupF rfl (sa_cons (se_lst (sa_cons (se_tupF rfl (sa_cons (se_int) (sa_cons (se_var 6) (sa_nil)))) (sa_cons (se_tupF rfl (sa_cons (se_int) (sa_cons (se_var 4) (sa_nil)))) (sa_nil)))) (sa_cons (se_str) (sa_nil)))) (sa_nil))))
  (sb_cons (ss_expr (se_append rfl (se_var 7) (sa_cons (se_tupF rfl (sa_cons (se_lst (sa_cons (se_tupF rfl (sa_cons (se_str) (sa_nil))) (sa_cons (se_tupF rfl (sa_cons (se_str) (sa_nil))) (sa_nil)))) (sa_cons (se_lst (sa_cons (se_var 6) (sa_nil))) (sa_nil)))) (sa_nil))))
  (sb_cons (ss_expr (se_append rfl (se_var 8) (sa_cons (se_tupF rfl (sa_cons (se_lst (sa_cons (se_tupF rfl (sa_cons (se_int) (sa_cons (se_var 6) (sa_nil)))) (sa_nil))) (sa_cons (se_str) (sa_nil)))) (sa_nil))))
  (sb_cons (ss_set 7 sc_law.nd (se_add (se_var 7) (se_lst (sa_cons (se_tupF rfl (sa_cons (se_lst (sa_cons (se_tupF rfl (sa_cons (se_str) (sa_cons (se_int) (sa_nil)))) (sa_nil))) (sa_cons (se_lst (sa_nil)) (sa_nil)))) (sa_cons (se_tupF rfl (sa_cons (se_lst (sa_cons (se_tupF rfl (sa_cons (se_str) (sa_cons (se_int) (sa_nil)))) (sa_nil))) (sa_cons (se_lst (sa_cons (se_var 3) (sa_nil))) (sa_nil)))) (sa_cons (se_tupF rfl (sa_cons (se_lst (sa_cons (se_tupF rfl (sa_cons (se_str) (sa_nil))) (sa_cons (se_tupF rfl (sa_cons (se_str) (sa_nil))) (sa_nil)))) (sa_cons (se_lst (sa_cons (se_var 3) (sa_nil))) (sa_nil)))) (sa_nil)))))))
  (sb_cons (ss_set 8 sc_law.nd (se_add (se_var 8) (se_lst (sa_cons (se_tupF rfl (sa_cons (se_lst (sa_nil)) (sa_cons (se_str) (sa_nil)))) (sa_cons (se_tupF rfl (sa_cons (se_lst (sa_cons (se_tupF rfl (sa_cons (se_int) (sa_cons (se_non) (sa_nil)))) (sa_nil))) (sa_cons (se_str) (sa_nil)))) (sa_cons (se_tupF rfl (sa_cons (se_lst (sa_cons (se_tupF rfl (sa_cons (se_int) (sa_cons (se_var 3) (sa_nil)))) (sa_nil))) (sa_cons (se_str) (sa_nil)))) (sa_nil)))))))
  (sb_cons (ss_if (st_cmp (o_ne hr) snd_ne (se_lc 100000 [("program", 9), ("inputs", 10)] rfl sc_law.nd (by rfl) (si_seq rfl (se_var 7)) (fun _ _ _ _ _ => sg_tup false rfl rfl (gl_cons (gl_cons gl_nil)) (sgs_cons (sg_name 9 sc_law.nd) (sgs_cons (sg_name 10 sc_law.nd) sgs_nil))) (fun _ _ _ _ _ => sts_nil) (fun _ _ _ _ _ => se_call ((ok_run T).mono (by decide)) hr hgu T.g_run T.F_run.kp T.bd_run T.vd_run (fun _ _ _ => (.cons .int .nil)) takes0 rfl (len_cons (len_cons (fun _ _ _ _ z => len_nil z))) (sa_cons (se_var 9) (sa_cons (se_var 10) (sa_nil))))) (se_var 8) (by rfl)) (sb_one (ss_ret (se_bl))) (sb_nil))
  (sb_cons (ss_if (st_w (sw_or (st_cmp (o_ne hr) snd_ne (se_callK ((ok_run T).mono (by decide)) hr hgu T.g_run T.F_run.kp T.bk_run (fun _ _ _ _ _ _ _ r1 r2 => r1.append r2) (fun vs zs h1 h2 => by rw [List.length_append, h1, h2]; rfl) tk_cx (len_cons (len_cons (fun _ _ _ _ z => len_nil z))) (len_cons (fun _ _ _ _ z => len_nil z)) (sa_cons (se_ix rfl (se_ix rfl (se_var 7) (se_int)) (se_int)) (sa_cons (se_lst (sa_cons (se_var 5) (sa_cons (se_var 6) (sa_nil)))) (sa_nil))) (sk_cons (se_int) (sk_nil))) (se_tupF rfl (sa_cons (se_slice rfl (se_ix rfl (se_ix rfl (se_var 8) (se_int)) (se_int)) sp_none (sp_some (se_int))) (sa_cons (se_non) (sa_nil)))) (by rfl)) (sw_or1 (st_cmp (o_ne hr) snd_ne (se_callK ((ok_run T).mono (by decide)) hr hgu T.g_run T.F_run.kp T.bk_run (fun _ _ _ _ _ _ _ r1 r2 => r1.append r2) (fun vs zs h1 h2 => by rw [List.length_append, h1, h2]; rfl) tk_cx (len_cons (len_cons (fun _ _ _ _ z => len_nil z))) (len_cons (fun _ _ _ _ z => len_nil z)) (sa_cons (se_ix rfl (se_ix rfl (se_var 7) (se_int)) (se_int)) (sa_cons (se_lst (sa_cons (se_var 5) (sa_nil))) (sa_nil))) (sk_cons (se_int) (sk_nil))) (se_tupF rfl (sa_cons (se_lst (sa_nil)) (sa_cons (se_non) (sa_nil)))) (by rfl))))) (sb_one (ss_ret (se_bl))) (sb_nil))
  (sb_one (ss_if (st_cmp (o_ne hr) snd_ne (se_callK ((ok_run T).mono (by decide)) hr hgu T.g_run T.F_run.kp T.bk_run (fun _ _ _ _ _ _ _ r1 r2 => r1.append r2) (fun vs zs h1 h2 => by rw [List.length_append, h1, h2]; rfl) tk_cx (len_cons (len_cons (fun _ _ _ _ z => len_nil z))) (len_cons (fun _ _ _ _ z => len_nil z)) (sa_cons (se_lst (sa_cons (se_tupF rfl (sa_cons (se_str) (sa_nil))) (sa_nil))) (sa_cons (se_lst (sa_cons (se_var 3) (sa_nil))) (sa_nil))) (sk_cons (se_int) (sk_nil))) (se_tupF rfl (sa_cons (se_lst (sa_cons (se_tupF rfl (sa_cons (se_int) (sa_cons (se_var 3) (sa_nil)))) (sa_nil))) (sa_cons (se_str) (sa_nil)))) (by rfl)) (sb_one (ss_ret (se_bl))) (sb_nil)))))))))))))))))))))))))
  (sb_one (ss_ret (se_bl)))
end
theorem all_mk {l : PySem.W.OpenLaw} {w : World} {K : PySem.W.Frag} {h : Heap} {mg : Str → Option Value} {fa : Addr} (X : K.In h) (G : h.Ns mainGlobals mg) (hfa : mg "law" = some (.ref fa))
    {C2 f_law_tape f_law_pick f_is_name f_is_integer f_is_step f_is_program f_must_be_program f_Hand_init f_is_number f_Hand_shape_for f_Hand_can_pop f_Hand_can_do f_Hand_go f_Hand_lead f_Hand_pushed f_Hand_work f_Hand_step f_run f_law D_run : Addr}
    {od_law_tape an_law_tape : Option Addr} {sl_law_tape : Array (Option Value)} {oc_law_tape kV_law_tape dc_law_tape pm_law_tape cd_law_tape ct_law_tape : Value}
    {od_law_pick an_law_pick : Option Addr} {sl_law_pick : Array (Option Value)} {oc_law_pick kV_law_pick dc_law_pick pm_law_pick cd_law_pick ct_law_pick : Value}
    {od_is_name an_is_name : Option Addr} {sl_is_name : Array (Option Value)} {oc_is_name kV_is_name dc_is_name pm_is_name cd_is_name ct_is_name : Value}
    {od_is_integer an_is_integer : Option Addr} {sl_is_integer : Array (Option Value)} {oc_is_integer kV_is_integer dc_is_integer pm_is_integer cd_is_integer ct_is_integer : Value}
    {od_is_step an_is_step : Option Addr} {sl_is_step : Array (Option Value)} {oc_is_step kV_is_step dc_is_step pm_is_step cd_is_step ct_is_step : Value}
    {od_is_program an_is_program : Option Addr} {sl_is_program : Array (Option Value)} {oc_is_program kV_is_program dc_is_program pm_is_program cd_is_program ct_is_program : Value}
    {od_must_be_program an_must_be_program : Option Addr} {sl_must_be_program : Array (Option Value)} {oc_must_be_program kV_must_be_program dc_must_be_program pm_must_be_program cd_must_be_program ct_must_be_program : Value}
    {od_Hand_init an_Hand_init : Option Addr} {sl_Hand_init : Array (Option Value)} {oc_Hand_init kV_Hand_init dc_Hand_init pm_Hand_init cd_Hand_init ct_Hand_init : Value}
    {od_is_number an_is_number : Option Addr} {sl_is_number : Array (Option Value)} {oc_is_number kV_is_number dc_is_number pm_is_number cd_is_number ct_is_number : Value}
    {od_Hand_shape_for an_Hand_shape_for : Option Addr} {sl_Hand_shape_for : Array (Option Value)} {oc_Hand_shape_for kV_Hand_shape_for dc_Hand_shape_for pm_Hand_shape_for cd_Hand_shape_for ct_Hand_shape_for : Value}
    {od_Hand_can_pop an_Hand_can_pop : Option Addr} {sl_Hand_can_pop : Array (Option Value)} {oc_Hand_can_pop kV_Hand_can_pop dc_Hand_can_pop pm_Hand_can_pop cd_Hand_can_pop ct_Hand_can_pop : Value}
    {od_Hand_can_do an_Hand_can_do : Option Addr} {sl_Hand_can_do : Array (Option Value)} {oc_Hand_can_do kV_Hand_can_do dc_Hand_can_do pm_Hand_can_do cd_Hand_can_do ct_Hand_can_do : Value}
    {od_Hand_go an_Hand_go : Option Addr} {sl_Hand_go : Array (Option Value)} {oc_Hand_go kV_Hand_go dc_Hand_go pm_Hand_go cd_Hand_go ct_Hand_go : Value}
    {od_Hand_lead an_Hand_lead : Option Addr} {sl_Hand_lead : Array (Option Value)} {oc_Hand_lead kV_Hand_lead dc_Hand_lead pm_Hand_lead cd_Hand_lead ct_Hand_lead : Value}
    {od_Hand_pushed an_Hand_pushed : Option Addr} {sl_Hand_pushed : Array (Option Value)} {oc_Hand_pushed kV_Hand_pushed dc_Hand_pushed pm_Hand_pushed cd_Hand_pushed ct_Hand_pushed : Value}
    {od_Hand_work an_Hand_work : Option Addr} {sl_Hand_work : Array (Option Value)} {oc_Hand_work kV_Hand_work dc_Hand_work pm_Hand_work cd_Hand_work ct_Hand_work : Value}
    {od_Hand_step an_Hand_step : Option Addr} {sl_Hand_step : Array (Option Value)} {oc_Hand_step kV_Hand_step dc_Hand_step pm_Hand_step cd_Hand_step ct_Hand_step : Value}
    {od_run an_run : Option Addr} {sl_run : Array (Option Value)} {oc_run dc_run pm_run cd_run ct_run : Value}
    {od_law an_law : Option Addr} {sl_law : Array (Option Value)} {oc_law kV_law dc_law pm_law cd_law ct_law : Value}
    (aC2 : PySem.W.nsIn K mainGlobals "Hand" = some (some (.ref C2)))
    (a_law_tape : PySem.W.nsIn K mainGlobals "_law_tape" = some (some (.ref f_law_tape)))
    (l_law_tape : K.lookup f_law_tape = some ⟨oc_law_tape, od_law_tape, .func (PySem.W.fnOf "_law_tape" "_law_tape" (defArgs s_law_tape) (defBody s_law_tape) (defScope s_law_tape) .none kV_law_tape dc_law_tape pm_law_tape an_law_tape cd_law_tape ct_law_tape), sl_law_tape⟩)
    (c_law_tape : PySem.W.codeIn K cd_law_tape "_law_tape" = true)
    (k_law_tape : PySem.W.keepIn K (.ref f_law_tape) = true)
    (a_law_pick : PySem.W.nsIn K mainGlobals "_law_pick" = some (some (.ref f_law_pick)))
    (l_law_pick : K.lookup f_law_pick = some ⟨oc_law_pick, od_law_pick, .func (PySem.W.fnOf "_law_pick" "_law_pick" (defArgs s_law_pick) (defBody s_law_pick) (defScope s_law_pick) .none kV_law_pick dc_law_pick pm_law_pick an_law_pick cd_law_pick ct_law_pick), sl_law_pick⟩)
    (c_law_pick : PySem.W.codeIn K cd_law_pick "_law_pick" = true)
    (k_law_pick : PySem.W.keepIn K (.ref f_law_pick) = true)
    (a_is_name : PySem.W.nsIn K mainGlobals "is_name" = some (some (.ref f_is_name)))
    (l_is_name : K.lookup f_is_name = some ⟨oc_is_name, od_is_name, .func (PySem.W.fnOf "is_name" "is_name" (defArgs s_is_name) (defBody s_is_name) (defScope s_is_name) .none kV_is_name dc_is_name pm_is_name an_is_name cd_is_name ct_is_name), sl_is_name⟩)
    (c_is_name : PySem.W.codeIn K cd_is_name "is_name" = true)
    (k_is_name : PySem.W.keepIn K (.ref f_is_name) = true)
    (a_is_integer : PySem.W.nsIn K mainGlobals "is_integer" = some (some (.ref f_is_integer)))
    (l_is_integer : K.lookup f_is_integer = some ⟨oc_is_integer, od_is_integer, .func (PySem.W.fnOf "is_integer" "is_integer" (defArgs s_is_integer) (defBody s_is_integer) (defScope s_is_integer) .none kV_is_integer dc_is_integer pm_is_integer an_is_integer cd_is_integer ct_is_integer), sl_is_integer⟩)
    (c_is_integer : PySem.W.codeIn K cd_is_integer "is_integer" = true)
    (k_is_integer : PySem.W.keepIn K (.ref f_is_integer) = true)
    (a_is_step : PySem.W.nsIn K mainGlobals "is_step" = some (some (.ref f_is_step)))
    (l_is_step : K.lookup f_is_step = some ⟨oc_is_step, od_is_step, .func (PySem.W.fnOf "is_step" "is_step" (defArgs s_is_step) (defBody s_is_step) (defScope s_is_step) .none kV_is_step dc_is_step pm_is_step an_is_step cd_is_step ct_is_step), sl_is_step⟩)
    (c_is_step : PySem.W.codeIn K cd_is_step "is_step" = true)
    (k_is_step : PySem.W.keepIn K (.ref f_is_step) = true)
    (a_is_program : PySem.W.nsIn K mainGlobals "is_program" = some (some (.ref f_is_program)))
    (l_is_program : K.lookup f_is_program = some ⟨oc_is_program, od_is_program, .func (PySem.W.fnOf "is_program" "is_program" (defArgs s_is_program) (defBody s_is_program) (defScope s_is_program) .none kV_is_program dc_is_program pm_is_program an_is_program cd_is_program ct_is_program), sl_is_program⟩)
    (c_is_program : PySem.W.codeIn K cd_is_program "is_program" = true)
    (k_is_program : PySem.W.keepIn K (.ref f_is_program) = true)
    (a_must_be_program : PySem.W.nsIn K mainGlobals "must_be_program" = some (some (.ref f_must_be_program)))
    (l_must_be_program : K.lookup f_must_be_program = some ⟨oc_must_be_program, od_must_be_program, .func (PySem.W.fnOf "must_be_program" "must_be_program" (defArgs s_must_be_program) (defBody s_must_be_program) (defScope s_must_be_program) .none kV_must_be_program dc_must_be_program pm_must_be_program an_must_be_program cd_must_be_program ct_must_be_program), sl_must_be_program⟩)
    (c_must_be_program : PySem.W.codeIn K cd_must_be_program "must_be_program" = true)
    (k_must_be_program : PySem.W.keepIn K (.ref f_must_be_program) = true)
    (a_Hand_init : PySem.W.findIn K (.ref C2) "__init__" = some (some (.ref f_Hand_init)))
    (i_Hand_init : PySem.W.isFn K (.ref f_Hand_init) = true)
    (l_Hand_init : K.lookup f_Hand_init = some ⟨oc_Hand_init, od_Hand_init, .func (PySem.W.fnOf "__init__" "Hand.__init__" (defArgs s_Hand_init) (defBody s_Hand_init) (defScope s_Hand_init) .none kV_Hand_init dc_Hand_init pm_Hand_init an_Hand_init cd_Hand_init ct_Hand_init), sl_Hand_init⟩)
    (c_Hand_init : PySem.W.codeIn K cd_Hand_init "Hand.__init__" = true)
    (k_Hand_init : PySem.W.keepIn K (.ref f_Hand_init) = true)
    (a_is_number : PySem.W.nsIn K mainGlobals "is_number" = some (some (.ref f_is_number)))
    (l_is_number : K.lookup f_is_number = some ⟨oc_is_number, od_is_number, .func (PySem.W.fnOf "is_number" "is_number" (defArgs s_is_number) (defBody s_is_number) (defScope s_is_number) .none kV_is_number dc_is_number pm_is_number an_is_number cd_is_number ct_is_number), sl_is_number⟩)
    (c_is_number : PySem.W.codeIn K cd_is_number "is_number" = true)
    (k_is_number : PySem.W.keepIn K (.ref f_is_number) = true)
    (a_Hand_shape_for : PySem.W.findIn K (.ref C2) "shape_for" = some (some (.ref f_Hand_shape_for)))
    (i_Hand_shape_for : PySem.W.isFn K (.ref f_Hand_shape_for) = true)
    (l_Hand_shape_for : K.lookup f_Hand_shape_for = some ⟨oc_Hand_shape_for, od_Hand_shape_for, .func (PySem.W.fnOf "shape_for" "Hand.shape_for" (defArgs s_Hand_shape_for) (defBody s_Hand_shape_for) (defScope s_Hand_shape_for) .none kV_Hand_shape_for dc_Hand_shape_for pm_Hand_shape_for an_Hand_shape_for cd_Hand_shape_for ct_Hand_shape_for), sl_Hand_shape_for⟩)
    (c_Hand_shape_for : PySem.W.codeIn K cd_Hand_shape_for "Hand.shape_for" = true)
    (k_Hand_shape_for : PySem.W.keepIn K (.ref f_Hand_shape_for) = true)
    (a_Hand_can_pop : PySem.W.findIn K (.ref C2) "can_pop" = some (some (.ref f_Hand_can_pop)))
    (i_Hand_can_pop : PySem.W.isFn K (.ref f_Hand_can_pop) = true)
    (l_Hand_can_pop : K.lookup f_Hand_can_pop = some ⟨oc_Hand_can_pop, od_Hand_can_pop, .func (PySem.W.fnOf "can_pop" "Hand.can_pop" (defArgs s_Hand_can_pop) (defBody s_Hand_can_pop) (defScope s_Hand_can_pop) .none kV_Hand_can_pop dc_Hand_can_pop pm_Hand_can_pop an_Hand_can_pop cd_Hand_can_pop ct_Hand_can_pop), sl_Hand_can_pop⟩)
    (c_Hand_can_pop : PySem.W.codeIn K cd_Hand_can_pop "Hand.can_pop" = true)
    (k_Hand_can_pop : PySem.W.keepIn K (.ref f_Hand_can_pop) = true)
    (a_Hand_can_do : PySem.W.findIn K (.ref C2) "can_do" = some (some (.ref f_Hand_can_do)))
    (i_Hand_can_do : PySem.W.isFn K (.ref f_Hand_can_do) = true)
    (l_Hand_can_do : K.lookup f_Hand_can_do = some ⟨oc_Hand_can_do, od_Hand_can_do, .func (PySem.W.fnOf "can_do" "Hand.can_do" (defArgs s_Hand_can_do) (defBody s_Hand_can_do) (defScope s_Hand_can_do) .none kV_Hand_can_do dc_Hand_can_do pm_Hand_can_do an_Hand_can_do cd_Hand_can_do ct_Hand_can_do), sl_Hand_can_do⟩)
    (c_Hand_can_do : PySem.W.codeIn K cd_Hand_can_do "Hand.can_do" = true)
    (k_Hand_can_do : PySem.W.keepIn K (.ref f_Hand_can_do) = true)
    (a_Hand_go : PySem.W.findIn K (.ref C2) "go" = some (some (.ref f_Hand_go)))
    (i_Hand_go : PySem.W.isFn K (.ref f_Hand_go) = true)
    (l_Hand_go : K.lookup f_Hand_go = some ⟨oc_Hand_go, od_Hand_go, .func (PySem.W.fnOf "go" "Hand.go" (defArgs s_Hand_go) (defBody s_Hand_go) (defScope s_Hand_go) .none kV_Hand_go dc_Hand_go pm_Hand_go an_Hand_go cd_Hand_go ct_Hand_go), sl_Hand_go⟩)
    (c_Hand_go : PySem.W.codeIn K cd_Hand_go "Hand.go" = true)
    (k_Hand_go : PySem.W.keepIn K (.ref f_Hand_go) = true)
    (a_Hand_lead : PySem.W.findIn K (.ref C2) "lead" = some (some (.ref f_Hand_lead)))
    (i_Hand_lead : PySem.W.isFn K (.ref f_Hand_lead) = true)
    (l_Hand_lead : K.lookup f_Hand_lead = some ⟨oc_Hand_lead, od_Hand_lead, .func (PySem.W.fnOf "lead" "Hand.lead" (defArgs s_Hand_lead) (defBody s_Hand_lead) (defScope s_Hand_lead) .none kV_Hand_lead dc_Hand_lead pm_Hand_lead an_Hand_lead cd_Hand_lead ct_Hand_lead), sl_Hand_lead⟩)
    (c_Hand_lead : PySem.W.codeIn K cd_Hand_lead "Hand.lead" = true)
    (k_Hand_lead : PySem.W.keepIn K (.ref f_Hand_lead) = true)
    (a_Hand_pushed : PySem.W.findIn K (.ref C2) "pushed" = some (some (.ref f_Hand_pushed)))
    (i_Hand_pushed : PySem.W.isFn K (.ref f_Hand_pushed) = true)
    (l_Hand_pushed : K.lookup f_Hand_pushed = some ⟨oc_Hand_pushed, od_Hand_pushed, .func (PySem.W.fnOf "pushed" "Hand.pushed" (defArgs s_Hand_pushed) (defBody s_Hand_pushed) (defScope s_Hand_pushed) .none kV_Hand_pushed dc_Hand_pushed pm_Hand_pushed an_Hand_pushed cd_Hand_pushed ct_Hand_pushed), sl_Hand_pushed⟩)
    (c_Hand_pushed : PySem.W.codeIn K cd_Hand_pushed "Hand.pushed" = true)
    (k_Hand_pushed : PySem.W.keepIn K (.ref f_Hand_pushed) = true)
    (a_Hand_work : PySem.W.findIn K (.ref C2) "work" = some (some (.ref f_Hand_work)))
    (i_Hand_work : PySem.W.isFn K (.ref f_Hand_work) = true)
    (l_Hand_work : K.lookup f_Hand_work = some ⟨oc_Hand_work, od_Hand_work, .func (PySem.W.fnOf "work" "Hand.work" (defArgs s_Hand_work) (defBody s_Hand_work) (defScope s_Hand_work) .none kV_Hand_work dc_Hand_work pm_Hand_work an_Hand_work cd_Hand_work ct_Hand_work), sl_Hand_work⟩)
    (c_Hand_work : PySem.W.codeIn K cd_Hand_work "Hand.work" = true)
    (k_Hand_work : PySem.W.keepIn K (.ref f_Hand_work) = true)
    (a_Hand_step : PySem.W.findIn K (.ref C2) "step" = some (some (.ref f_Hand_step)))
    (i_Hand_step : PySem.W.isFn K (.ref f_Hand_step) = true)
    (l_Hand_step : K.lookup f_Hand_step = some ⟨oc_Hand_step, od_Hand_step, .func (PySem.W.fnOf "step" "Hand.step" (defArgs s_Hand_step) (defBody s_Hand_step) (defScope s_Hand_step) .none kV_Hand_step dc_Hand_step pm_Hand_step an_Hand_step cd_Hand_step ct_Hand_step), sl_Hand_step⟩)
    (c_Hand_step : PySem.W.codeIn K cd_Hand_step "Hand.step" = true)
    (k_Hand_step : PySem.W.keepIn K (.ref f_Hand_step) = true)
    (a_run : PySem.W.nsIn K mainGlobals "run" = some (some (.ref f_run)))
    (l_run : K.lookup f_run = some ⟨oc_run, od_run, .func (PySem.W.fnOf "run" "run" (defArgs s_run) (defBody s_run) (defScope s_run) .none (.ref D_run) dc_run pm_run an_run cd_run ct_run), sl_run⟩)
    (c_run : PySem.W.codeIn K cd_run "run" = true)
    (k_run : PySem.W.keepIn K (.ref f_run) = true)
    {w_run_most : Value}
    (w1_run_most : PySem.W.nsIn K D_run "most" = some (some w_run_most))
    (w2_run_most : RelV (.int 1000) w_run_most)
    (a_law : PySem.W.nsIn K mainGlobals "law" = some (some (.ref f_law)))
    (l_law : K.lookup f_law = some ⟨oc_law, od_law, .func (PySem.W.fnOf "law" "law" (defArgs s_law) (defBody s_law) (defScope s_law) .none kV_law dc_law pm_law an_law cd_law ct_law), sl_law⟩)
    (c_law : PySem.W.codeIn K cd_law "law" = true)
    (k_law : PySem.W.keepIn K (.ref f_law) = true)
    (pg2 : PySem.W.plainGet K C2 Str.empty = true)
    (hd2 : PySem.W.hasDictIn K C2 = true)
    (po2 : PySem.W.plainOver K C2 = true)
    (sa2 : PySem.W.findIn K (.ref C2) "__setattr__" = some (some (.builtin "object.__setattr__")))
    (mk2 : PySem.W.makesIn K C2 = true)
    (kc2 : PySem.W.keepIn K (.ref C2) = true)
    (n2_left : PySem.W.findIn K (.ref C2) "left" = some none)
    (n2_notes : PySem.W.findIn K (.ref C2) "notes" = some none)
    (n2_outcome : PySem.W.findIn K (.ref C2) "outcome" = some none)
    (n2_program : PySem.W.findIn K (.ref C2) "program" = some none)
    (n2_spot : PySem.W.findIn K (.ref C2) "spot" = some none)
    (n2_stack : PySem.W.findIn K (.ref C2) "stack" = some none)
    {uu_MOST_STEPS : Value}
    (c_MOST_STEPS : PySem.W.nsIn K mainGlobals "MOST_STEPS" = some (some uu_MOST_STEPS))
    (v_MOST_STEPS : RelV (.int 40) uu_MOST_STEPS)
    {aa_PLAIN_WORDS : Addr} {it_PLAIN_WORDS : Array Value} {nn_PLAIN_WORDS : Nat} {ss_PLAIN_WORDS : Array (Option Value)}
    (c_PLAIN_WORDS : PySem.W.nsIn K mainGlobals "PLAIN_WORDS" = some (some (.ref aa_PLAIN_WORDS)))
    (t_PLAIN_WORDS : K.lookup aa_PLAIN_WORDS = some ⟨.type "tuple", none, .seq it_PLAIN_WORDS nn_PLAIN_WORDS, ss_PLAIN_WORDS⟩)
    (v_PLAIN_WORDS : Vals [(.str "take"), (.str "add"), (.str "tell")] it_PLAIN_WORDS.toList)
    {aa_LEADING : Addr} {it_LEADING : Array Value} {nn_LEADING : Nat} {ss_LEADING : Array (Option Value)}
    (c_LEADING : PySem.W.nsIn K mainGlobals "LEADING" = some (some (.ref aa_LEADING)))
    (t_LEADING : K.lookup aa_LEADING = some ⟨.type "tuple", none, .seq it_LEADING nn_LEADING, ss_LEADING⟩)
    (v_LEADING : Vals [(.str "jump"), (.str "branch")] it_LEADING.toList)
    {uu_MOST_LETTERS : Value}
    (c_MOST_LETTERS : PySem.W.nsIn K mainGlobals "MOST_LETTERS" = some (some uu_MOST_LETTERS))
    (v_MOST_LETTERS : RelV (.int 6) uu_MOST_LETTERS)
    (z_range : PySem.W.nsIn K mainGlobals "range" = some none)
    (z_max : PySem.W.nsIn K mainGlobals "max" = some none)
    (z_min : PySem.W.nsIn K mainGlobals "min" = some none)
    (z_len : PySem.W.nsIn K mainGlobals "len" = some none)
    (z_int : PySem.W.nsIn K mainGlobals "int" = some none)
    (z_tuple : PySem.W.nsIn K mainGlobals "tuple" = some none)
    (z_isinstance : PySem.W.nsIn K mainGlobals "isinstance" = some none)
    (z_list : PySem.W.nsIn K mainGlobals "list" = some none)
    (z_all : PySem.W.nsIn K mainGlobals "all" = some none)
    (z_str : PySem.W.nsIn K mainGlobals "str" = some none)
    (z_bool : PySem.W.nsIn K mainGlobals "bool" = some none)
    : ∃ (fd : FuncData) (cl : Nat → Addr), (∀ (s : Shared) (u : Value), BindsTo s fd ⟨[u], []⟩ [("script", u)]) ∧ ∀ base : Heap, K.In base → base.Ns mainGlobals mg → FnG l.prog w K mg base 7 fa fd ["script"] (spG ⟨K, cl, true⟩ 1 m_law) := by
  have e := hfa.symm.trans (PySem.W.mg_of X G a_law)
  cases e
  have F_law_tape := funD0 l_law_tape c_law_tape k_law_tape
  have b_law_tape := F_law_tape.bindsN (ps := ["script", "start"]) fun _ _ _ _ _ _ us hl => match us, hl with | [_, _], _ => rfl
  have F_law_pick := funD0 l_law_pick c_law_pick k_law_pick
  have b_law_pick := F_law_pick.bindsN (ps := ["tape", "many"]) fun _ _ _ _ _ _ us hl => match us, hl with | [_, _], _ => rfl
  have F_is_name := funD0 l_is_name c_is_name k_is_name
  have b_is_name := F_is_name.bindsN (ps := ["value"]) fun _ _ _ _ _ _ us hl => match us, hl with | [_], _ => rfl
  have F_is_integer := funD0 l_is_integer c_is_integer k_is_integer
  have b_is_integer := F_is_integer.bindsN (ps := ["value", "low", "high"]) fun _ _ _ _ _ _ us hl => match us, hl with | [_, _, _], _ => rfl
  have F_is_step := funD0 l_is_step c_is_step k_is_step
  have b_is_step := F_is_step.bindsN (ps := ["value", "many"]) fun _ _ _ _ _ _ us hl => match us, hl with | [_, _], _ => rfl
  have F_is_program := funD0 l_is_program c_is_program k_is_program
  have b_is_program := F_is_program.bindsN (ps := ["value"]) fun _ _ _ _ _ _ us hl => match us, hl with | [_], _ => rfl
  have F_must_be_program := funD0 l_must_be_program c_must_be_program k_must_be_program
  have b_must_be_program := F_must_be_program.bindsN (ps := ["value"]) fun _ _ _ _ _ _ us hl => match us, hl with | [_], _ => rfl
  have F_Hand_init := funD0 l_Hand_init c_Hand_init k_Hand_init
  have b_Hand_init := F_Hand_init.bindsN (ps := ["self", "program", "inputs"]) fun _ _ _ _ _ _ us hl => match us, hl with | [_, _, _], _ => rfl
  have F_is_number := funD0 l_is_number c_is_number k_is_number
  have b_is_number := F_is_number.bindsN (ps := ["value"]) fun _ _ _ _ _ _ us hl => match us, hl with | [_], _ => rfl
  have F_Hand_shape_for := funD0 l_Hand_shape_for c_Hand_shape_for k_Hand_shape_for
  have b_Hand_shape_for := F_Hand_shape_for.bindsN (ps := ["self", "name"]) fun _ _ _ _ _ _ us hl => match us, hl with | [_, _], _ => rfl
  have F_Hand_can_pop := funD0 l_Hand_can_pop c_Hand_can_pop k_Hand_can_pop
  have b_Hand_can_pop := F_Hand_can_pop.bindsN (ps := ["self", "many"]) fun _ _ _ _ _ _ us hl => match us, hl with | [_, _], _ => rfl
  have F_Hand_can_do := funD0 l_Hand_can_do c_Hand_can_do k_Hand_can_do
  have b_Hand_can_do := F_Hand_can_do.bindsN (ps := ["self", "step"]) fun _ _ _ _ _ _ us hl => match us, hl with | [_, _], _ => rfl
  have F_Hand_go := funD0 l_Hand_go c_Hand_go k_Hand_go
  have b_Hand_go := F_Hand_go.bindsN (ps := ["self", "place"]) fun _ _ _ _ _ _ us hl => match us, hl with | [_, _], _ => rfl
  have F_Hand_lead := funD0 l_Hand_lead c_Hand_lead k_Hand_lead
  have b_Hand_lead := F_Hand_lead.bindsN (ps := ["self"]) fun _ _ _ _ _ _ us hl => match us, hl with | [_], _ => rfl
  have F_Hand_pushed := funD0 l_Hand_pushed c_Hand_pushed k_Hand_pushed
  have b_Hand_pushed := F_Hand_pushed.bindsN (ps := ["self", "place", "value"]) fun _ _ _ _ _ _ us hl => match us, hl with | [_, _, _], _ => rfl
  have F_Hand_work := funD0 l_Hand_work c_Hand_work k_Hand_work
  have b_Hand_work := F_Hand_work.bindsN (ps := ["self", "place"]) fun _ _ _ _ _ _ us hl => match us, hl with | [_, _], _ => rfl
  have F_Hand_step := funD0 l_Hand_step c_Hand_step k_Hand_step
  have b_Hand_step := F_Hand_step.bindsN (ps := ["self"]) fun _ _ _ _ _ _ us hl => match us, hl with | [_], _ => rfl
  have F_run := funDk (kws := [("most", (.int 1000))]) l_run c_run k_run (kws1 w1_run_most w2_run_most)
  obtain ⟨ds_run, vd_run, bd_run⟩ := F_run.binds0 (ps := ["program", "inputs", "most"]) 2 (by simp) rfl fun _ _ _ _ _ _ us ks h1 h2 => match us, ks, h1, h2 with | [_, _], [_], _, _ => ⟨_, _, _, _, _, _, rfl, rfl, rfl⟩
  have bk_run := kbnAll (ps := ["program", "inputs", "most"]) F_run 2 ["most"] fun _ _ _ _ _ _ us ws h1 h2 => match us, ws, h1, h2 with | [_, _], [_], _, _ => rfl
  have F_law := funD0 l_law c_law k_law
  have b_law := F_law.bindsN (ps := ["script"]) fun _ _ _ _ _ _ us hl => match us, hl with | [_], _ => rfl
  let T : Txt K mg := {
    C2 := C2, g2 := PySem.W.mg_of X G aC2, cls2 := ⟨pg2, hd2, po2, sa2⟩
    n2_left := n2_left
    n2_notes := n2_notes
    n2_outcome := n2_outcome
    n2_program := n2_program
    n2_spot := n2_spot
    n2_stack := n2_stack
    a_law_tape := _, d_law_tape := _, F_law_tape := F_law_tape
    g_law_tape := PySem.W.mg_of X G a_law_tape
    b_law_tape := b_law_tape
    a_law_pick := _, d_law_pick := _, F_law_pick := F_law_pick
    g_law_pick := PySem.W.mg_of X G a_law_pick
    b_law_pick := b_law_pick
    a_is_name := _, d_is_name := _, F_is_name := F_is_name
    g_is_name := PySem.W.mg_of X G a_is_name
    b_is_name := b_is_name
    a_is_integer := _, d_is_integer := _, F_is_integer := F_is_integer
    g_is_integer := PySem.W.mg_of X G a_is_integer
    b_is_integer := b_is_integer
    a_is_step := _, d_is_step := _, F_is_step := F_is_step
    g_is_step := PySem.W.mg_of X G a_is_step
    b_is_step := b_is_step
    a_is_program := _, d_is_program := _, F_is_program := F_is_program
    g_is_program := PySem.W.mg_of X G a_is_program
    b_is_program := b_is_program
    a_must_be_program := _, d_must_be_program := _, F_must_be_program := F_must_be_program
    g_must_be_program := PySem.W.mg_of X G a_must_be_program
    b_must_be_program := b_must_be_program
    a_Hand_init := _, d_Hand_init := _, F_Hand_init := F_Hand_init
    mk2 := ⟨mk2, a_Hand_init, i_Hand_init, kc2⟩
    b_Hand_init := b_Hand_init
    a_is_number := _, d_is_number := _, F_is_number := F_is_number
    g_is_number := PySem.W.mg_of X G a_is_number
    b_is_number := b_is_number
    a_Hand_shape_for := _, d_Hand_shape_for := _, F_Hand_shape_for := F_Hand_shape_for
    h_Hand_shape_for := ⟨a_Hand_shape_for, i_Hand_shape_for, k_Hand_shape_for⟩
    b_Hand_shape_for := b_Hand_shape_for
    a_Hand_can_pop := _, d_Hand_can_pop := _, F_Hand_can_pop := F_Hand_can_pop
    h_Hand_can_pop := ⟨a_Hand_can_pop, i_Hand_can_pop, k_Hand_can_pop⟩
    b_Hand_can_pop := b_Hand_can_pop
    a_Hand_can_do := _, d_Hand_can_do := _, F_Hand_can_do := F_Hand_can_do
    h_Hand_can_do := ⟨a_Hand_can_do, i_Hand_can_do, k_Hand_can_do⟩
    b_Hand_can_do := b_Hand_can_do
    a_Hand_go := _, d_Hand_go := _, F_Hand_go := F_Hand_go
    h_Hand_go := ⟨a_Hand_go, i_Hand_go, k_Hand_go⟩
    b_Hand_go := b_Hand_go
    a_Hand_lead := _, d_Hand_lead := _, F_Hand_lead := F_Hand_lead
    h_Hand_lead := ⟨a_Hand_lead, i_Hand_lead, k_Hand_lead⟩
    b_Hand_lead := b_Hand_lead
    a_Hand_pushed := _, d_Hand_pushed := _, F_Hand_pushed := F_Hand_pushed
    h_Hand_pushed := ⟨a_Hand_pushed, i_Hand_pushed, k_Hand_pushed⟩
    b_Hand_pushed := b_Hand_pushed
    a_Hand_work := _, d_Hand_work := _, F_Hand_work := F_Hand_work
    h_Hand_work := ⟨a_Hand_work, i_Hand_work, k_Hand_work⟩
    b_Hand_work := b_Hand_work
    a_Hand_step := _, d_Hand_step := _, F_Hand_step := F_Hand_step
    h_Hand_step := ⟨a_Hand_step, i_Hand_step, k_Hand_step⟩
    b_Hand_step := b_Hand_step
    a_run := _, d_run := _, F_run := F_run
    g_run := PySem.W.mg_of X G a_run
    ds_run := ds_run, vd_run := vd_run, bd_run := bd_run, bk_run := bk_run
    a_law := _, d_law := _, F_law := F_law
    b_law := b_law
    u_MOST_STEPS := _, c_MOST_STEPS := PySem.W.mg_of X G c_MOST_STEPS, r_MOST_STEPS := v_MOST_STEPS
    a_PLAIN_WORDS := _, c_PLAIN_WORDS := PySem.W.mg_of X G c_PLAIN_WORDS, t_PLAIN_WORDS := ktup_of t_PLAIN_WORDS v_PLAIN_WORDS
    a_LEADING := _, c_LEADING := PySem.W.mg_of X G c_LEADING, t_LEADING := ktup_of t_LEADING v_LEADING
    u_MOST_LETTERS := _, c_MOST_LETTERS := PySem.W.mg_of X G c_MOST_LETTERS, r_MOST_LETTERS := v_MOST_LETTERS
    z_range := PySem.W.mg_none_of X G z_range
    z_max := PySem.W.mg_none_of X G z_max
    z_min := PySem.W.mg_none_of X G z_min
    z_len := PySem.W.mg_none_of X G z_len
    z_int := PySem.W.mg_none_of X G z_int
    z_tuple := PySem.W.mg_none_of X G z_tuple
    z_isinstance := PySem.W.mg_none_of X G z_isinstance
    z_list := PySem.W.mg_none_of X G z_list
    z_all := PySem.W.mg_none_of X G z_all
    z_str := PySem.W.mg_none_of X G z_str
    z_bool := PySem.W.mg_none_of X G z_bool
  }
  exact ⟨_, (gx T).cl, fun s v => .of_eq rfl, fun base _ _ => ok_law (base := base) T⟩
end K63
namespace K63
open PySem PySem.Spec PyProof.Rows L2 SL
/-! the tape -/
def tapeD (d m : Int) (nm : AV) : List (Key × AV) := [(.inr "digits", .int d), (.inr "mixed", .int m), (.inr "names", nm)]
section
variable {d m : Int} {nm v : AV}
@[simp] theorem td_d : valA (tapeD d m nm) (.inr ("digits" : Str)) = some (.int d) := (rfl)
@[simp] theorem td_m : valA (tapeD d m nm) (.inr ("mixed" : Str)) = some (.int m) := (rfl)
@[simp] theorem td_n : valA (tapeD d m nm) (.inr ("names" : Str)) = some nm := (rfl)
@[simp] theorem td_pd {k : Int} : putA (tapeD d m nm) (.inr ("digits" : Str)) (.int k) = tapeD k m nm := (rfl)
@[simp] theorem td_pm {k : Int} : putA (tapeD d m nm) (.inr ("mixed" : Str)) (.int k) = tapeD d k nm := (rfl)
@[simp] theorem td_put {k : Key} {j : Nat} {e : AEnv} {h : List AO} : dpO k v j e h (some (.dct (tapeD d m nm))) = some (.nx e, h.set j (.dct (putA (tapeD d m nm) k v))) := dpO_dct (by show 3 < 100000; decide)
end
theorem pick_a {h : List AO} {t : Nat} {d m many : Int} {nm : AV} (e : h[t]? = some (.dct (tapeD d m nm))) (na : many ≠ 0 ∧ many.natAbs < 1073741824) (c : many ≤ d) :
    m_law_pick [.ref t, .int many] h = some (.ok (.int (d.fmod many)), h.set t (.dct (tapeD (d.fdiv many) m nm))) := by
  have e2 := set_at e
  simp [u_law_pick, e, e2, c, oMod_int na.1, oFdiv_int na]
theorem pick_b {h : List AO} {t : Nat} {d m many m1 m2 m3 m4 m5 m6 m7 : Int} {nm : AV} (e : h[t]? = some (.dct (tapeD d m nm))) (c : ¬ many ≤ d)
    (q0 : ∀ h : List AO, oMul (.int m) (.int 40014) h = some (.int m1, h)) (q1 : ∀ h : List AO, oMod (.int (m1 + 1017)) (.int 2147483563) h = some (.int m2, h))
    (q2 : ∀ h : List AO, oPow (.int m2) (.int 2) h = some (.int m3, h)) (q3 : ∀ h : List AO, oMod (.int m3) (.int 2147483399) h = some (.int m4, h))
    (q4 : ∀ h : List AO, oPow (.int m4) (.int 3) h = some (.int m5, h)) (q5 : ∀ h : List AO, oMod (.int m5) (.int 998244353) h = some (.int m6, h))
    (q6 : ∀ h : List AO, oFdiv (.int m6) (.int 7) h = some (.int m7, h)) (nz : many ≠ 0) :
    m_law_pick [.ref t, .int many] h = some (.ok (.int (m7.fmod many)), h.set t (.dct (tapeD d m2 nm))) := by
  have e2 := set_at e
  simp [u_law_pick, e, e2, c, q0, q1, q2, q3, q4, q5, q6, oMod_int nz]
theorem l40014 : (40014 : Int).natAbs.log2 = 15 := by decide
theorem l30013 : (30013 : Int).natAbs.log2 = 14 := by decide
theorem pick_ok {h : List AO} {t : Nat} {d m many : Int} {nm : AV} (e : h[t]? = some (.dct (tapeD d m nm))) (hd : 0 ≤ d) (hm0 : 0 ≤ m) (hm : m < 2 ^ 32) (hk0 : 0 < many) (hk : many < 1073741824) :
    ∃ r d' m', m_law_pick [.ref t, .int many] h = some (.ok (.int r), h.set t (.dct (tapeD d' m' nm))) ∧ 0 ≤ r ∧ r < many ∧ 0 ≤ d' ∧ 0 ≤ m' ∧ m' < 2 ^ 32 := by
  have nz : many ≠ 0 := by omega
  by_cases c : many ≤ d
  · exact ⟨d.fmod many, d.fdiv many, m, pick_a e ⟨nz, by omega⟩ c, Int.fmod_nonneg_of_pos _ hk0, Int.fmod_lt_of_pos _ hk0, Int.fdiv_nonneg hd (by omega), hm0, hm⟩
  · have b1 := log2_nn hm0 hm (by decide)
    have f1 := Int.fmod_nonneg_of_pos (m * 40014 + 1017) (show (0 : Int) < 2147483563 by decide)
    have f2 := Int.fmod_lt_of_pos (m * 40014 + 1017) (show (0 : Int) < 2147483563 by decide)
    generalize hm1 : (m * 40014 + 1017).fmod 2147483563 = m1 at f1 f2
    have b2 := log2_nn f1 (show m1 < 2 ^ 32 by omega) (by decide)
    have g1 := Int.fmod_nonneg_of_pos (m1 ^ 2) (show (0 : Int) < 2147483399 by decide)
    have g2 := Int.fmod_lt_of_pos (m1 ^ 2) (show (0 : Int) < 2147483399 by decide)
    generalize hm2 : (m1 ^ 2).fmod 2147483399 = m2 at g1 g2
    have b3 := log2_nn g1 (show m2 < 2 ^ 32 by omega) (by decide)
    have l1 := l40014
    have p1 : m.natAbs.log2 + (40014 : Int).natAbs.log2 < 130000000 := by omega
    have p2 : (0 : Int) ≤ 2 ∧ ((m1.natAbs.log2 : Int) + 1) * 2 ≤ 2 ^ 27 := ⟨by decide, by omega⟩
    have p3 : (0 : Int) ≤ 3 ∧ ((m2.natAbs.log2 : Int) + 1) * 3 ≤ 2 ^ 27 := ⟨by decide, by omega⟩
    exact ⟨(((m2 ^ 3).fmod 998244353).fdiv 7).fmod many, d, m1, pick_b (m1 := m * 40014) (m2 := m1) (m3 := m1 ^ 2) (m4 := m2) (m5 := m2 ^ 3) e c (fun h => oMul_int p1) (fun h => by rw [oMod_int (by decide), hm1]) (fun h => oPow_int p2) (fun h => by rw [oMod_int (by decide), hm2]) (fun h => oPow_int p3)
      (fun h => oMod_int (by decide)) (fun h => oFdiv_int (by decide)) nz, Int.fmod_nonneg_of_pos _ hk0, Int.fmod_lt_of_pos _ hk0, hd, f1, by omega⟩
/-- one cell of the script mixed in -/
theorem bits_cell {z : Int} (h : Builtin.Int.intBits z ≤ 1048576) : z.natAbs.log2 ≤ 1048576 := by
  simp only [Builtin.Int.intBits] at h
  split at h
  · rename_i q; rw [eq_of_beq q]; decide
  · omega
theorem mul_log2 (i j : Int) : (i * j).natAbs.log2 ≤ i.natAbs.log2 + j.natAbs.log2 + 1 := by
  rw [Int.natAbs_mul]
  by_cases a : i.natAbs = 0
  · rw [a, Nat.zero_mul]; show Nat.log2 0 ≤ _; rw [Nat.log2_zero]; omega
  · by_cases b : j.natAbs = 0
    · rw [b, Nat.mul_zero]; show Nat.log2 0 ≤ _; rw [Nat.log2_zero]; omega
    · have h1 : i.natAbs < 2 ^ (i.natAbs.log2 + 1) := Nat.lt_log2_self
      have h2 : j.natAbs < 2 ^ (j.natAbs.log2 + 1) := Nat.lt_log2_self
      have h3 : i.natAbs * j.natAbs < 2 ^ (i.natAbs.log2 + 1) * 2 ^ (j.natAbs.log2 + 1) := Nat.mul_lt_mul_of_lt_of_lt h1 h2
      rw [← Nat.pow_add] at h3
      have h4 := log2_lt' h3 (by omega)
      omega
theorem add_log2 (i j : Int) : (i + j).natAbs.log2 ≤ max i.natAbs.log2 j.natAbs.log2 + 1 := by
  have h1 : i.natAbs < 2 ^ (i.natAbs.log2 + 1) := Nat.lt_log2_self
  have h2 : j.natAbs < 2 ^ (j.natAbs.log2 + 1) := Nat.lt_log2_self
  have h3 : (i + j).natAbs ≤ i.natAbs + j.natAbs := Int.natAbs_add_le i j
  have m1 : (2 : Nat) ^ (i.natAbs.log2 + 1) ≤ 2 ^ (max i.natAbs.log2 j.natAbs.log2 + 1) := Nat.pow_le_pow_right (by decide) (by omega)
  have m2 : (2 : Nat) ^ (j.natAbs.log2 + 1) ≤ 2 ^ (max i.natAbs.log2 j.natAbs.log2 + 1) := Nat.pow_le_pow_right (by decide) (by omega)
  have h4 : (i + j).natAbs < 2 ^ (max i.natAbs.log2 j.natAbs.log2 + 1 + 1) := by
    rw [Nat.pow_succ 2 (max i.natAbs.log2 j.natAbs.log2 + 1)]; omega
  have h5 := log2_lt' h4 (by omega)
  omega
theorem cell_ok {m z : Int} (hm0 : 0 ≤ m) (hm : m < 2 ^ 32) (hz : z.natAbs.log2 ≤ 1048576) : m.natAbs.log2 + (30013 : Int).natAbs.log2 < 130000000 ∧ z.natAbs.log2 + z.natAbs.log2 < 130000000 ∧ (0 : Int) ≤ 2 ∧ (((m * 30013 + z * z + 11).natAbs.log2 : Int) + 1) * 2 ≤ 2 ^ 27 := by
  have b1 := log2_nn hm0 hm (by decide)
  have l1 := l30013
  have a1 := mul_log2 m 30013
  have a2 := mul_log2 z z
  have a3 := add_log2 (m * 30013) (z * z)
  have a4 := add_log2 (m * 30013 + z * z) 11
  have l2 : (11 : Int).natAbs.log2 = 3 := by decide
  generalize (m * 30013 + z * z + 11).natAbs.log2 = x at a4 ⊢
  generalize (m * 30013 + z * z).natAbs.log2 = y at a3 a4
  exact ⟨by omega, by omega, by decide, by omega⟩
/-- the names -/
def nms3 : List AV := [.tup [.str "x", .str "y", .str "a", .str "b"], .tup [.str "name", .str "zz", .str "middle", .str "tell"], .tup [.str "add", .str "look", .str "jump", .str "az"]]
abbrev tapeBody : AS := lb_law_tape_0
theorem tapeBody_ok {h : List AO} {m z : Int} {a b c d : Option AV} (hm0 : 0 ≤ m) (hm : m < 2 ^ 32) (hz : z.natAbs.log2 ≤ 1048576) :
    ∃ m', tapeBody [a, b, some (.int m), some (.int z), c, d] h = some (.nx [a, b, some (.int m'), some (.int z), c, d], h) ∧ 0 ≤ m' ∧ m' < 2 ^ 32 := by
  obtain ⟨k1, k2, k3⟩ := cell_ok hm0 hm hz
  have f1 := Int.fmod_nonneg_of_pos ((m * 30013 + z * z + 11) ^ (2 : Int).toNat) (show (0 : Int) < 2147483563 by decide)
  have f2 := Int.fmod_lt_of_pos ((m * 30013 + z * z + 11) ^ (2 : Int).toNat) (show (0 : Int) < 2147483563 by decide)
  have q1 : ∀ h : List AO, oMul (.int m) (.int 30013) h = some (.int (m * 30013), h) := fun h => oMul_int k1
  have q2 : ∀ h : List AO, oMul (.int z) (.int z) h = some (.int (z * z), h) := fun h => oMul_int k2
  have q3 : ∀ h : List AO, oPow (.int (m * 30013 + z * z + 11)) (.int 2) h = some (.int ((m * 30013 + z * z + 11) ^ (2 : Int).toNat), h) := fun h => oPow_int k3
  generalize (m * 30013 + z * z + 11) ^ (2 : Int).toNat = p at f1 f2 q3
  have q4 : ∀ h : List AO, oMod (.int p) (.int 2147483563) h = some (.int (p.fmod 2147483563), h) := fun h => oMod_int (by decide)
  refine ⟨p.fmod 2147483563 + 2, ?_, by omega, by omega⟩
  simp [ulb_law_tape_0, q1, q2, q3, q4]
theorem tapeLoop_ok {h : List AO} {ns : List Int} {s : Nat} {m : Int} {a b c d z : Option AV} (e : h[s]? = some (.rol (ns.map AV.int))) (hb : ∀ z ∈ ns, z.natAbs.log2 ≤ 1048576) (hl : ns.length ≤ 63) (hm0 : 0 ≤ m) (hm : m < 2 ^ 32) :
    ∃ m' z', forL (.src (.lst s)) (gA 3) tapeBody 100000 0 [a, b, some (.int m), z, c, d] h = some (.nx [a, b, some (.int m'), z', c, d], h) ∧ 0 ≤ m' ∧ m' < 2 ^ 32 := by
  obtain ⟨e', h', r1, m', z', rfl, rfl, r2, r3⟩ := forL_inv (I := .src (.lst s)) (g := gA 3) (b := tapeBody) (fun i e2 h2 => ∃ m' z', e2 = [a, b, some (.int m'), z', c, d] ∧ h2 = h ∧ 0 ≤ m' ∧ m' < 2 ^ 32) ns.length
    (fun e2 h2 ⟨m', z', q1, q2, _⟩ => by subst q1 q2; simp [e])
    (fun i e2 h2 hi ⟨m', z', q1, q2, q3, q4⟩ => by
      subst q1 q2
      obtain ⟨m2, r1, r2, r3⟩ := tapeBody_ok (h := h2) (a := a) (b := b) (c := c) (d := d) q3 q4 (hb ns[i] (List.getElem_mem hi))
      exact ⟨.int ns[i], [a, b, some (.int m'), some (.int ns[i]), c, d], h2, _, h2, by simp [e, hi], rfl, r1, m2, _, rfl, rfl, r2, r3⟩)
    ns.length 0 100000 [a, b, some (.int m), z, c, d] h (by omega) (by omega) ⟨m, z, rfl, rfl, hm0, hm⟩
  exact ⟨m', z', r1, r2, r3⟩
theorem td_disp {h : List AO} {x : AO} {d m : Int} {nm : AV} : dispF (h.length + 1) [(.str "digits", .int d), (.str "mixed", .int m), (.str "names", nm)] (h ++ [x, .dct []]) = some (.ok (.ref (h.length + 1)), h ++ [x, .dct (tapeD d m nm)]) := by
  have q2 : (h ++ [x, AO.dct []])[h.length + 1]? = some (.dct []) := by simp
  have q1 : keysA [(.str "digits", .int d), (.str "mixed", .int m), (.str "names", nm)] = some (tapeD d m nm) := rfl
  rw [dispF_ok q1 q2 (by show 3 ≤ 15; decide)]
  have q3 : mergeA [] (tapeD d m nm) = tapeD d m nm := rfl
  rw [q3, set_off]
  rfl
theorem nms_ok {m : Int} : ∃ nm, atI nms3 (m.fmod 3) = some nm ∧ nm ∈ nms3 := by
  have f1 := Int.fmod_nonneg_of_pos m (show (0 : Int) < 3 by decide)
  have f2 := Int.fmod_lt_of_pos m (show (0 : Int) < 3 by decide)
  generalize m.fmod 3 = k at f1 f2
  obtain ⟨j, rfl⟩ := Int.eq_ofNat_of_zero_le f1
  rw [atI_n]
  have hj : j < nms3.length := by show j < 3; omega
  exact ⟨nms3[j], List.getElem?_eq_getElem hj, List.getElem_mem hj⟩
theorem tape_ok {h : List AO} {ns : List Int} {s k : Nat} (e : h[s]? = some (.rol (ns.map AV.int))) (hb : ∀ z ∈ ns, z.natAbs.log2 ≤ 1048576) (hl : ns.length ≤ 63) (hk : k ≤ 3) :
    ∃ d m nm o, m_law_tape [.ref s, .int (k : Int)] h = some (.ok (.ref (h.length + 1)), h ++ [o, .dct (tapeD d m nm)]) ∧ 0 ≤ d ∧ 0 ≤ m ∧ m < 2 ^ 32 ∧ nm ∈ nms3 := by
  have k1 : (k : Int).natAbs.log2 + (37 : Int).natAbs.log2 < 130000000 := by
    have := log2_lt' (n := (k : Int).natAbs) (k := 3) (by omega) (by decide)
    have : (37 : Int).natAbs.log2 = 5 := by decide
    omega
  have q0 : ∀ h : List AO, oMul (.int (k : Int)) (.int 37) h = some (.int (k * 37), h) := fun h => oMul_int k1
  obtain ⟨m, z, r1, r2, r3⟩ := tapeLoop_ok (h := h) (s := s) (m := 89 + (k : Int) * 37) (a := some (.ref s)) (b := some (.int (k : Int))) (c := none) (d := none) (z := none) e hb hl (by omega) (by omega)
  obtain ⟨nm, n1, n2⟩ := nms_ok (m := m)
  have q1 : ∀ h : List AO, oMod (.int m) (.int 3) h = some (.int (m.fmod 3), h) := fun h => oMod_int (by decide)
  have q2 : ∀ h : List AO, oPow (.int 10) (.int 18) h = some (.int 1000000000000000000, h) := fun h => oPow_int (by decide)
  unfold nms3 at n1
  by_cases c : k < ns.length
  · by_cases c2 : 1000000000000000000 ≤ ns[k]
    · refine ⟨ns[k] - 1000000000000000000, m, nm, .lst nms3, ?_, by omega, r2, r3, n2⟩
      simp [u_law_tape, e, q0, r1, q1, q2, n1, c, c2, atI_n, td_disp, nms3]
    · refine ⟨0, m, nm, .lst nms3, ?_, by omega, r2, r3, n2⟩
      simp [u_law_tape, e, q0, r1, q1, q2, n1, c, c2, atI_n, td_disp, nms3]
  · refine ⟨0, m, nm, .lst nms3, ?_, by omega, r2, r3, n2⟩
    simp [u_law_tape, e, q0, r1, q1, q2, n1, c, td_disp, nms3]
end K63
set_option maxHeartbeats 40000000
namespace K63
open PySem PySem.Spec PyProof.Rows L2 SL
theorem cps_x : (Str.ofString "x").cps = #[120] := by decide +kernel
theorem cps_y : (Str.ofString "y").cps = #[121] := by decide +kernel
theorem len_x : (Str.ofString "x").length = 1 := by decide +kernel
theorem len_y : (Str.ofString "y").length = 1 := by decide +kernel
theorem le_ax {h : List AO} : cLe (.str "a") (.str ⟨#[120]⟩) h = some (.bl true, h) := (rfl)
theorem le_xz {h : List AO} : cLe (.str ⟨#[120]⟩) (.str "z") h = some (.bl true, h) := (rfl)
theorem le_ay {h : List AO} : cLe (.str "a") (.str ⟨#[121]⟩) h = some (.bl true, h) := (rfl)
theorem le_yz {h : List AO} : cLe (.str ⟨#[121]⟩) (.str "z") h = some (.bl true, h) := (rfl)
theorem isnmX {h : List AO} : m_is_name [.str "x"] h = some (.ok (.bl true), h ++ [.lst [.bl true]]) := by
  simp [u_is_name, ule_is_name_0, len_x, cps_x, le_ax, le_xz, lcL_st, awipe, bsK_some, blsA]
theorem isnmY {h : List AO} : m_is_name [.str "y"] h = some (.ok (.bl true), h ++ [.lst [.bl true]]) := by
  simp [u_is_name, ule_is_name_0, len_y, cps_y, le_ay, le_yz, lcL_st, awipe, bsK_some, blsA]
theorem round_ok {h : List AO} {ns : List Int} {k : Nat} {x2 x3 x4 x5 x6 x7 x8 x9 x10 : Option AV} (e0 : h[0]? = some (.rol (ns.map AV.int))) (hb : ∀ z ∈ ns, z.natAbs.log2 ≤ 1048576) (hl : ns.length ≤ 63) (hk : k ≤ 3) :
    ∃ y2 y3 y4 y5 y6 y7 y8 y9 y10 g, lb_law_1 [some (.ref 0), some (.int (k : Int)), x2, x3, x4, x5, x6, x7, x8, x9, x10] h = some (.nx [some (.ref 0), some (.int (k : Int)), y2, y3, y4, y5, y6, y7, y8, y9, y10], h ++ g) := by
  obtain ⟨d, m, nm, o, t1, t2, t3, t4, _⟩ := tape_ok (s := 0) e0 hb hl hk
  obtain ⟨a, d1, m1, p1, p2, p3, p4, p5, p6⟩ := pick_ok (h := h ++ [o, .dct (tapeD d m nm)]) (nm := nm) (t := h.length + 1) (many := 1000000000) (by simp) t2 t3 t4 (by decide) (by decide)
  obtain ⟨c, d2, m2, r1, r2, r3, r4, r5, r6⟩ := pick_ok (h := h ++ [o, .dct (tapeD d1 m1 nm)]) (nm := nm) (t := h.length + 1) (many := 1000000000) (by simp) p4 p5 p6 (by decide) (by decide)
  simp at p1 r1
  have q9 : ∀ h : List AO, oPow (.int 10) (.int 9) h = some (.int 1000000000, h) := fun h => oPow_int (by decide)
  have hb : ¬ (1 + c = 0) := by omega
  have na : -a + a = 0 := by omega
  iterate 10 apply Exists.intro
  simp (config := { maxSteps := 100000000 }) [ulb_law_1, t1, p1, r1, q9, hb, na, ule_law_0, isnmX, isnmY, u_run, u_must_be_program, u_is_program, u_is_step, u_is_integer, u_is_number, u_Hand_init, u_Hand_shape_for, u_Hand_can_pop, u_Hand_can_do, u_Hand_go, u_Hand_lead, u_Hand_pushed, u_Hand_work, u_Hand_step, ulb_run_0, ulc_run_1, ule_is_program_0, ule_Hand_can_pop_0,
    List.lookup_cons, lcL_st, whL_st, inX_flat, flatA, eqF, awipe, atI_n, bsK_some, blsA, putFA, putK_some, metK_some, appK_lst, rfD_st, toD0, toD0s, cutA, HT.sIx, dqK_two, SeqAt.shaped, PyData.canLay0, PyData.canLayAll0, PyData.depth, PyData.depthAll, PyData.eqv, PyData.eqvAll, strsA, idxS]
  exact ⟨⟨rfl, rfl, rfl, rfl, rfl, rfl, rfl, rfl, rfl⟩, rfl⟩
theorem law_true (ns : List Int) (hl : ns.length ≤ 63) (hb : ∀ z ∈ ns, Builtin.Int.intBits z ≤ 1048576) : ∃ h', m_law [.ref 0] [.rol (ns.map AV.int)] = some (.ok (.bl true), h') := by
  have hb' : ∀ z ∈ ns, z.natAbs.log2 ≤ 1048576 := fun z hz => bits_cell (hb z hz)
  -- the number of rounds
  obtain ⟨n, hn, hn3⟩ : ∃ n : Nat, (if (if (ns.length : Int) < 3 then (ns.length : Int) else 3) > 1 then (if (ns.length : Int) < 3 then (ns.length : Int) else 3) else 1) = (n : Int) ∧ n ≤ 3 := by
    by_cases c : (ns.length : Int) < 3
    · rw [if_pos c]
      by_cases c2 : (ns.length : Int) > 1
      · rw [if_pos c2]; exact ⟨ns.length, rfl, by omega⟩
      · rw [if_neg c2]; exact ⟨1, rfl, by omega⟩
    · rw [if_neg c, if_pos (by decide)]; exact ⟨3, rfl, by omega⟩
  obtain ⟨e', h', r1, r2⟩ := forL_inv (I := .rng 0 n) (g := gA 1) (b := lb_law_1)
    (fun i e h => ∃ x1 x2 x3 x4 x5 x6 x7 x8 x9 x10, e = [some (.ref 0), x1, x2, x3, x4, x5, x6, x7, x8, x9, x10] ∧ h[0]? = some (.rol (ns.map AV.int))) n
    (fun e h _ => by simp)
    (fun i e h hi ⟨x1, x2, x3, x4, x5, x6, x7, x8, x9, x10, q1, q2⟩ => by
      subst q1
      obtain ⟨y2, y3, y4, y5, y6, y7, y8, y9, y10, g, q3⟩ := round_ok (k := i) (x2 := x2) (x3 := x3) (x4 := x4) (x5 := x5) (x6 := x6) (x7 := x7) (x8 := x8) (x9 := x9) (x10 := x10) q2 hb' hl (by omega)
      refine ⟨.int (i : Int), _, _, _, _, by simp [hi], rfl, q3, _, y2, y3, y4, y5, y6, y7, y8, y9, y10, rfl, get_app q2 g⟩)
    n 0 100000 [some (.ref 0), none, none, none, none, none, none, none, none, none, none] [.rol (ns.map AV.int)] (by omega) (by omega) ⟨none, none, none, none, none, none, none, none, none, none, rfl, rfl⟩
  obtain ⟨x1, x2, x3, x4, x5, x6, x7, x8, x9, x10, rfl, q2⟩ := r2
  have hr : rngOk (n : Int) = true := decide_eq_true ⟨by omega, by omega⟩
  refine ⟨h', ?_⟩
  have q1 : ∀ h : List AO, fMin2 [.int 3, .int (ns.length : Int)] h = some (.int (if (ns.length : Int) < 3 then (ns.length : Int) else 3), h) := fun h => rfl
  have q2' : ∀ h : List AO, fMax2 [.int 1, .int (if (ns.length : Int) < 3 then (ns.length : Int) else 3)] h = some (.int (n : Int), h) := fun h => by rw [← hn]; rfl
  simp [u_law, q1, q2', hr, r1]
end K63
open PySem PySem.W PyProof.Rows in
set_option maxRecDepth 100000 in
set_option maxHeartbeats 0 in
theorem PySem.Challenge.cw_warmsteps_k63_runs_by_hand_holds : PySem.Challenge.rw_warmsteps_k63_runs_by_hand.Holds := by
  w_on; o_law; k_head; (case hw => w_witness2)
  k_fill
  refine SL.walkG (l := PySem.Challenge.rw_warmsteps_k63_runs_by_hand) (n := 63) (k := 7) (fz := true) (m := K63.m_law) rfl (by decide) rfl ⟨rfl, by decide, by decide⟩ (fun w h Y => PySem.W.kIn_of Y) ?F K63.law_true
  case F =>
    intro w mg fa h KX G hmg
    refine' K63.all_mk KX G hmg ?aC2 ?a_law_tape ?l_law_tape ?c_law_tape ?k_law_tape ?a_law_pick ?l_law_pick ?c_law_pick ?k_law_pick ?a_is_name ?l_is_name ?c_is_name ?k_is_name ?a_is_integer ?l_is_integer ?c_is_integer ?k_is_integer ?a_is_step ?l_is_step ?c_is_step ?k_is_step ?a_is_program ?l_is_program ?c_is_program ?k_is_program ?a_must_be_program ?l_must_be_program ?c_must_be_program ?k_must_be_program ?a_Hand_init ?i_Hand_init ?l_Hand_init ?c_Hand_init ?k_Hand_init ?a_is_number ?l_is_number ?c_is_number ?k_is_number ?a_Hand_shape_for ?i_Hand_shape_for ?l_Hand_shape_for ?c_Hand_shape_for ?k_Hand_shape_for ?a_Hand_can_pop ?i_Hand_can_pop ?l_Hand_can_pop ?c_Hand_can_pop ?k_Hand_can_pop ?a_Hand_can_do ?i_Hand_can_do ?l_Hand_can_do ?c_Hand_can_do ?k_Hand_can_do ?a_Hand_go ?i_Hand_go ?l_Hand_go ?c_Hand_go ?k_Hand_go ?a_Hand_lead ?i_Hand_lead ?l_Hand_lead ?c_Hand_lead ?k_Hand_lead ?a_Hand_pushed ?i_Hand_pushed ?l_Hand_pushed ?c_Hand_pushed ?k_Hand_pushed ?a_Hand_work ?i_Hand_work ?l_Hand_work ?c_Hand_work ?k_Hand_work ?a_Hand_step ?i_Hand_step ?l_Hand_step ?c_Hand_step ?k_Hand_step ?a_run ?l_run ?c_run ?k_run ?w1_run_most ?w2_run_most ?a_law ?l_law ?c_law ?k_law ?pg2 ?hd2 ?po2 ?sa2 ?mk2 ?kc2 ?n2_left ?n2_notes ?n2_outcome ?n2_program ?n2_spot ?n2_stack ?c_MOST_STEPS ?v_MOST_STEPS ?c_PLAIN_WORDS ?t_PLAIN_WORDS ?v_PLAIN_WORDS ?c_LEADING ?t_LEADING ?v_LEADING ?c_MOST_LETTERS ?v_MOST_LETTERS ?z_range ?z_max ?z_min ?z_len ?z_int ?z_tuple ?z_isinstance ?z_list ?z_all ?z_str ?z_bool
    (case aC2 => k_is)
    (case a_law_tape => k_is)
    (case l_law_tape => k_is)
    (case c_law_tape => k_is)
    (case k_law_tape => k_is)
    (case a_law_pick => k_is)
    (case l_law_pick => k_is)
    (case c_law_pick => k_is)
    (case k_law_pick => k_is)
    (case a_is_name => k_is)
    (case l_is_name => k_is)
    (case c_is_name => k_is)
    (case k_is_name => k_is)
    (case a_is_integer => k_is)
    (case l_is_integer => k_is)
    (case c_is_integer => k_is)
    (case k_is_integer => k_is)
    (case a_is_step => k_is)
    (case l_is_step => k_is)
    (case c_is_step => k_is)
    (case k_is_step => k_is)
    (case a_is_program => k_is)
    (case l_is_program => k_is)
    (case c_is_program => k_is)
    (case k_is_program => k_is)
    (case a_must_be_program => k_is)
    (case l_must_be_program => k_is)
    (case c_must_be_program => k_is)
    (case k_must_be_program => k_is)
    (case a_Hand_init => k_is)
    (case i_Hand_init => k_is)
    (case l_Hand_init => k_is)
    (case c_Hand_init => k_is)
    (case k_Hand_init => k_is)
    (case a_is_number => k_is)
    (case l_is_number => k_is)
    (case c_is_number => k_is)
    (case k_is_number => k_is)
    (case a_Hand_shape_for => k_is)
    (case i_Hand_shape_for => k_is)
    (case l_Hand_shape_for => k_is)
    (case c_Hand_shape_for => k_is)
    (case k_Hand_shape_for => k_is)
    (case a_Hand_can_pop => k_is)
    (case i_Hand_can_pop => k_is)
    (case l_Hand_can_pop => k_is)
    (case c_Hand_can_pop => k_is)
    (case k_Hand_can_pop => k_is)
    (case a_Hand_can_do => k_is)
    (case i_Hand_can_do => k_is)
    (case l_Hand_can_do => k_is)
    (case c_Hand_can_do => k_is)
    (case k_Hand_can_do => k_is)
    (case a_Hand_go => k_is)
    (case i_Hand_go => k_is)
    (case l_Hand_go => k_is)
    (case c_Hand_go => k_is)
    (case k_Hand_go => k_is)
    (case a_Hand_lead => k_is)
    (case i_Hand_lead => k_is)
    (case l_Hand_lead => k_is)
    (case c_Hand_lead => k_is)
    (case k_Hand_lead => k_is)
    (case a_Hand_pushed => k_is)
    (case i_Hand_pushed => k_is)
    (case l_Hand_pushed => k_is)
    (case c_Hand_pushed => k_is)
    (case k_Hand_pushed => k_is)
    (case a_Hand_work => k_is)
    (case i_Hand_work => k_is)
    (case l_Hand_work => k_is)
    (case c_Hand_work => k_is)
    (case k_Hand_work => k_is)
    (case a_Hand_step => k_is)
    (case i_Hand_step => k_is)
    (case l_Hand_step => k_is)
    (case c_Hand_step => k_is)
    (case k_Hand_step => k_is)
    (case a_run => k_is)
    (case l_run => k_is)
    (case c_run => k_is)
    (case k_run => k_is)
    (case w1_run_most => k_is)
    (case w2_run_most => exact ⟨_, rfl⟩)
    (case a_law => k_is)
    (case l_law => k_is)
    (case c_law => k_is)
    (case k_law => k_is)
    (case pg2 => k_is)
    (case hd2 => k_is)
    (case po2 => k_is)
    (case sa2 => k_is)
    (case mk2 => k_is)
    (case kc2 => k_is)
    (case n2_left => k_is)
    (case n2_notes => k_is)
    (case n2_outcome => k_is)
    (case n2_program => k_is)
    (case n2_spot => k_is)
    (case n2_stack => k_is)
    (case c_MOST_STEPS => k_is)
    (case v_MOST_STEPS => exact ⟨_, rfl⟩)
    (case c_PLAIN_WORDS => k_is)
    (case t_PLAIN_WORDS => k_is)
    (case v_PLAIN_WORDS => exact (.cons ⟨_, rfl⟩ (.cons ⟨_, rfl⟩ (.cons ⟨_, rfl⟩ .nil))))
    (case c_LEADING => k_is)
    (case t_LEADING => k_is)
    (case v_LEADING => exact (.cons ⟨_, rfl⟩ (.cons ⟨_, rfl⟩ .nil)))
    (case c_MOST_LETTERS => k_is)
    (case v_MOST_LETTERS => exact ⟨_, rfl⟩)
    (case z_range => k_is)
    (case z_max => k_is)
    (case z_min => k_is)
    (case z_len => k_is)
    (case z_int => k_is)
    (case z_tuple => k_is)
    (case z_isinstance => k_is)
    (case z_list => k_is)
    (case z_all => k_is)
    (case z_str => k_is)
    (case z_bool => k_is)