import PyProof.Rows.All
import Wide.All
import OpenK.AllK
import Wide.FinOn
import PyProof.EqAt
import PyProof.EqKinds
import PyProof.TupleCall
import HandS.ForMost
import HandS.Exc
import HandS.WordsExc
import HandS.Deep
import HandS.IsInst
import HandS.Wide
import HandS.TupAny
import HandS.Strs
import HandS.Defaults
import KE.GoesMore
import HandS.Iter
import HandS.Zip
import HandS.EndBits
import HandS.Star
import HandS.Style
import HandS.Property
import HandS.Conv
import KE.KDictDisplayH
import HandS.ExcInit
import KE.KExcSuper
import KE.KSuper
import HandS.ExcSuper
import HandS.TryOnly
import HandS.ExcField
import KE.SortCalls
import KE.KDictSum
import HandS.DictComp
import HandS.DeepEq
import PyProof.NeKinds
import HandS.ClsMeth
import HandS.Codes
import PyProof.InstNe
import KE.KDictItemsList
import KE.KDictPairs
import HandS.DictTup
import HandS.NoneIn
import HandS.FStr
import HandS.Text
import HandS.RaiseMore
import PyProof.ReprRoads
import KE.RegKTryMore
import PySem.Challenge.RW_warmsteps_k83_texts_that_are_no_weavings
set_option Elab.async false
set_option linter.all false
set_option maxRecDepth 100000
set_option maxHeartbeats 4000000
/-! SL1: abstract values, the abstract heap, how they stand to HandS's readings. -/
namespace SL
open PySem PySem.Spec PyProof.Rows L2

/-- a value: tuples as they are, changeable objects by number -/
inductive AV where
  | non | bl (b : Bool) | int (i : Int) | str (x : Str) | tup (xs : List AV) | ref (n : Nat) | cst (v : V) | ktp (xs : List AV)

/-- a changeable object; rol: a list that is only read; xd: the dict of an exception -/
inductive AO where
  | lst (xs : List AV) | rol (xs : List AV) | dct (kvs : List (Key × AV)) | dtp (kvs : List (List Key × AV)) | ldk (kvs : List (Key × AV)) | ldt (kvs : List (List Key × AV)) | ins (c : Nat) (fs : List (Str × AV)) | xd (fs : List (Str × AV))
def AO.trk : AO → Bool
  | .rol _ => false
  | _ => true
/-- it may be changed -/
def AO.mut : AO → Bool
  | .rol _ => false
  | .ldk _ => false
  | .ldt _ => false
  | _ => true
theorem AO.mut_trk {o : AO} (h : o.mut = true) : o.trk = true := by cases o <;> first | rfl | cases h

/-- the written part, the classes' addresses -/
structure Gx where
  K : PySem.W.Frag
  cl : Nat → Addr
  fz : Bool

def KTup (K : PySem.W.Frag) (a : Addr) (vs : List V) : Prop :=
  ∃ (o : Obj) (its : Array Value) (n : Nat), K.lookup a = some o ∧ o.cls = .type "tuple" ∧ o.dict = none ∧ o.data = .seq its n ∧ its.size ≤ sizeLine ∧ Vals vs its.toList
/-- a tuple's place: fz tells whether tuples are known to the object (frz) or by their items alone -/
def TupAt (G : Gx) (H : Hp) (a : Addr) (vs : List V) : Prop := (G.fz = false ∧ H a = some (.tup vs)) ∨ (G.fz = true ∧ ∃ o, o.dict = none ∧ H a = some (.frz o (.tup vs))) ∨ (G.fz = true ∧ KTup G.K a vs)
theorem TupAt.sq {G : Gx} {H : Hp} {a : Addr} {vs : List V} (h : TupAt G H a vs) : SqT G.K H a vs := by
  rcases h with ⟨_, h⟩ | ⟨_, o, _, h⟩ | ⟨_, o, its, n, h1, h2, _, h3⟩
  · exact .inl (.inl h)
  · exact .inl (.inr ⟨o, h⟩)
  · exact .inr ⟨o, its, n, h1, h2, h3⟩

theorem KTup.sq {K : PySem.W.Frag} {H : Hp} {a : Addr} {vs : List V} (h : KTup K a vs) : SqT K H a vs := by
  obtain ⟨o, its, n, h1, h2, _, h3⟩ := h
  exact .inr ⟨o, its, n, h1, h2, h3⟩
mutual
inductive RA (G : Gx) (n : Nat) (al : Nat → Addr) (H : Hp) : AV → V → Prop
  | non : RA G n al H .non .non
  | bl {b : Bool} : RA G n al H (.bl b) (.bl b)
  | int {i : Int} : RA G n al H (.int i) (.int i)
  | str {x : Str} : RA G n al H (.str x) (.str x)
  | tup {a : Addr} {xs : List AV} {vs : List V} : TupAt G H a vs → RAs G n al H xs vs → RA G n al H (.tup xs) (.ref a)
  | ref {i : Nat} : i < n → RA G n al H (.ref i) (.ref (al i))
  | cst {v : V} : RA G n al H (.cst v) v
  | ktp {a : Addr} {xs : List AV} {vs : List V} : KTup G.K a vs → RAs G n al H xs vs → RA G n al H (.ktp xs) (.ref a)
inductive RAs (G : Gx) (n : Nat) (al : Nat → Addr) (H : Hp) : List AV → List V → Prop
  | nil : RAs G n al H [] []
  | cons {x : AV} {xs : List AV} {v : V} {vs : List V} : RA G n al H x v → RAs G n al H xs vs → RAs G n al H (x :: xs) (v :: vs)
end

/-- a later state -/
structure Ext (n : Nat) (al : Nat → Addr) (H : Hp) (n' : Nat) (al' : Nat → Addr) (H' : Hp) : Prop where
  le : n ≤ n'
  al : ∀ i, i < n → al' i = al i
  tp : ∀ b xs, H b = some (.tup xs) → H' b = some (.tup xs)
  tf : ∀ b o u, H b = some (.frz o u) → H' b = some (.frz o u)

section
variable {G : Gx} {K : PySem.W.Frag} {n n' n1 : Nat} {al al' al1 : Nat → Addr} {H H' H1 : Hp}
theorem Ext.refl : Ext n al H n al H := ⟨Nat.le_refl _, fun _ _ => rfl, fun _ _ h => h, fun _ _ _ h => h⟩
theorem Ext.trans (a : Ext n al H n1 al1 H1) (b : Ext n1 al1 H1 n' al' H') : Ext n al H n' al' H' :=
  ⟨Nat.le_trans a.le b.le, fun i h => (b.al i (Nat.lt_of_lt_of_le h a.le)).trans (a.al i h), fun c xs h => b.tp c xs (a.tp c xs h), fun c o xs h => b.tf c o xs (a.tf c o xs h)⟩
theorem TupAt.mono {a : Addr} {vs : List V} (e : Ext n al H n' al' H') (h : TupAt G H a vs) : TupAt G H' a vs := by
  rcases h with ⟨z, h⟩ | ⟨z, o, d, h⟩ | h
  · exact .inl ⟨z, e.tp _ _ h⟩
  · exact .inr (.inl ⟨z, o, d, e.tf _ _ _ h⟩)
  · exact .inr (.inr h)
mutual
theorem RA.mono (e : Ext n al H n' al' H') : ∀ {x : AV} {v : V}, RA G n al H x v → RA G n' al' H' x v
  | _, _, .non => .non
  | _, _, .bl => .bl
  | _, _, .int => .int
  | _, _, .str => .str
  | _, _, .tup h hs => .tup (h.mono e) (RAs.mono e hs)
  | _, _, .ref (i := i) h => by
    have q := e.al i h
    rw [← q]
    exact .ref (Nat.lt_of_lt_of_le h e.le)
  | _, _, .cst => .cst
  | _, _, .ktp h hs => .ktp h (RAs.mono e hs)
theorem RAs.mono (e : Ext n al H n' al' H') : ∀ {xs : List AV} {vs : List V}, RAs G n al H xs vs → RAs G n' al' H' xs vs
  | _, _, .nil => .nil
  | _, _, .cons h hs => .cons (RA.mono e h) (RAs.mono e hs)
end
theorem RAs.length : ∀ {xs : List AV} {vs : List V}, RAs G n al H xs vs → xs.length = vs.length
  | _, _, .nil => rfl
  | _, _, .cons _ hs => by rw [List.length_cons, List.length_cons, RAs.length hs]
theorem RAs.get : ∀ {xs : List AV} {vs : List V} {i : Nat} {x : AV}, RAs G n al H xs vs → xs[i]? = some x → ∃ v, vs[i]? = some v ∧ RA G n al H x v
  | _, _, _, _, .nil, at_ => absurd at_ (by simp)
  | _, _, 0, _, .cons h _, e => by simp at e; subst e; exact ⟨_, rfl, h⟩
  | _, _, i + 1, x, .cons _ hs, e => by
    obtain ⟨v, h1, h2⟩ := RAs.get (i := i) (x := x) hs (by simpa using e)
    exact ⟨v, by simpa using h1, h2⟩
theorem RAs.append : ∀ {xs ys : List AV} {vs us : List V}, RAs G n al H xs vs → RAs G n al H ys us → RAs G n al H (xs ++ ys) (vs ++ us)
  | _, _, _, _, .nil, h => h
  | _, _, _, _, .cons h hs, k => .cons h (RAs.append hs k)
theorem RAs.take : ∀ {xs : List AV} {vs : List V} (i : Nat), RAs G n al H xs vs → RAs G n al H (xs.take i) (vs.take i)
  | _, _, 0, _ => .nil
  | _, _, _ + 1, .nil => .nil
  | _, _, i + 1, .cons h hs => .cons h (RAs.take i hs)
theorem RAs.drop : ∀ {xs : List AV} {vs : List V} (i : Nat), RAs G n al H xs vs → RAs G n al H (xs.drop i) (vs.drop i)
  | _, _, 0, h => h
  | _, _, _ + 1, .nil => .nil
  | _, _, i + 1, .cons _ hs => RAs.drop i hs
theorem RAs.set : ∀ {xs : List AV} {vs : List V} (i : Nat) {x : AV} {v : V}, RAs G n al H xs vs → RA G n al H x v → RAs G n al H (xs.set i x) (vs.set i v)
  | _, _, _, _, _, .nil, _ => .nil
  | _, _, 0, _, _, .cons _ hs, h => .cons h hs
  | _, _, i + 1, _, _, .cons h hs, k => .cons h (RAs.set i hs k)
theorem RAs.ints : ∀ (ns : List Int), RAs G n al H (ns.map AV.int) (ns.map V.int)
  | [] => .nil
  | _ :: ns => .cons .int (RAs.ints ns)
/-- what a V says of its AV -/
theorem RA.of_int {x : AV} {i : Int} (h : RA G n al H x (.int i)) : x = .int i ∨ x = .cst (.int i) := by cases h <;> simp

/-- names and values, in order -/
def RF {κ : Type} (G : Gx) (n : Nat) (al : Nat → Addr) (H : Hp) : List (κ × AV) → List (κ × V) → Prop
  | [], [] => True
  | p :: ps, q :: qs => p.1 = q.1 ∧ RA G n al H p.2 q.2 ∧ RF G n al H ps qs
  | _, _ => False
theorem RF.mono {κ : Type} (e : Ext n al H n' al' H') : ∀ {ps : List (κ × AV)} {qs : List (κ × V)}, RF G n al H ps qs → RF G n' al' H' ps qs
  | [], [], h => h
  | _ :: _, _ :: _, h => ⟨h.1, h.2.1.mono e, RF.mono e h.2.2⟩
  | [], _ :: _, h => h.elim
  | _ :: _, [], h => h.elim
theorem RF.length {κ : Type} : ∀ {ps : List (κ × AV)} {qs : List (κ × V)}, RF G n al H ps qs → ps.length = qs.length
  | [], [], _ => rfl
  | _ :: _, _ :: _, h => by rw [List.length_cons, List.length_cons, RF.length h.2.2]
  | [], _ :: _, h => h.elim
  | _ :: _, [], h => h.elim
theorem RF.lookup {κ : Type} [BEq κ] {x : κ} : ∀ {ps : List (κ × AV)} {qs : List (κ × V)}, RF G n al H ps qs → (ps.lookup x = none ∧ qs.lookup x = none) ∨ ∃ v u, ps.lookup x = some v ∧ qs.lookup x = some u ∧ RA G n al H v u
  | [], [], _ => .inl ⟨rfl, rfl⟩
  | (a, v) :: ps, (b, u) :: qs, h => by
    obtain ⟨e, r, t⟩ := h
    have e' : a = b := e
    subst e'
    rw [List.lookup_cons, List.lookup_cons]
    cases x == a with
    | true => exact .inr ⟨v, u, rfl, rfl, r⟩
    | false => exact RF.lookup t
  | [], _ :: _, h => h.elim
  | _ :: _, [], h => h.elim

def RoL (K : PySem.W.Frag) (H : Hp) (a : Addr) (vs : List V) : Prop :=
  (∃ o, H a = some (.frz o (.lst vs))) ∨ ∃ (o : Obj) (its : Array Value) (m : Nat), K.lookup a = some o ∧ o.cls = .type "list" ∧ o.dict = none ∧ o.data = .seq its m ∧ its.size ≤ sizeLine ∧ Vals vs its.toList
theorem RoL.sq {a : Addr} {vs : List V} (h : RoL K H a vs) : SqL K H a vs := by
  rcases h with ⟨o, h⟩ | h
  · exact .inl (.inr ⟨o, h⟩)
  · exact .inr h
end

/-- an object and what stands at its address -/
def OR (G : Gx) (n : Nat) (al : Nat → Addr) (H : Hp) (a : Addr) : AO → Prop
  | .lst xs => ∃ vs, H a = some (.lst vs) ∧ RAs G n al H xs vs
  | .rol xs => ∃ vs, RoL G.K H a vs ∧ RAs G n al H xs vs
  | .dct kvs => ∃ ws, H a = some (.dK ws) ∧ RF G n al H kvs ws
  | .dtp kvs => ∃ ws, H a = some (.dT ws) ∧ RF G n al H kvs ws
  | .ldk kvs => ∃ od ws, H a = some (.frz od (.dK ws)) ∧ RF G n al H kvs ws
  | .ldt kvs => ∃ od ws, H a = some (.frz od (.dT ws)) ∧ RF G n al H kvs ws
  | .ins c fs => ∃ dx gs, H a = some (.ins (G.cl c) dx gs) ∧ RF G n al H fs gs
  | .xd fs => ∃ gs, H a = some (.xd gs) ∧ RF G n al H fs gs
structure HR (G : Gx) (al : Nat → Addr) (aH : List AO) (H : Hp) : Prop where
  ob : ∀ i o, aH[i]? = some o → OR G aH.length al H (al i) o
  inj : ∀ i j oi oj, aH[i]? = some oi → aH[j]? = some oj → oi.trk = true → oj.trk = true → al i = al j → i = j

section
variable {G : Gx} {n n' : Nat} {al al' : Nat → Addr} {H H' : Hp} {aH : List AO} {a p : Addr} {o : AO}
/-- what stands at the address -/
theorem OR.at_ (h : OR G n al H a o) (t : o.trk = true) : ∃ u, H a = some u := by
  cases o with
  | rol xs => cases t
  | lst xs => obtain ⟨vs, e, _⟩ := h; exact ⟨_, e⟩
  | dct kvs => obtain ⟨vs, e, _⟩ := h; exact ⟨_, e⟩
  | dtp kvs => obtain ⟨vs, e, _⟩ := h; exact ⟨_, e⟩
  | ldk kvs => obtain ⟨od, vs, e, _⟩ := h; exact ⟨_, e⟩
  | ldt kvs => obtain ⟨od, vs, e, _⟩ := h; exact ⟨_, e⟩
  | ins c fs => obtain ⟨dx, vs, e, _⟩ := h; exact ⟨_, e⟩
  | xd fs => obtain ⟨vs, e, _⟩ := h; exact ⟨_, e⟩
/-- what is tracked at the address -/
theorem OR.tk (h : OR G n al H a o) (t : o.mut = true) : ∃ u, H a = some u ∧ (∀ xs, u ≠ .tup xs) ∧ ∀ o v, u ≠ .frz o v := by
  cases o with
  | lst xs => obtain ⟨vs, e, _⟩ := h; exact ⟨_, e, fun _ z => (by cases z), fun _ _ z => (by cases z)⟩
  | rol xs => cases t
  | ldk xs => cases t
  | ldt xs => cases t
  | dct kvs => obtain ⟨vs, e, _⟩ := h; exact ⟨_, e, fun _ z => (by cases z), fun _ _ z => (by cases z)⟩
  | dtp kvs => obtain ⟨vs, e, _⟩ := h; exact ⟨_, e, fun _ z => (by cases z), fun _ _ z => (by cases z)⟩
  | ins c fs => obtain ⟨dx, vs, e, _⟩ := h; exact ⟨_, e, fun _ z => (by cases z), fun _ _ z => (by cases z)⟩
  | xd fs => obtain ⟨vs, e, _⟩ := h; exact ⟨_, e, fun _ z => (by cases z), fun _ _ z => (by cases z)⟩
/-- an object that is not touched -/
theorem OR.mono (h : OR G n al H a o) (e : Ext n al H n' al' H') (k : ∀ u, H a = some u → H' a = some u) : OR G n' al' H' a o := by
  cases o with
  | lst xs => obtain ⟨vs, q, r⟩ := h; exact ⟨vs, k _ q, r.mono e⟩
  | rol xs =>
    obtain ⟨vs, q, r⟩ := h
    refine ⟨vs, ?_, r.mono e⟩
    rcases q with ⟨ob, q⟩ | q
    · exact .inl ⟨ob, k _ q⟩
    · exact .inr q
  | dct kvs => obtain ⟨vs, q, r⟩ := h; exact ⟨vs, k _ q, r.mono e⟩
  | dtp kvs => obtain ⟨vs, q, r⟩ := h; exact ⟨vs, k _ q, r.mono e⟩
  | ldk kvs => obtain ⟨od, vs, q, r⟩ := h; exact ⟨od, vs, k _ q, r.mono e⟩
  | ldt kvs => obtain ⟨od, vs, q, r⟩ := h; exact ⟨od, vs, k _ q, r.mono e⟩
  | ins c fs => obtain ⟨dx, vs, q, r⟩ := h; exact ⟨dx, vs, k _ q, r.mono e⟩
  | xd fs => obtain ⟨vs, q, r⟩ := h; exact ⟨vs, k _ q, r.mono e⟩

/-- a new address for the next number -/
def ext1 (al : Nat → Addr) (n : Nat) (p : Addr) : Nat → Addr := fun i => if i = n then p else al i
theorem ext1_at : ext1 al n p n = p := if_pos rfl
theorem ext1_lt {i : Nat} (h : i < n) : ext1 al n p i = al i := if_neg (Nat.ne_of_lt h)
theorem ext_new {u : HO} (hp : H p = none) : Ext n al H (n + 1) (ext1 al n p) (upd H p u) :=
  ⟨Nat.le_succ _, fun i h => ext1_lt h, fun b xs h => by rw [upd_ne (ne_of_none h hp)]; exact h, fun b o xs h => by rw [upd_ne (ne_of_none h hp)]; exact h⟩
/-- a new tracked object -/
theorem HR.new {u : HO} (h : HR G al aH H) (hp : H p = none) (w : OR G (aH.length + 1) (ext1 al aH.length p) (upd H p u) p o) : HR G (ext1 al aH.length p) (aH ++ [o]) (upd H p u) := by
  have e : Ext aH.length al H (aH.length + 1) (ext1 al aH.length p) (upd H p u) := ext_new hp
  have old : ∀ (i : Nat) (x : AO), i < aH.length → aH[i]? = some x → x.trk = true → al i ≠ p := fun i x _ hi t z => by
    obtain ⟨y, hy⟩ := OR.at_ (h.ob i x hi) t
    rw [z, hp] at hy; cases hy
  refine ⟨fun i x hi => ?_, fun i j oi oj hi hj ti tj hh => ?_⟩
  · rw [List.length_append, List.length_singleton]
    by_cases hl : i < aH.length
    · rw [List.getElem?_append_left hl] at hi
      rw [ext1_lt hl]
      exact OR.mono (h.ob i x hi) e fun y hy => by rw [upd_ne (ne_of_none hy hp)]; exact hy
    · have hi' : i = aH.length := by
        obtain ⟨this, _⟩ := List.getElem?_eq_some_iff.mp hi
        rw [List.length_append, List.length_singleton] at this
        omega
      subst hi'
      rw [List.getElem?_append_right (Nat.le_refl _), Nat.sub_self] at hi
      cases hi
      rw [ext1_at]
      exact w
  · have bd : ∀ {k : Nat} {x : AO}, (aH ++ [o])[k]? = some x → k < aH.length ∨ k = aH.length := fun {k x} hk => by
      have := (List.getElem?_eq_some_iff.mp hk).1
      rw [List.length_append, List.length_singleton] at this
      omega
    rcases bd hi with li | li <;> rcases bd hj with lj | lj
    · rw [List.getElem?_append_left li] at hi
      rw [List.getElem?_append_left lj] at hj
      rw [ext1_lt li, ext1_lt lj] at hh
      exact h.inj i j oi oj hi hj ti tj hh
    · rw [List.getElem?_append_left li] at hi
      rw [ext1_lt li, lj, ext1_at] at hh
      exact absurd hh (old i oi li hi ti)
    · rw [List.getElem?_append_left lj] at hj
      rw [ext1_lt lj, li, ext1_at] at hh
      exact absurd hh.symm (old j oj lj hj tj)
    · omega
/-- something new beside: a tuple, an own dict -/
theorem ext_beside {u : HO} (hp : H p = none) : Ext n al H n al (upd H p u) := ⟨Nat.le_refl _, fun _ _ => rfl, fun b xs h => by rw [upd_ne (ne_of_none h hp)]; exact h, fun b o xs h => by rw [upd_ne (ne_of_none h hp)]; exact h⟩
theorem HR.beside {u : HO} (h : HR G al aH H) (hp : H p = none) : HR G al aH (upd H p u) :=
  ⟨fun i x hi => OR.mono (h.ob i x hi) (ext_beside hp) fun y hy => by rw [upd_ne (ne_of_none hy hp)]; exact hy, h.inj⟩
/-- object i gets another content -/
theorem ext_put {i : Nat} {u : HO} (h : HR G al aH H) (hi : aH[i]? = some o) (t : o.mut = true) : Ext aH.length al H aH.length al (upd H (al i) u) :=
  ⟨Nat.le_refl _, fun _ _ => rfl, fun b xs hb => by
    obtain ⟨y, hy, nt, _⟩ := OR.tk (h.ob i o hi) t
    rw [upd_ne (fun z => by rw [z, hy] at hb; cases hb; exact nt xs rfl)]
    exact hb, fun b ob xs hb => by
    obtain ⟨y, hy, _, nt⟩ := OR.tk (h.ob i o hi) t
    rw [upd_ne (fun z => by rw [z, hy] at hb; cases hb; exact nt ob xs rfl)]
    exact hb⟩
theorem HR.put {i : Nat} {u : HO} {o' : AO} (h : HR G al aH H) (hi : aH[i]? = some o) (t : o.mut = true) (t' : o'.trk = true) (w : OR G aH.length al (upd H (al i) u) (al i) o') : HR G al (aH.set i o') (upd H (al i) u) := by
  have hlt : i < aH.length := (List.getElem?_eq_some_iff.mp hi).1
  have E := ext_put (u := u) h hi t
  refine ⟨fun j x hj => ?_, fun j k oj ok hj hk tj tk hh => ?_⟩
  · rw [List.length_set]
    by_cases e : i = j
    · subst e
      rw [List.getElem?_set_self hlt] at hj
      cases hj
      exact w
    · rw [List.getElem?_set_ne e] at hj
      have q := h.ob j x hj
      cases tx : x.trk with
      | true =>
        refine OR.mono q E fun y hy => ?_
        rw [upd_ne (fun z => e (h.inj i j o x hi hj (AO.mut_trk t) tx z.symm))]
        exact hy
      | false =>
        cases x with
        | rol xs =>
          obtain ⟨vs, r, rs⟩ := q
          refine ⟨vs, ?_, rs.mono E⟩
          rcases r with ⟨ob, r⟩ | r
          · refine .inl ⟨ob, ?_⟩
            obtain ⟨y, hy, _⟩ := OR.tk (h.ob i o hi) t
            rw [upd_ne (fun z => ?_)]
            · exact r
            · have q2 := h.ob i o hi
              rw [← z] at q2
              cases o with
              | lst xs => obtain ⟨_, e1, _⟩ := q2; rw [r] at e1; cases e1
              | rol xs => cases t
              | dct xs => obtain ⟨_, e1, _⟩ := q2; rw [r] at e1; cases e1
              | dtp xs => obtain ⟨_, e1, _⟩ := q2; rw [r] at e1; cases e1
              | ldk xs => obtain ⟨_, _, e1, _⟩ := q2; rw [r] at e1; cases e1
              | ldt xs => obtain ⟨_, _, e1, _⟩ := q2; rw [r] at e1; cases e1
              | ins c xs => obtain ⟨_, _, e1, _⟩ := q2; rw [r] at e1; cases e1
              | xd xs => obtain ⟨_, e1, _⟩ := q2; rw [r] at e1; cases e1
          · exact .inr r
        | _ => cases tx
  · have old : ∀ {m : Nat} {x : AO}, (aH.set i o')[m]? = some x → x.trk = true → ∃ y, aH[m]? = some y ∧ y.trk = true := fun {m x} hm tx => by
      by_cases e : i = m
      · subst e; exact ⟨o, hi, AO.mut_trk t⟩
      · rw [List.getElem?_set_ne e] at hm
        exact ⟨x, hm, tx⟩
    obtain ⟨y, hy, ty⟩ := old hj tj
    obtain ⟨z, hz, tz⟩ := old hk tk
    exact h.inj j k y z hy hz ty tz hh
end

/-! ### results -/
inductive Rs (α : Type) where
  | ok (a : α) | ex (c k : Nat)
abbrev AM (α : Type) := List AO → Option (Rs α × List AO)
abbrev AEnv := List (Option AV)
abbrev AE := AEnv → AM AV
inductive Fl where
  | nx (e : AEnv) | rt (v : AV) | bk (e : AEnv) | ct (e : AEnv) | ex (c k : Nat) (e : AEnv)
abbrev AS := AEnv → List AO → Option (Fl × List AO)
def bnd {α β : Type} (m : Option (Rs α × List AO)) (f : α → AM β) : Option (Rs β × List AO) :=
  match m with
  | none => none
  | some (.ex c k, h) => some (.ex c k, h)
  | some (.ok a, h) => f a h
theorem bnd_some {α β : Type} {m : Option (Rs α × List AO)} {f : α → AM β} {r : Rs β} {h' : List AO} (e : bnd m f = some (r, h')) :
    (∃ c k, m = some (.ex c k, h') ∧ r = .ex c k) ∨ ∃ a h, m = some (.ok a, h) ∧ f a h = some (r, h') := by
  unfold bnd at e
  split at e
  · cases e
  · cases e; exact .inl ⟨_, _, rfl, rfl⟩
  · exact .inr ⟨_, _, rfl, e⟩

/-- the slots -/
structure ER (G : Gx) (n : Nat) (al : Nat → Addr) (H : Hp) (e : AEnv) (σ : L2.St) : Prop where
  len : e.length = σ.length
  at_ : ∀ (i : Nat) (v : AV), e[i]? = some (some v) → ∃ u, σ[i]? = some (some u) ∧ RA G n al H v u
section
variable {G : Gx} {n n' : Nat} {al al' : Nat → Addr} {H H' : Hp} {e : AEnv} {σ : L2.St}
theorem ER.mono (x : Ext n al H n' al' H') (h : ER G n al H e σ) : ER G n' al' H' e σ := ⟨h.len, fun i v q => let ⟨u, a, b⟩ := h.at_ i v q; ⟨u, a, b.mono x⟩⟩
theorem ER.set {i : Nat} {v : AV} {u : V} (h : ER G n al H e σ) (r : RA G n al H v u) : ER G n al H (e.set i (some v)) (σ.set i (some u)) := by
  refine ⟨by simp only [List.length_set]; exact h.len, fun j w q => ?_⟩
  by_cases hj : i = j
  · subst hj
    have hl : i < e.length := by
      have := (List.getElem?_eq_some_iff.mp q).1
      simpa using this
    rw [List.getElem?_set_self hl] at q
    cases q
    exact ⟨u, List.getElem?_set_self (by rw [← h.len]; exact hl), r⟩
  · rw [List.getElem?_set_ne hj] at q
    rw [List.getElem?_set_ne hj]
    exact h.at_ j w q
theorem ER.clear {i : Nat} (h : ER G n al H e σ) : ER G n al H (e.set i none) (σ.set i none) := by
  refine ⟨by simp only [List.length_set]; exact h.len, fun j w q => ?_⟩
  by_cases hj : i = j
  · subst hj
    by_cases hl : i < e.length
    · rw [List.getElem?_set_self hl] at q; cases q
    · rw [List.getElem?_eq_none (by simpa using hl)] at q; cases q
  · rw [List.getElem?_set_ne hj] at q
    rw [List.getElem?_set_ne hj]
    exact h.at_ j w q
def awipe (e : AEnv) : List Nat → AEnv
  | [] => e
  | v :: vs => (awipe e vs).set v none
theorem ER.wipe (h : ER G n al H e σ) : ∀ vs : List Nat, ER G n al H (awipe e vs) (wipe σ vs)
  | [] => h
  | _ :: vs => (ER.wipe h vs).clear
end

/-! ### what follows -/
section
variable (G : Gx) (W : WX) (n : Nat) (al : Nat → Addr) (H : Hp)
/-- a value comes, in a later state -/
def FwV (v : AV) (h' : List AO) (Q : VK) : Prop := ∀ al' H' u, Ext n al H h'.length al' H' → HR G al' h' H' → RA G h'.length al' H' v u → Q u H'
/-- an exception comes -/
def FwX (c k : Nat) (h' : List AO) (E : XK) : Prop := ∀ al' H', Ext n al H h'.length al' H' → HR G al' h' H' → k < h'.length → (∃ fs, h'[k]? = some (.xd fs)) → E (.ref (G.cl c)) (some (al' k)) H'
def PoE (σ : L2.St) (r : Rs AV) (h' : List AO) (Q : VK) : Prop := match r with
  | .ok v => FwV G n al H v h' Q
  | .ex c k => FwX G n al H c k h' fun cls d H' => W cls d σ H'
def PoT (σ : L2.St) (r : Rs Bool) (h' : List AO) (Q : Bool → Hp → Prop) : Prop := match r with
  | .ok b => ∀ al' H', Ext n al H h'.length al' H' → HR G al' h' H' → Q b H'
  | .ex c k => FwX G n al H c k h' fun cls d H' => W cls d σ H'
def PoA (σ : L2.St) (r : Rs (List AV)) (h' : List AO) (Q : List V → Hp → Prop) : Prop := match r with
  | .ok vs => ∀ al' H' us, Ext n al H h'.length al' H' → HR G al' h' H' → RAs G h'.length al' H' vs us → Q us H'
  | .ex c k => FwX G n al H c k h' fun cls d H' => W cls d σ H'
def FwE (e : AEnv) (h' : List AO) (Q : L2.St → Hp → Prop) : Prop := ∀ al' H' σ', Ext n al H h'.length al' H' → HR G al' h' H' → ER G h'.length al' H' e σ' → Q σ' H'
def PoS (fl : Fl) (h' : List AO) (D : Ends) : Prop := match fl with
  | .nx e => FwE G n al H e h' D.nx
  | .rt v => FwV G n al H v h' D.rt
  | .bk e => FwE G n al H e h' D.bk
  | .ct e => FwE G n al H e h' D.ct
  | .ex c k e => ∀ al' H' σ', Ext n al H h'.length al' H' → HR G al' h' H' → ER G h'.length al' H' e σ' → k < h'.length → (∃ fs, h'[k]? = some (.xd fs)) → W (.ref (G.cl c)) (some (al' k)) σ' H'
end
section
variable {G : Gx} {W : WX} {n n' : Nat} {al al' : Nat → Addr} {H H' : Hp} {v : AV} {h' : List AO} {Q : VK} {σ : L2.St}
theorem FwV.after (x : Ext n al H n' al' H') (q : FwV G n al H v h' Q) : FwV G n' al' H' v h' Q := fun a b c e hr r => q a b c (x.trans e) hr r
theorem FwX.after {c k : Nat} {E : XK} (x : Ext n al H n' al' H') (q : FwX G n al H c k h' E) : FwX G n' al' H' c k h' E := fun a b e hr => q a b (x.trans e) hr
theorem PoE.after {r : Rs AV} (x : Ext n al H n' al' H') (q : PoE G W n al H σ r h' Q) : PoE G W n' al' H' σ r h' Q := by
  cases r with
  | ok v => exact FwV.after x (show FwV G n al H v h' Q from q)
  | ex c k => exact FwX.after (E := fun cls d H' => W cls d σ H') x q
theorem PoT.after {r : Rs Bool} {Q : Bool → Hp → Prop} (x : Ext n al H n' al' H') (q : PoT G W n al H σ r h' Q) : PoT G W n' al' H' σ r h' Q := by
  cases r with
  | ok v => exact fun a b e hr => q a b (x.trans e) hr
  | ex c k => exact FwX.after (E := fun cls d H' => W cls d σ H') x q
theorem PoA.after {r : Rs (List AV)} {Q : List V → Hp → Prop} (x : Ext n al H n' al' H') (q : PoA G W n al H σ r h' Q) : PoA G W n' al' H' σ r h' Q := by
  cases r with
  | ok v => exact fun a b c e hr r => q a b c (x.trans e) hr r
  | ex c k => exact FwX.after (E := fun cls d H' => W cls d σ H') x q
theorem FwE.after {e : AEnv} {Q : L2.St → Hp → Prop} (x : Ext n al H n' al' H') (q : FwE G n al H e h' Q) : FwE G n' al' H' e h' Q := fun a b c e hr r => q a b c (x.trans e) hr r
theorem PoS.after {fl : Fl} {D : Ends} (x : Ext n al H n' al' H') (q : PoS G W n al H fl h' D) : PoS G W n' al' H' fl h' D := by
  cases fl with
  | nx e => exact FwE.after x (show FwE G n al H e h' _ from q)
  | rt v => exact FwV.after x (show FwV G n al H v h' _ from q)
  | bk e => exact FwE.after x (show FwE G n al H e h' _ from q)
  | ct e => exact FwE.after x (show FwE G n al H e h' _ from q)
  | ex c k e => exact fun a b s z hr r => q a b s (x.trans z) hr r
end

/-! ### the judgements -/
def SndE (G : Gx) (W : WX) (t : TE) (m : AE) : Prop := ∀ σ H al e h r h' Q, HR G al h H → ER G h.length al H e σ → m e h = some (r, h') → PoE G W h.length al H σ r h' Q → t σ H Q
def SndT (G : Gx) (W : WX) (t : TT) (m : AEnv → AM Bool) : Prop := ∀ σ H al e h r h' Q, HR G al h H → ER G h.length al H e σ → m e h = some (r, h') → PoT G W h.length al H σ r h' Q → t σ H Q
def SndA (G : Gx) (W : WX) (t : TA) (m : AEnv → AM (List AV)) : Prop := ∀ σ H al e h r h' Q, HR G al h H → ER G h.length al H e σ → m e h = some (r, h') → PoA G W h.length al H σ r h' Q → t σ H Q
def SndS (G : Gx) (W : WX) (t : TS) (m : AS) : Prop := ∀ σ H al e h fl h' D, HR G al h H → ER G h.length al H e σ → m e h = some (fl, h') → PoS G W h.length al H fl h' D → t D σ H
def SE (G : Gx) (X : Cx) (W : WX) (e : Expr) (m : AE) : Prop := ∃ t, PE X e t ∧ SndE G W t m
def ST (G : Gx) (X : Cx) (W : WX) (e : Expr) (m : AEnv → AM Bool) : Prop := ∃ t, PT X e t ∧ SndT G W t m
def SW (G : Gx) (X : Cx) (W : WX) (e : Expr) (m : AEnv → AM Bool) : Prop := ∃ t, PW X e t ∧ SndT G W t m
def SA (G : Gx) (X : Cx) (W : WX) (es : List Expr) (m : AEnv → AM (List AV)) : Prop := ∃ t, PA X es t ∧ SndA G W t m
def SS (G : Gx) (X : Cx) (W : WX) (st : Stmt) (m : AS) : Prop := ∃ t, PS X st t ∧ SndS G W t m
def SB (G : Gx) (X : Cx) (W : WX) (st : List Stmt) (m : AS) : Prop := ∃ t, PSs X st t ∧ SndS G W t m
end SL
/-! SL2: expressions. -/
namespace SL
open PySem PySem.Spec PyProof.Rows L2

section
variable {G : Gx} {X : Cx} {W : WX}
/-! ### what a name, what a constant is -/
def mVar (i : Nat) : AE := fun e h => match e[i]? with
  | some (some v) => some (.ok v, h)
  | _ => none
def mC (v : AV) : AE := fun _ h => some (.ok v, h)
theorem snd_var {i : Nat} : SndE G W (tVar i) (mVar i) := by
  intro σ H al e h r h' Q hr er hm q
  unfold mVar at hm
  split at hm
  · rename_i v hv
    cases hm
    obtain ⟨u, hu, ru⟩ := er.at_ i v hv
    exact ⟨u, hu, q al H u .refl hr ru⟩
  · cases hm
theorem se_var (i : Nat) {x : Str} {pos : Pos} (hN : X.N[i]? = some x := by rfl) (hv : Vis X.env.scope x := by first | exact Or.inl rfl | exact Or.inr (Or.inl rfl) | exact Or.inr (Or.inr rfl)) (hd : (x == ("__debug__" : Str)) = false := by decide)
    (hcd : (x == ("__classdict__" : Str)) = false := by decide) : SE G X W (.Name x pos) (mVar i) := ⟨_, pe_var hN hv hd hcd, snd_var⟩
theorem snd_c {v : AV} {u : V} (r : ∀ n al H, RA G n al H v u) : SndE G W (tC u) (mC v) := by
  intro σ H al e h rr h' Q hr er hm q
  cases hm
  exact q al H u .refl hr (r _ _ _)
theorem se_int {i : Int} {j pos} : SE G X W (.Constant (.int i) j pos) (mC (.int i)) := ⟨_, pe_int, snd_c fun _ _ _ => .int⟩
theorem se_bl {b : Bool} {j pos} : SE G X W (.Constant (.bool b) j pos) (mC (.bl b)) := ⟨_, pe_bl, snd_c fun _ _ _ => .bl⟩
theorem se_non {j pos} : SE G X W (.Constant .none j pos) (mC .non) := ⟨_, pe_non, snd_c fun _ _ _ => .non⟩
theorem se_str {x : Str} {j pos} : SE G X W (.Constant (.str x) j pos) (mC (.str x)) := ⟨_, pe_str, snd_c fun _ _ _ => .str⟩
/-- a module's name that holds a constant; a built-in class as a value -/
theorem se_glob {x : Str} {v : AV} {w : V} {u : Value} {pos : Pos} (hm : X.mg x = some u) (rw : RelV w u) (r : ∀ n al H, RA G n al H v w) (hg : Gl X x := by rfl) (hd : (x == ("__debug__" : Str)) = false := by decide) : SE G X W (.Name x pos) (mC v) :=
  ⟨_, pe_glob hg hm rw hd, snd_c r⟩
theorem se_ty {x : Str} {T : String} {pos : Pos} (hm : X.mg x = none) (hv : bootBuiltins x = some (.type T)) (hg : Gl X x := by rfl) (hn : x ≠ "__name__" := by decide) (hd : (x == ("__debug__" : Str)) = false := by decide) :
    SE G X W (.Name x pos) (mC (.cst (.ty T))) := ⟨_, pe_bltn (v := .ty T) hg hm hv rfl hn hd, snd_c fun _ _ _ => .cst⟩

/-! ### two in a row -/
def m2 (f : AV → AV → List AO → Option (AV × List AO)) (ma mb : AE) : AE := fun e h => bnd (ma e h) fun x h1 => bnd (mb e h1) fun y h2 => match f x y h2 with
  | some (v, h3) => some (.ok v, h3)
  | none => none
/-- a two-place operation, by values -/
def SndO (G : Gx) (r : R2) (f : AV → AV → List AO → Option (AV × List AO)) : Prop := ∀ H al h x y u w v h' (Q : VK), HR G al h H → RA G h.length al H x u → RA G h.length al H y w → f x y h = some (v, h') → FwV G h.length al H v h' Q → r u w H Q
theorem snd_2 {ta tb : TE} {ma mb : AE} {r : R2} {f : AV → AV → List AO → Option (AV × List AO)} (ha : SndE G W ta ma) (hb : SndE G W tb mb) (ho : SndO G r f) : SndE G W (tOp r ta tb) (m2 f ma mb) := by
  intro σ H al e h rr h' Q hr er hm q
  rcases bnd_some hm with ⟨c, k, e1, rfl⟩ | ⟨x, h1, e1, e2⟩
  · exact ha σ H al e h _ _ _ hr er e1 q
  · refine ha σ H al e h _ _ _ hr er e1 ?_
    intro al1 H1 u x1 hr1 r1
    rcases bnd_some e2 with ⟨c, k, e3, rfl⟩ | ⟨y, h2, e3, e4⟩
    · exact hb σ H1 al1 e h1 _ _ _ hr1 (er.mono x1) e3 (PoE.after (r := .ex c k) x1 q)
    · refine hb σ H1 al1 e h1 _ _ _ hr1 (er.mono x1) e3 ?_
      intro al2 H2 w x2 hr2 r2
      split at e4
      · rename_i v h3 e5
        cases e4
        exact ho H2 al2 h2 x y u w v _ Q hr2 (r1.mono x2) r2 e5 (FwV.after (x1.trans x2) q)
      · cases e4
theorem se_bin {op : Operator} {a b : Expr} {ma mb : AE} {r : R2} {f : AV → AV → List AO → Option (AV × List AO)} {pos : Pos} (ho : OpR X (binaryOp op) r) (hs : SndO G r f) (ha : SE G X W a ma) (hb : SE G X W b mb) : SE G X W (.BinOp a op b pos) (m2 f ma mb) := by
  obtain ⟨ta, pa, sa⟩ := ha
  obtain ⟨tb, pb, sb⟩ := hb
  exact ⟨_, pe_op ho pa pb, snd_2 sa sb hs⟩
def orO (f g : AV → AV → List AO → Option (AV × List AO)) : AV → AV → List AO → Option (AV × List AO) := fun x y h => match f x y h with
  | some z => some z
  | none => g x y h
theorem SndO.or {r r' : R2} {f g : AV → AV → List AO → Option (AV × List AO)} (a : SndO G r f) (b : SndO G r' g) : SndO G (fun x y H Q => r x y H Q ∨ r' x y H Q) (orO f g) := by
  intro H al h x y u w v h' Q hr rx ry e q
  unfold orO at e
  split at e
  · rename_i z e1
    cases e
    exact .inl (a H al h x y u w v h' Q hr rx ry e1 q)
  · exact .inr (b H al h x y u w v h' Q hr rx ry e q)

/-! ### numbers -/
def fI (g : Int → Int → Option AV) : AV → AV → List AO → Option (AV × List AO) := fun x y h => match x, y with
  | .int i, .int j => (g i j).map fun v => (v, h)
  | _, _ => none
theorem fI_some {g : Int → Int → Option AV} {x y v : AV} {h h' : List AO} (e : fI g x y h = some (v, h')) : ∃ i j, x = .int i ∧ y = .int j ∧ g i j = some v ∧ h' = h := by
  unfold fI at e
  split at e
  · rename_i i j
    cases q : g i j with
    | none => rw [q] at e; exact nomatch e
    | some z => rw [q] at e; cases e; exact ⟨i, j, rfl, rfl, q, rfl⟩
  · cases e
theorem snd_I0 {g : Int → Int → V} {ga : Int → Int → Option AV} (hg : ∀ i j v, ga i j = some v → ∀ n al H, RA G n al H v (g i j)) : SndO G (rI0 g) (fI ga) := by
  intro H al h x y u w v h' Q hr rx ry e q
  obtain ⟨i, j, rfl, rfl, e1, rfl⟩ := fI_some e
  cases rx; cases ry
  exact ⟨i, j, rfl, rfl, q al H _ .refl hr (hg i j v e1 _ _ _)⟩
theorem snd_I {C : Int → Int → Prop} {g : Int → Int → V} {ga : Int → Int → Option AV} (hg : ∀ i j v, ga i j = some v → C i j ∧ ∀ n al H, RA G n al H v (g i j)) : SndO G (rI C g) (fI ga) := by
  intro H al h x y u w v h' Q hr rx ry e q
  obtain ⟨i, j, rfl, rfl, e1, rfl⟩ := fI_some e
  cases rx; cases ry
  obtain ⟨c, r⟩ := hg i j v e1
  exact ⟨i, j, rfl, rfl, c, q al H _ .refl hr (r _ _ _)⟩
/-- the most bits that a factor may have -/
def bigOk (i : Int) : Bool := decide (i.natAbs < 2 ^ 10000000)
def oAdd0 := fI fun i j => some (.int (i + j))
def oSub := fI fun i j => some (.int (i - j))
theorem snd_add0 : SndO G (rI0 fun i j => .int (i + j)) oAdd0 := snd_I0 fun i j v e _ _ _ => by cases e; exact .int
theorem snd_sub : SndO G (rI0 fun i j => .int (i - j)) oSub := snd_I0 fun i j v e _ _ _ => by cases e; exact .int
def oMod := fI fun i j => if j = 0 then none else some (.int (i.fmod j))
theorem snd_mod : SndO G (rI (fun _ j => j ≠ 0) fun i j => .int (i.fmod j)) oMod := snd_I fun i j v e => by
  split at e
  · cases e
  · rename_i hj; cases e; exact ⟨hj, fun _ _ _ => .int⟩
def oFdiv := fI fun i j => if j ≠ 0 ∧ j.natAbs < 1073741824 then some (.int (i.fdiv j)) else none
theorem snd_fdiv : SndO G (rI CDivN fun i j => .int (i.fdiv j)) oFdiv := snd_I fun i j v e => by
  split at e
  · rename_i hj; cases e; exact ⟨hj, fun _ _ _ => .int⟩
  · cases e
def oMul := fI fun i j => if i.natAbs.log2 + j.natAbs.log2 < 130000000 then some (.int (i * j)) else none
theorem intBits_le (x : Int) : Builtin.Int.intBits x ≤ x.natAbs.log2 + 1 := by
  unfold Builtin.Int.intBits
  split <;> omega
def CMulS (i j : Int) : Prop := i.natAbs.log2 + j.natAbs.log2 < 130000000
theorem CMulS.ok {i j : Int} (h : CMulS i j) : IntMulOk i j := by
  have h1 := intBits_le i
  have h2 := intBits_le j
  have h3 : i.natAbs.log2 + j.natAbs.log2 < 130000000 := h
  have line : ((134217728 : Nat) : Int) = ((bitsLine : Nat) : Int) := by decide
  unfold IntMulOk
  intro big
  have ⟨_, sum⟩ := (Bool.and_eq_true _ _).mp big
  have over := of_decide_eq_true (show decide (((Builtin.Int.intBits i : Nat) : Int) + ((Builtin.Int.intBits j : Nat) : Int) > ((bitsLine : Nat) : Int)) = true from sum)
  rw [← line] at over
  omega
theorem op_mulS : OpR X (binaryOp .Mult) (rI CMulS fun i j => .int (i * j)) := opI fun _ _ _ _ _ _ _ hc q => mul_int q hc.ok
theorem snd_mul : SndO G (rI CMulS fun i j => .int (i * j)) oMul := snd_I fun i j v e => by
  split at e
  · rename_i hj; cases e; exact ⟨hj, fun _ _ _ => .int⟩
  · cases e
def oPow := fI fun i j => if 0 ≤ j ∧ ((i.natAbs.log2 : Int) + 1) * j ≤ 2 ^ 27 then some (.int (i ^ j.toNat)) else none
def CPowS (i j : Int) : Prop := 0 ≤ j ∧ ((i.natAbs.log2 : Int) + 1) * j ≤ 2 ^ 27
theorem op_powS : OpR X (binaryOp .Pow) (rI CPowS fun i j => .int (i ^ j.toNat)) := opI fun i j _ _ _ _ _ hc q => by
  refine pow_int hc.1 (Int.le_trans (Int.mul_le_mul_of_nonneg_right ?_ hc.1) hc.2) q
  have := intBits_le i
  omega
theorem snd_pow : SndO G (rI CPowS fun i j => .int (i ^ j.toNat)) oPow := snd_I fun i j v e => by
  split at e
  · rename_i hj; cases e; exact ⟨hj, fun _ _ _ => .int⟩
  · cases e
def m1 (f : AV → List AO → Option (AV × List AO)) (ma : AE) : AE := fun e h => bnd (ma e h) fun x h1 => match f x h1 with
  | some (v, h3) => some (.ok v, h3)
  | none => none
def oNeg : AV → List AO → Option (AV × List AO) := fun x h => match x with
  | .int i => some (.int (-i), h)
  | _ => none
theorem se_neg {a : Expr} {ma : AE} {pos : Pos} (ha : SE G X W a ma) : SE G X W (.UnaryOp .USub a pos) (m1 oNeg ma) := by
  obtain ⟨ta, pa, sa⟩ := ha
  refine ⟨_, pe_un un_neg pa, ?_⟩
  intro σ H al e h rr h' Q hr er hm q
  rcases bnd_some hm with ⟨c, k, e1, rfl⟩ | ⟨x, h1, e1, e2⟩
  · exact sa σ H al e h _ _ _ hr er e1 q
  · refine sa σ H al e h _ _ _ hr er e1 ?_
    intro al1 H1 u x1 hr1 r1
    unfold oNeg at e2
    cases x with
    | int i =>
      cases e2
      cases r1
      exact ⟨i, rfl, q al1 H1 _ x1 hr1 .int⟩
    | _ => cases e2

/-! ### sequences joined -/
def oAddS : AV → AV → List AO → Option (AV × List AO) := fun x y h => match x, y with
  | .str a, .str b => if a.length + b.length ≤ 1000000 then some (.str (a ++ b), h) else none
  | _, _ => none
theorem snd_addS : SndO G (fun x y H Q => ∃ i j, x = .str i ∧ y = .str j ∧ i.length + j.length ≤ sizeLine ∧ Q (.str (i ++ j)) H) oAddS := by
  intro H al h x y u w v h' Q hr rx ry e q
  unfold oAddS at e
  split at e
  · rename_i a b
    split at e
    · rename_i hz
      cases e
      cases rx; cases ry
      exact ⟨a, b, rfl, rfl, by rw [sizeLine_eq]; omega, q al H _ .refl hr .str⟩
    · cases e
  · cases e
def oAddL : AV → AV → List AO → Option (AV × List AO) := fun x y h => match x, y with
  | .ref i, .ref j => match h[i]?, h[j]? with
    | some (.lst a), some (.lst b) => if a.length + b.length ≤ 1000000 then some (.ref h.length, h ++ [.lst (a ++ b)]) else none
    | _, _ => none
  | _, _ => none
theorem HR.newL {al : Nat → Addr} {h : List AO} {H : Hp} {xs : List AV} {vs : List V} {p : Addr} (hr : HR G al h H) (hp : H p = none) (rs : RAs G h.length al H xs vs) : HR G (ext1 al h.length p) (h ++ [.lst xs]) (upd H p (.lst vs)) :=
  hr.new hp ⟨vs, upd_same, rs.mono (ext_new hp)⟩
theorem FwV.newL {al : Nat → Addr} {h : List AO} {H : Hp} {xs : List AV} {vs : List V} {p : Addr} {n0 : Nat} {al0 : Nat → Addr} {H0 : Hp} {Q : VK} (x : Ext n0 al0 H0 h.length al H) (hr : HR G al h H) (hp : H p = none) (rs : RAs G h.length al H xs vs)
    (q : FwV G n0 al0 H0 (.ref h.length) (h ++ [.lst xs]) Q) : Q (.ref p) (upd H p (.lst vs)) := by
  have hl : (h ++ [AO.lst xs]).length = h.length + 1 := by rw [List.length_append, List.length_singleton]
  refine q (ext1 al h.length p) _ _ (x.trans (by rw [hl]; exact ext_new hp)) (hr.newL hp rs) ?_
  have r : RA G (h ++ [AO.lst xs]).length (ext1 al h.length p) (upd H p (.lst vs)) (.ref h.length) (.ref (ext1 al h.length p h.length)) := .ref (by rw [hl]; omega)
  rw [ext1_at] at r
  exact r
theorem lstAt {al : Nat → Addr} {h : List AO} {H : Hp} {i : Nat} {xs : List AV} (hr : HR G al h H) (e : h[i]? = some (.lst xs)) : ∃ vs, H (al i) = some (.lst vs) ∧ RAs G h.length al H xs vs := hr.ob i _ e
theorem refAt {al : Nat → Addr} {n i : Nat} {H : Hp} {u : V} (r : RA G n al H (.ref i) u) : u = .ref (al i) := by cases r; rfl
theorem snd_addL : SndO G rCat oAddL := by
  intro H al h x y u w v h' Q hr rx ry e q
  unfold oAddL at e
  split at e
  · rename_i i j
    split at e
    · rename_i a b ha hb
      split at e
      · rename_i hz
        cases e
        obtain ⟨vs, e1, r1⟩ := lstAt hr ha
        obtain ⟨us, e2, r2⟩ := lstAt hr hb
        have l1 := r1.length
        have l2 := r2.length
        exact ⟨al i, al j, vs, us, refAt rx, refAt ry, e1, e2, by rw [sizeLine_eq]; omega, fun p hp => FwV.newL .refl hr hp (r1.append r2) q⟩
      · cases e
    · cases e
  · cases e
def oAddT : AV → AV → List AO → Option (AV × List AO) := fun x y h => match x, y with
  | .tup a, .tup b => if a ≠ [] ∧ a.length + b.length ≤ 1000000 then some (.tup (a ++ b), h) else none
  | _, _ => none
theorem FwV.newT {al : Nat → Addr} {h : List AO} {H : Hp} {xs : List AV} {vs : List V} {p : Addr} {n0 : Nat} {al0 : Nat → Addr} {H0 : Hp} {Q : VK} (hz : G.fz = false) (x : Ext n0 al0 H0 h.length al H) (hr : HR G al h H) (hp : H p = none) (rs : RAs G h.length al H xs vs)
    (q : FwV G n0 al0 H0 (.tup xs) h Q) : Q (.ref p) (upd H p (.tup vs)) :=
  q al _ _ (x.trans (ext_beside hp)) (hr.beside hp) (.tup (.inl ⟨hz, upd_same⟩) (rs.mono (ext_beside hp)))
theorem FwV.newF {al : Nat → Addr} {h : List AO} {H : Hp} {xs : List AV} {vs : List V} {p : Addr} {n0 : Nat} {al0 : Nat → Addr} {H0 : Hp} {Q : VK} {o : Obj} (hz : G.fz = true) (ho : o.dict = none) (x : Ext n0 al0 H0 h.length al H) (hr : HR G al h H) (hp : H p = none) (rs : RAs G h.length al H xs vs)
    (q : FwV G n0 al0 H0 (.tup xs) h Q) : Q (.ref p) (upd H p (.frz o (.tup vs))) :=
  q al _ _ (x.trans (ext_beside hp)) (hr.beside hp) (.tup (.inr (.inl ⟨hz, o, ho, upd_same⟩)) (rs.mono (ext_beside hp)))
theorem tupAt {al : Nat → Addr} {n : Nat} {H : Hp} {xs : List AV} {u : V} (r : RA G n al H (.tup xs) u) : ∃ a vs, u = .ref a ∧ TupAt G H a vs ∧ RAs G n al H xs vs := by
  cases r with
  | tup h hs => exact ⟨_, _, rfl, h, hs⟩
theorem snd_addT (hz : G.fz = false) : SndO G (rCatT G.K) oAddT := by
  intro H al h x y u w v h' Q hr rx ry e q
  unfold oAddT at e
  split at e
  · rename_i a b
    split at e
    · rename_i hl
      cases e
      obtain ⟨p1, vs, rfl, t1, r1⟩ := tupAt rx
      obtain ⟨p2, us, rfl, t2, r2⟩ := tupAt ry
      have l1 := r1.length
      have l2 := r2.length
      refine ⟨p1, p2, vs, us, rfl, rfl, t1.sq, t2.sq, ?_, by rw [sizeLine_eq]; omega, fun z => ?_, fun _ p hp => FwV.newT hz .refl hr hp (r1.append r2) q⟩
      · rintro rfl
        exact hl.1 (List.length_eq_zero_iff.mp l1)
      · subst z
        have b0 : b = [] := List.length_eq_zero_iff.mp l2
        subst b0
        rw [List.append_nil] at q
        exact q al H _ .refl hr rx
    · cases e
  · cases e
/-- + of whatever they are (T: tuples, too) -/
def oAdd : AV → AV → List AO → Option (AV × List AO) := orO (orO oAdd0 oAddS) oAddL
def oAddA : AV → AV → List AO → Option (AV × List AO) := orO oAdd oAddT
theorem se_add {a b : Expr} {ma mb : AE} {pos : Pos} (ha : SE G X W a ma) (hb : SE G X W b mb) : SE G X W (.BinOp a .Add b pos) (m2 oAdd ma mb) :=
  se_bin ((op_add.or op_add_str).or op_cat) ((snd_add0.or snd_addS).or snd_addL) ha hb
theorem se_addT {a b : Expr} {ma mb : AE} {pos : Pos} (hz : G.fz = false) (hK : X.K = G.K) (ha : SE G X W a ma) (hb : SE G X W b mb) : SE G X W (.BinOp a .Add b pos) (m2 oAddA ma mb) :=
  se_bin (((op_add.or op_add_str).or op_cat).or (hK ▸ op_catT)) (((snd_add0.or snd_addS).or snd_addL).or (snd_addT hz)) ha hb
theorem se_sub {a b : Expr} {ma mb : AE} {pos : Pos} (ha : SE G X W a ma) (hb : SE G X W b mb) : SE G X W (.BinOp a .Sub b pos) (m2 oSub ma mb) := se_bin op_sub snd_sub ha hb
theorem se_mul {a b : Expr} {ma mb : AE} {pos : Pos} (ha : SE G X W a ma) (hb : SE G X W b mb) : SE G X W (.BinOp a .Mult b pos) (m2 oMul ma mb) := se_bin op_mulS snd_mul ha hb
theorem se_mod {a b : Expr} {ma mb : AE} {pos : Pos} (ha : SE G X W a ma) (hb : SE G X W b mb) : SE G X W (.BinOp a .Mod b pos) (m2 oMod ma mb) := se_bin op_modN snd_mod ha hb
theorem se_fdiv {a b : Expr} {ma mb : AE} {pos : Pos} (ha : SE G X W a ma) (hb : SE G X W b mb) : SE G X W (.BinOp a .FloorDiv b pos) (m2 oFdiv ma mb) := se_bin op_fdivN snd_fdiv ha hb
theorem se_pow {a b : Expr} {ma mb : AE} {pos : Pos} (ha : SE G X W a ma) (hb : SE G X W b mb) : SE G X W (.BinOp a .Pow b pos) (m2 oPow ma mb) := se_bin op_powS snd_pow ha hb

/-! ### data -/
mutual
def toD0 (rf : Nat → Option PyData) : AV → Option PyData
  | .non => some .none
  | .bl b => some (.bool b)
  | .int i => some (.int i)
  | .str x => some (.str x)
  | .tup xs => (toD0s rf xs).map .tuple
  | .ref i => rf i
  | .cst _ => none
  | .ktp _ => none
def toD0s (rf : Nat → Option PyData) : List AV → Option (List PyData)
  | [] => some []
  | x :: xs => match toD0 rf x, toD0s rf xs with
    | some d0, some rest => some (d0 :: rest)
    | _, _ => none
end
def rfD : Nat → List AO → Nat → Option PyData
  | 0, _, _ => none
  | f + 1, h, i => match h[i]? with
    | some (.lst xs) => (toD0s (rfD f h) xs).map .list
    | some (.rol xs) => (toD0s (rfD f h) xs).map .list
    | _ => none
def toD (h : List AO) (v : AV) : Option PyData := toD0 (rfD 12 h) v
section
variable {al : Nat → Addr} {n : Nat} {H : Hp}
mutual
theorem dp_of {rf : Nat → Option PyData} (hrf : ∀ i d, rf i = some d → Dp G.K H (.ref (al i)) d) : ∀ (v : AV) (u : V) (d : PyData), RA G n al H v u → toD0 rf v = some d → Dp G.K H u d
  | .non, _, _, r, e => by cases r; cases e; exact .non
  | .bl b, _, _, r, e => by cases r; cases e; exact .bl b
  | .int b, _, _, r, e => by cases r; cases e; exact .int b
  | .str b, _, _, r, e => by cases r; cases e; exact .str b
  | .tup xs, _, d, r, e => by
    obtain ⟨a, vs, rfl, t, rs⟩ := tupAt r
    have e' : (toD0s rf xs).map PyData.tuple = some d := e
    cases q : toD0s rf xs with
    | none => rw [q] at e'; cases e'
    | some ds =>
      rw [q] at e'; cases e'
      exact .tup t.sq (dps_of hrf xs vs ds rs q)
  | .ref i, _, d, r, e => by
    have e' : rf i = some d := e
    cases refAt r
    exact hrf i d e'
  | .cst v, _, _, _, e => by cases e
theorem dps_of {rf : Nat → Option PyData} (hrf : ∀ i d, rf i = some d → Dp G.K H (.ref (al i)) d) : ∀ (xs : List AV) (us : List V) (ds : List PyData), RAs G n al H xs us → toD0s rf xs = some ds → DpAll G.K H us ds
  | [], _, _, r, e => by cases r; cases e; exact .nil
  | x :: xs, _, ds, r, e => by
    cases r with
    | cons r rs =>
      unfold toD0s at e
      split at e
      · rename_i d ds' e1 e2
        cases e
        exact .cons (dp_of hrf x _ d r e1) (dps_of hrf xs _ ds' rs e2)
      · cases e
end
theorem rfD_ok {h : List AO} (hr : HR G al h H) : ∀ (f i : Nat) (d : PyData), rfD f h i = some d → Dp G.K H (.ref (al i)) d
  | 0, _, _, e => by cases e
  | f + 1, i, d, e => by
    unfold rfD at e
    split at e
    · rename_i xs hi
      obtain ⟨vs, e1, r1⟩ := lstAt hr hi
      cases q : toD0s (rfD f h) xs with
      | none => rw [q] at e; exact nomatch e
      | some ds =>
        rw [q] at e; cases e
        exact .lst (SqL.of e1) (dps_of (rfD_ok hr f) xs vs ds r1 q)
    · rename_i xs hi
      obtain ⟨vs, e1, r1⟩ := (hr.ob i _ hi : ∃ vs, RoL G.K H (al i) vs ∧ RAs G h.length al H xs vs)
      cases q : toD0s (rfD f h) xs with
      | none => rw [q] at e; exact nomatch e
      | some ds =>
        rw [q] at e; cases e
        exact .lst e1.sq (dps_of (rfD_ok hr f) xs vs ds r1 q)
    · cases e
theorem toD_ok {h : List AO} {v : AV} {u : V} {d : PyData} (hr : HR G al h H) (r : RA G n al H v u) (e : toD h v = some d) : Dp G.K H u d := dp_of (rfD_ok hr 12) v u d r e
end

/-! ### == -/
def eqS : AV → AV → Option Bool
  | .int i, .int j => some (i == j)
  | .str x, .str y => some (x == y)
  | .bl a, .bl b => some (a == b)
  | .non, .non => some true
  | .non, .int _ => some false | .int _, .non => some false | .non, .bl _ => some false | .bl _, .non => some false | .non, .str _ => some false | .str _, .non => some false
  | .int _, .str _ => some false | .str _, .int _ => some false | .bl _, .str _ => some false | .str _, .bl _ => some false
  | _, _ => none
theorem eqS_ok {x y : AV} {u w : V} {b : Bool} {n : Nat} {al : Nat → Addr} {H : Hp} (rx : RA G n al H x u) (ry : RA G n al H y w) (e : eqS x y = some b) : scal u w = true ∧ decide (u = w) = b := by
  unfold eqS at e
  split at e <;> first
    | (cases e; cases rx; cases ry; refine ⟨rfl, ?_⟩; first | exact dec_int | exact dec_str | exact dec_bl | rfl | simp)
    | cases e
def eqA (h : List AO) (x y : AV) : Option Bool := match eqS x y with
  | some b => some b
  | none => match toD h x, toD h y with
    | some d, some e => if SeqAt.shaped d && SeqAt.shaped e then some (PyData.eqv d e) else none
    | _, _ => none
def cEq (neg : Bool) : AV → AV → List AO → Option (AV × List AO) := fun x y h => (eqA h x y).map fun b => (.bl (if neg then !b else b), h)
theorem cEq_some {neg : Bool} {x y v : AV} {h h' : List AO} (e : cEq neg x y h = some (v, h')) : ∃ b, eqA h x y = some b ∧ v = .bl (if neg then !b else b) ∧ h' = h := by
  unfold cEq at e
  cases q : eqA h x y with
  | none => rw [q] at e; exact nomatch e
  | some b => rw [q] at e; cases e; exact ⟨b, rfl, rfl, rfl⟩
theorem snd_eq : SndO G (fun x y H Q => rEq x y H Q ∨ rEqD G.K x y H Q) (cEq false) := by
  intro H al h x y u w v h' Q hr rx ry e q
  obtain ⟨b, e1, rfl, rfl⟩ := cEq_some e
  unfold eqA at e1
  split at e1
  · rename_i b' e2
    cases e1
    obtain ⟨s, e3⟩ := eqS_ok rx ry e2
    refine .inl ⟨s, ?_⟩
    rw [e3]
    exact q al H _ .refl hr .bl
  · split at e1
    · rename_i d1 d2 e3 e4
      split at e1
      · rename_i hs
        cases e1
        rw [Bool.and_eq_true] at hs
        exact .inr ⟨d1, d2, toD_ok hr rx e3, toD_ok hr ry e4, hs.1, hs.2, q al H _ .refl hr .bl⟩
      · cases e1
    · cases e1
theorem snd_ne : SndO G (fun x y H Q => rNe x y H Q ∨ rNeD G.K x y H Q) (cEq true) := by
  intro H al h x y u w v h' Q hr rx ry e q
  obtain ⟨b, e1, rfl, rfl⟩ := cEq_some e
  unfold eqA at e1
  split at e1
  · rename_i b' e2
    cases e1
    obtain ⟨s, e3⟩ := eqS_ok rx ry e2
    refine .inl ⟨s, ?_⟩
    rw [e3]
    exact q al H _ .refl hr .bl
  · split at e1
    · rename_i d1 d2 e3 e4
      split at e1
      · rename_i hs
        cases e1
        rw [Bool.and_eq_true] at hs
        exact .inr ⟨d1, d2, toD_ok hr rx e3, toD_ok hr ry e4, hs.1, hs.2, q al H _ .refl hr .bl⟩
      · cases e1
    · cases e1
end
end SL
/-! SL3: comparisons, tests, displays, subscripts, attributes. -/
namespace SL
open PySem PySem.Spec PyProof.Rows L2
section
variable {G : Gx} {X : Cx} {W : WX}

/-! ### order -/
def cB (g : Int → Int → Bool) (gs : Str → Str → Bool) : AV → AV → List AO → Option (AV × List AO) := fun x y h => match x, y with
  | .int i, .int j => some (.bl (g i j), h)
  | .str a, .str b => some (.bl (gs a b), h)
  | _, _ => none
def rB (g : Int → Int → Bool) (gs : Str → Str → Bool) : R2 := fun x y H Q => rI0 (fun i j => .bl (g i j)) x y H Q ∨ ∃ i j, x = .str i ∧ y = .str j ∧ Q (.bl (gs i j)) H
theorem snd_B {g : Int → Int → Bool} {gs : Str → Str → Bool} : SndO G (rB g gs) (cB g gs) := by
  intro H al h x y u w v h' Q hr rx ry e q
  unfold cB at e
  split at e
  · rename_i i j
    cases e; cases rx; cases ry
    exact .inl ⟨i, j, rfl, rfl, q al H _ .refl hr .bl⟩
  · rename_i i j
    cases e; cases rx; cases ry
    exact .inr ⟨i, j, rfl, rfl, q al H _ .refl hr .bl⟩
  · cases e
def sLt (a b : Str) : Bool := decide (a.cps.toList < b.cps.toList)
def sLe (a b : Str) : Bool := !decide (b.cps.toList < a.cps.toList)
def cLt := cB (fun i j => decide (i < j)) sLt
def cLe := cB (fun i j => decide (i ≤ j)) sLe
theorem opr_lt : OpR X (compareOp .Lt) (rB (fun i j => decide (i < j)) sLt) := op_lt.or op_lt_str
theorem opr_le : OpR X (compareOp .LtE) (rB (fun i j => decide (i ≤ j)) sLe) := op_le.or op_le_str
/-- ints alone -/
def cI (g : Int → Int → Bool) : AV → AV → List AO → Option (AV × List AO) := fI fun i j => some (.bl (g i j))
theorem snd_cI {g : Int → Int → Bool} : SndO G (rI0 fun i j => .bl (g i j)) (cI g) := snd_I0 fun i j v e _ _ _ => by cases e; exact .bl
def cGt := cI fun i j => decide (j < i)
def cGe := cI fun i j => decide (j ≤ i)

/-! ### is None -/
def cIsN (neg : Bool) : AV → AV → List AO → Option (AV × List AO) := fun x y h => match y with
  | .non => match x with
    | .non => some (.bl (!neg), h)
    | .cst _ => none
    | _ => some (.bl neg, h)
  | _ => none
theorem snd_isN : SndO G (fun x y H Q => y = .non ∧ Q (.bl (decide (x = .non))) H) (cIsN false) := by
  intro H al h x y u w v h' Q hr rx ry e q
  unfold cIsN at e
  split at e
  · cases ry
    split at e
    · cases e; cases rx; exact ⟨rfl, q al H _ .refl hr .bl⟩
    · cases e
    · cases e
      refine ⟨rfl, ?_⟩
      have z : decide (u = V.non) = false := by cases rx <;> first | rfl | (exfalso; rename_i z1 z2; first | exact z1 rfl | exact z2 _ rfl)
      rw [z]; exact q al H _ .refl hr .bl
  · cases e
theorem snd_notN : SndO G (fun x y H Q => y = .non ∧ Q (.bl (!decide (x = .non))) H) (cIsN true) := by
  intro H al h x y u w v h' Q hr rx ry e q
  unfold cIsN at e
  split at e
  · cases ry
    split at e
    · cases e; cases rx; exact ⟨rfl, q al H _ .refl hr .bl⟩
    · cases e
    · cases e
      refine ⟨rfl, ?_⟩
      have z : decide (u = V.non) = false := by cases rx <;> first | rfl | (exfalso; rename_i z1 z2; first | exact z1 rfl | exact z2 _ rfl)
      rw [z]; exact q al H _ .refl hr .bl
  · cases e

/-! ### in -/
def flatA : AV → Bool
  | .non => true | .bl _ => true | .int _ => true | .str _ => true
  | _ => false
def eqF : AV → AV → Bool
  | .non, .non => true
  | .bl a, .bl b => a == b
  | .bl t, .int j => (if t then 1 else 0) == j
  | .int i, .bl t => i == (if t then 1 else 0)
  | .int a, .int b => a == b
  | .str a, .str b => a == b
  | _, _ => false
section
variable {n : Nat} {al : Nat → Addr} {H : Hp}
theorem flat_ok {x : AV} {u : V} (r : RA G n al H x u) (f : flatA x = true) : flatV u = true := by cases r <;> first | rfl | cases f
theorem flats_ok : ∀ {xs : List AV} {us : List V}, RAs G n al H xs us → xs.all flatA = true → us.all flatV = true
  | _, _, .nil, _ => rfl
  | _, _, .cons r rs, f => by
    rw [List.all_cons, Bool.and_eq_true] at f ⊢
    exact ⟨flat_ok r f.1, flats_ok rs f.2⟩
theorem eqF_ok {x y : AV} {u w : V} (rx : RA G n al H x u) (ry : RA G n al H y w) (fx : flatA x = true) (fy : flatA y = true) : eqV u w = eqF x y := by
  cases rx <;> first | (cases fx; done) | (cases ry <;> first | rfl | (cases fy; done))
theorem inA_ok {y : AV} {w : V} (ry : RA G n al H y w) (fy : flatA y = true) : ∀ {xs : List AV} {us : List V}, RAs G n al H xs us → xs.all flatA = true → inV w us = xs.any fun x => eqF x y
  | _, _, .nil, _ => rfl
  | _, _, .cons r rs, f => by
    simp only [List.all_cons, Bool.and_eq_true] at f
    unfold inV
    rw [List.any_cons, List.any_cons, eqF_ok r ry f.1 fy]
    have := inA_ok ry fy rs f.2
    unfold inV at this
    rw [this]
end
def rInDT (K : PySem.W.Frag) (neg : Bool) : R2 := fun x y H Q => ∃ d ds, Dp K H x d ∧ (Dp K H y (.tuple ds) ∨ Dp K H y (.list ds)) ∧ SeqAt.shaped d = true ∧ PyData.canLayAll0 ds = true ∧ Q (.bl (if neg then !(ds.any fun z => PyData.eqv z d) else ds.any fun z => PyData.eqv z d)) H
theorem opInDT (neg : Bool) (hu : X.A.units + 65 < cLine) : OpR X (compareOp (if neg then .NotIn else .In)) (rInDT X.K neg) := by
  rintro pins t σ H x y v u Q inv rx ry ⟨d, ds, hd, hy, shp, lay, q⟩
  have ⟨_, ra⟩ := Dp.reads inv d x v hd rx
  have low := Nat.lt_of_le_of_lt (Nat.add_le_add_left (Nat.min_le_right (PyData.depthAll ds) d.depth) (X.A.units + 1)) (show X.A.units + 1 + d.depth < cLine by have := SeqAt.depth_of_shaped shp; omega)
  have cl := SeqAt.canLay_of_shaped shp
  cases neg <;> rcases hy with hy | hy <;> have ⟨_, rb⟩ := Dp.reads inv _ y u hy ry
  · exact SeqAt.in_tuple_reads rb ra lay cl low ⟨V.bl _, _, inv, rfl, q⟩
  · exact SeqAt.in_list_reads rb ra lay cl low ⟨V.bl _, _, inv, rfl, q⟩
  · exact SeqAt.notIn_tuple_reads rb ra lay cl low ⟨V.bl _, _, inv, rfl, q⟩
  · exact SeqAt.notIn_list_reads rb ra lay cl low ⟨V.bl _, _, inv, rfl, q⟩
theorem op_inDT (hu : X.A.units + 65 < cLine) : OpR X (compareOp .In) (rInDT X.K false) := opInDT false hu
theorem op_notInDT (hu : X.A.units + 65 < cLine) : OpR X (compareOp .NotIn) (rInDT X.K true) := opInDT true hu
/-- whether x is one of the items -/
def inX (h : List AO) (x : AV) (ys : List AV) : Option Bool :=
  if flatA x && ys.all flatA then some (ys.any fun y => eqF y x) else match toD h x, toD0s (rfD 12 h) ys with
    | some d, some ds => if SeqAt.shaped d && PyData.canLayAll0 ds then some (ds.any fun z => PyData.eqv z d) else none
    | _, _ => none
def itemsA (h : List AO) : AV → Option (List AV)
  | .tup ys => some ys
  | .ktp ys => some ys
  | .ref i => match h[i]? with
    | some (.lst ys) => some ys
    | some (.rol ys) => some ys
    | _ => none
  | _ => none
def cIn (neg : Bool) : AV → AV → List AO → Option (AV × List AO) := fun x y h => match x, y with
  | .str a, .str z => match a.cps.toList with
    | [c] => some (.bl (if neg then !decide (c ∈ z.cps.toList) else decide (c ∈ z.cps.toList)), h)
    | _ => none
  | _, _ => match itemsA h y with
    | some ys => (inX h x ys).map fun b => (.bl (if neg then !b else b), h)
    | none => none
theorem items_ok {al : Nat → Addr} {h : List AO} {H : Hp} {y : AV} {w : V} {ys : List AV} (hr : HR G al h H) (ry : RA G h.length al H y w) (e : itemsA h y = some ys) : ∃ a vs, w = .ref a ∧ (SqL G.K H a vs ∨ SqT G.K H a vs) ∧ RAs G h.length al H ys vs ∧
    ∀ ds, toD0s (rfD 12 h) ys = some ds → Dp G.K H w (.tuple ds) ∨ Dp G.K H w (.list ds) := by
  unfold itemsA at e
  split at e
  · cases e
    obtain ⟨a, vs, rfl, t, rs⟩ := tupAt ry
    exact ⟨a, vs, rfl, .inr t.sq, rs, fun ds hd => .inl (.tup t.sq (dps_of (rfD_ok hr 12) _ _ _ rs hd))⟩
  · cases e
    cases ry with
    | ktp t rs => exact ⟨_, _, rfl, .inr t.sq, rs, fun ds hd => .inl (.tup t.sq (dps_of (rfD_ok hr 12) _ _ _ rs hd))⟩
  · split at e
    · rename_i hi
      cases e
      obtain ⟨vs, e1, rs⟩ := lstAt hr hi
      exact ⟨_, vs, refAt ry, .inl (SqL.of e1), rs, fun ds hd => by rw [refAt ry]; exact .inr (.lst (SqL.of e1) (dps_of (rfD_ok hr 12) _ _ _ rs hd))⟩
    · rename_i hi
      cases e
      obtain ⟨vs, e1, rs⟩ := (hr.ob _ _ hi : ∃ vs, RoL G.K H (al _) vs ∧ RAs G h.length al H ys vs)
      exact ⟨_, vs, refAt ry, .inl e1.sq, rs, fun ds hd => by rw [refAt ry]; exact .inr (.lst e1.sq (dps_of (rfD_ok hr 12) _ _ _ rs hd))⟩
    · cases e
  · cases e
def rInS (neg : Bool) : R2 := fun x y H Q => ∃ (c : Nat) (z : Str), x = .str ⟨#[c]⟩ ∧ y = .str z ∧ Q (.bl (if neg then !decide (c ∈ z.cps.toList) else decide (c ∈ z.cps.toList))) H
def rInA (K : PySem.W.Frag) (neg : Bool) : R2 := fun x y H Q => rInS neg x y H Q ∨ rIn K neg x y H Q ∨ rInDT K neg x y H Q
theorem inX_ok {al : Nat → Addr} {h : List AO} {H : Hp} {x y : AV} {u w : V} {ys : List AV} {b : Bool} {neg : Bool} {Q : VK} (hr : HR G al h H) (rx : RA G h.length al H x u) (ry : RA G h.length al H y w) (hy : itemsA h y = some ys) (e : inX h x ys = some b)
    (q : Q (.bl (if neg then !b else b)) H) : rInA G.K neg u w H Q := by
  obtain ⟨p, vs, rfl, sq, rs, dd⟩ := items_ok hr ry hy
  unfold inX at e
  split at e
  · rename_i hf
    rw [Bool.and_eq_true] at hf
    cases e
    refine .inr (.inl ⟨p, vs, rfl, sq, flat_ok rx hf.1, flats_ok rs hf.2, ?_⟩)
    rw [inA_ok rx hf.1 rs hf.2]
    exact q
  · split at e
    · rename_i d ds h1 h2
      split at e
      · rename_i hs
        rw [Bool.and_eq_true] at hs
        cases e
        exact .inr (.inr ⟨d, ds, toD_ok hr rx h1, dd ds h2, hs.1, hs.2, q⟩)
      · cases e
    · cases e
theorem snd_in {neg : Bool} : SndO G (rInA G.K neg) (cIn neg) := by
  intro H al h x y u w v h' Q hr rx ry e q
  unfold cIn at e
  split at e
  · rename_i a z
    split at e
    · rename_i c hc
      cases e; cases rx; cases ry
      refine .inl ⟨c, z, ?_, rfl, q al H _ .refl hr .bl⟩
      have : a = ⟨#[c]⟩ := by
        cases a with
        | mk cps =>
          congr
          exact Array.toList_inj.mp hc
      rw [this]
    · cases e
  · split at e
    · rename_i ys hy
      cases z : inX h x ys with
      | none => rw [z] at e; cases e
      | some b =>
        rw [z] at e; cases e
        exact inX_ok hr rx ry hy z (q al H _ .refl hr .bl)
    · cases e
theorem opr_in (hu : X.A.units + 65 < cLine) : OpR X (compareOp .In) (rInA X.K false) := op_in_sign.or (op_in_seq.or (op_inDT hu))
theorem opr_notIn (hu : X.A.units + 65 < cLine) : OpR X (compareOp .NotIn) (rInA X.K true) := op_notIn_sign.or (op_notIn_seq.or (op_notInDT hu))

/-! ### comparisons -/
theorem se_cmp {op : CmpOp} {a b : Expr} {ma mb : AE} {r : R2} {f : AV → AV → List AO → Option (AV × List AO)} {pos : Pos} (ho : OpR X (compareOp op) r) (hs : SndO G r f) (ha : SE G X W a ma) (hb : SE G X W b mb) (hm : behindInMarks op b = false) :
    SE G X W (.Compare a [op] [b] pos) (m2 f ma mb) := by
  obtain ⟨ta, pa, sa⟩ := ha
  obtain ⟨tb, pb, sb⟩ := hb
  exact ⟨_, pe_cmpR ho pa pb hm, snd_2 sa sb hs⟩
/-- the value as a test -/
def mB (m : AE) : AEnv → AM Bool := fun e h => match m e h with
  | some (.ok (.bl b), h') => some (.ok b, h')
  | some (.ex c k, h') => some (.ex c k, h')
  | _ => none
theorem snd_test {t : TE} {m : AE} (s : SndE G W t m) : SndT G W (fun σ H Q => t σ H fun x H' => ∃ k, x = .bl k ∧ Q k H') (mB m) := by
  intro σ H al e h r h' Q hr er hm q
  unfold mB at hm
  split at hm
  · rename_i b h1 e1
    cases hm
    refine s σ H al e h _ _ _ hr er e1 ?_
    intro al1 H1 u x1 hr1 r1
    cases r1
    exact ⟨b, rfl, q al1 H1 x1 hr1⟩
  · rename_i c k h1 e1
    cases hm
    exact s σ H al e h _ _ _ hr er e1 q
  · cases hm
theorem st_cmp {op : CmpOp} {a b : Expr} {ma mb : AE} {r : R2} {f : AV → AV → List AO → Option (AV × List AO)} {pos : Pos} (ho : OpR X (compareOp op) r) (hs : SndO G r f) (ha : SE G X W a ma) (hb : SE G X W b mb) (hm : behindInMarks op b = false) :
    ST G X W (.Compare a [op] [b] pos) (mB (m2 f ma mb)) := by
  obtain ⟨ta, pa, sa⟩ := ha
  obtain ⟨tb, pb, sb⟩ := hb
  exact ⟨_, pt_cmpR ho pa pb hm, snd_test (snd_2 sa sb hs)⟩
/-- a bool as a test -/
theorem st_val {e : Expr} {m : AE} (h : SE G X W e m) (he : ∀ whole, isTrue e X.env whole = (do let v ← whole; standAt e.pos; holding [v] (truthy v)) := by intro _; rfl) : ST G X W e (mB m) := by
  obtain ⟨t, p, s⟩ := h
  exact ⟨_, pt_val p he, snd_test s⟩
def m3c (f f' : AV → AV → List AO → Option (AV × List AO)) (ma mb mc : AE) : AE := fun e h => bnd (ma e h) fun x h1 => bnd (mb e h1) fun y h2 => match f x y h2 with
  | some (.bl true, h3) => bnd (mc e h3) fun z h4 => match f' y z h4 with
    | some (v, h5) => some (.ok v, h5)
    | none => none
  | some (.bl false, h3) => some (.ok (.bl false), h3)
  | _ => none
theorem snd_chain {ta tb tc : TE} {ma mb mc : AE} {r r' : R2} {f f' : AV → AV → List AO → Option (AV × List AO)} (ha : SndE G W ta ma) (hb : SndE G W tb mb) (hc : SndE G W tc mc) (ho : SndO G r f) (ho' : SndO G r' f') : SndE G W (tChain r r' ta tb tc) (m3c f f' ma mb mc) := by
  intro σ H al e h rr h' Q hr er hm q
  rcases bnd_some hm with ⟨c, k, e1, rfl⟩ | ⟨x, h1, e1, e2⟩
  · exact ha σ H al e h _ _ _ hr er e1 q
  · refine ha σ H al e h _ _ _ hr er e1 ?_
    intro al1 H1 u x1 hr1 r1
    rcases bnd_some e2 with ⟨c, k, e3, rfl⟩ | ⟨y, h2, e3, e4⟩
    · exact hb σ H1 al1 e h1 _ _ _ hr1 (er.mono x1) e3 (PoE.after (r := .ex c k) x1 q)
    · refine hb σ H1 al1 e h1 _ _ _ hr1 (er.mono x1) e3 ?_
      intro al2 H2 w x2 hr2 r2
      split at e4
      · rename_i h3 e5
        refine ho H2 al2 h2 x y u w _ _ _ hr2 (r1.mono x2) r2 e5 ?_
        intro al3 H3 z x3 hr3 r3
        cases r3
        refine ⟨true, rfl, ?_⟩
        rw [if_pos rfl]
        rcases bnd_some e4 with ⟨c, k, e6, rfl⟩ | ⟨z, h4, e6, e7⟩
        · exact hc σ H3 al3 e h3 _ _ _ hr3 (er.mono ((x1.trans x2).trans x3)) e6 (PoE.after (r := .ex c k) ((x1.trans x2).trans x3) q)
        · refine hc σ H3 al3 e h3 _ _ _ hr3 (er.mono ((x1.trans x2).trans x3)) e6 ?_
          intro al4 H4 w' x4 hr4 r4
          split at e7
          · rename_i v h5 e8
            cases e7
            exact ho' H4 al4 h4 y z w w' v _ Q hr4 (r2.mono (x3.trans x4)) r4 e8 (FwV.after (((x1.trans x2).trans x3).trans x4) q)
          · cases e7
      · rename_i h3 e5
        cases e4
        refine ho H2 al2 h2 x y u w _ _ _ hr2 (r1.mono x2) r2 e5 ?_
        intro al3 H3 z x3 hr3 r3
        cases r3
        refine ⟨false, rfl, ?_⟩
        rw [if_neg (fun z : false = true => nomatch z)]
        exact q al3 H3 _ ((x1.trans x2).trans x3) hr3 .bl
      · cases e4
theorem se_chain {op op' : CmpOp} {a b c : Expr} {ma mb mc : AE} {r r' : R2} {f f' : AV → AV → List AO → Option (AV × List AO)} {pos : Pos} (ho : OpR X (compareOp op) r) (hs : SndO G r f) (ho' : OpR X (compareOp op') r') (hs' : SndO G r' f')
    (ha : SE G X W a ma) (hb : SE G X W b mb) (hc : SE G X W c mc) (hm : lastMarks [op, op'] [b, c] = false := by with_unfolding_all rfl) : SE G X W (.Compare a [op, op'] [b, c] pos) (m3c f f' ma mb mc) := by
  obtain ⟨ta, pa, sa⟩ := ha
  obtain ⟨tb, pb, sb⟩ := hb
  obtain ⟨tc, pc, sc⟩ := hc
  exact ⟨_, pe_chain ho ho' pa pb pc hm, snd_chain sa sb sc hs hs'⟩
theorem st_chain {op op' : CmpOp} {a b c : Expr} {ma mb mc : AE} {r r' : R2} {f f' : AV → AV → List AO → Option (AV × List AO)} {pos : Pos} (ho : OpR X (compareOp op) r) (hs : SndO G r f) (ho' : OpR X (compareOp op') r') (hs' : SndO G r' f')
    (ha : SE G X W a ma) (hb : SE G X W b mb) (hc : SE G X W c mc) (hm : lastMarks [op, op'] [b, c] = false := by with_unfolding_all rfl) : ST G X W (.Compare a [op, op'] [b, c] pos) (mB (m3c f f' ma mb mc)) := by
  obtain ⟨ta, pa, sa⟩ := ha
  obtain ⟨tb, pb, sb⟩ := hb
  obtain ⟨tc, pc, sc⟩ := hc
  exact ⟨_, pt_chain ho ho' pa pb pc hm, snd_test (snd_chain sa sb sc hs hs')⟩

/-! ### and, or, not, if-else -/
def mAnd (a b : AEnv → AM Bool) : AEnv → AM Bool := fun e h => bnd (a e h) fun c h1 => if c = true then b e h1 else some (.ok false, h1)
def mOr (a b : AEnv → AM Bool) : AEnv → AM Bool := fun e h => bnd (a e h) fun c h1 => if c = true then some (.ok true, h1) else b e h1
def mNot (a : AEnv → AM Bool) : AEnv → AM Bool := fun e h => bnd (a e h) fun c h1 => some (.ok (!c), h1)
theorem snd_and {t u : TT} {a b : AEnv → AM Bool} (ha : SndT G W t a) (hb : SndT G W u b) : SndT G W (tAnd t u) (mAnd a b) := by
  intro σ H al e h r h' Q hr er hm q
  rcases bnd_some hm with ⟨c, k, e1, rfl⟩ | ⟨x, h1, e1, e2⟩
  · exact ha σ H al e h _ _ _ hr er e1 q
  · refine ha σ H al e h _ _ _ hr er e1 ?_
    intro al1 H1 x1 hr1
    split at e2
    · rename_i hx
      rw [if_pos hx]
      exact hb σ H1 al1 e h1 _ _ _ hr1 (er.mono x1) e2 (PoT.after x1 q)
    · rename_i hx
      rw [if_neg hx]
      cases e2
      exact q al1 H1 x1 hr1
theorem snd_or {t u : TT} {a b : AEnv → AM Bool} (ha : SndT G W t a) (hb : SndT G W u b) : SndT G W (tOr t u) (mOr a b) := by
  intro σ H al e h r h' Q hr er hm q
  rcases bnd_some hm with ⟨c, k, e1, rfl⟩ | ⟨x, h1, e1, e2⟩
  · exact ha σ H al e h _ _ _ hr er e1 q
  · refine ha σ H al e h _ _ _ hr er e1 ?_
    intro al1 H1 x1 hr1
    split at e2
    · rename_i hx
      rw [if_pos hx]
      cases e2
      exact q al1 H1 x1 hr1
    · rename_i hx
      rw [if_neg hx]
      exact hb σ H1 al1 e h1 _ _ _ hr1 (er.mono x1) e2 (PoT.after x1 q)
theorem snd_not {t : TT} {a : AEnv → AM Bool} (ha : SndT G W t a) : SndT G W (tNot t) (mNot a) := by
  intro σ H al e h r h' Q hr er hm q
  rcases bnd_some hm with ⟨c, k, e1, rfl⟩ | ⟨x, h1, e1, e2⟩
  · exact ha σ H al e h _ _ _ hr er e1 q
  · cases e2
    exact ha σ H al e h _ _ _ hr er e1 fun al1 H1 x1 hr1 => q al1 H1 x1 hr1
theorem sw_and1 {a : Expr} {ma : AEnv → AM Bool} {pos : Pos} (ha : ST G X W a ma) : SW G X W (.BoolOp .And [a] pos) ma := let ⟨t, p, s⟩ := ha; ⟨t, pw_and1 p, s⟩
theorem sw_or1 {a : Expr} {ma : AEnv → AM Bool} {pos : Pos} (ha : ST G X W a ma) : SW G X W (.BoolOp .Or [a] pos) ma := let ⟨t, p, s⟩ := ha; ⟨t, pw_or1 p, s⟩
theorem sw_and {a b : Expr} {rest : List Expr} {ma mb : AEnv → AM Bool} {pos : Pos} (ha : ST G X W a ma) (hb : SW G X W (.BoolOp .And (b :: rest) pos) mb) : SW G X W (.BoolOp .And (a :: b :: rest) pos) (mAnd ma mb) :=
  let ⟨_, p, s⟩ := ha; let ⟨_, p', s'⟩ := hb; ⟨_, pw_and p p', snd_and s s'⟩
theorem sw_or {a b : Expr} {rest : List Expr} {ma mb : AEnv → AM Bool} {pos : Pos} (ha : ST G X W a ma) (hb : SW G X W (.BoolOp .Or (b :: rest) pos) mb) : SW G X W (.BoolOp .Or (a :: b :: rest) pos) (mOr ma mb) :=
  let ⟨_, p, s⟩ := ha; let ⟨_, p', s'⟩ := hb; ⟨_, pw_or p p', snd_or s s'⟩
theorem st_w {e : Expr} {m : AEnv → AM Bool} (h : SW G X W e m) : ST G X W e m := let ⟨t, p, s⟩ := h; ⟨t, p.pt, s⟩
theorem st_not {a : Expr} {ma : AEnv → AM Bool} {pos : Pos} (ha : ST G X W a ma) : ST G X W (.UnaryOp .Not a pos) (mNot ma) := let ⟨_, p, s⟩ := ha; ⟨_, pt_not p, snd_not s⟩
/-- .. as values -/
def mV (m : AEnv → AM Bool) : AE := fun e h => bnd (m e h) fun b h1 => some (.ok (.bl b), h1)
def mAndV (ma mb : AE) : AE := fun e h => bnd (mB ma e h) fun c h1 => if c = true then mb e h1 else some (.ok (.bl false), h1)
def mOrV (ma mb : AE) : AE := fun e h => bnd (mB ma e h) fun c h1 => if c = true then some (.ok (.bl true), h1) else mb e h1
def mNotV (ma : AE) : AE := fun e h => bnd (mB ma e h) fun c h1 => some (.ok (.bl (!c)), h1)
theorem snd_andV {ta tb : TE} {ma mb : AE} (ha : SndE G W ta ma) (hb : SndE G W tb mb) : SndE G W (tAndV ta tb) (mAndV ma mb) := by
  intro σ H al e h r h' Q hr er hm q
  rcases bnd_some hm with ⟨c, k, e1, rfl⟩ | ⟨x, h1, e1, e2⟩
  · exact snd_test ha σ H al e h _ _ (fun k H' => if k = true then tb σ H' Q else Q (.bl false) H') hr er e1 q
  · refine snd_test ha σ H al e h _ _ (fun k H' => if k = true then tb σ H' Q else Q (.bl false) H') hr er e1 ?_
    intro al1 H1 x1 hr1
    split at e2
    · rename_i hx
      rw [if_pos hx]
      exact hb σ H1 al1 e h1 _ _ _ hr1 (er.mono x1) e2 (PoE.after x1 q)
    · rename_i hx
      rw [if_neg hx]
      cases e2
      exact q al1 H1 _ x1 hr1 .bl
theorem snd_orV {ta tb : TE} {ma mb : AE} (ha : SndE G W ta ma) (hb : SndE G W tb mb) : SndE G W (tOrV ta tb) (mOrV ma mb) := by
  intro σ H al e h r h' Q hr er hm q
  rcases bnd_some hm with ⟨c, k, e1, rfl⟩ | ⟨x, h1, e1, e2⟩
  · exact snd_test ha σ H al e h _ _ (fun k H' => if k = true then Q (.bl true) H' else tb σ H' Q) hr er e1 q
  · refine snd_test ha σ H al e h _ _ (fun k H' => if k = true then Q (.bl true) H' else tb σ H' Q) hr er e1 ?_
    intro al1 H1 x1 hr1
    split at e2
    · rename_i hx
      rw [if_pos hx]
      cases e2
      exact q al1 H1 _ x1 hr1 .bl
    · rename_i hx
      rw [if_neg hx]
      exact hb σ H1 al1 e h1 _ _ _ hr1 (er.mono x1) e2 (PoE.after x1 q)
theorem snd_notV {ta : TE} {ma : AE} (ha : SndE G W ta ma) : SndE G W (tNotV ta) (mNotV ma) := by
  intro σ H al e h r h' Q hr er hm q
  rcases bnd_some hm with ⟨c, k, e1, rfl⟩ | ⟨x, h1, e1, e2⟩
  · exact snd_test ha σ H al e h _ _ (fun k H' => Q (.bl (!k)) H') hr er e1 q
  · cases e2
    exact snd_test ha σ H al e h _ _ (fun k H' => Q (.bl (!k)) H') hr er e1 fun al1 H1 x1 hr1 => q al1 H1 _ x1 hr1 .bl
theorem se_one {op a pos} {ma : AE} (ha : SE G X W a ma) : SE G X W (.BoolOp op [a] pos) ma := let ⟨t, p, s⟩ := ha; ⟨t, pe_one p, s⟩
theorem se_and {a b : Expr} {rest : List Expr} {ma mb : AE} {pos : Pos} (ha : SE G X W a ma) (hb : SE G X W (.BoolOp .And (b :: rest) pos) mb) : SE G X W (.BoolOp .And (a :: b :: rest) pos) (mAndV ma mb) :=
  let ⟨_, p, s⟩ := ha; let ⟨_, p', s'⟩ := hb; ⟨_, pe_and p p', snd_andV s s'⟩
theorem se_or {a b : Expr} {rest : List Expr} {ma mb : AE} {pos : Pos} (ha : SE G X W a ma) (hb : SE G X W (.BoolOp .Or (b :: rest) pos) mb) : SE G X W (.BoolOp .Or (a :: b :: rest) pos) (mOrV ma mb) :=
  let ⟨_, p, s⟩ := ha; let ⟨_, p', s'⟩ := hb; ⟨_, pe_or p p', snd_orV s s'⟩
theorem se_not {a : Expr} {ma : AE} {pos : Pos} (ha : SE G X W a ma) : SE G X W (.UnaryOp .Not a pos) (mNotV ma) := let ⟨_, p, s⟩ := ha; ⟨_, pe_not p, snd_notV s⟩
def mIf (c : AEnv → AM Bool) (a b : AE) : AE := fun e h => bnd (c e h) fun k h1 => if k = true then a e h1 else b e h1
theorem se_if {c a b : Expr} {mc : AEnv → AM Bool} {ma mb : AE} {pos : Pos} (hc : ST G X W c mc) (ha : SE G X W a ma) (hb : SE G X W b mb) : SE G X W (.IfExp c a b pos) (mIf mc ma mb) := by
  obtain ⟨tc, pc, sc⟩ := hc
  obtain ⟨ta, pa, sa⟩ := ha
  obtain ⟨tb, pb, sb⟩ := hb
  refine ⟨_, pe_ifExp pc pa pb, ?_⟩
  intro σ H al e h r h' Q hr er hm q
  rcases bnd_some hm with ⟨c, k, e1, rfl⟩ | ⟨x, h1, e1, e2⟩
  · exact sc σ H al e h _ _ _ hr er e1 q
  · refine sc σ H al e h _ _ _ hr er e1 ?_
    intro al1 H1 x1 hr1
    split at e2
    · rename_i hx
      rw [if_pos hx]
      exact sa σ H1 al1 e h1 _ _ _ hr1 (er.mono x1) e2 (PoE.after x1 q)
    · rename_i hx
      rw [if_neg hx]
      exact sb σ H1 al1 e h1 _ _ _ hr1 (er.mono x1) e2 (PoE.after x1 q)

/-! ### argument lists, displays -/
def mNil : AEnv → AM (List AV) := fun _ h => some (.ok [], h)
def mCons (ma : AE) (mr : AEnv → AM (List AV)) : AEnv → AM (List AV) := fun e h => bnd (ma e h) fun x h1 => bnd (mr e h1) fun xs h2 => some (.ok (x :: xs), h2)
theorem snd_nil : SndA G W tNil mNil := by
  intro σ H al e h r h' Q hr er hm q
  cases hm
  exact q al H [] .refl hr .nil
theorem snd_cons {ta : TE} {tr : TA} {ma : AE} {mr : AEnv → AM (List AV)} (ha : SndE G W ta ma) (hb : SndA G W tr mr) : SndA G W (tCons ta tr) (mCons ma mr) := by
  intro σ H al e h r h' Q hr er hm q
  rcases bnd_some hm with ⟨c, k, e1, rfl⟩ | ⟨x, h1, e1, e2⟩
  · exact ha σ H al e h _ _ _ hr er e1 q
  · refine ha σ H al e h _ _ _ hr er e1 ?_
    intro al1 H1 u x1 hr1 r1
    rcases bnd_some e2 with ⟨c, k, e3, rfl⟩ | ⟨y, h2, e3, e4⟩
    · exact hb σ H1 al1 e h1 _ _ _ hr1 (er.mono x1) e3 (PoA.after (r := .ex c k) x1 q)
    · cases e4
      refine hb σ H1 al1 e h1 _ _ _ hr1 (er.mono x1) e3 ?_
      intro al2 H2 us x2 hr2 r2
      exact q al2 H2 _ (x1.trans x2) hr2 (.cons (r1.mono x2) r2)
theorem sa_nil : SA G X W [] mNil := ⟨_, pa_nil, snd_nil⟩
theorem sa_cons {e : Expr} {es : List Expr} {ma : AE} {mr : AEnv → AM (List AV)} (ha : SE G X W e ma) (hb : SA G X W es mr) (hs : starEach (e :: es) X.env = (false, eval e X.env) :: starEach es X.env := by rfl) : SA G X W (e :: es) (mCons ma mr) :=
  let ⟨_, p, s⟩ := ha; let ⟨_, p', s'⟩ := hb; ⟨_, pa_cons p p' hs, snd_cons s s'⟩
def mTup (ma : AEnv → AM (List AV)) : AE := fun e h => bnd (ma e h) fun xs h1 => if xs.length ≤ 1000000 then some (.ok (.tup xs), h1) else none
def mLst (ma : AEnv → AM (List AV)) : AE := fun e h => bnd (ma e h) fun xs h1 => if xs.length ≤ 1000000 then some (.ok (.ref h1.length), h1 ++ [.lst xs]) else none
theorem snd_tup {ta : TA} {ma : AEnv → AM (List AV)} (hz : G.fz = false) (ha : SndA G W ta ma) : SndE G W (tTup ta) (mTup ma) := by
  intro σ H al e h r h' Q hr er hm q
  rcases bnd_some hm with ⟨c, k, e1, rfl⟩ | ⟨x, h1, e1, e2⟩
  · exact ha σ H al e h _ _ _ hr er e1 q
  · split at e2
    · rename_i hl
      cases e2
      refine ha σ H al e h _ _ _ hr er e1 ?_
      intro al1 H1 us x1 hr1 r1
      have := r1.length
      exact ⟨by rw [sizeLine_eq]; omega, fun p hp => FwV.newT hz x1 hr1 hp r1 q⟩
    · cases e2
/-- a tuple, known to the object -/
def tTupF (t : TA) : TE := fun σ H Q => t σ H fun xs H1 => xs.length ≤ sizeLine ∧ ∀ p (o : Obj), o.dict = none → H1 p = none → Q (.ref p) (upd H1 p (.frz o (.tup xs)))
theorem pe_tupF {es : List Expr} {t : TA} {pos : Pos} {x1} (h : PA X es t) : PE X (.Tuple es x1 pos) (tTupF t) := by
  constructor
  intro pins t0 σ H Q inv hq
  apply wpAny_Tuple_spliced
  apply thn (h.run pos pins t0 σ H _ inv hq)
  rintro us t1 ⟨xs, H1, I1, r, z, q⟩
  have free := I1.hok.fresh (Nat.le_refl t1.heap.objs.size)
  refine ⟨r.length ▸ z, V.ref _, _, I1.laid (t' := t1.toks) (fun _ _ => Heap.get?_push_of_some _) (Nat.le_refl _) ?_, rfl, q _ { cls := .type "tuple", data := .seq us.toArray } rfl free⟩
  exact ⟨Heap.get?_push_size _ rfl, z, us, r, ⟨_, Heap.get?_push_size _ rfl, rfl, _, rfl⟩⟩
theorem snd_tupF {ta : TA} {ma : AEnv → AM (List AV)} (hz : G.fz = true) (ha : SndA G W ta ma) : SndE G W (tTupF ta) (mTup ma) := by
  intro σ H al e h r h' Q hr er hm q
  rcases bnd_some hm with ⟨c, k, e1, rfl⟩ | ⟨x, h1, e1, e2⟩
  · exact ha σ H al e h _ _ _ hr er e1 q
  · split at e2
    · rename_i hl
      cases e2
      refine ha σ H al e h _ _ _ hr er e1 ?_
      intro al1 H1 us x1 hr1 r1
      have := r1.length
      exact ⟨by rw [sizeLine_eq]; omega, fun p o ho hp => FwV.newF hz ho x1 hr1 hp r1 q⟩
    · cases e2
theorem snd_lst {ta : TA} {ma : AEnv → AM (List AV)} (ha : SndA G W ta ma) : SndE G W (tLst ta) (mLst ma) := by
  intro σ H al e h r h' Q hr er hm q
  rcases bnd_some hm with ⟨c, k, e1, rfl⟩ | ⟨x, h1, e1, e2⟩
  · exact ha σ H al e h _ _ _ hr er e1 q
  · split at e2
    · rename_i hz
      cases e2
      refine ha σ H al e h _ _ _ hr er e1 ?_
      intro al1 H1 us x1 hr1 r1
      have := r1.length
      exact ⟨by rw [sizeLine_eq]; omega, fun p hp => FwV.newL x1 hr1 hp r1 q⟩
    · cases e2
theorem se_tup {es : List Expr} {x1} {pos : Pos} {ma : AEnv → AM (List AV)} (hz : G.fz = false) (ha : SA G X W es ma) : SE G X W (.Tuple es x1 pos) (mTup ma) := let ⟨_, p, s⟩ := ha; ⟨_, pe_tup p, snd_tup hz s⟩
theorem se_tupF {es : List Expr} {x1} {pos : Pos} {ma : AEnv → AM (List AV)} (hz : G.fz = true) (ha : SA G X W es ma) : SE G X W (.Tuple es x1 pos) (mTup ma) := let ⟨_, p, s⟩ := ha; ⟨_, pe_tupF p, snd_tupF hz s⟩
theorem se_lst {es : List Expr} {pos : Pos} {ma : AEnv → AM (List AV)} (ha : SA G X W es ma) : SE G X W (.List es pos) (mLst ma) := let ⟨_, p, s⟩ := ha; ⟨_, pe_lst p, snd_lst s⟩
end
end SL
/-! SL4: subscripts, slices, attributes, built-in functions, built-in methods. -/
namespace SL
open PySem PySem.Spec PyProof.Rows L2
section
variable {G : Gx} {X : Cx} {W : WX}

/-! ### a[i] -/
def oIx : AV → AV → List AO → Option (AV × List AO) := fun x y h => match x, y with
  | .str z, .int i => if z.length ≤ 1000000 then (atI z.cps.toList i).map fun c => (.str ⟨#[c]⟩, h) else none
  | x, .int i => match itemsA h x with
    | some ys => (atI ys i).map fun v => (v, h)
    | none => none
  | _, _ => none
section
variable {n : Nat} {al : Nat → Addr} {H : Hp}
theorem atI_ok {xs : List AV} {us : List V} {i : Int} {v : AV} (r : RAs G n al H xs us) (e : atI xs i = some v) : ∃ u, atI us i = some u ∧ RA G n al H v u := by
  unfold atI at e ⊢
  rw [← r.length]
  cases q : ixN xs.length i with
  | none => rw [q] at e; exact nomatch e
  | some j =>
    rw [q] at e
    exact r.get e
end
theorem snd_ix : SndO G (rIx G.K) oIx := by
  intro H al h x y u w v h' Q hr rx ry e q
  unfold oIx at e
  split at e
  · rename_i z i
    split at e
    · rename_i hz
      cases c : atI z.cps.toList i with
      | none => rw [c] at e; cases e
      | some c' =>
        rw [c] at e; cases e
        cases rx; cases ry
        exact .inr (.inr ⟨z, i, c', rfl, rfl, by rw [sizeLine_eq]; omega, c, q al H _ .refl hr .str⟩)
    · cases e
  · rename_i i _
    split at e
    · rename_i ys hy
      cases c : atI ys i with
      | none => rw [c] at e; cases e
      | some v' =>
        rw [c] at e; cases e
        cases ry
        obtain ⟨p, vs, rfl, sq, rs, _⟩ := items_ok hr rx hy
        obtain ⟨u', e2, r2⟩ := atI_ok rs c
        rcases sq with sq | sq
        · exact .inl ⟨p, vs, i, u', rfl, rfl, sq, e2, q al H _ .refl hr r2⟩
        · exact .inr (.inl ⟨p, vs, i, u', rfl, rfl, sq, e2, q al H _ .refl hr r2⟩)
    · cases e
  · cases e
theorem se_ix {a b : Expr} {ma mb : AE} {pos : Pos} (hK : X.K = G.K) (ha : SE G X W a ma) (hb : SE G X W b mb) (hs : PlainIx b := by exact fun _ _ => rfl) : SE G X W (.Subscript a b pos) (m2 oIx ma mb) := by
  obtain ⟨ta, pa, sa⟩ := ha
  obtain ⟨tb, pb, sb⟩ := hb
  exact ⟨_, pe_ix (hK ▸ ix_seq) pa pb hs, snd_2 sa sb snd_ix⟩

/-! ### a[lo:hi] -/
def SndP (G : Gx) (W : WX) (t : TO) (m : AEnv → AM (Option Int)) : Prop := ∀ σ H al e h r h' (Q : Option Int → Hp → Prop), HR G al h H → ER G h.length al H e σ → m e h = some (r, h') →
  (match r with | .ok o => ∀ al' H', Ext h.length al H h'.length al' H' → HR G al' h' H' → Q o H' | .ex c k => FwX G h.length al H c k h' fun cls d H' => W cls d σ H') → t σ H Q
def SP (G : Gx) (X : Cx) (W : WX) (e : Option Expr) (m : AEnv → AM (Option Int)) : Prop := ∃ t, PO X e t ∧ SndP G W t m
def mPn : AEnv → AM (Option Int) := fun _ h => some (.ok none, h)
def mPs (m : AE) : AEnv → AM (Option Int) := fun e h => match m e h with
  | some (.ok (.int i), h') => some (.ok (some i), h')
  | some (.ex c k, h') => some (.ex c k, h')
  | _ => none
theorem sp_none : SP G X W none mPn := ⟨_, po_none, fun σ H al e h r h' Q hr er hm q => by cases hm; exact q al H .refl hr⟩
theorem sp_some {e : Expr} {m : AE} (he : SE G X W e m) : SP G X W (some e) (mPs m) := by
  obtain ⟨t, p, s⟩ := he
  refine ⟨_, po_some p, fun σ H al e h r h' Q hr er hm q => ?_⟩
  unfold mPs at hm
  split at hm
  · rename_i i h1 e1
    cases hm
    refine s σ H al e h _ _ _ hr er e1 ?_
    intro al1 H1 u x1 hr1 r1
    cases r1
    exact ⟨i, rfl, q al1 H1 x1 hr1⟩
  · rename_i c k h1 e1
    cases hm
    exact s σ H al e h _ _ _ hr er e1 q
  · cases hm
def cutA {α : Type} (xs : List α) (lo hi : Option Int) : List α := (xs.drop (HT.sIx xs.length 0 lo)).take (HT.sIx xs.length xs.length hi - HT.sIx xs.length 0 lo)
theorem cutA_ok {n : Nat} {al : Nat → Addr} {H : Hp} {xs : List AV} {us : List V} {lo hi : Option Int} (r : RAs G n al H xs us) : RAs G n al H (cutA xs lo hi) (cutV us lo hi) := by
  unfold cutA cutV
  rw [← r.length]
  exact (r.drop _).take _
def oSl (x : AV) (lo hi : Option Int) (h : List AO) : Option (AV × List AO) := match x with
  | .str z => if z.length ≤ 1000000 then some (.str (cutS z lo hi), h) else none
  | .ref i => match h[i]? with
    | some (.lst xs) => some (.ref h.length, h ++ [.lst (cutA xs lo hi)])
    | some (.rol xs) => some (.ref h.length, h ++ [.lst (cutA xs lo hi)])
    | _ => none
  | _ => none
def oSlT (x : AV) (lo hi : Option Int) (h : List AO) : Option (AV × List AO) := match x with
  | .tup xs => some (.tup (cutA xs lo hi), h)
  | x => oSl x lo hi h
def m3s (f : AV → Option Int → Option Int → List AO → Option (AV × List AO)) (ma : AE) (ml mh : AEnv → AM (Option Int)) : AE := fun e h => bnd (ma e h) fun x h1 => bnd (ml e h1) fun l h2 => bnd (mh e h2) fun u h3 => match f x l u h3 with
  | some (v, h4) => some (.ok v, h4)
  | none => none
def rSl (K : PySem.W.Frag) : V → Option Int → Option Int → Hp → VK → Prop := fun x lo hi H Q => rSlL K x lo hi H Q ∨ rSlS x lo hi H Q
def rSlT' (K : PySem.W.Frag) : V → Option Int → Option Int → Hp → VK → Prop := fun x lo hi H Q => rSlA K x lo hi H Q ∨ rSl K x lo hi H Q
def SndL (G : Gx) (r : V → Option Int → Option Int → Hp → VK → Prop) (f : AV → Option Int → Option Int → List AO → Option (AV × List AO)) : Prop := ∀ H al h x u lo hi v h' (Q : VK), HR G al h H → RA G h.length al H x u → f x lo hi h = some (v, h') → FwV G h.length al H v h' Q → r u lo hi H Q
theorem snd_sl : SndL G (rSl G.K) oSl := by
  intro H al h x u lo hi v h' Q hr rx e q
  unfold oSl at e
  split at e
  · rename_i z
    split at e
    · cases e; cases rx
      exact .inr ⟨z, rfl, by rw [sizeLine_eq]; omega, q al H _ .refl hr .str⟩
    · cases e
  · rename_i i
    split at e
    · rename_i xs hi
      cases e
      obtain ⟨vs, e1, rs⟩ := lstAt hr hi
      exact .inl ⟨al i, vs, refAt rx, SqL.of e1, fun p hp => FwV.newL .refl hr hp (cutA_ok rs) q⟩
    · rename_i xs hi
      cases e
      obtain ⟨vs, e1, rs⟩ := (hr.ob _ _ hi : ∃ vs, RoL G.K H (al i) vs ∧ RAs G h.length al H xs vs)
      exact .inl ⟨al i, vs, refAt rx, e1.sq, fun p hp => FwV.newL .refl hr hp (cutA_ok rs) q⟩
    · cases e
  · cases e
theorem snd_slT (hz : G.fz = false) : SndL G (rSlT' G.K) oSlT := by
  intro H al h x u lo hi v h' Q hr rx e q
  unfold oSlT at e
  split at e
  · rename_i xs
    cases e
    obtain ⟨a, vs, rfl, t, rs⟩ := tupAt rx
    refine .inl ⟨a, vs, rfl, t.sq, fun z => ?_, fun _ p hp => FwV.newT hz .refl hr hp (cutA_ok rs) q⟩
    have e2 : cutA xs lo hi = xs := by
      have l1 := rs.length
      unfold cutA
      rw [l1, z.1, z.2, List.drop_zero, Nat.sub_zero, List.take_of_length_le (by omega)]
    rw [e2] at q
    exact q al H _ .refl hr rx
  · exact .inr (snd_sl H al h _ u lo hi v h' Q hr rx e q)
theorem se_sl {r : V → Option Int → Option Int → Hp → VK → Prop} {f : AV → Option Int → Option Int → List AO → Option (AV × List AO)} {a : Expr} {lo hi : Option Expr} {ma : AE} {ml mh : AEnv → AM (Option Int)} {pos p2 : Pos} (hS : SlR X r) (hs : SndL G r f)
    (ha : SE G X W a ma) (hl : SP G X W lo ml) (hh : SP G X W hi mh) : SE G X W (.Subscript a (.Slice lo hi none p2) pos) (m3s f ma ml mh) := by
  obtain ⟨ta, pa, sa⟩ := ha
  obtain ⟨tl, pl, sl⟩ := hl
  obtain ⟨th, ph, sh⟩ := hh
  refine ⟨_, pe_slice hS pa pl ph, ?_⟩
  intro σ H al e h r h' Q hr er hm q
  rcases bnd_some hm with ⟨c, k, e1, rfl⟩ | ⟨x, h1, e1, e2⟩
  · exact sa σ H al e h _ _ _ hr er e1 q
  · refine sa σ H al e h _ _ _ hr er e1 ?_
    intro al1 H1 u x1 hr1 r1
    rcases bnd_some e2 with ⟨c, k, e3, rfl⟩ | ⟨l, h2, e3, e4⟩
    · exact sl σ H1 al1 e h1 _ _ _ hr1 (er.mono x1) e3 (FwX.after x1 q)
    · refine sl σ H1 al1 e h1 _ _ _ hr1 (er.mono x1) e3 ?_
      intro al2 H2 x2 hr2
      rcases bnd_some e4 with ⟨c, k, e5, rfl⟩ | ⟨g, h3, e5, e6⟩
      · exact sh σ H2 al2 e h2 _ _ _ hr2 (er.mono (x1.trans x2)) e5 (FwX.after (x1.trans x2) q)
      · refine sh σ H2 al2 e h2 _ _ _ hr2 (er.mono (x1.trans x2)) e5 ?_
        intro al3 H3 x3 hr3
        split at e6
        · rename_i v h4 e7
          cases e6
          exact hs H3 al3 h3 x u l g v _ Q hr3 (r1.mono (x2.trans x3)) e7 (FwV.after ((x1.trans x2).trans x3) q)
        · cases e6
theorem se_slice {a : Expr} {lo hi : Option Expr} {ma : AE} {ml mh : AEnv → AM (Option Int)} {pos p2 : Pos} (hK : X.K = G.K) (ha : SE G X W a ma) (hl : SP G X W lo ml) (hh : SP G X W hi mh) : SE G X W (.Subscript a (.Slice lo hi none p2) pos) (m3s oSl ma ml mh) :=
  se_sl (r := rSl G.K) (hK ▸ sl_list.or sl_str) snd_sl ha hl hh
theorem se_sliceT {a : Expr} {lo hi : Option Expr} {ma : AE} {ml mh : AEnv → AM (Option Int)} {pos p2 : Pos} (hz : G.fz = false) (hK : X.K = G.K) (ha : SE G X W a ma) (hl : SP G X W lo ml) (hh : SP G X W hi mh) : SE G X W (.Subscript a (.Slice lo hi none p2) pos) (m3s oSlT ma ml mh) :=
  se_sl (r := rSlT' G.K) (hK ▸ sl_tupA.or (sl_list.or sl_str)) (snd_slT hz) ha hl hh

/-! ### o.f -/
def oFld (c : Nat) (f : Str) : AV → List AO → Option (AV × List AO) := fun x h => match x with
  | .ref i => match h[i]? with
    | some (.ins d fs) => if d = c then (fs.lookup f).map fun v => (v, h) else none
    | _ => none
  | _ => none
theorem insAt {al : Nat → Addr} {h : List AO} {H : Hp} {i c : Nat} {fs : List (Str × AV)} (hr : HR G al h H) (e : h[i]? = some (.ins c fs)) : ∃ dx gs, H (al i) = some (.ins (G.cl c) dx gs) ∧ RF G h.length al H fs gs := hr.ob i _ e
theorem se_fld {c : Nat} {o : Expr} {f : Str} {mo : AE} {pos : Pos} (hK : X.K = G.K) (hc : Cls G.K (G.cl c)) (hn : NoAttr G.K (G.cl c) f) (ho : SE G X W o mo) (hb : attributeBase o f X.env (eval o X.env) = eval o X.env := by rfl) :
    SE G X W (.Attribute o f pos) (m1 (oFld c f) mo) := by
  obtain ⟨t, p, s⟩ := ho
  refine ⟨_, pe_fld p hb, ?_⟩
  intro σ H al e h r h' Q hr er hm q
  rcases bnd_some hm with ⟨cc, k, e1, rfl⟩ | ⟨x, h1, e1, e2⟩
  · exact s σ H al e h _ _ _ hr er e1 q
  · refine s σ H al e h _ _ _ hr er e1 ?_
    intro al1 H1 u x1 hr1 r1
    unfold oFld at e2
    cases x with
    | ref i =>
      simp only at e2
      split at e2
      · rename_i v h2 e3
        cases e2
        split at e3
        · rename_i d fs hi
          split at e3
          · rename_i hd
            subst hd
            cases l : fs.lookup f with
            | none => rw [l] at e3; cases e3
            | some v' =>
              rw [l] at e3; cases e3
              obtain ⟨dx, gs, e4, rf⟩ := insAt hr1 hi
              rcases rf.lookup (x := f) with ⟨z, _⟩ | ⟨v2, u2, l1, l2, r2⟩
              · rw [l] at z; cases z
              · rw [l] at l1; cases l1
                exact ⟨al1 i, G.cl d, dx, gs, u2, refAt r1, e4, hK ▸ hc, hK ▸ hn, l2, q al1 H1 _ x1 hr1 r2⟩
          · cases e3
        · cases e3
      · cases e2
    | _ => cases e2

/-! ### built-in functions -/
def SndC (G : Gx) (r : List V → Hp → VK → Prop) (f : List AV → List AO → Option (AV × List AO)) : Prop := ∀ H al h xs us v h' (Q : VK), HR G al h H → RAs G h.length al H xs us → f xs h = some (v, h') → FwV G h.length al H v h' Q → r us H Q
def mC1 (f : List AV → List AO → Option (AV × List AO)) (ma : AEnv → AM (List AV)) : AE := fun e h => bnd (ma e h) fun xs h1 => match f xs h1 with
  | some (v, h2) => some (.ok v, h2)
  | none => none
theorem snd_CB {r : List V → Hp → VK → Prop} {f : List AV → List AO → Option (AV × List AO)} {t : TA} {ma : AEnv → AM (List AV)} (hs : SndC G r f) (ha : SndA G W t ma) : SndE G W (tCB r t) (mC1 f ma) := by
  intro σ H al e h rr h' Q hr er hm q
  rcases bnd_some hm with ⟨cc, k, e1, rfl⟩ | ⟨x, h1, e1, e2⟩
  · exact ha σ H al e h _ _ _ hr er e1 q
  · refine ha σ H al e h _ _ _ hr er e1 ?_
    intro al1 H1 us x1 hr1 r1
    split at e2
    · rename_i v h2 e3
      cases e2
      exact hs H1 al1 h1 x us v _ Q hr1 r1 e3 (FwV.after x1 q)
    · cases e2
theorem se_callB {id : String} {r : List V → Hp → VK → Prop} {f : List AV → List AO → Option (AV × List AO)} {x : Str} {e : Expr} {es : List Expr} {ma : AEnv → AM (List AV)} {p pos : Pos} (hc : CallR X (.builtin id) r) (hs : SndC G r f) (hm : X.mg x = none) (hv : bootBuiltins x = some (.builtin id)) (ha : SA G X W (e :: es) ma)
    (hg : Gl X x := by rfl) (hn : x ≠ "__name__" := by decide) (hdb : (x == ("__debug__" : Str)) = false := by decide)
    (he : starEach (e :: es) X.env = (false, eval e X.env) :: starEach es X.env := by rfl) (hpl : (backTo pos (starEach es X.env)).any (·.1) = false := by rfl) : SE G X W (.Call (.Name x p) (e :: es) [] pos) (mC1 f ma) := by
  obtain ⟨t, pa, sa⟩ := ha
  exact ⟨_, pe_callB hc hg hm hv pa hn hdb he hpl, snd_CB hs sa⟩
theorem se_callTy {T : String} {r : List V → Hp → VK → Prop} {f : List AV → List AO → Option (AV × List AO)} {x : Str} {e : Expr} {es : List Expr} {ma : AEnv → AM (List AV)} {p pos : Pos} (hc : CallR X (.type T) r) (hs : SndC G r f) (hm : X.mg x = none) (hv : bootBuiltins x = some (.type T)) (ha : SA G X W (e :: es) ma)
    (hg : Gl X x := by rfl) (hn : x ≠ "__name__" := by decide) (hdb : (x == ("__debug__" : Str)) = false := by decide)
    (he : starEach (e :: es) X.env = (false, eval e X.env) :: starEach es X.env := by rfl) (hpl : (backTo pos (starEach es X.env)).any (·.1) = false := by rfl) : SE G X W (.Call (.Name x p) (e :: es) [] pos) (mC1 f ma) := by
  obtain ⟨t, pa, sa⟩ := ha
  exact ⟨_, pe_callTy hc hg hm hv pa hn hdb he hpl, snd_CB hs sa⟩
theorem one_of {n : Nat} {al : Nat → Addr} {H : Hp} {x : AV} {us : List V} (r : RAs G n al H [x] us) : ∃ u, us = [u] ∧ RA G n al H x u := by
  cases r with
  | cons r rr => cases rr; exact ⟨_, rfl, r⟩
theorem two_of {n : Nat} {al : Nat → Addr} {H : Hp} {x y : AV} {us : List V} (r : RAs G n al H [x, y] us) : ∃ u w, us = [u, w] ∧ RA G n al H x u ∧ RA G n al H y w := by
  cases r with
  | cons r rr =>
    obtain ⟨w, rfl, r2⟩ := one_of rr
    exact ⟨_, _, rfl, r, r2⟩
/-- len -/
def fLen : List AV → List AO → Option (AV × List AO) := fun xs h => match xs with
  | [.str y] => if y.length ≤ 1000000 then some (.int y.length, h) else none
  | [x] => (itemsA h x).map fun ys => (.int ys.length, h)
  | _ => none
def rLenA (K : PySem.W.Frag) : List V → Hp → VK → Prop := fun xs H Q => ∃ x n, xs = [x] ∧ LenV K x H n ∧ Q (.int n) H
theorem snd_len : SndC G (rLenA G.K) fLen := by
  intro H al h xs us v h' Q hr rs e q
  unfold fLen at e
  split at e
  · rename_i y
    split at e
    · rename_i hz
      cases e
      obtain ⟨u, rfl, r⟩ := one_of rs
      cases r
      exact ⟨.str y, y.length, rfl, ⟨by rw [sizeLine_eq]; omega, rfl⟩, q al H _ .refl hr .int⟩
    · cases e
  · rename_i x _
    obtain ⟨u, rfl, r⟩ := one_of rs
    cases hy : itemsA h x with
    | none => rw [hy] at e; cases e
    | some ys =>
      rw [hy] at e; cases e
      obtain ⟨p, vs, rfl, sq, rs', _⟩ := items_ok hr r hy
      refine ⟨.ref p, vs.length, rfl, ?_, ?_⟩
      · rcases sq with sq | sq
        · exact .inl ⟨vs, sq, rfl⟩
        · exact .inr ⟨vs, sq, rfl⟩
      · rw [← rs'.length]
        exact q al H _ .refl hr .int
  · cases e
theorem se_len {e : Expr} {ma : AEnv → AM (List AV)} {p pos : Pos} (hK : X.K = G.K) (hm : X.mg "len" = none) (ha : SA G X W [e] ma) (hg : Gl X "len" := by rfl) (he : starEach [e] X.env = (false, eval e X.env) :: starEach [] X.env := by rfl)
    (hpl : (backTo pos (starEach [] X.env)).any (·.1) = false := by rfl) : SE G X W (.Call (.Name "len" p) [e] [] pos) (mC1 fLen ma) := se_callB (r := rLenA G.K) (hK ▸ call_len) snd_len hm boot_len ha hg (by decide) (by decide) he hpl
def fInt1 : List AV → List AO → Option (AV × List AO) := fun xs h => match xs with
  | [.int i] => some (.int i, h)
  | _ => none
def rInt1 : List V → Hp → VK → Prop := fun xs H Q => (∃ i, xs = [.int i] ∧ Q (.int i) H) ∨ ∃ k, xs = [.bl k] ∧ Q (.int (if k then 1 else 0)) H
theorem snd_int1 : SndC G rInt1 fInt1 := by
  intro H al h xs us v h' Q hr rs e q
  unfold fInt1 at e
  split at e
  · rename_i i
    cases e
    obtain ⟨u, rfl, r⟩ := one_of rs
    cases r
    exact .inl ⟨i, rfl, q al H _ .refl hr .int⟩
  · cases e
theorem se_int1 {e : Expr} {ma : AEnv → AM (List AV)} {p pos : Pos} (hm : X.mg "int" = none) (ha : SA G X W [e] ma) (hg : Gl X "int" := by rfl) (he : starEach [e] X.env = (false, eval e X.env) :: starEach [] X.env := by rfl)
    (hpl : (backTo pos (starEach [] X.env)).any (·.1) = false := by rfl) : SE G X W (.Call (.Name "int" p) [e] [] pos) (mC1 fInt1 ma) := se_callTy (r := rInt1) call_int1 snd_int1 hm (by decide +kernel) ha hg (by decide) (by decide) he hpl
def f2I (g : Int → Int → Int) : List AV → List AO → Option (AV × List AO) := fun xs h => match xs with
  | [.int i, .int j] => some (.int (g i j), h)
  | _ => none
def r2I (g : Int → Int → Int) : List V → Hp → VK → Prop := fun xs H Q => ∃ i j, xs = [.int i, .int j] ∧ Q (.int (g i j)) H
theorem snd_2I {g : Int → Int → Int} : SndC G (r2I g) (f2I g) := by
  intro H al h xs us v h' Q hr rs e q
  unfold f2I at e
  split at e
  · rename_i i j
    cases e
    obtain ⟨u, w, rfl, r, r2⟩ := two_of rs
    cases r; cases r2
    exact ⟨i, j, rfl, q al H _ .refl hr .int⟩
  · cases e
def fMax2 := f2I fun i j => if j > i then j else i
def fMin2 := f2I fun i j => if j < i then j else i
theorem se_max2 {a b : Expr} {ma : AEnv → AM (List AV)} {p pos : Pos} (hc : X.calm = true) (hm : X.mg "max" = none) (ha : SA G X W [a, b] ma) (hg : Gl X "max" := by rfl) (he : starEach [a, b] X.env = (false, eval a X.env) :: starEach [b] X.env := by rfl)
    (hpl : (backTo pos (starEach [b] X.env)).any (·.1) = false := by rfl) : SE G X W (.Call (.Name "max" p) [a, b] [] pos) (mC1 fMax2 ma) := se_callB (r := r2I _) (call_max2 hc) snd_2I hm (by decide +kernel) ha hg (by decide) (by decide) he hpl
theorem se_min2 {a b : Expr} {ma : AEnv → AM (List AV)} {p pos : Pos} (hc : X.calm = true) (hm : X.mg "min" = none) (ha : SA G X W [a, b] ma) (hg : Gl X "min" := by rfl) (he : starEach [a, b] X.env = (false, eval a X.env) :: starEach [b] X.env := by rfl)
    (hpl : (backTo pos (starEach [b] X.env)).any (·.1) = false := by rfl) : SE G X W (.Call (.Name "min" p) [a, b] [] pos) (mC1 fMin2 ma) := se_callB (r := r2I _) (call_min2 hc) snd_2I hm (by decide +kernel) ha hg (by decide) (by decide) he hpl
/-- all, any of a list of bools -/
def blsA : List AV → Option (List Bool)
  | [] => some []
  | .bl b :: r => (blsA r).map fun bs => b :: bs
  | _ => none
theorem blsA_ok {n : Nat} {al : Nat → Addr} {H : Hp} : ∀ {xs : List AV} {us : List V} {bs : List Bool}, RAs G n al H xs us → blsA xs = some bs → us = bs.map V.bl
  | [], _, _, .nil, e => by cases e; rfl
  | .bl b :: r, _, bs, .cons ra rs, e => by
    cases ra
    cases q : blsA r with
    | none => unfold blsA at e; rw [q] at e; cases e
    | some bs' =>
      unfold blsA at e; rw [q] at e; cases e
      rw [blsA_ok rs q]; rfl
  | .non :: _, _, _, _, e => by cases e
  | .int _ :: _, _, _, _, e => by cases e
  | .str _ :: _, _, _, _, e => by cases e
  | .tup _ :: _, _, _, _, e => by cases e
  | .ref _ :: _, _, _, _, e => by cases e
  | .cst _ :: _, _, _, _, e => by cases e
def fBs (g : List Bool → Bool) : List AV → List AO → Option (AV × List AO) := fun xs h => match xs with
  | [.ref i] => match h[i]? with
    | some (.lst ys) => (blsA ys).map fun bs => (.bl (g bs), h)
    | _ => none
  | _ => none
def rBs (K : PySem.W.Frag) (g : List Bool → Bool) : List V → Hp → VK → Prop := fun vs H Q => ∃ (a : Addr) (bs : List Bool), vs = [V.ref a] ∧ SqL K H a (bs.map V.bl) ∧ Q (.bl (g bs)) H
theorem snd_bs {g : List Bool → Bool} : SndC G (rBs G.K g) (fBs g) := by
  intro H al h xs us v h' Q hr rs e q
  unfold fBs at e
  split at e
  · rename_i i
    split at e
    · rename_i ys hi
      cases z : blsA ys with
      | none => rw [z] at e; cases e
      | some bs =>
        rw [z] at e; cases e
        obtain ⟨u, rfl, r⟩ := one_of rs
        obtain ⟨vs, e1, r1⟩ := lstAt hr hi
        have := blsA_ok r1 z
        subst this
        exact ⟨al i, bs, by rw [refAt r], SqL.of e1, q al H _ .refl hr .bl⟩
    · cases e
  · cases e
def fAll := fBs fun bs => bs.all id
def fAny := fBs fun bs => bs.any id
theorem se_all {e : Expr} {ma : AEnv → AM (List AV)} {p pos : Pos} (hK : X.K = G.K) (hc : X.calm = true) (hm : X.mg "all" = none) (ha : SA G X W [e] ma) (hg : Gl X "all" := by rfl) (he : starEach [e] X.env = (false, eval e X.env) :: starEach [] X.env := by rfl)
    (hpl : (backTo pos (starEach [] X.env)).any (·.1) = false := by rfl) : SE G X W (.Call (.Name "all" p) [e] [] pos) (mC1 fAll ma) := se_callB (r := rBs G.K _) (hK ▸ cr_all hc) snd_bs hm (by decide +kernel) ha hg (by decide) (by decide) he hpl
theorem se_any {e : Expr} {ma : AEnv → AM (List AV)} {p pos : Pos} (hK : X.K = G.K) (hc : X.calm = true) (hm : X.mg "any" = none) (ha : SA G X W [e] ma) (hg : Gl X "any" := by rfl) (he : starEach [e] X.env = (false, eval e X.env) :: starEach [] X.env := by rfl)
    (hpl : (backTo pos (starEach [] X.env)).any (·.1) = false := by rfl) : SE G X W (.Call (.Name "any" p) [e] [] pos) (mC1 fAny ma) := se_callB (r := rBs G.K _) (hK ▸ cr_any hc) snd_bs hm (by decide +kernel) ha hg (by decide) (by decide) he hpl
/-- list(x) -/
def fList : List AV → List AO → Option (AV × List AO) := fun xs h => match xs with
  | [x] => (itemsA h x).map fun ys => (.ref h.length, h ++ [.lst ys])
  | _ => none
def rListA (K : PySem.W.Frag) : List V → Hp → VK → Prop := fun xs H Q => ∃ p ys, xs = [.ref p] ∧ (SqL K H p ys ∨ SqT K H p ys) ∧ ∀ l, H l = none → Q (.ref l) (upd H l (.lst ys))
theorem snd_list : SndC G (rListA G.K) fList := by
  intro H al h xs us v h' Q hr rs e q
  unfold fList at e
  split at e
  · rename_i x
    obtain ⟨u, rfl, r⟩ := one_of rs
    cases hy : itemsA h x with
    | none => rw [hy] at e; cases e
    | some ys =>
      rw [hy] at e; cases e
      obtain ⟨p, vs, rfl, sq, rs', _⟩ := items_ok hr r hy
      exact ⟨p, vs, rfl, sq, fun l hl => FwV.newL .refl hr hl rs' q⟩
  · cases e
theorem se_list {e : Expr} {ma : AEnv → AM (List AV)} {p pos : Pos} (hK : X.K = G.K) (hm : X.mg "list" = none) (ha : SA G X W [e] ma) (hg : Gl X "list" := by rfl) (he : starEach [e] X.env = (false, eval e X.env) :: starEach [] X.env := by rfl)
    (hpl : (backTo pos (starEach [] X.env)).any (·.1) = false := by rfl) : SE G X W (.Call (.Name "list" p) [e] [] pos) (mC1 fList ma) := se_callTy (r := rListA G.K) (hK ▸ call_list_of) snd_list hm (by decide +kernel) ha hg (by decide) (by decide) he hpl
/-- tuple(x) -/
def itemsT (h : List AO) (x : AV) : Option (List AV) := match x with
  | .ktp _ => none
  | x => itemsA h x
def fTuple : List AV → List AO → Option (AV × List AO) := fun xs h => match xs with
  | [x] => (itemsT h x).map fun ys => (.tup ys, h)
  | _ => none
def rTupF (K : PySem.W.Frag) : List V → Hp → VK → Prop := fun xs H Q => ∃ p ys, xs = [.ref p] ∧ ((SqL K H p ys ∧ ∀ l o, o.dict = none → H l = none → Q (.ref l) (upd H l (.frz o (.tup ys)))) ∨ (SqT K H p ys ∧ Q (.ref p) H))
theorem call_tuple_ofF : CallR X (.type "tuple") (rTupF X.K) := by
  rintro pins t σ H xs us Q inv r ⟨p, ys, rfl, h⟩
  obtain ⟨_, rfl, rx⟩ := vals1 r
  cases rx
  rcases h with ⟨isL, q⟩ | ⟨isT, q⟩
  · have ⟨its, same, pl, few⟩ := inv.list isL
    have long : its.toArray.size ≤ sizeLine := by rw [List.size_toArray, ← same.length]; exact few
    apply call_tuple_list pl.isList
    · intro g kp
      have I1 := inv.kept (t' := t.toks) kp
      refine ⟨V.ref _, _, I1.laid (t' := t.toks) (fun _ _ => Heap.get?_push_of_some _) (Nat.le_refl _) ?_, rfl, q _ { cls := .type "tuple", data := .seq its.toArray } rfl (I1.hok.fresh (Nat.le_refl _))⟩
      exact ⟨Heap.get?_push_size _ rfl, few, its, same, IsTup.new _ _⟩
  · have ⟨_, _, pt, _⟩ := inv.tuple isT
    exact call_tuple_same pt ⟨V.ref p, H, inv, rfl, q⟩
def rTupP (K : PySem.W.Frag) : List V → Hp → VK → Prop := fun xs H Q => ∃ p ys, xs = [.ref p] ∧ ((SqL K H p ys ∧ ∀ l, H l = none → Q (.ref l) (upd H l (.tup ys))) ∨ (SqT K H p ys ∧ Q (.ref p) H))
theorem tupItems {al : Nat → Addr} {h : List AO} {H : Hp} {x : AV} {u : V} {ys : List AV} (hr : HR G al h H) (r : RA G h.length al H x u) (hy : itemsT h x = some ys) : (∃ p vs, u = .ref p ∧ SqL G.K H p vs ∧ RAs G h.length al H ys vs) ∨ (x = .tup ys ∧ ∃ p vs, u = .ref p ∧ SqT G.K H p vs) := by
  cases x with
  | tup zs =>
    cases hy
    obtain ⟨a, vs, rfl, t, rs⟩ := tupAt r
    exact .inr ⟨rfl, a, vs, rfl, t.sq⟩
  | ref i =>
    have hy' : (match h[i]? with | some (.lst ys) => some ys | some (.rol ys) => some ys | _ => none) = some ys := hy
    split at hy'
    · rename_i hi
      cases hy'
      obtain ⟨vs, e1, rs⟩ := lstAt hr hi
      exact .inl ⟨_, vs, refAt r, SqL.of e1, rs⟩
    · rename_i hi
      cases hy'
      obtain ⟨vs, e1, rs⟩ := (hr.ob _ _ hi : ∃ vs, RoL G.K H (al _) vs ∧ RAs G h.length al H ys vs)
      exact .inl ⟨_, vs, refAt r, e1.sq, rs⟩
    · cases hy'
  | _ => cases hy
theorem snd_tupleF (hz : G.fz = true) : SndC G (rTupF G.K) fTuple := by
  intro H al h xs us v h' Q hr rs e q
  unfold fTuple at e
  split at e
  · rename_i x
    obtain ⟨u, rfl, r⟩ := one_of rs
    cases hy : itemsT h x with
    | none => rw [hy] at e; cases e
    | some ys =>
      rw [hy] at e; cases e
      rcases tupItems hr r hy with ⟨p, vs, rfl, sq, rs'⟩ | ⟨rfl, p, vs, rfl, sq⟩
      · exact ⟨p, vs, rfl, .inl ⟨sq, fun l o ho hl => FwV.newF hz ho .refl hr hl rs' q⟩⟩
      · exact ⟨p, vs, rfl, .inr ⟨sq, q al H _ .refl hr r⟩⟩
  · cases e
theorem snd_tupleP (hz : G.fz = false) : SndC G (rTupP G.K) fTuple := by
  intro H al h xs us v h' Q hr rs e q
  unfold fTuple at e
  split at e
  · rename_i x
    obtain ⟨u, rfl, r⟩ := one_of rs
    cases hy : itemsT h x with
    | none => rw [hy] at e; cases e
    | some ys =>
      rw [hy] at e; cases e
      rcases tupItems hr r hy with ⟨p, vs, rfl, sq, rs'⟩ | ⟨rfl, p, vs, rfl, sq⟩
      · exact ⟨p, vs, rfl, .inl ⟨sq, fun l hl => FwV.newT hz .refl hr hl rs' q⟩⟩
      · exact ⟨p, vs, rfl, .inr ⟨sq, q al H _ .refl hr r⟩⟩
  · cases e
theorem se_tupleF {e : Expr} {ma : AEnv → AM (List AV)} {p pos : Pos} (hz : G.fz = true) (hK : X.K = G.K) (hm : X.mg "tuple" = none) (ha : SA G X W [e] ma) (hg : Gl X "tuple" := by rfl) (he : starEach [e] X.env = (false, eval e X.env) :: starEach [] X.env := by rfl)
    (hpl : (backTo pos (starEach [] X.env)).any (·.1) = false := by rfl) : SE G X W (.Call (.Name "tuple" p) [e] [] pos) (mC1 fTuple ma) := se_callTy (r := rTupF G.K) (hK ▸ call_tuple_ofF) (snd_tupleF hz) hm (by decide +kernel) ha hg (by decide) (by decide) he hpl
theorem se_tupleP {e : Expr} {ma : AEnv → AM (List AV)} {p pos : Pos} (hz : G.fz = false) (hK : X.K = G.K) (hm : X.mg "tuple" = none) (ha : SA G X W [e] ma) (hg : Gl X "tuple" := by rfl) (he : starEach [e] X.env = (false, eval e X.env) :: starEach [] X.env := by rfl)
    (hpl : (backTo pos (starEach [] X.env)).any (·.1) = false := by rfl) : SE G X W (.Call (.Name "tuple" p) [e] [] pos) (mC1 fTuple ma) := se_callTy (r := rTupP G.K) (hK ▸ call_tuple_of) (snd_tupleP hz) hm (by decide +kernel) ha hg (by decide) (by decide) he hpl

/-! ### isinstance -/
inductive Ty where
  | int | bool | str | tup | lst | dct
def Ty.nm : Ty → String
  | .int => "int" | .bool => "bool" | .str => "str" | .tup => "tuple" | .lst => "list" | .dct => "dict"
def nmA (h : List AO) : AV → Option String
  | .non => some "NoneType" | .bl _ => some "bool" | .int _ => some "int" | .str _ => some "str" | .tup _ => some "tuple"
  | .ref i => match h[i]? with
    | some (.lst _) => some "list" | some (.rol _) => some "list" | some (.dct _) => some "dict" | some (.dtp _) => some "dict"
    | _ => none
  | .cst _ => none
  | .ktp _ => none
/-- whether a value is of a type -/
def isT (T : Ty) (h : List AO) (x : AV) : Option Bool := match x with
  | .non => some false
  | .bl _ => some (match T with | .int => true | .bool => true | _ => false)
  | .int _ => some (match T with | .int => true | _ => false)
  | .str _ => some (match T with | .str => true | _ => false)
  | .tup _ => some (match T with | .tup => true | _ => false)
  | .ref i => match h[i]? with
    | some (.lst _) => some (match T with | .lst => true | _ => false)
    | some (.rol _) => some (match T with | .lst => true | _ => false)
    | some (.dct _) => some (match T with | .dct => true | _ => false)
    | some (.dtp _) => some (match T with | .dct => true | _ => false)
    | _ => none
  | .cst _ => none
  | .ktp _ => none
theorem isT_ok {h : List AO} {al : Nat → Addr} {H : Hp} {x : AV} {u : V} {T : Ty} {b : Bool} (hr : HR G al h H) (r : RA G h.length al H x u) (e : isT T h x = some b) : ∃ nm, TyX G.K H u (.type nm) ∧ ∀ U c, isT U h x = some c → kitB nm U.nm = some c := by
  have fin : ∀ (nm : String) (f : Ty → Bool), (∀ U, isT U h x = some (f U)) → (∀ U, kitB nm U.nm = some (f U)) → TyX G.K H u (.type nm) → ∃ nm, TyX G.K H u (.type nm) ∧ ∀ U c, isT U h x = some c → kitB nm U.nm = some c :=
    fun nm f h1 h2 t => ⟨nm, t, fun U c z => by rw [h1 U] at z; cases z; exact h2 U⟩
  cases x with
  | non => cases r; exact fin "NoneType" (fun _ => false) (fun _ => rfl) (fun U => by cases U <;> decide +kernel) (.base .non)
  | bl k => cases r; exact fin "bool" (fun | .int => true | .bool => true | _ => false) (fun U => by cases U <;> rfl) (fun U => by cases U <;> decide +kernel) (.base (.bl _))
  | int i => cases r; exact fin "int" (fun | .int => true | _ => false) (fun U => by cases U <;> rfl) (fun U => by cases U <;> decide +kernel) (.base (.int _))
  | str i => cases r; exact fin "str" (fun | .str => true | _ => false) (fun U => by cases U <;> rfl) (fun U => by cases U <;> decide +kernel) (.base (.str _))
  | tup xs =>
    obtain ⟨a, vs, rfl, t, _⟩ := tupAt r
    refine fin "tuple" (fun | .tup => true | _ => false) (fun U => by cases U <;> rfl) (fun U => by cases U <;> decide +kernel) ?_
    rcases t with ⟨_, t⟩ | ⟨_, o, _, t⟩ | ⟨_, o, its, n, t, c, _⟩
    · exact .base (.tup t)
    · exact .fTuple t
    · exact .kTuple t c
  | ktp xs => cases e
  | ref i =>
    cases refAt r
    have e' := e
    unfold isT at e'
    dsimp only at e'
    split at e'
    · rename_i xs hi
      obtain ⟨vs, e1, _⟩ := lstAt hr hi
      exact fin "list" (fun | .lst => true | _ => false) (fun U => by unfold isT; dsimp only; rw [hi]) (fun U => by cases U <;> decide +kernel) (.base (.lst e1))
    · rename_i xs hi
      obtain ⟨vs, e1, _⟩ := (hr.ob _ _ hi : ∃ vs, RoL G.K H (al i) vs ∧ RAs G h.length al H xs vs)
      refine fin "list" (fun | .lst => true | _ => false) (fun U => by unfold isT; dsimp only; rw [hi]) (fun U => by cases U <;> decide +kernel) ?_
      rcases e1 with ⟨o, e1⟩ | ⟨o, its, m, e1, c, _⟩
      · exact .base (.frz e1)
      · exact .kList e1 c
    · rename_i xs hi
      obtain ⟨vs, e1, _⟩ := (hr.ob _ _ hi : ∃ ws, H (al i) = some (.dK ws) ∧ RF G h.length al H xs ws)
      exact fin "dict" (fun | .dct => true | _ => false) (fun U => by unfold isT; dsimp only; rw [hi]) (fun U => by cases U <;> decide +kernel) (.base (.dK e1))
    · rename_i xs hi
      obtain ⟨vs, e1, _⟩ := (hr.ob _ _ hi : ∃ ws, H (al i) = some (.dT ws) ∧ RF G h.length al H xs ws)
      exact fin "dict" (fun | .dct => true | _ => false) (fun U => by unfold isT; dsimp only; rw [hi]) (fun U => by cases U <;> decide +kernel) (.base (.dT e1))
    · cases e'
  | cst c => cases e
def oIsi (Ts : List Ty) : AV → List AO → Option (AV × List AO) := fun x h => match Ts with
  | [] => none
  | [T] => (isT T h x).map fun b => (.bl b, h)
  | [T, U] => match isT T h x, isT U h x with
    | some a, some b => some (.bl (a || b), h)
    | _, _ => none
  | _ => none
theorem se_isi {T : Ty} {e : Expr} {x : Str} {me : AE} {p p2 pos : Pos} (hK : X.K = G.K) (hm : X.mg "isinstance" = none) (hmT : X.mg x = none) (hv : bootBuiltins x = some (.type T.nm)) (he : SE G X W e me) (hg : Gl X "isinstance" := by rfl) (hgT : Gl X x := by rfl)
    (hn : x ≠ "__name__" := by decide) (hd : (x == ("__debug__" : Str)) = false := by decide)
    (hst : starEach [e, .Name x p2] X.env = (false, eval e X.env) :: starEach [.Name x p2] X.env := by rfl) (hst2 : starEach [.Name x p2] X.env = (false, eval (.Name x p2) X.env) :: starEach [] X.env := by rfl) (hpl : (backTo pos (starEach [.Name x p2] X.env)).any (·.1) = false := by rfl) :
    SE G X W (.Call (.Name "isinstance" p) [e, .Name x p2] [] pos) (m1 (oIsi [T]) me) := by
  obtain ⟨t, pe, s⟩ := he
  refine ⟨_, pe_callB call_isi hg hm (by decide +kernel) (pa_cons pe (pa_cons (pe_bltn (v := .ty T.nm) hgT hmT hv rfl hn hd) pa_nil hst2) hst) (by decide) (by decide) hst hpl, ?_⟩
  intro σ H al e h r h' Q hr er hm q
  rcases bnd_some hm with ⟨cc, k, e1, rfl⟩ | ⟨y, h1, e1, e2⟩
  · exact s σ H al e h _ _ _ hr er e1 q
  · refine s σ H al e h _ _ _ hr er e1 ?_
    intro al1 H1 u x1 hr1 r1
    unfold oIsi at e2
    dsimp only at e2
    cases z : isT T h1 y with
    | none => rw [z] at e2; cases e2
    | some b =>
      rw [z] at e2; cases e2
      obtain ⟨nm, ty, kb⟩ := isT_ok hr1 r1 z
      exact ⟨u, .ty T.nm, .type nm, .type T.nm, b, rfl, .ty _, hK ▸ ty, kit_ty (kb T b z), q al1 H1 _ x1 hr1 .bl⟩
theorem se_isi2 {T U : Ty} {e : Expr} {x y : Str} {me : AE} {p p2 p3 p4 pos : Pos} {kk} (hK : X.K = G.K) (hm : X.mg "isinstance" = none) (hmT : X.mg x = none) (hv : bootBuiltins x = some (.type T.nm)) (hmU : X.mg y = none) (hvU : bootBuiltins y = some (.type U.nm)) (he : SE G X W e me) (hg : Gl X "isinstance" := by rfl) (hgT : Gl X x := by rfl) (hgU : Gl X y := by rfl)
    (hn : x ≠ "__name__" := by decide) (hd : (x == ("__debug__" : Str)) = false := by decide) (hn2 : y ≠ "__name__" := by decide) (hd2 : (y == ("__debug__" : Str)) = false := by decide)
    (hst : starEach [e, .Tuple [.Name x p2, .Name y p3] kk p4] X.env = (false, eval e X.env) :: starEach [.Tuple [.Name x p2, .Name y p3] kk p4] X.env := by rfl)
    (hst2 : starEach [.Tuple [.Name x p2, .Name y p3] kk p4] X.env = (false, eval (.Tuple [.Name x p2, .Name y p3] kk p4) X.env) :: starEach [] X.env := by rfl)
    (hst3 : starEach [.Name x p2, .Name y p3] X.env = (false, eval (.Name x p2) X.env) :: starEach [.Name y p3] X.env := by rfl) (hst4 : starEach [.Name y p3] X.env = (false, eval (.Name y p3) X.env) :: starEach [] X.env := by rfl)
    (hpl : (backTo pos (starEach [.Tuple [.Name x p2, .Name y p3] kk p4] X.env)).any (·.1) = false := by rfl) :
    SE G X W (.Call (.Name "isinstance" p) [e, .Tuple [.Name x p2, .Name y p3] kk p4] [] pos) (m1 (oIsi [T, U]) me) := by
  obtain ⟨t, pe, s⟩ := he
  refine ⟨_, pe_callB call_isiT hg hm (by decide +kernel) (pa_cons pe (pa_cons (pe_tup (pa_cons (pe_bltn (v := .ty T.nm) hgT hmT hv rfl hn hd) (pa_cons (pe_bltn (v := .ty U.nm) hgU hmU hvU rfl hn2 hd2) pa_nil hst4) hst3)) pa_nil hst2) hst) (by decide) (by decide) hst hpl, ?_⟩
  intro σ H al e h r h' Q hr er hm q
  rcases bnd_some hm with ⟨cc, k, e1, rfl⟩ | ⟨y, h1, e1, e2⟩
  · exact s σ H al e h _ _ _ hr er e1 q
  · refine s σ H al e h _ _ _ hr er e1 ?_
    intro al1 H1 u x1 hr1 r1
    refine ⟨by show 2 ≤ sizeLine; decide, fun tp htp => ?_⟩
    have hr2 : HR G al1 h1 (upd H1 tp (.tup [.ty T.nm, .ty U.nm])) := hr1.beside htp
    have x2 : Ext h1.length al1 H1 h1.length al1 (upd H1 tp (.tup [.ty T.nm, .ty U.nm])) := ext_beside htp
    unfold oIsi at e2
    dsimp only at e2
    cases z : isT T h1 y with
    | none => rw [z] at e2; cases e2
    | some a =>
      cases z2 : isT U h1 y with
      | none => rw [z, z2] at e2; cases e2
      | some b =>
        rw [z, z2] at e2; cases e2
        obtain ⟨nm, ty, kb⟩ := isT_ok hr2 (r1.mono x2) z
        refine ⟨u, tp, [.ty T.nm, .ty U.nm], .type nm, [.type T.nm, .type U.nm], a || b, rfl, upd_same, .cons (.ty _) (.cons (.ty _) .nil), hK ▸ ty, ?_, q al1 _ _ (x1.trans x2) hr2 .bl⟩
        exact kitAny_cons (kit_ty (kb T a z)) (fun hb => by subst hb; exact kitAny_cons (kit_ty (kb U b z2)) (fun hb => by subst hb; rfl) (fun hb => by subst hb; rfl)) (fun hb => by subst hb; rfl)
end
end SL
/-! SL5: defs, calls, methods, new instances; built-in methods. -/
namespace SL
open PySem PySem.Spec PyProof.Rows L2

/-! ### a def's promise, with the guards known -/
structure FnG (P : Program) (w : World) (K : PySem.W.Frag) (mg : Str → Option Value) (base : Heap) (k : Nat) (f : Addr) (fd : FuncData) (ps : List Str) (sp : Sp) : Prop where
  len : ∀ zs H Q E, sp zs H Q E → zs.length = ps.length
  run : ∀ (A : Around) (outer : List Env) (s : Shared) (H : Hp) (args : Args) (us : List Value) (vs : List V) (Q : VK) (E : XK), Room k A → A.guards = some [] → Env0 P w K mg base A outer s H → BindsTo s fd args (ps.zip us) → Vals vs us → sp vs H Q E →
    codeAny (model P w) A (.call (.ref f) args) (CR (L2.CX P w) outer P w H s Q E) s
theorem FnG.mono {P : Program} {w : World} {K : PySem.W.Frag} {mg : Str → Option Value} {base : Heap} {j k : Nat} {f : Addr} {fd : FuncData} {ps : List Str} {sp : Sp} (F : FnG P w K mg base j f fd ps sp) (h : j ≤ k) :
    FnG P w K mg base k f fd ps sp := ⟨F.len, fun A outer s H args us vs Q E hr => F.run A outer s H args us vs Q E (hr.mono h)⟩
theorem make_guards {A : Around} {C : Addr} {us : List Value} {kw : List (Str × Value)} : (A.under (.builtin "type.__call__" ⟨.ref C :: us, kw⟩)).guards = A.guards := by
  first | rfl | simp [Around.under, Code.guards, Code.isGuard, guardIds, pushGuards]

section
variable {P : Program} {w : World} {K : PySem.W.Frag} {mg : Str → Option Value} {base : Heap}
theorem fnG_of {k : Nat} {f : Addr} {name qual : Str} {params : Arguments} {body : List Stmt} {scope : Scope} {dV kV doc pm cdv ct oc : Value} {an od : Option Addr}
    {osl : Array (Option Value)} {N ps : List Str} {sp : Sp} (S : FnScope N ps scope) (lk : K.lookup f = some ⟨oc, od, .func (PySem.W.fnOf name qual params body scope dV kV doc pm an cdv ct), osl⟩) (hcd : PySem.W.codeIn K cdv qual = true)
    (len : ∀ zs H Q E, sp zs H Q E → zs.length = ps.length)
    (hbody : ∀ (A : Around) (outer : List Env) (s : Shared) (H : Hp) (vs : List V) (Q : VK) (E : XK), Room k (A.deeper (envOfC qual scope s.heap.objs.size f cdv)) → (A.deeper (envOfC qual scope s.heap.objs.size f cdv)).guards = some [] → sp vs H Q E →
      ∃ t, PSs (cxOf (L2.CX P w) P w K mg base N qual scope f cdv A outer s H E) body t ∧ t { nx := fun _ H' => Q .non H', rt := Q } (L2.start N vs) H) :
    FnG P w K mg base (k + 1) f (PySem.W.fnOf name qual params body scope dV kV doc pm an cdv ct) ps sp := by
  refine ⟨len, ?_⟩
  intro A outer t0 H args us vs Q E room noGuards start binds same want
  have kept := fun b o at_ => (start.bs b o at_).1
  have code := start.mod.kin.keeps kept
  apply codeAny_call_function room.depth (code _ _ lk) rfl S.co S.gen rfl (PySem.W.codeRec_of code hcd) (binds _ _ _ _ _)
  refine wpAny_newFunctionEnv_cells S.kind ?_ ?_
  · rintro ⟨n, _⟩ at_
    exact (S.par n (List.of_mem_zip at_).1).imp id fun cell => ⟨cell, PySem.W.cellsFrom_some _ _ _ (.inl cell)⟩
  · rintro _ rfl t1 begun
    refine ⟨(start.mod.nolimit.keeps kept).keeps begun.toInCall.keep, codeAny_func ?_⟩
    have ⟨_, walk, goal_⟩ := hbody A outer t0 H vs Q E (room.deeper _) noGuards want
    have inv : Inv (cxOf (L2.CX P w) P w K mg base N qual scope f cdv A outer t0 H E) [] _ H t1 := inv_start S room.hd start (len _ _ _ _ want) same begun
    apply wpAny_mono (walk.run [] t1 (L2.start N vs) H _ inv goal_)
    · intro fl t2 out
      match fl, out with
      | .ret _, ⟨v, _, H2, J, rv, q⟩ => exact ⟨v, H2, J.os, J.bare, J.base, J.hok, rv, q⟩
      | .next, ⟨_, H2, J, q⟩ => exact ⟨V.non, H2, J.os, J.bare, J.base, J.hok, rfl, q⟩
      | .brk, ⟨_, _, _, no⟩ => exact no.elim
      | .cont, ⟨_, _, _, no⟩ => exact no.elim
    · exact fun _ _ z => z
end

/-! ### a def by its function on abstract values -/
def spG (G : Gx) (np : Nat) (m : List AV → AM AV) : Sp := fun vs H Q E => ∃ al h avs r h', HR G al h H ∧ RAs G h.length al H avs vs ∧ avs.length = np ∧ m avs h = some (r, h') ∧
  match r with
  | .ok v => FwV G h.length al H v h' Q
  | .ex c k => FwX G h.length al H c k h' E
def mFn (N : Nat) (mb : AS) : List AV → AM AV := fun avs h => match mb (avs.map some ++ List.replicate (N - avs.length) none) h with
  | some (.nx _, h') => some (.ok .non, h')
  | some (.rt v, h') => some (.ok v, h')
  | some (.ex c k _, h') => some (.ex c k, h')
  | _ => none
theorem er_start {G : Gx} {n : Nat} {al : Nat → Addr} {H : Hp} {avs : List AV} {vs : List V} (N : List Str) (r : RAs G n al H avs vs) : ER G n al H (avs.map some ++ List.replicate (N.length - avs.length) none) (L2.start N vs) := by
  have hl := r.length
  unfold L2.start
  refine ⟨by simp only [List.length_append, List.length_map, List.length_replicate, hl], fun i v e => ?_⟩
  by_cases hi : i < avs.length
  · rw [List.getElem?_append_left (by simpa using hi), List.getElem?_map] at e
    cases q : avs[i]? with
    | none => rw [q] at e; exact nomatch e
    | some a =>
      rw [q] at e; cases e
      obtain ⟨u, hu, ru⟩ := r.get q
      refine ⟨u, ?_, ru⟩
      rw [List.getElem?_append_left (by simpa [← hl] using hi), List.getElem?_map, hu]
      rfl
  · rw [List.getElem?_append_right (by simpa using hi), List.getElem?_replicate] at e
    split at e <;> cases e
section
variable {f : Addr} {fd : FuncData} {P : Program} {w : World} {K : PySem.W.Frag} {mg : Str → Option Value} {base : Heap} {x qual : Str} {body : List Stmt} {params : Arguments} {scope : Scope} {kws : List (Str × V)} {dvs : List V}
/-- THE RULE for a def -/
theorem okG {G : Gx} {N ps : List Str} {k np : Nat} {mb : AS} (F : FunD K x qual params body scope dvs kws f fd) (S : FnScope N ps scope) (hn : ps.length = np)
    (hb : ∀ (cdv : Value) (A : Around) (outer : List Env) (s : Shared) (H : Hp) (E : XK), Room k (A.deeper (envOfC qual scope s.heap.objs.size f cdv)) → (A.deeper (envOfC qual scope s.heap.objs.size f cdv)).guards = some [] →
      SB G (cxOf (L2.CX P w) P w K mg base N qual scope f cdv A outer s H E) (fun cls d _ H => E cls d H) body mb) : FnG P w K mg base (k + 1) f fd ps (spG G np (mFn N.length mb)) := by
  have ⟨_, _, _, _, _, _, _, cdv, _, _, same, here, code, _⟩ := F.ex
  subst same
  refine fnG_of S here code (fun vs H Q E h => ?_) fun A outer s H vs Q E hr hgu h => ?_
  · obtain ⟨al, hh, avs, r, h', _, rs, hl, _⟩ := h
    rw [← rs.length, hl, hn]
  · obtain ⟨t, pt, st⟩ := hb cdv A outer s H E hr hgu
    refine ⟨t, pt, ?_⟩
    obtain ⟨al, hh, avs, r, h', hR, rs, hl, hm, q⟩ := h
    unfold mFn at hm
    split at hm
    · rename_i e1 h1 e2
      cases hm
      exact st _ H al _ hh _ _ _ hR (er_start N rs) e2 fun al' H' σ' x' hr' _ => q al' H' .non x' hr' .non
    · rename_i v h1 e2
      cases hm
      exact st _ H al _ hh _ _ _ hR (er_start N rs) e2 q
    · rename_i c k' e1 h1 e2
      cases hm
      exact st _ H al _ hh _ _ _ hR (er_start N rs) e2 fun al' H' σ' x' hr' _ hk hx => q al' H' x' hr' hk hx
    · cases hm
end

/-! ### calls -/
section
variable {G : Gx} {X : Cx} {W : WX} {k np : Nat} {f C : Addr} {fd : FuncData} {ps : List Str} {sp : Sp} {m : List AV → AM AV} {dvs : List V} {davs : List AV} {ds : List Value} {x : Str} {p pos apos : Pos} {e o : Expr} {es : List Expr}
theorem run_fnG {pins : List (Addr × Obj)} {σ : L2.St} {H : Hp} {s : Shared} {Q : VK} {E : XK} {us : List Value} {vs : List V} (F : FnG X.prog X.w X.K X.mg X.base k f fd ps sp) (hr : Room k X.A) (hgu : X.A.guards = some []) (hb : Binds X.K fd ps ds) (hd : Vals dvs ds) (hx : PassesAt (L2.CX X.prog X.w) X σ E)
    (I : Inv X pins σ H s) (same : Vals vs us) (want : sp (vs ++ dvs) H Q E) : wpAny (model X.prog X.w) X.A (call (.ref f) us) (EP X pins σ Q) X.xe s := by
  have all := same.append hd
  have cnt : (us ++ ds).length = ps.length := (F.len _ _ _ _ want) ▸ all.length.symm
  apply wpAny_call
  apply codeAny_mono (F.run X.A X.stack s H ⟨us, []⟩ _ _ Q E hr hgu I.env0 (hb s us I.kIn cnt) all want)
  intro r t ended
  match r, ended with
  | .ok (.ret u), ended => exact I.after ended
  | .error er, ended => exact hx pins H s er t I ended
  | .ok .next, ended | .ok .brk, ended | .ok .cont, ended => exact ended.elim
theorem pe_callG (F : FnG X.prog X.w X.K X.mg X.base k f fd ps sp) (hr : Room k X.A) (hgu : X.A.guards = some []) (hg : Gl X x) (hm : X.mg x = some (.ref f)) (hk : PySem.W.keepIn X.K (.ref f) = true) (hb : Binds X.K fd ps ds) (hd : Vals dvs ds) {E : L2.St → XK} (hx : ∀ σ, PassesAt (L2.CX X.prog X.w) X σ (E σ)) {t : TA}
    (args : PA X (e :: es) t) (notDebug : (x == ("__debug__" : Str)) = false := by decide) (fst : starEach (e :: es) X.env = (false, eval e X.env) :: starEach es X.env := by rfl) (noStar : (backTo pos (starEach es X.env)).any (·.1) = false := by rfl) :
    PE X (.Call (.Name x p) (e :: es) [] pos) (fun σ H Q => t σ H fun vs H1 => sp (vs ++ dvs) H1 Q (E σ)) := by
  constructor
  intro pins s σ H Q I h
  apply wpAny_Call_Name_kw (ld_glob I hg hm _ notDebug)
  have each := args.run pos pins s σ H _ I h
  apply PySem.W.callWith_K (h₀ := X.base) I.ok.mod.kin hk _ fst noStar
  apply thn each
  rintro us t ⟨vs, H1, J, same, want⟩
  exact ⟨J.kIn, run_fnG F hr hgu hb hd (hx σ) J same want⟩
def mCall (m : List AV → AM AV) (davs : List AV) (ma : AEnv → AM (List AV)) : AE := fun e h => bnd (ma e h) fun vs h1 => m (vs ++ davs) h1
/-- the arguments have come -/
theorem spG_in {σ : L2.St} {H H1 : Hp} {al al1 : Nat → Addr} {n0 : Nat} {h1 h' : List AO} {avs : List AV} {vs : List V} {r : Rs AV} {Q : VK} (hl : avs.length = np) (x1 : Ext n0 al H h1.length al1 H1) (hr1 : HR G al1 h1 H1) (rs : RAs G h1.length al1 H1 avs vs) (em : m avs h1 = some (r, h')) (q : PoE G W n0 al H σ r h' Q) :
    spG G np m vs H1 Q (WE W σ) := by
  refine ⟨al1, h1, avs, r, h', hr1, rs, hl, em, ?_⟩
  cases r with
  | ok v => exact FwV.after x1 q
  | ex c k => exact FwX.after (E := fun cls d H' => W cls d σ H') x1 q
theorem se_call (F : FnG X.prog X.w X.K X.mg X.base k f fd ps (spG G np m)) (hr : Room k X.A) (hgu : X.A.guards = some []) (hm : X.mg x = some (.ref f)) (hk : PySem.W.keepIn X.K (.ref f) = true) (hb : Binds X.K fd ps ds) (hd : Vals dvs ds) (hda : ∀ n al H, RAs G n al H davs dvs) (tk : Takes X W)
    {ma : AEnv → AM (List AV)} (hna : (e :: es).length + davs.length = np) (hla : ∀ en h vs h', ma en h = some (.ok vs, h') → vs.length = (e :: es).length) (ha : SA G X W (e :: es) ma) (hg : Gl X x := by rfl) (hdb : (x == ("__debug__" : Str)) = false := by decide)
    (he : starEach (e :: es) X.env = (false, eval e X.env) :: starEach es X.env := by rfl) (hpl : (backTo pos (starEach es X.env)).any (·.1) = false := by rfl) : SE G X W (.Call (.Name x p) (e :: es) [] pos) (mCall m davs ma) := by
  obtain ⟨t, pa, sa⟩ := ha
  refine ⟨_, pe_callG F hr hgu hg hm hk hb hd (fun σ => passAt tk σ) pa hdb he hpl, ?_⟩
  intro σ H al en h r h' Q hR er em q
  rcases bnd_some em with ⟨c, kk, e1, rfl⟩ | ⟨vs, h1, e1, e2⟩
  · exact sa σ H al en h _ _ _ hR er e1 q
  · refine sa σ H al en h _ _ _ hR er e1 ?_
    intro al1 H1 us x1 hr1 r1
    exact spG_in (by rw [List.length_append, hla _ _ _ _ e1]; exact hna) x1 hr1 (r1.append (hda _ _ _)) e2 q

/-! ### methods -/
def mMeth (c : Nat) (nm : Str) (m : List AV → AM AV) (davs : List AV) (mo : AE) (ma : AEnv → AM (List AV)) : AE := fun e h => bnd (mo e h) fun x h1 => match x with
  | .ref i => match h1[i]? with
    | some (.ins d fs) => if d = c ∧ fs.lookup nm = none then bnd (ma e h1) fun vs h2 => m (.ref i :: (vs ++ davs)) h2 else none
    | _ => none
  | _ => none
theorem pe_methG {pl : Sem Bool} {nm : Str} {ta : TE} {t : TA} {E : L2.St → XK} (he : PE X o ta) (c : Cls X.K C) (hm : Meth X.K C nm f) (F : FnG X.prog X.w X.K X.mg X.base k f fd ps sp) (hr : Room k X.A) (hgu : X.A.guards = some []) (hb : Binds X.K fd ps ds) (hd : Vals dvs ds) (hx : ∀ σ, PassesAt (L2.CX X.prog X.w) X σ (E σ)) (ha : PA X (e :: es) t)
    (hst : starEach (e :: es) X.env = (false, eval e X.env) :: starEach es X.env := by rfl) (hpl : (backTo pos (starEach es X.env)).any (·.1) = false := by rfl)
    (ht : eval (.Call (.Attribute o nm apos) (e :: es) [] pos) X.env = (do
      let ov ← eval o X.env
      standAt apos.atName
      let (f, first) ← holding [ov] (getMethod ov nm pl)
      callWith pos f first (backTo pos (starEach (e :: es) X.env)) (backToKw pos (keywordEach [] X.env))) := by rfl) :
    PE X (.Call (.Attribute o nm apos) (e :: es) [] pos) (fun σ H Q => ta σ H fun x H1 => ∃ a dx fs, x = .ref a ∧ H1 a = some (.ins C dx fs) ∧ fs.lookup nm = none ∧ t σ H1 fun vs H2 => sp (x :: (vs ++ dvs)) H2 Q (E σ)) := by
  refine ⟨fun pins s σ H Q I h => ?_⟩
  refine PySem.W.methodCall_KW (pl := pl) (thn (he.run pins s σ H _ I h) fun u s1 ⟨x, H1, I1, rx, a, dx, fs, ex, ea, l, q⟩ => ?_) ht
  subst ex
  obtain rfl : u = Value.ref a := rx
  refine getmeth_ok I1 ea c hm l ?_
  refine PySem.W.callWith_K (first := [.ref a]) (h₀ := X.base) I.ok.mod.kin hm.kp (thn (ha.run pos pins s1 σ H1 _ I1 q) fun us s2 ⟨vs, H2, I2, r, q2⟩ => ⟨I2.kIn, ?_⟩) hst hpl
  exact run_fnG (us := .ref a :: us) (vs := .ref a :: vs) F hr hgu hb hd (hx σ) I2 (.cons rfl r) q2
theorem pe_methG0 {pl : Sem Bool} {nm : Str} {ta : TE} {E : L2.St → XK} (he : PE X o ta) (c : Cls X.K C) (hm : Meth X.K C nm f) (F : FnG X.prog X.w X.K X.mg X.base k f fd ps sp) (hr : Room k X.A) (hgu : X.A.guards = some []) (hb : Binds X.K fd ps ds) (hd : Vals dvs ds) (hx : ∀ σ, PassesAt (L2.CX X.prog X.w) X σ (E σ))
    (ht : eval (.Call (.Attribute o nm apos) [] [] pos) X.env = (do
      let obj ← eval o X.env
      standAt apos.atName
      let fw ← holding [obj] (getMethod obj nm pl)
      callWith pos fw.1 fw.2 (backTo pos (starEach [] X.env)) (backToKw pos (keywordEach [] X.env))) := by rfl) :
    PE X (.Call (.Attribute o nm apos) [] [] pos) (fun σ H Q => ta σ H fun x H1 => ∃ a dx fs, x = .ref a ∧ H1 a = some (.ins C dx fs) ∧ fs.lookup nm = none ∧ tNil σ H1 fun vs H2 => sp (x :: (vs ++ dvs)) H2 Q (E σ)) := by
  refine ⟨fun pins s σ H Q I h => ?_⟩
  refine PySem.W.methodCall_KW (pl := pl) (thn (he.run pins s σ H _ I h) fun u s1 ⟨x, H1, I1, rx, a, dx, fs, ex, ea, l, q⟩ => ?_) ht
  subst ex
  obtain rfl : u = Value.ref a := rx
  refine getmeth_ok I1 ea c hm l ?_
  exact PySem.W.callWith_K0 (first := [.ref a]) I1.kIn hm.kp (run_fnG (us := [.ref a]) (vs := [.ref a]) F hr hgu hb hd (hx σ) I1 (.cons rfl .nil) q)
theorem snd_meth {c : Nat} {nm : Str} {ta : TE} {t : TA} {mo : AE} {ma : AEnv → AM (List AV)} {n1 : Nat} (so : SndE G W ta mo) (sa : SndA G W t ma) (hla : ∀ en h vs h', ma en h = some (.ok vs, h') → vs.length = n1) (hn : n1 + davs.length + 1 = np) (hda : ∀ n al H, RAs G n al H davs dvs) :
    SndE G W (fun σ H Q => ta σ H fun x H1 => ∃ a dx fs, x = .ref a ∧ H1 a = some (.ins (G.cl c) dx fs) ∧ fs.lookup nm = none ∧ t σ H1 fun vs H2 => spG G np m (x :: (vs ++ dvs)) H2 Q (WE W σ)) (mMeth c nm m davs mo ma) := by
  intro σ H al en h r h' Q hR er em q
  rcases bnd_some em with ⟨cc, kk, e1, rfl⟩ | ⟨v, h1, e1, e2⟩
  · exact so σ H al en h _ _ _ hR er e1 q
  · refine so σ H al en h _ _ _ hR er e1 ?_
    intro al1 H1 u x1 hr1 r1
    cases v with
    | ref i =>
      dsimp only at e2
      split at e2
      · rename_i d fs hi
        split at e2
        · rename_i hd
          obtain ⟨rfl, hno⟩ := hd
          obtain ⟨dx, gs, e4, rf⟩ := insAt hr1 hi
          have l2 : gs.lookup nm = none := by
            rcases rf.lookup (x := nm) with ⟨_, z⟩ | ⟨v2, u2, l1, _, _⟩
            · exact z
            · rw [hno] at l1; cases l1
          refine ⟨al1 i, dx, gs, refAt r1, e4, l2, ?_⟩
          rcases bnd_some e2 with ⟨cc, kk, e3, rfl⟩ | ⟨vs, h2, e3, e5⟩
          · exact sa σ H1 al1 en h1 _ _ _ hr1 (er.mono x1) e3 (PoA.after (r := .ex cc kk) x1 q)
          · refine sa σ H1 al1 en h1 _ _ _ hr1 (er.mono x1) e3 ?_
            intro al2 H2 us x2 hr2 r2
            refine spG_in (avs := .ref i :: (vs ++ davs)) ?_ (x1.trans x2) hr2 (.cons (r1.mono x2) (r2.append (hda _ _ _))) e5 q
            rw [List.length_cons, List.length_append, hla _ _ _ _ e3]; exact hn
        · cases e2
      · cases e2
    | _ => cases e2
theorem se_meth {c : Nat} {pl : Sem Bool} {nm : Str} {mo : AE} {ma : AEnv → AM (List AV)} (hK : X.K = G.K) (hc : Cls G.K (G.cl c)) (hme : Meth G.K (G.cl c) nm f) (F : FnG X.prog X.w X.K X.mg X.base k f fd ps (spG G np m)) (hr : Room k X.A) (hgu : X.A.guards = some []) (hb : Binds X.K fd ps ds) (hd : Vals dvs ds) (hda : ∀ n al H, RAs G n al H davs dvs) (tk : Takes X W)
    (hn : (e :: es).length + davs.length + 1 = np) (hla : ∀ en h vs h', ma en h = some (.ok vs, h') → vs.length = (e :: es).length) (ho : SE G X W o mo) (ha : SA G X W (e :: es) ma)
    (hst : starEach (e :: es) X.env = (false, eval e X.env) :: starEach es X.env := by rfl) (hpl : (backTo pos (starEach es X.env)).any (·.1) = false := by rfl)
    (ht : eval (.Call (.Attribute o nm apos) (e :: es) [] pos) X.env = (do
      let ov ← eval o X.env
      standAt apos.atName
      let (f, first) ← holding [ov] (getMethod ov nm pl)
      callWith pos f first (backTo pos (starEach (e :: es) X.env)) (backToKw pos (keywordEach [] X.env))) := by rfl) : SE G X W (.Call (.Attribute o nm apos) (e :: es) [] pos) (mMeth c nm m davs mo ma) := by
  obtain ⟨to, po, so⟩ := ho
  obtain ⟨t, pa, sa⟩ := ha
  exact ⟨_, pe_methG (pl := pl) po (hK ▸ hc) (hK ▸ hme) F hr hgu hb hd (fun σ => passAt tk σ) pa hst hpl ht, snd_meth so sa hla hn hda⟩
theorem se_meth0 {c : Nat} {pl : Sem Bool} {nm : Str} {mo : AE} (hK : X.K = G.K) (hc : Cls G.K (G.cl c)) (hme : Meth G.K (G.cl c) nm f) (F : FnG X.prog X.w X.K X.mg X.base k f fd ps (spG G np m)) (hr : Room k X.A) (hgu : X.A.guards = some []) (hb : Binds X.K fd ps ds) (hd : Vals dvs ds) (hda : ∀ n al H, RAs G n al H davs dvs) (tk : Takes X W)
    (hn : davs.length + 1 = np) (ho : SE G X W o mo)
    (ht : eval (.Call (.Attribute o nm apos) [] [] pos) X.env = (do
      let obj ← eval o X.env
      standAt apos.atName
      let fw ← holding [obj] (getMethod obj nm pl)
      callWith pos fw.1 fw.2 (backTo pos (starEach [] X.env)) (backToKw pos (keywordEach [] X.env))) := by rfl) : SE G X W (.Call (.Attribute o nm apos) [] [] pos) (mMeth c nm m davs mo mNil) := by
  obtain ⟨to, po, so⟩ := ho
  exact ⟨_, pe_methG0 (pl := pl) po (hK ▸ hc) (hK ▸ hme) F hr hgu hb hd (fun σ => passAt tk σ) ht, snd_meth (n1 := 0) so snd_nil (fun _ _ _ _ z => by cases z; rfl) (by omega) hda⟩

/-! ### C(..) -/
theorem run_makeG {pins : List (Addr × Obj)} {σ : L2.St} {H : Hp} {s : Shared} {Q : VK} {E : XK} {us : List Value} {vs : List V} (M : Mk X.K C f) (F : FnG X.prog X.w X.K X.mg X.base k f fd ps sp) (hr : Room (k + 1) X.A) (hgu : X.A.guards = some []) (hb : Binds X.K fd ps ds) (hd : Vals dvs ds)
    (hx : PassesAt (L2.CX X.prog X.w) X σ E) (I : Inv X pins σ H s) (r : Vals vs us) (h : ∀ o d, H o = none → H d = none → d ≠ o → sp (.ref o :: (vs ++ dvs)) (upd (upd H d (.own o)) o (.ins C d [])) (fun v H2 => v = .non ∧ Q (.ref o) H2) E) : wpAny (model X.prog X.w) X.A (call (.ref C) us) (EP X pins σ Q) X.xe s := by
  generalize sz : s.heap.objs.size = d
  have want := h (d + 1) d (I.hok.fresh (by omega)) (I.hok.fresh (by omega)) (Nat.ne_of_lt (Nat.lt_succ_self d))
  have made := Inv.made (C := C) I
  rw [sz] at made
  have all : Vals (V.ref (d + 1) :: (vs ++ dvs)) (Value.ref (d + 1) :: (us ++ ds)) := .cons rfl (r.append hd)
  have cnt : (Value.ref (d + 1) :: us ++ ds).length = ps.length := (F.len _ _ _ _ want) ▸ all.length.symm
  apply wpAny_call
  apply make_map (f := f) I.kIn M.makes M.init (beq_iff_eq.mp M.fn)
  rw [sz]
  apply codeAny_mono (F.run _ X.stack _ _ ⟨Value.ref (d + 1) :: us, []⟩ _ _ _ E (hr.make C us []) (make_guards.trans hgu) (made.env0.make C us []) (hb _ (Value.ref (d + 1) :: us) made.kIn cnt) all want)
  intro r t ended
  match r, ended with
  | .ok (.ret u), ended =>
    have ⟨v, H2, I2, rv, none_, q⟩ := made.after ended
    cases none_
    exact ⟨rv, ⟨V.ref (d + 1), H2, I2, rfl, q⟩⟩
  | .error er, ended => exact hx pins _ _ er t made ended
  | .ok .next, ended | .ok .brk, ended | .ok .cont, ended => exact ended.elim
def mMake (c : Nat) (m : List AV → AM AV) (davs : List AV) (ma : AEnv → AM (List AV)) : AE := fun e h => bnd (ma e h) fun vs h1 => bnd (m (.ref h1.length :: (vs ++ davs)) (h1 ++ [.ins c []])) fun v h2 => match v with
  | .non => some (.ok (.ref h1.length), h2)
  | _ => none
theorem snd_make {c : Nat} {t : TA} {ma : AEnv → AM (List AV)} {n1 : Nat} (sa : SndA G W t ma) (hla : ∀ en h vs h', ma en h = some (.ok vs, h') → vs.length = n1) (hn : n1 + davs.length + 1 = np) (hda : ∀ n al H, RAs G n al H davs dvs) :
    SndE G W (fun σ H Q => t σ H fun vs H1 => ∀ x dx, H1 x = none → H1 dx = none → dx ≠ x → spG G np m (.ref x :: (vs ++ dvs)) (upd (upd H1 dx (.own x)) x (.ins (G.cl c) dx [])) (fun v H2 => v = .non ∧ Q (.ref x) H2) (WE W σ)) (mMake c m davs ma) := by
  intro σ H al en h r h' Q hR er em q
  rcases bnd_some em with ⟨cc, kk, e1, rfl⟩ | ⟨vs, h1, e1, e2⟩
  · exact sa σ H al en h _ _ _ hR er e1 q
  · refine sa σ H al en h _ _ _ hR er e1 ?_
    intro al1 H1 us x1 hr1 r1 x dx hx hdx hne
    have ha : HR G al1 h1 (upd H1 dx (.own x)) := hr1.beside hdx
    have xa : Ext h1.length al1 H1 h1.length al1 (upd H1 dx (.own x)) := ext_beside hdx
    have hx2 : upd H1 dx (.own x) x = none := by rw [upd_ne (Ne.symm hne)]; exact hx
    have hb : HR G (ext1 al1 h1.length x) (h1 ++ [.ins c []]) (upd (upd H1 dx (.own x)) x (.ins (G.cl c) dx [])) := ha.new hx2 ⟨dx, [], upd_same, trivial⟩
    have hlen : (h1 ++ [AO.ins c []]).length = h1.length + 1 := by rw [List.length_append, List.length_singleton]
    have xb : Ext h1.length al1 H1 (h1 ++ [AO.ins c []]).length (ext1 al1 h1.length x) (upd (upd H1 dx (.own x)) x (.ins (G.cl c) dx [])) := by
      rw [hlen]; exact xa.trans (ext_new hx2)
    have rx : RA G (h1 ++ [AO.ins c []]).length (ext1 al1 h1.length x) (upd (upd H1 dx (.own x)) x (.ins (G.cl c) dx [])) (.ref h1.length) (.ref x) := by
      have r0 : RA G (h1 ++ [AO.ins c []]).length (ext1 al1 h1.length x) (upd (upd H1 dx (.own x)) x (.ins (G.cl c) dx [])) (.ref h1.length) (.ref (ext1 al1 h1.length x h1.length)) := .ref (by rw [hlen]; omega)
      rw [ext1_at] at r0
      exact r0
    rcases bnd_some e2 with ⟨cc, kk, e3, rfl⟩ | ⟨v, h2, e3, e4⟩
    · exact ⟨_, _, .ref h1.length :: (vs ++ davs), .ex cc kk, h', hb, .cons rx ((r1.mono xb).append (hda _ _ _)), by rw [List.length_cons, List.length_append, hla _ _ _ _ e1]; exact hn, e3, FwX.after (E := fun cls d H' => W cls d σ H') (x1.trans xb) q⟩
    · refine ⟨_, _, .ref h1.length :: (vs ++ davs), .ok v, h2, hb, .cons rx ((r1.mono xb).append (hda _ _ _)), by rw [List.length_cons, List.length_append, hla _ _ _ _ e1]; exact hn, e3, ?_⟩
      intro al2 H2 u x2 hr2 r2
      cases v with
      | non =>
        cases e4
        cases r2
        exact ⟨rfl, q al2 H2 _ ((x1.trans xb).trans x2) hr2 (rx.mono x2)⟩
      | _ => cases e4
theorem se_make {c : Nat} {ma : AEnv → AM (List AV)} (hK : X.K = G.K) (M : Mk G.K (G.cl c) f) (F : FnG X.prog X.w X.K X.mg X.base k f fd ps (spG G np m)) (hr : Room (k + 1) X.A) (hgu : X.A.guards = some []) (hm : X.mg x = some (.ref (G.cl c))) (hb : Binds X.K fd ps ds) (hd : Vals dvs ds) (hda : ∀ n al H, RAs G n al H davs dvs) (tk : Takes X W)
    (hn : (e :: es).length + davs.length + 1 = np) (hla : ∀ en h vs h', ma en h = some (.ok vs, h') → vs.length = (e :: es).length) (ha : SA G X W (e :: es) ma) (hg : Gl X x := by rfl) (hdb : (x == ("__debug__" : Str)) = false := by decide)
    (he : starEach (e :: es) X.env = (false, eval e X.env) :: starEach es X.env := by rfl) (hpl : (backTo pos (starEach es X.env)).any (·.1) = false := by rfl) : SE G X W (.Call (.Name x p) (e :: es) [] pos) (mMake c m davs ma) := by
  obtain ⟨t, pa, sa⟩ := ha
  refine ⟨_, ?_, snd_make sa hla hn hda⟩
  have M' : Mk X.K (G.cl c) f := hK ▸ M
  constructor
  intro pins s σ H Q I h
  apply wpAny_Call_Name_kw (ld_glob I hg hm _ hdb)
  have each := pa.run pos pins s σ H _ I h
  apply PySem.W.callWith_K (h₀ := X.base) I.ok.mod.kin M'.kp _ he hpl
  apply thn each
  rintro us t ⟨vs, H1, J, same, want⟩
  exact ⟨J.kIn, run_makeG M' F hr hgu hb hd (passAt tk σ) J same want⟩

/-! ### keywords -/
def SK (G : Gx) (X : Cx) (W : WX) (kws : List Keyword) (m : AEnv → AM (List AV)) : Prop := ∃ t, PK X kws t ∧ SndA G W t m
theorem sk_nil : SK G X W [] mNil := ⟨_, pk_nil, snd_nil⟩
theorem sk_cons {kpos : Pos} {kws : List Keyword} {nm : Option Str} {ma : AE} {mr : AEnv → AM (List AV)} (ha : SE G X W e ma) (hb : SK G X W kws mr) : SK G X W (⟨nm, e, kpos⟩ :: kws) (mCons ma mr) :=
  let ⟨_, p, s⟩ := ha; let ⟨_, p', s'⟩ := hb; ⟨_, pk_cons p p', snd_cons s s'⟩
/-- f(e, .., k = v, ..): the positional values, then the keywords' ones, g puts them in the parameters' order -/
def mCallK (m : List AV → AM AV) (g : List AV → List AV → List AV) (ma mk : AEnv → AM (List AV)) : AE := fun e h => bnd (ma e h) fun vs h1 => bnd (mk e h1) fun zs h2 => m (g vs zs) h2
theorem run_fnKG {pins : List (Addr × Obj)} {σ : L2.St} {H : Hp} {s : Shared} {Q : VK} {E : XK} {n1 : Nat} {ks : List Str} {g : List Value → List Value → List Value} {gV : List V → List V → List V} {us ws : List Value} {vs zs : List V} (F : FnG X.prog X.w X.K X.mg X.base k f fd ps sp) (hr : Room k X.A) (hgu : X.A.guards = some []) (hb : KBn X.K fd ps n1 ks g gV) (hx : PassesAt (L2.CX X.prog X.w) X σ E)
    (I : Inv X pins σ H s) (r : Vals vs us) (rz : Vals zs ws) (l1 : us.length = n1) (l2 : ws.length = ks.length) (h : sp (gV vs zs) H Q E) : wpAny (model X.prog X.w) X.A (call (.ref f) us (ks.zip ws)) (EP X pins σ Q) X.xe s := by
  apply wpAny_call
  apply codeAny_mono (F.run X.A X.stack s H ⟨us, ks.zip ws⟩ (g us ws) (gV vs zs) Q E hr hgu I.env0 (hb.to s us ws I.kIn l1 l2) (hb.rel r rz) h)
  intro r t ended
  match r, ended with
  | .ok (.ret u), ended => exact I.after ended
  | .error er, ended => exact hx pins H s er t I ended
  | .ok .next, ended | .ok .brk, ended | .ok .cont, ended => exact ended.elim
theorem se_callK {n1 : Nat} {ks : List Str} {kws : List Keyword} {g : List Value → List Value → List Value} {gV : List V → List V → List V} {gA : List AV → List AV → List AV} {ma mk : AEnv → AM (List AV)} (F : FnG X.prog X.w X.K X.mg X.base k f fd ps (spG G np m)) (hr : Room k X.A) (hgu : X.A.guards = some []) (hm : X.mg x = some (.ref f)) (hk : PySem.W.keepIn X.K (.ref f) = true)
    (hb : KBn X.K fd ps n1 ks g gV) (hgA : ∀ n al H vs us zs ws, RAs G n al H vs us → RAs G n al H zs ws → RAs G n al H (gA vs zs) (gV us ws)) (hlg : ∀ vs zs : List AV, vs.length = n1 → zs.length = ks.length → (gA vs zs).length = np) (tk : Takes X W)
    (hla : ∀ en h vs h', ma en h = some (.ok vs, h') → vs.length = n1) (hlk : ∀ en h vs h', mk en h = some (.ok vs, h') → vs.length = ks.length) (ha : SA G X W (e :: es) ma) (hkw : SK G X W kws mk)
    (hall : (backToKw pos (keywordEach kws X.env)).all (·.1.isSome) = true := by rfl) (hks : (backToKw pos (keywordEach kws X.env)).filterMap (·.1) = ks := by rfl)
    (hg : Gl X x := by rfl) (hdb : (x == ("__debug__" : Str)) = false := by decide) (he : starEach (e :: es) X.env = (false, eval e X.env) :: starEach es X.env := by rfl)
    (hpl : ((backTo pos (starEach (e :: es) X.env)).any (·.1) || (backToKw pos (keywordEach kws X.env)).any (·.1.isNone)) = false := by rfl) : SE G X W (.Call (.Name x p) (e :: es) kws pos) (mCallK m gA ma mk) := by
  obtain ⟨t, pa, sa⟩ := ha
  obtain ⟨t2, pk, sk⟩ := hkw
  refine ⟨fun σ H Q => t σ H fun vs H1 => t2 σ H1 fun zs H2 => (vs.length = n1 ∧ zs.length = ks.length) ∧ spG G np m (gV vs zs) H2 Q (WE W σ), ?_, ?_⟩
  · refine ⟨fun pins s σ H Q I h => ?_⟩
    apply wpAny_Call_Name_kw (ld_glob I hg hm _ hdb)
    refine PySem.W.callWith_KW (h₀ := X.base) I.ok.mod.kin hk hall (thn (pa.run pos pins s σ H _ I h) fun us s1 ⟨vs, H1, I1, r, q⟩ => ?_) hpl he
    refine thn (pk.run pos pins s1 σ H1 _ I1 q) fun ws s2 ⟨zs, H2, I2, rz, ⟨l1, l2⟩, q2⟩ => ⟨I2.kIn, ?_⟩
    rw [hks]
    exact run_fnKG F hr hgu hb (passAt tk σ) I2 r rz (by first | (rw [← r.length]; exact l1) | (rw [List.nil_append, ← r.length]; exact l1)) (by rw [← rz.length]; exact l2) q2
  · intro σ H al en h r h' Q hR er em q
    rcases bnd_some em with ⟨c, kk, e1, rfl⟩ | ⟨vs, h1, e1, e2⟩
    · exact sa σ H al en h _ _ _ hR er e1 q
    · refine sa σ H al en h _ _ _ hR er e1 ?_
      intro al1 H1 us x1 hr1 r1
      rcases bnd_some e2 with ⟨c, kk, e3, rfl⟩ | ⟨zs, h2, e3, e4⟩
      · exact sk σ H1 al1 en h1 _ _ _ hr1 (er.mono x1) e3 (PoA.after (r := .ex c kk) x1 q)
      · refine sk σ H1 al1 en h1 _ _ _ hr1 (er.mono x1) e3 ?_
        intro al2 H2 ws x2 hr2 r2
        have l1 := hla _ _ _ _ e1
        have l2 := hlk _ _ _ _ e3
        exact ⟨⟨by rw [← r1.length]; exact l1, by rw [← r2.length]; exact l2⟩, spG_in (hlg vs zs l1 l2) (x1.trans x2) hr2 (hgA _ _ _ _ _ _ _ (r1.mono x2) r2) e4 q⟩
end
/-- how many values an argument list has -/
theorem len_nil {en : AEnv} {h h' : List AO} {vs : List AV} (e : mNil en h = some (.ok vs, h')) : vs.length = 0 := by cases e; rfl
theorem len_cons {n : Nat} {ma : AE} {mr : AEnv → AM (List AV)} (ih : ∀ en h vs h', mr en h = some (.ok vs, h') → vs.length = n) : ∀ en h vs h', mCons ma mr en h = some (.ok vs, h') → vs.length = n + 1 := fun en h vs h' e => by
  rcases bnd_some e with ⟨c, k, _, z⟩ | ⟨x, h1, _, e2⟩
  · cases z
  · rcases bnd_some e2 with ⟨c, k, _, z⟩ | ⟨xs, h2, e3, e4⟩
    · cases z
    · cases e4
      rw [List.length_cons, ih _ _ _ _ e3]
end SL
/-! SL6: methods of built-in types, dicts with keys ints and texts. -/
namespace SL
open PySem PySem.Spec PyProof.Rows L2
section
variable {G : Gx} {X : Cx} {W : WX}

/-! ### o.m(..) of a built-in type -/
def tyA (T : Ty) (h : List AO) (x : AV) : Bool := match T, x with
  | .str, .str _ => true
  | .lst, .ref i => match h[i]? with
    | some (.lst _) => true
    | _ => false
  | .tup, .tup _ => true
  | _, _ => false
def SndM (G : Gx) (r : V → List V → Hp → VK → Prop) (f : AV → List AV → List AO → Option (AV × List AO)) : Prop := ∀ H al h x xs u us v h' (Q : VK), HR G al h H → RA G h.length al H x u → RAs G h.length al H xs us → f x xs h = some (v, h') → FwV G h.length al H v h' Q → r u us H Q
def mBM (T : Ty) (f : AV → List AV → List AO → Option (AV × List AO)) (mo : AE) (ma : AEnv → AM (List AV)) : AE := fun e h => bnd (mo e h) fun x h1 => if tyA T h1 x = true then bnd (ma e h1) fun xs h2 => match f x xs h2 with
  | some (v, h3) => some (.ok v, h3)
  | none => none
  else none
theorem tyA_ok {T : Ty} {al : Nat → Addr} {h : List AO} {H : Hp} {x : AV} {u : V} (hT : T = .str ∨ T = .lst) (hr : HR G al h H) (r : RA G h.length al H x u) (e : tyA T h x = true) : tyV G.K T.nm u H := by
  rcases hT with rfl | rfl
  · cases x with
    | str y => cases r; rfl
    | _ => cases e
  · cases x with
    | ref i =>
      cases refAt r
      have e' := e
      unfold tyA at e'
      dsimp only at e'
      split at e'
      · rename_i xs hi
        obtain ⟨vs, e1, _⟩ := lstAt hr hi
        exact .inl ⟨rfl, vs, SqL.of e1⟩
      · cases e'
    | _ => cases e
theorem snd_bm {T : Ty} {tV : V → Hp → Prop} {r : V → List V → Hp → VK → Prop} {f : AV → List AV → List AO → Option (AV × List AO)} {to : TE} {t : TA} {mo : AE} {ma : AEnv → AM (List AV)} (hty : ∀ al h H x u, HR G al h H → RA G h.length al H x u → tyA T h x = true → tV u H) (hs : SndM G r f) (so : SndE G W to mo) (sa : SndA G W t ma) :
    SndE G W (fun σ H Q => to σ H fun x H1 => tV x H1 ∧ t σ H1 fun xs H2 => r x xs H2 Q) (mBM T f mo ma) := by
  intro σ H al en h rr h' Q hR er em q
  rcases bnd_some em with ⟨cc, kk, e1, rfl⟩ | ⟨v, h1, e1, e2⟩
  · exact so σ H al en h _ _ _ hR er e1 q
  · refine so σ H al en h _ _ _ hR er e1 ?_
    intro al1 H1 u x1 hr1 r1
    split at e2
    · rename_i ht
      refine ⟨hty _ _ _ _ _ hr1 r1 ht, ?_⟩
      rcases bnd_some e2 with ⟨cc, kk, e3, rfl⟩ | ⟨xs, h2, e3, e4⟩
      · exact sa σ H1 al1 en h1 _ _ _ hr1 (er.mono x1) e3 (PoA.after (r := .ex cc kk) x1 q)
      · refine sa σ H1 al1 en h1 _ _ _ hr1 (er.mono x1) e3 ?_
        intro al2 H2 us x2 hr2 r2
        split at e4
        · rename_i v3 h3 e5
          cases e4
          exact hs H2 al2 h2 v xs u us _ _ Q hr2 (r1.mono x2) r2 e5 (FwV.after (x1.trans x2) q)
        · cases e4
    · cases e2
/-- plain arguments, and few: what the text of a method call is asked -/
abbrev fewSh (X : Cx) (as : List Expr) (at_ : Pos) : Bool := ((backTo at_ (starEach as X.env)).all (fun z => !z.1) && (backToKw at_ (keywordEach [] X.env)).all (fun z => z.1.isSome)) && decide (as.length + ([] : List Keyword).length + (if ([] : List Keyword).isEmpty then 0 else 1) < 30)
theorem se_bm {T : Ty} {id : String} {name : Str} {r : V → List V → Hp → VK → Prop} {f : AV → List AV → List AO → Option (AV × List AO)} {o e : Expr} {es : List Expr} {mo : AE} {ma : AEnv → AM (List AV)} {apos cpos : Pos} (hK : X.K = G.K) (hT : T = .str ∨ T = .lst) (pa : PlainAttrs T.nm) (slot : Slot T.nm name id) (hty : typeOf (.builtin id) = pure (.type "method_descriptor")) (hm : MtR X id r) (hs : SndM G r f) (ho : SE G X W o mo) (ha : SA G X W (e :: es) ma)
    (hbase : attributeBase o name X.env (eval o X.env) = eval o X.env := by rfl) (hfew : fewSh X (e :: es) cpos = true := by rfl)
    (hline : (apos.endLine == cpos.line) = true := by rfl) (hst : starEach (e :: es) X.env = (false, eval e X.env) :: starEach es X.env := by rfl) (hplain : (backTo cpos (starEach es X.env)).any (·.1) = false := by rfl) :
    SE G X W (.Call (.Attribute o name apos) (e :: es) [] cpos) (mBM T f mo ma) := by
  obtain ⟨to, po, so⟩ := ho
  obtain ⟨t, pa', sa⟩ := ha
  exact ⟨_, pe_bm pa slot hty hm po pa' hbase hfew hline hst hplain, snd_bm (tV := fun x H => tyV X.K T.nm x H) (fun al h H x u hr rx e => hK ▸ tyA_ok hT hr rx e) hs so sa⟩
theorem se_bm0 {T : Ty} {id : String} {name : Str} {r : V → List V → Hp → VK → Prop} {f : AV → List AV → List AO → Option (AV × List AO)} {o : Expr} {mo : AE} {apos cpos : Pos} (hK : X.K = G.K) (hT : T = .str ∨ T = .lst) (pa : PlainAttrs T.nm) (slot : Slot T.nm name id) (hty : typeOf (.builtin id) = pure (.type "method_descriptor")) (hm : MtR X id r) (hs : SndM G r f) (ho : SE G X W o mo)
    (hbase : attributeBase o name X.env (eval o X.env) = eval o X.env := by rfl) (hline : (apos.endLine == cpos.line) = true := by rfl) :
    SE G X W (.Call (.Attribute o name apos) [] [] cpos) (mBM T f mo mNil) := by
  obtain ⟨to, po, so⟩ := ho
  exact ⟨_, pe_bm0 pa slot hty hm po hbase hline, snd_bm (tV := fun x H => tyV X.K T.nm x H) (t := tNil) (fun al h H x u hr rx e => hK ▸ tyA_ok hT hr rx e) hs so snd_nil⟩

/-! ### lists -/
theorem FwV.put {al : Nat → Addr} {h : List AO} {H : Hp} {i : Nat} {xs ys : List AV} {us : List V} {v : AV} {w : V} {Q : VK} (hr : HR G al h H) (hi : h[i]? = some (.lst xs)) (rs : RAs G h.length al H ys us) (rv : RA G h.length al H v w)
    (q : FwV G h.length al H v (h.set i (.lst ys)) Q) : Q w (upd H (al i) (.lst us)) := by
  have E := ext_put (u := .lst us) hr hi rfl
  refine q al _ _ (by rw [List.length_set]; exact E) (hr.put hi rfl rfl ⟨us, upd_same, rs.mono E⟩) ?_
  rw [List.length_set]
  exact rv.mono E
def fAppend : AV → List AV → List AO → Option (AV × List AO) := fun x vs h => match x, vs with
  | .ref i, [y] => match h[i]? with
    | some (.lst xs) => if xs.length < 1000000 then some (.non, h.set i (.lst (xs ++ [y]))) else none
    | _ => none
  | _, _ => none
theorem snd_append : SndM G rAppend fAppend := by
  intro H al h x xs u us v h' Q hr rx rs e q
  unfold fAppend at e
  split at e
  · rename_i i y
    split at e
    · rename_i ys hi
      split at e
      · rename_i hz
        cases e
        obtain ⟨w, rfl, rw⟩ := one_of rs
        obtain ⟨vs, e1, r1⟩ := lstAt hr hi
        have := r1.length
        exact ⟨al i, vs, w, refAt rx, rfl, e1, by rw [sizeLine_eq]; omega, FwV.put hr hi (r1.append (.cons rw .nil)) .non q⟩
      · cases e
    · cases e
  · cases e
def fPop : AV → List AV → List AO → Option (AV × List AO) := fun x vs h => match x, vs with
  | .ref i, [] => match h[i]? with
    | some (.lst xs) => match xs[xs.length - 1]? with
      | some y => some (y, h.set i (.lst xs.dropLast))
      | none => none
    | _ => none
  | _, _ => none
theorem RAs.dropLast {n : Nat} {al : Nat → Addr} {H : Hp} {xs : List AV} {us : List V} (r : RAs G n al H xs us) : RAs G n al H xs.dropLast us.dropLast := by
  rw [List.dropLast_eq_take, List.dropLast_eq_take, r.length]
  exact r.take _
theorem snd_pop : SndM G rPop fPop := by
  intro H al h x xs u us v h' Q hr rx rs e q
  unfold fPop at e
  split at e
  · rename_i i
    split at e
    · rename_i ys hi
      split at e
      · rename_i y hy
        cases e
        cases rs
        obtain ⟨vs, e1, r1⟩ := lstAt hr hi
        obtain ⟨w, hw, rw⟩ := r1.get hy
        refine ⟨al i, vs, w, refAt rx, rfl, e1, ?_, FwV.put hr hi r1.dropLast rw q⟩
        rw [← r1.length]; exact hw
      · cases e
    · cases e
  · cases e
def fPopAt : AV → List AV → List AO → Option (AV × List AO) := fun x vs h => match x, vs with
  | .ref i, [.int j] => match h[i]? with
    | some (.lst xs) => if -(2 ^ 63) ≤ j ∧ j < 2 ^ 63 then match seqIndex? j xs.length with
      | some k => match xs[k]? with
        | some y => some (y, h.set i (.lst (xs.eraseIdx k)))
        | none => none
      | none => none
      else none
    | _ => none
  | _, _ => none
theorem RAs.eraseIdx {n : Nat} {al : Nat → Addr} {H : Hp} : ∀ {xs : List AV} {us : List V} (k : Nat), RAs G n al H xs us → RAs G n al H (xs.eraseIdx k) (us.eraseIdx k)
  | _, _, _, .nil => .nil
  | _, _, 0, .cons _ rs => rs
  | _, _, k + 1, .cons r rs => .cons r (RAs.eraseIdx k rs)
theorem snd_popAt : SndM G rPopAt fPopAt := by
  intro H al h x xs u us v h' Q hr rx rs e q
  unfold fPopAt at e
  split at e
  · rename_i i j
    split at e
    · rename_i ys hi
      split at e
      · rename_i hj
        split at e
        · rename_i k hk
          split at e
          · rename_i y hy
            cases e
            obtain ⟨w, rfl, rw⟩ := one_of rs
            cases rw
            obtain ⟨vs, e1, r1⟩ := lstAt hr hi
            obtain ⟨w, hw, rw⟩ := r1.get hy
            exact ⟨al i, vs, j, k, w, refAt rx, rfl, e1, hj.1, hj.2, by rw [← r1.length]; exact hk, hw, FwV.put hr hi (r1.eraseIdx k) rw q⟩
          · cases e
        · cases e
      · cases e
    · cases e
  · cases e
def fExtend : AV → List AV → List AO → Option (AV × List AO) := fun x vs h => match x, vs with
  | .ref i, [.ref j] => match h[i]?, h[j]? with
    | some (.lst xs), some (.lst ys) => if xs.length + ys.length ≤ 1000000 then some (.non, h.set i (.lst (xs ++ ys))) else none
    | _, _ => none
  | _, _ => none
theorem snd_extend : SndM G rExtend fExtend := by
  intro H al h x xs u us v h' Q hr rx rs e q
  unfold fExtend at e
  split at e
  · rename_i i j
    split at e
    · rename_i xs' ys hi hj
      split at e
      · rename_i hz
        cases e
        obtain ⟨w, rfl, rw⟩ := one_of rs
        obtain ⟨vs, e1, r1⟩ := lstAt hr hi
        obtain ⟨us', e2, r2⟩ := lstAt hr hj
        have l1 := r1.length
        have l2 := r2.length
        exact ⟨al i, al j, vs, us', refAt rx, by rw [refAt rw], e1, e2, by rw [sizeLine_eq]; omega, FwV.put hr hi (r1.append r2) .non q⟩
      · cases e
    · cases e
  · cases e
section
variable {o e : Expr} {mo : AE} {ma : AEnv → AM (List AV)} {apos cpos : Pos}
theorem se_append (hK : X.K = G.K) (ho : SE G X W o mo) (ha : SA G X W [e] ma) (hbase : attributeBase o "append" X.env (eval o X.env) = eval o X.env := by rfl)
    (hfew : fewSh X [e] cpos = true := by rfl) (hline : (apos.endLine == cpos.line) = true := by rfl) (hst : starEach [e] X.env = (false, eval e X.env) :: starEach [] X.env := by rfl) (hplain : (backTo cpos (starEach [] X.env)).any (·.1) = false := by rfl) :
    SE G X W (.Call (.Attribute o "append" apos) [e] [] cpos) (mBM .lst fAppend mo ma) := se_bm (T := .lst) hK (.inr rfl) PySem.F.plainAttrs_list PySem.F.slot_list_append PySem.F.type_list_append mt_append snd_append ho ha hbase hfew hline hst hplain
theorem se_extend (hK : X.K = G.K) (ho : SE G X W o mo) (ha : SA G X W [e] ma) (hbase : attributeBase o "extend" X.env (eval o X.env) = eval o X.env := by rfl)
    (hfew : fewSh X [e] cpos = true := by rfl) (hline : (apos.endLine == cpos.line) = true := by rfl) (hst : starEach [e] X.env = (false, eval e X.env) :: starEach [] X.env := by rfl) (hplain : (backTo cpos (starEach [] X.env)).any (·.1) = false := by rfl) :
    SE G X W (.Call (.Attribute o "extend" apos) [e] [] cpos) (mBM .lst fExtend mo ma) := se_bm (T := .lst) hK (.inr rfl) PySem.F.plainAttrs_list PySem.F.slot_list_extend PySem.F.type_list_extend mt_extend snd_extend ho ha hbase hfew hline hst hplain
theorem se_popAt (hK : X.K = G.K) (ho : SE G X W o mo) (ha : SA G X W [e] ma) (hbase : attributeBase o "pop" X.env (eval o X.env) = eval o X.env := by rfl)
    (hfew : fewSh X [e] cpos = true := by rfl) (hline : (apos.endLine == cpos.line) = true := by rfl) (hst : starEach [e] X.env = (false, eval e X.env) :: starEach [] X.env := by rfl) (hplain : (backTo cpos (starEach [] X.env)).any (·.1) = false := by rfl) :
    SE G X W (.Call (.Attribute o "pop" apos) [e] [] cpos) (mBM .lst fPopAt mo ma) := se_bm (T := .lst) hK (.inr rfl) PySem.F.plainAttrs_list PySem.F.slot_list_pop PySem.F.type_list_pop mt_popAt snd_popAt ho ha hbase hfew hline hst hplain
theorem se_pop (hK : X.K = G.K) (ho : SE G X W o mo) (hbase : attributeBase o "pop" X.env (eval o X.env) = eval o X.env := by rfl) (hline : (apos.endLine == cpos.line) = true := by rfl) :
    SE G X W (.Call (.Attribute o "pop" apos) [] [] cpos) (mBM .lst fPop mo mNil) := se_bm0 (T := .lst) hK (.inr rfl) PySem.F.plainAttrs_list PySem.F.slot_list_pop PySem.F.type_list_pop mt_pop snd_pop ho hbase hline
end

/-! ### t.index(x), t a tuple that is known to the object -/
def tyF (K : PySem.W.Frag) (u : V) (H : Hp) : Prop := ∃ a, u = .ref a ∧ ((∃ o vs, o.dict = none ∧ H a = some (.frz o (.tup vs))) ∨ ∃ vs, KTup K a vs)
theorem pe_bmF {name : Str} {id : String} {r : V → List V → Hp → VK → Prop} {o e : Expr} {es : List Expr} {to : TE} {t : TA} {apos cpos : Pos} (pa : PlainAttrs "tuple") (slot : Slot "tuple" name id) (hty : typeOf (.builtin id) = pure (.type "method_descriptor")) (hm : MtR X id r) (ho : PE X o to) (ha : PA X (e :: es) t)
    (hbase : attributeBase o name X.env (eval o X.env) = eval o X.env := by rfl) (hfew : fewSh X (e :: es) cpos = true := by rfl)
    (one : (apos.endLine == cpos.line) = true := by rfl) (first : starEach (e :: es) X.env = (false, eval e X.env) :: starEach es X.env := by rfl) (rest : (backTo cpos (starEach es X.env)).any (·.1) = false := by rfl) :
    PE X (.Call (.Attribute o name apos) (e :: es) [] cpos) (fun σ H Q => to σ H fun x H1 => tyF X.K x H1 ∧ t σ H1 fun xs H2 => r x xs H2 Q) := by
  constructor
  intro pins t0 σ H Q inv want
  apply wpAny_Call_method_late hbase hfew one rfl
  apply thn (ho.run pins t0 σ H _ inv want)
  rintro v t1 ⟨x, H1, I1, rv, ⟨a, rfl, ty⟩, args⟩
  cases rv
  have kind : ∃ ob : Obj, t1.heap.get? a = some ob ∧ ob.cls = .type "tuple" ∧ ob.dict = none := by
    rcases ty with ⟨ob, vs, plain, e1⟩ | ⟨_, ob, _, _, hk, hc, plain, _⟩
    · have ⟨at_, _, _, _, ob2, at2, cls, _⟩ := (show ObjOk X.prog X.w H1 t1.heap a (.frz ob (.tup vs)) from I1.hok a _ e1)
      rw [at_] at at2
      cases at2
      exact ⟨ob, at_, cls, plain⟩
    · exact ⟨ob, I1.kIn a ob hk, hc, plain⟩
  have ⟨ob, at_, cls, plain⟩ := kind
  refine ⟨"tuple", id, pa, slot, hty, ⟨ob, at_, cls⟩, fun b eb => ⟨ob, by cases eb; exact at_, plain⟩, ?_⟩
  have run := ha.run cpos pins t1 σ H1 _ I1 args
  rw [first] at run ⊢
  apply Calls.callWith_builtin
  · exact rest
  · apply Calls.evalArgs_plain
    apply thn run
    rintro us t2 ⟨vs, H2, I2, rvs, q⟩
    exact hm pins t2 σ H2 (V.ref a) vs _ us Q I2 rfl rvs q
def strsA : List AV → Option (List Str)
  | [] => some []
  | .str s :: r => (strsA r).map fun ss => s :: ss
  | _ => none
theorem strsA_eq : ∀ {xs : List AV} {ss : List Str}, strsA xs = some ss → xs = ss.map AV.str
  | [], _, e => by cases e; rfl
  | .str s :: r, ss, e => by
    unfold strsA at e
    cases q : strsA r with
    | none => rw [q] at e; exact nomatch e
    | some ss' => rw [q] at e; cases e; rw [strsA_eq q]; rfl
  | .bl _ :: _, _, e => by cases e
  | .non :: _, _, e => by cases e
  | .int _ :: _, _, e => by cases e
  | .tup _ :: _, _, e => by cases e
  | .ref _ :: _, _, e => by cases e
  | .cst _ :: _, _, e => by cases e
theorem strs_ok {n : Nat} {al : Nat → Addr} {H : Hp} : ∀ {ss : List Str} {us : List V}, RAs G n al H (ss.map AV.str) us → us = ss.map V.str
  | [], _, .nil => rfl
  | s :: ss, _, .cons r rs => by cases r; rw [strs_ok rs]; rfl
/-- the first place of a text -/
def idxS (z : Str) : List Str → Option Nat
  | [] => none
  | y :: r => if y = z then some 0 else (idxS z r).map (· + 1)
theorem idxS_ok {z : Str} : ∀ {ys : List Str} {j : Nat}, idxS z ys = some j → ys[j]? = some z ∧ ∀ m, m < j → ys[m]? ≠ some z
  | [], _, e => by cases e
  | y :: r, j, e => by
    unfold idxS at e
    split at e
    · rename_i hy
      cases e
      exact ⟨by rw [hy]; rfl, fun m hm => absurd hm (Nat.not_lt_zero _)⟩
    · rename_i hy
      cases q : idxS z r with
      | none => rw [q] at e; exact nomatch e
      | some i =>
        rw [q] at e; cases e
        obtain ⟨h1, h2⟩ := idxS_ok q
        refine ⟨by simpa using h1, fun m hm => ?_⟩
        cases m with
        | zero => simpa using hy
        | succ m => simpa using h2 m (Nat.lt_of_succ_lt_succ hm)
def fTIdx : AV → List AV → List AO → Option (AV × List AO) := fun x vs h => match x, vs with
  | .tup xs, [.str z] => match strsA xs with
    | some ys => (idxS z ys).map fun j => (.int (j : Nat), h)
    | none => none
  | _, _ => none
def rTIdx (K : PySem.W.Frag) : V → List V → Hp → VK → Prop := fun x xs H Q => ∃ p, ∃ ys : List Str, ∃ z j, x = .ref p ∧ xs = [.str z] ∧ SqT K H p (ys.map V.str) ∧ ys[j]? = some z ∧ (∀ m, m < j → ys[m]? ≠ some z) ∧ Q (.int (j : Nat)) H
theorem snd_tIdx : SndM G (rTIdx G.K) fTIdx := by
  intro H al h x xs u us v h' Q hr rx rs e q
  unfold fTIdx at e
  split at e
  · rename_i ts z
    split at e
    · rename_i ys hy
      cases c : idxS z ys with
      | none => rw [c] at e; cases e
      | some j =>
        rw [c] at e; cases e
        obtain ⟨w, rfl, rw⟩ := one_of rs
        cases rw
        obtain ⟨a, vs, rfl, t, r1⟩ := tupAt rx
        have e1 := strsA_eq hy
        subst e1
        have e2 := strs_ok r1
        subst e2
        obtain ⟨h1, h2⟩ := idxS_ok c
        exact ⟨a, ys, z, j, rfl, rfl, t.sq, h1, h2, q al H _ .refl hr .int⟩
    · cases e
  · cases e
theorem se_tIndex {o e : Expr} {mo : AE} {ma : AEnv → AM (List AV)} {apos cpos : Pos} (hz : G.fz = true) (hK : X.K = G.K) (ho : SE G X W o mo) (ha : SA G X W [e] ma) (hbase : attributeBase o "index" X.env (eval o X.env) = eval o X.env := by rfl)
    (hfew : fewSh X [e] cpos = true := by rfl) (hline : (apos.endLine == cpos.line) = true := by rfl) (hst : starEach [e] X.env = (false, eval e X.env) :: starEach [] X.env := by rfl) (hplain : (backTo cpos (starEach [] X.env)).any (·.1) = false := by rfl) :
    SE G X W (.Call (.Attribute o "index" apos) [e] [] cpos) (mBM .tup fTIdx mo ma) := by
  obtain ⟨to, po, so⟩ := ho
  obtain ⟨t, pa', sa⟩ := ha
  refine ⟨_, pe_bmF PySem.F.plainAttrs_tuple PySem.F.slot_tuple_index PySem.F.type_tuple_index mt_tup_index po pa' hbase hfew hline hst hplain, snd_bm (tV := fun x H => tyF X.K x H) (fun al h H x u hr rx e => ?_) (hK ▸ snd_tIdx) so sa⟩
  cases x with
  | tup xs =>
    obtain ⟨a, vs, rfl, t, _⟩ := tupAt rx
    refine ⟨a, rfl, ?_⟩
    rcases t with ⟨z, _⟩ | ⟨_, ob, hd, e1⟩ | t
    · rw [hz] at z; cases z
    · exact .inl ⟨ob, vs, hd, e1⟩
    · exact .inr ⟨vs, hK ▸ t.2⟩
  | _ => cases e

/-! ### dicts with keys ints and texts -/
def keyA : AV → Option Key
  | .int i => some (.inl i)
  | .str s => some (.inr s)
  | _ => none
theorem keyA_ok {n : Nat} {al : Nat → Addr} {H : Hp} {x : AV} {u : V} {k : Key} (r : RA G n al H x u) (e : keyA x = some k) : u = kV k := by
  cases x with
  | int i => cases r; cases e; rfl
  | str i => cases r; cases e; rfl
  | _ => cases e
def valA {κ : Type} [DecidableEq κ] (kvs : List (κ × AV)) (k : κ) : Option AV := (kvs.find? fun kv => decide (kv.1 = k)).map (·.2)
def putA {κ : Type} [DecidableEq κ] (kvs : List (κ × AV)) (k : κ) (v : AV) : List (κ × AV) :=
  if (kvs.any fun p => decide (p.1 = k)) = true then kvs.map (fun p => if p.1 = k then (p.1, v) else p) else kvs ++ [(k, v)]
section
variable {κ : Type} [DecidableEq κ] {n : Nat} {al : Nat → Addr} {H : Hp} {k : κ} {v : AV} {u : V}
theorem valA_ok : ∀ {ps : List (κ × AV)} {qs : List (κ × V)}, RF G n al H ps qs → (valA ps k = none ∧ valV qs k = none) ∨ ∃ v u, valA ps k = some v ∧ valV qs k = some u ∧ RA G n al H v u
  | [], [], _ => .inl ⟨rfl, rfl⟩
  | (a, v) :: ps, (b, u) :: qs, h => by
    obtain ⟨e, r, t⟩ := h
    have e' : a = b := e
    subst e'
    by_cases z : a = k
    · refine .inr ⟨v, u, ?_, ?_, r⟩
      · simp [valA, List.find?_cons, z]
      · simp [valV, List.find?_cons, z]
    · rcases valA_ok t with ⟨z1, z2⟩ | ⟨v', u', z1, z2, z3⟩
      · refine .inl ⟨?_, ?_⟩
        · simpa [valA, List.find?_cons, z] using z1
        · simpa [valV, List.find?_cons, z] using z2
      · refine .inr ⟨v', u', ?_, ?_, z3⟩
        · simpa [valA, List.find?_cons, z] using z1
        · simpa [valV, List.find?_cons, z] using z2
  | [], _ :: _, h => h.elim
  | _ :: _, [], h => h.elim
theorem any_ok : ∀ {ps : List (κ × AV)} {qs : List (κ × V)}, RF G n al H ps qs → (ps.any fun kv => decide (kv.1 = k)) = qs.any fun kv => decide (kv.1 = k)
  | [], [], _ => rfl
  | (a, v) :: ps, (b, u) :: qs, h => by
    obtain ⟨e, r, t⟩ := h
    have e' : a = b := e
    subst e'
    rw [List.any_cons, List.any_cons, any_ok t]
  | [], _ :: _, h => h.elim
  | _ :: _, [], h => h.elim
theorem mapPut_ok (r : RA G n al H v u) : ∀ {ps : List (κ × AV)} {qs : List (κ × V)}, RF G n al H ps qs → RF G n al H (ps.map fun kv => if kv.1 = k then (kv.1, v) else kv) (qs.map fun kv => if kv.1 = k then (kv.1, u) else kv)
  | [], [], _ => trivial
  | (a, x) :: ps, (b, y) :: qs, h => by
    obtain ⟨e, rr, t⟩ := h
    have e' : a = b := e
    subst e'
    refine ⟨?_, ?_, mapPut_ok r t⟩
    · dsimp only; split <;> rfl
    · dsimp only; split
      · exact r
      · exact rr
  | [], _ :: _, h => h.elim
  | _ :: _, [], h => h.elim
theorem RF.append {κ : Type} {n : Nat} {al : Nat → Addr} {H : Hp} : ∀ {ps ps' : List (κ × AV)} {qs qs' : List (κ × V)}, RF G n al H ps qs → RF G n al H ps' qs' → RF G n al H (ps ++ ps') (qs ++ qs')
  | [], _, [], _, _, h => h
  | _ :: _, _, _ :: _, _, h, h' => ⟨h.1, h.2.1, RF.append h.2.2 h'⟩
  | [], _, _ :: _, _, h, _ => h.elim
  | _ :: _, _, [], _, h, _ => h.elim
theorem putA_ok {ps : List (κ × AV)} {qs : List (κ × V)} (h : RF G n al H ps qs) (r : RA G n al H v u) : RF G n al H (putA ps k v) (putK qs k u) := by
  unfold putA putK
  rw [any_ok h]
  split
  · exact mapPut_ok r h
  · exact h.append ⟨rfl, r, trivial⟩
end
def oDget : AV → AV → List AO → Option (AV × List AO) := fun x y h => match x with
  | .ref i => match h[i]?, keyA y with
    | some (.dct kvs), some k => (valA kvs k).map fun v => (v, h)
    | _, _ => none
  | _ => none
theorem dctAt {al : Nat → Addr} {h : List AO} {H : Hp} {i : Nat} {kvs : List (Key × AV)} (hr : HR G al h H) (e : h[i]? = some (.dct kvs)) : ∃ ws, H (al i) = some (.dK ws) ∧ RF G h.length al H kvs ws := hr.ob i _ e
def rDG : R2 := fun x y H Q => ∃ a v, x = .ref a ∧ DGet H a y (some v) ∧ Q v H
theorem snd_dget : SndO G rDG oDget := by
  intro H al h x y u w v h' Q hr rx ry e q
  unfold oDget at e
  split at e
  · rename_i i
    split at e
    · rename_i kvs k hi hk
      cases z : valA kvs k with
      | none => rw [z] at e; cases e
      | some v' =>
        rw [z] at e; cases e
        obtain ⟨ws, e1, rf⟩ := dctAt hr hi
        rcases valA_ok (k := k) rf with ⟨z1, _⟩ | ⟨v2, u2, z1, z2, r2⟩
        · rw [z] at z1; cases z1
        · rw [z] at z1; cases z1
          refine ⟨al i, u2, refAt rx, ?_, q al H _ .refl hr r2⟩
          rw [keyA_ok ry hk, ← z2]
          exact DGet.k e1
    · cases e
  · cases e
theorem se_dget {a b : Expr} {ma mb : AE} {pos : Pos} (hu : X.A.units + 1 < cLine) (ha : SE G X W a ma) (hb : SE G X W b mb) (hs : NoSl b := by exact fun _ _ => rfl) : SE G X W (.Subscript a b pos) (m2 oDget ma mb) := by
  obtain ⟨ta, pa, sa⟩ := ha
  obtain ⟨tb, pb, sb⟩ := hb
  exact ⟨_, pe_dget hu pa pb hs, snd_2 sa sb snd_dget⟩
end
end SL
/-! SL7: statements, targets, walks, loops, list comprehensions, dict displays. -/
namespace SL
open PySem PySem.Spec PyProof.Rows L2

def bndS {α : Type} (m : Option (Rs α × List AO)) (e : AEnv) (f : α → List AO → Option (Fl × List AO)) : Option (Fl × List AO) :=
  match m with
  | none => none
  | some (.ex c k, h) => some (.ex c k e, h)
  | some (.ok a, h) => f a h
theorem bndS_some {α : Type} {m : Option (Rs α × List AO)} {en : AEnv} {f : α → List AO → Option (Fl × List AO)} {r : Fl} {h' : List AO} (e : bndS m en f = some (r, h')) :
    (∃ c k, m = some (.ex c k, h') ∧ r = .ex c k en) ∨ ∃ a h, m = some (.ok a, h) ∧ f a h = some (r, h') := by
  unfold bndS at e
  split at e
  · cases e
  · cases e; exact .inl ⟨_, _, rfl, rfl⟩
  · exact .inr ⟨_, _, rfl, e⟩
section
variable {G : Gx} {X : Cx} {W : WX} {n : Nat} {al : Nat → Addr} {H : Hp} {σ : L2.St} {e : AEnv} {h' : List AO} {D : Ends}
theorem PoS.exE {c k : Nat} (er : ER G n al H e σ) (q : PoS G W n al H (.ex c k e) h' D) : FwX G n al H c k h' fun cls d H' => W cls d σ H' := fun al' H' x hr hk hx => q al' H' σ x hr (er.mono x) hk hx

/-! ### blocks -/
def mSeq (a b : AS) : AS := fun e h => match a e h with
  | some (.nx e1, h1) => b e1 h1
  | r => r
def mNx : AS := fun e h => some (.nx e, h)
theorem sb_nil : SB G X W [] mNx := ⟨_, pss_nil, by
  intro σ H al e h fl h' D hr er hm q
  cases hm
  exact q al H σ .refl hr er⟩
theorem snd_seq {t u : TS} {a b : AS} (ha : SndS G W t a) (hb : SndS G W u b) : SndS G W (tSeq t u) (mSeq a b) := by
  intro σ H al e h fl h' D hr er hm q
  unfold mSeq at hm
  split at hm
  · rename_i e1 h1 ea
    exact ha σ H al e h _ _ _ hr er ea fun al1 H1 σ1 x1 hr1 er1 => hb σ1 H1 al1 e1 h1 _ _ _ hr1 er1 hm (PoS.after x1 q)
  · rename_i nn
    refine ha σ H al e h fl h' _ hr er hm ?_
    cases fl with
    | nx e1 => exact absurd hm (nn e1 h')
    | rt v => exact q
    | bk e1 => exact q
    | ct e1 => exact q
    | ex c k e1 => exact q
theorem sb_cons {st : Stmt} {rest : List Stmt} {a b : AS} (ha : SS G X W st a) (hb : SB G X W rest b) : SB G X W (st :: rest) (mSeq a b) :=
  let ⟨_, p, s⟩ := ha; let ⟨_, p', s'⟩ := hb; ⟨_, pss_cons p p', snd_seq s s'⟩
theorem sb_one {st : Stmt} {a : AS} (ha : SS G X W st a) : SB G X W [st] a := let ⟨_, p, s⟩ := ha; ⟨_, pss_one p, s⟩

/-! ### small statements -/
variable {pos : Pos}
theorem ss_pass : SS G X W (.Pass pos) mNx := ⟨_, ps_pass, by
  intro σ H al e h fl h' D hr er hm q
  cases hm
  exact q al H σ .refl hr er⟩
theorem ss_doc {x j pos pos'} : SS G X W (.Expr (.Constant (.str x) j pos) pos') mNx := ⟨_, ps_doc, by
  intro σ H al e h fl h' D hr er hm q
  cases hm
  exact q al H σ .refl hr er⟩
def mBk : AS := fun e h => some (.bk e, h)
def mCt : AS := fun e h => some (.ct e, h)
theorem ss_break : SS G X W (.Break pos) mBk := ⟨_, ps_break, by
  intro σ H al e h fl h' D hr er hm q
  cases hm
  exact q al H σ .refl hr er⟩
theorem ss_continue : SS G X W (.Continue pos) mCt := ⟨_, ps_continue, by
  intro σ H al e h fl h' D hr er hm q
  cases hm
  exact q al H σ .refl hr er⟩
/-- a statement that no run reaches -/
def mNo : AS := fun _ _ => none
theorem ss_never {st : Stmt} : SS G X W st mNo := ⟨_, ps_never, by
  intro σ H al e h fl h' D hr er hm q
  cases hm⟩
theorem sb_never {st : List Stmt} : SB G X W st mNo := ⟨_, pss_never, by
  intro σ H al e h fl h' D hr er hm q
  cases hm⟩
def mDrop (m : AE) : AS := fun e h => bndS (m e h) e fun _ h1 => some (.nx e, h1)
theorem ss_expr {ex : Expr} {m : AE} (he : SE G X W ex m) (hs : swapsWith ex none pos.line X.env = pure false := by rfl) : SS G X W (.Expr ex pos) (mDrop m) := by
  obtain ⟨t, p, s⟩ := he
  refine ⟨_, ps_expr p hs, ?_⟩
  intro σ H al e h fl h' D hr er hm q
  rcases bndS_some hm with ⟨c, k, e1, rfl⟩ | ⟨v, h1, e1, e2⟩
  · exact s σ H al e h _ _ _ hr er e1 (PoS.exE er q)
  · cases e2
    exact s σ H al e h _ _ _ hr er e1 fun al1 H1 u x1 hr1 r1 => q al1 H1 σ x1 hr1 (er.mono x1)
def mRet (m : AE) : AS := fun e h => bndS (m e h) e fun v h1 => some (.rt v, h1)
theorem ss_ret {ex : Expr} {m : AE} (he : SE G X W ex m) : SS G X W (.Return (some ex) pos) (mRet m) := by
  obtain ⟨t, p, s⟩ := he
  refine ⟨_, ps_ret p, ?_⟩
  intro σ H al e h fl h' D hr er hm q
  rcases bndS_some hm with ⟨c, k, e1, rfl⟩ | ⟨v, h1, e1, e2⟩
  · exact s σ H al e h _ _ _ hr er e1 (PoS.exE er q)
  · cases e2
    exact s σ H al e h _ _ _ hr er e1 q
def mRetN : AS := fun _ h => some (.rt .non, h)
theorem ss_retN : SS G X W (.Return none pos) mRetN := ⟨_, ps_retN, by
  intro σ H al e h fl h' D hr er hm q
  cases hm
  exact q al H .non .refl hr .non⟩
def mIfS (c : AEnv → AM Bool) (a b : AS) : AS := fun e h => bndS (c e h) e fun d h1 => if d = true then a e h1 else b e h1
theorem ss_if {c : Expr} {a b : List Stmt} {mc : AEnv → AM Bool} {ma mb : AS} (hc : ST G X W c mc) (ha : SB G X W a ma) (hb : SB G X W b mb) : SS G X W (.If c a b pos) (mIfS mc ma mb) := by
  obtain ⟨tc, pc, sc⟩ := hc
  obtain ⟨ta, pa, sa⟩ := ha
  obtain ⟨tb, pb, sb⟩ := hb
  refine ⟨_, ps_if pc pa pb, ?_⟩
  intro σ H al e h fl h' D hr er hm q
  rcases bndS_some hm with ⟨c, k, e1, rfl⟩ | ⟨d, h1, e1, e2⟩
  · exact sc σ H al e h _ _ _ hr er e1 (PoS.exE er q)
  · refine sc σ H al e h _ _ _ hr er e1 ?_
    intro al1 H1 x1 hr1
    cases d with
    | true => exact sa σ H1 al1 e h1 _ _ _ hr1 (er.mono x1) e2 (PoS.after x1 q)
    | false => exact sb σ H1 al1 e h1 _ _ _ hr1 (er.mono x1) e2 (PoS.after x1 q)

/-! ### targets -/
/-- a value, or (lo) a new tuple known by its items alone -/
def RL (G : Gx) (lo : Bool) (n : Nat) (al : Nat → Addr) (H : Hp) (x : AV) (v : V) : Prop := RA G n al H x v ∨ (lo = true ∧ ∃ xs a vs, x = .tup xs ∧ v = .ref a ∧ H a = some (.tup vs) ∧ RAs G n al H xs vs)
def FwG (G : Gx) (n : Nat) (al : Nat → Addr) (H : Hp) (σ : L2.St) (ws : List Nat) (e : AEnv) (h' : List AO) (Q : L2.St → Hp → Prop) : Prop :=
  ∀ al' H' σ', Ext n al H h'.length al' H' → HR G al' h' H' → ER G h'.length al' H' e σ' → σ'.length = σ.length → (∀ i, i ∉ ws → σ'[i]? = σ[i]?) → Q σ' H'
abbrev AG := AV → AEnv → List AO → Option (AEnv × List AO)
abbrev AGs := List AV → AEnv → List AO → Option (AEnv × List AO)
def SndG (G : Gx) (lo : Bool) (ws : List Nat) (g : TG) (m : AG) : Prop := ∀ σ H al e h v u e' h' Q, HR G al h H → ER G h.length al H e σ → RL G lo h.length al H v u → m v e h = some (e', h') → FwG G h.length al H σ ws e' h' Q → g u σ H Q
def SndGs (G : Gx) (ws : List Nat) (g : TGs) (m : AGs) : Prop := ∀ σ H al e h vs us e' h' Q, HR G al h H → ER G h.length al H e σ → RAs G h.length al H vs us → m vs e h = some (e', h') → FwG G h.length al H σ ws e' h' Q → g us σ H Q
def SG (G : Gx) (X : Cx) (lo : Bool) (ws : List Nat) (tg : Expr) (m : AG) : Prop := ∃ g, PG X tg g ∧ SndG G lo ws g m
def SGs (G : Gx) (X : Cx) (ws : List Nat) (tg : List Expr) (m : AGs) : Prop := ∃ g, PGs X tg g ∧ SndGs G ws g m
def gA (i : Nat) : AG := fun v e h => some (e.set i (some v), h)
theorem snd_gA {i : Nat} : SndG G false [i] (gName i) (gA i) := by
  intro σ H al e h v u e' h' Q hr er r hm q
  cases hm
  rcases r with r | ⟨z, _⟩
  · refine q al H _ .refl hr (er.set r) (List.length_set ..) fun j hj => ?_
    rw [List.getElem?_set_ne fun z => hj (by rw [z]; exact List.mem_singleton_self _)]
  · cases z
theorem sg_name (i : Nat) {x : Str} (hN : X.N.Nodup) (hi : X.N[i]? = some x := by rfl) (hx : Loc X.env.scope x := by first | exact Or.inl rfl | exact Or.inr rfl) (hf : X.fn x = true ∨ X.env.scope.names.lookup x = some .local := by first | exact .inl rfl | exact .inr rfl | assumption) :
    SG G X false [i] (.Name x pos) (gA i) := ⟨_, pg_name hN hi hx hf, snd_gA⟩
def gsNil : AGs := fun vs e h => if vs.isEmpty = true then some (e, h) else none
def gsCons (g : AG) (gs : AGs) : AGs := fun vs e h => match vs with
  | v :: vs => match g v e h with
    | some (e1, h1) => gs vs e1 h1
    | none => none
  | [] => none
theorem sgs_nil : SGs G X [] [] gsNil := ⟨_, pgs_nil, by
  intro σ H al e h vs us e' h' Q hr er r hm q
  unfold gsNil at hm
  split at hm
  · rename_i z
    cases hm
    cases r with
    | nil => exact ⟨rfl, q al H σ .refl hr er rfl fun _ _ => rfl⟩
    | cons _ _ => cases z
  · cases hm⟩
theorem sgs_cons {t : Expr} {ts : List Expr} {ws ws' : List Nat} {g : AG} {gs : AGs} (h1 : SG G X false ws t g) (h2 : SGs G X ws' ts gs)
    (hs : (assignEach (t :: ts) X.env).map (·.2) = assign t X.env :: (assignEach ts X.env).map (·.2) := by rfl) : SGs G X (ws ++ ws') (t :: ts) (gsCons g gs) := by
  obtain ⟨_, p1, s1⟩ := h1
  obtain ⟨_, p2, s2⟩ := h2
  refine ⟨_, pgs_cons p1 p2 hs, ?_⟩
  intro σ H al e h vs us e' h' Q hr er r hm q
  cases r with
  | nil => cases hm
  | cons rv rs =>
    dsimp only [gsCons] at hm
    split at hm
    · rename_i e1 h1 ea
      refine ⟨_, _, rfl, s1 σ H al e h _ _ _ _ _ hr er (.inl rv) ea ?_⟩
      intro al1 H1 σ1 x1 hr1 er1 l1 k1
      refine s2 σ1 H1 al1 e1 h1 _ _ _ _ _ hr1 er1 (rs.mono x1) hm ?_
      intro al2 H2 σ2 x2 hr2 er2 l2 k2
      refine q al2 H2 σ2 (x1.trans x2) hr2 er2 (l2.trans l1) fun i hi => ?_
      rw [k2 i fun z => hi (List.mem_append_right _ z), k1 i fun z => hi (List.mem_append_left _ z)]
    · cases hm
def gTupA (gs : AGs) : AG := fun v e h => match v with
  | .tup xs => gs xs e h
  | _ => none
theorem sg_tup {es : List Expr} {kk : Nat} {ws : List Nat} {gs : AGs} {m : Nat} (lo : Bool) (hK : X.K = G.K) (hc : X.calm = true) (hl : ∀ vs e h r, gs vs e h = some r → vs.length = m) (h : SGs G X ws es gs)
    (hn : (assignEach es X.env).length = m := by rfl) (hst : (assignEach es X.env).findIdx? (·.1) = none := by rfl) : SG G X lo ws (.Tuple es kk pos) (gTupA gs) := by
  obtain ⟨_, p, s⟩ := h
  refine ⟨_, pg_tup hc p hn hst, ?_⟩
  intro σ H al e h v u e' h' Q hr er r hm q
  unfold gTupA at hm
  split at hm
  · rename_i xs
    have lx := hl _ _ _ _ hm
    rcases r with r | ⟨_, ys, a, vs, ez, rfl, ha, rs⟩
    · obtain ⟨a, vs, rfl, t, rs⟩ := tupAt r
      exact ⟨a, vs, rfl, hK ▸ t.sq, by rw [← rs.length]; exact lx, s σ H al e h _ _ _ _ _ hr er rs hm q⟩
    · cases ez
      exact ⟨a, vs, rfl, .inl (.inl ha), by rw [← rs.length]; exact lx, s σ H al e h _ _ _ _ _ hr er rs hm q⟩
  · cases hm
theorem gl_nil : ∀ (vs : List AV) (e : AEnv) (h : List AO) r, gsNil vs e h = some r → vs.length = 0 := fun vs e h r q => by
  unfold gsNil at q
  split at q
  · rename_i z; rw [List.isEmpty_iff.mp z]; rfl
  · cases q
theorem gl_cons {m : Nat} {g : AG} {gs : AGs} (hl : ∀ vs e h r, gs vs e h = some r → vs.length = m) : ∀ (vs : List AV) (e : AEnv) (h : List AO) r, gsCons g gs vs e h = some r → vs.length = m + 1 := fun vs e h r q => by
  cases vs with
  | nil => cases q
  | cons v vs =>
    dsimp only [gsCons] at q
    split at q
    · rw [List.length_cons, hl _ _ _ _ q]
    · cases q
/-- target = value -/
def mAsg (m : AE) (g : AG) : AS := fun e h => bndS (m e h) e fun v h1 => (g v e h1).map fun p => (Fl.nx p.1, p.2)
theorem snd_asg {t : TE} {g : TG} {m : AE} {mg : AG} {ws : List Nat} {lo : Bool} (s : SndE G W t m) (sg : SndG G lo ws g mg) : SndS G W (tAsg t g) (mAsg m mg) := by
  intro σ H al e h fl h' D hr er hm q
  rcases bndS_some hm with ⟨c, k, e1, rfl⟩ | ⟨v, h1, e1, e2⟩
  · exact s σ H al e h _ _ _ hr er e1 (PoS.exE er q)
  · cases z : mg v e h1 with
    | none => rw [z] at e2; cases e2
    | some p =>
      obtain ⟨e3, h3⟩ := p
      rw [z] at e2; cases e2
      refine s σ H al e h _ _ _ hr er e1 ?_
      intro al1 H1 u x1 hr1 r1
      exact sg σ H1 al1 e h1 v u e3 _ _ hr1 (er.mono x1) (.inl r1) z fun al2 H2 σ2 x2 hr2 er2 _ _ => q al2 H2 σ2 (x1.trans x2) hr2 er2
theorem ss_set (i : Nat) {x : Str} {ex : Expr} {m : AE} {pos' : Pos} (hN : X.N.Nodup) (he : SE G X W ex m) (hi : X.N[i]? = some x := by rfl) (hx : Loc X.env.scope x := by first | exact Or.inl rfl | exact Or.inr rfl) (hs : swapsWith ex (some (.Name x pos')) pos.line X.env = pure false := by rfl)
    (hf : X.fn x = true ∨ X.env.scope.names.lookup x = some .local := by first | exact .inl rfl | exact .inr rfl | assumption) : SS G X W (.Assign [.Name x pos'] ex pos) (mAsg m (gA i)) := by
  obtain ⟨t, p, s⟩ := he
  exact ⟨_, ps_set hN hi hx p hs hf, snd_asg s snd_gA⟩
theorem ss_asg {tg ex : Expr} {m : AE} {g : AG} {ws : List Nat} {lo : Bool} (he : SE G X W ex m) (hg : SG G X lo ws tg g) (hs : swapsWithSole [tg] ex pos.line X.env = pure false := by rfl) (hw : swappedStores [tg] ex X.env = pure none := by rfl)
    (h1 : (assignEach [tg] X.env).map (·.2) = [assign tg X.env] := by rfl) : SS G X W (.Assign [tg] ex pos) (mAsg m g) := by
  obtain ⟨t, p, s⟩ := he
  obtain ⟨tg', pg, sg⟩ := hg
  exact ⟨_, ps_asg p pg hs hw h1, snd_asg s sg⟩
def mPar (i j : Nat) (ma : AEnv → AM (List AV)) : AS := fun e h => bndS (ma e h) e fun vs h1 => match vs with
  | [v, w] => some (.nx ((e.set i (some v)).set j (some w)), h1)
  | _ => none
theorem ss_par (i j : Nat) {x y : Str} {a b : Expr} {ma : AEnv → AM (List AV)} {px py pt : Pos} {kt k2 pt2} (hc : X.calm = true) (hN : X.N.Nodup) (ha : SA G X W [a, b] ma) (hi : X.N[i]? = some x := by rfl) (hj : X.N[j]? = some y := by rfl) (hij : i ≠ j := by decide)
    (hx : X.env.scope.names.lookup x = some .local := by rfl) (hy : X.env.scope.names.lookup y = some .local := by rfl)
    (hw : swappedStores [.Tuple [.Name x px, .Name y py] kt pt] (.Tuple [a, b] k2 pt2) X.env = pure (some [x, y]) := by rfl)
    (hs : swapsWithSole [.Tuple [.Name x px, .Name y py] kt pt] (.Tuple [a, b] k2 pt2) pos.line X.env = pure false := by rfl) : SS G X W (.Assign [.Tuple [.Name x px, .Name y py] kt pt] (.Tuple [a, b] k2 pt2) pos) (mPar i j ma) := by
  obtain ⟨t, p, s⟩ := ha
  refine ⟨_, ps_par hc hN hi hj hij hx hy p hw hs, ?_⟩
  intro σ H al e h fl h' D hr er hm q
  rcases bndS_some hm with ⟨c, k, e1, rfl⟩ | ⟨vs, h1, e1, e2⟩
  · exact s σ H al e h _ _ _ hr er e1 (PoS.exE er q)
  · refine s σ H al e h _ _ _ hr er e1 ?_
    intro al1 H1 us x1 hr1 rs
    split at e2
    · cases e2
      cases rs with
      | cons r1 rs =>
        cases rs with
        | cons r2 rs =>
          cases rs
          exact ⟨_, _, rfl, q al1 H1 _ x1 hr1 (((er.mono x1).set r1).set r2)⟩
    · cases e2

/-! ### o.f = v, d[k] = v -/
def putFA (f : Str) (v : AV) : List (Str × AV) → List (Str × AV)
  | [] => [(f, v)]
  | (g, x) :: r => if g = f then (g, v) :: r else (g, x) :: putFA f v r
theorem putFA_ok {f : Str} {v : AV} {u : V} (r : RA G n al H v u) : ∀ {ps : List (Str × AV)} {qs : List (Str × V)}, RF G n al H ps qs → RF G n al H (putFA f v ps) (putF f u qs)
  | [], [], _ => ⟨rfl, r, trivial⟩
  | (a, x) :: ps, (b, y) :: qs, h => by
    obtain ⟨e, rr, t⟩ := h
    have e' : a = b := e
    subst e'
    unfold putFA putF
    by_cases z : a = f
    · rw [if_pos z, if_pos z]; exact ⟨rfl, r, t⟩
    · rw [if_neg z, if_neg z]; exact ⟨rfl, rr, putFA_ok r t⟩
  | [], _ :: _, h => h.elim
  | _ :: _, [], h => h.elim
def mFldS (c : Nat) (f : Str) (mo mv : AE) : AS := fun e h => bndS (mv e h) e fun y h1 => bndS (mo e h1) e fun x h2 => match x with
  | .ref i => match h2[i]? with
    | some (.ins d fs) => if d = c ∧ fs.length < 900 then some (.nx e, h2.set i (.ins c (putFA f y fs))) else none
    | _ => none
  | _ => none
theorem ss_fld {c : Nat} {o value : Expr} {f : Str} {pos' : Pos} {mo mv : AE} (hK : X.K = G.K) (hc : Cls G.K (G.cl c)) (hn : NoAttr G.K (G.cl c) f) (ho : SE G X W o mo) (hv : SE G X W value mv) (hs : swapsWith value (some (.Attribute o f pos')) pos.line X.env = pure false := by rfl) :
    SS G X W (.Assign [.Attribute o f pos'] value pos) (mFldS c f mo mv) := by
  obtain ⟨to, po, so⟩ := ho
  obtain ⟨tv, pv, sv⟩ := hv
  refine ⟨_, ps_fld po pv hs, ?_⟩
  intro σ H al e h fl h' D hr er hm q
  rcases bndS_some hm with ⟨cc, k, e1, rfl⟩ | ⟨y, h1, e1, e2⟩
  · exact sv σ H al e h _ _ _ hr er e1 (PoS.exE er q)
  · refine sv σ H al e h _ _ _ hr er e1 ?_
    intro al1 H1 uy x1 hr1 ry
    rcases bndS_some e2 with ⟨cc, k, e3, rfl⟩ | ⟨x, h2, e3, e4⟩
    · exact so σ H1 al1 e h1 _ _ _ hr1 (er.mono x1) e3 (PoS.exE (er.mono x1) (PoS.after x1 q))
    · refine so σ H1 al1 e h1 _ _ _ hr1 (er.mono x1) e3 ?_
      intro al2 H2 ux x2 hr2 rx
      split at e4
      · rename_i i
        split at e4
        · rename_i d fs hi
          split at e4
          · rename_i hd
            obtain ⟨rfl, hl⟩ := hd
            cases e4
            obtain ⟨dx, gs, e5, rf⟩ := insAt hr2 hi
            have E := ext_put (u := .ins (G.cl d) dx (putF f uy gs)) hr2 hi rfl
            refine ⟨al2 i, G.cl d, dx, gs, refAt rx, e5, hK ▸ hc, hK ▸ hn, by rw [← rf.length]; omega, ?_⟩
            refine q al2 _ σ ?_ (hr2.put hi rfl rfl ?_) ?_
            · rw [List.length_set]; exact (x1.trans x2).trans E
            · exact ⟨dx, _, upd_same, putFA_ok ((ry.mono x2).mono E) (RF.mono E rf)⟩
            · rw [List.length_set]; exact er.mono ((x1.trans x2).trans E)
          · cases e4
        · cases e4
      · cases e4
/-- d[k] = v, the key an int or a text -/
def mDput (mo mk mv : AE) : AS := fun e h => bndS (mv e h) e fun v h1 => bndS (mo e h1) e fun x h2 => bndS (mk e h2) e fun y h3 => match x with
  | .ref i => match h3[i]?, keyA y with
    | some (.dct kvs), some k => if kvs.length < 100000 then some (.nx e, h3.set i (.dct (putA kvs k v))) else none
    | _, _ => none
  | _ => none
theorem ss_dput {o i value : Expr} {pos' : Pos} {mo mk mv : AE} (hu : X.A.units + 1 < cLine) (ho : SE G X W o mo) (hk : SE G X W i mk) (hv : SE G X W value mv) (hs : swapsWith value (some (.Subscript o i pos')) pos.line X.env = pure false := by rfl) :
    SS G X W (.Assign [.Subscript o i pos'] value pos) (mDput mo mk mv) := by
  obtain ⟨to, po, so⟩ := ho
  obtain ⟨tk, pk, sk⟩ := hk
  obtain ⟨tv, pv, sv⟩ := hv
  refine ⟨_, ps_dput hu po pk pv hs, ?_⟩
  intro σ H al e h fl h' D hr er hm q
  rcases bndS_some hm with ⟨cc, k, e1, rfl⟩ | ⟨v, h1, e1, e2⟩
  · exact sv σ H al e h _ _ _ hr er e1 (PoS.exE er q)
  · refine sv σ H al e h _ _ _ hr er e1 ?_
    intro al1 H1 uv x1 hr1 rv
    rcases bndS_some e2 with ⟨cc, k, e3, rfl⟩ | ⟨x, h2, e3, e4⟩
    · exact so σ H1 al1 e h1 _ _ _ hr1 (er.mono x1) e3 (PoS.exE (er.mono x1) (PoS.after x1 q))
    · refine so σ H1 al1 e h1 _ _ _ hr1 (er.mono x1) e3 ?_
      intro al2 H2 ux x2 hr2 rx
      rcases bndS_some e4 with ⟨cc, k, e5, rfl⟩ | ⟨y, h3, e5, e6⟩
      · exact sk σ H2 al2 e h2 _ _ _ hr2 (er.mono (x1.trans x2)) e5 (PoS.exE (er.mono (x1.trans x2)) (PoS.after (x1.trans x2) q))
      · refine sk σ H2 al2 e h2 _ _ _ hr2 (er.mono (x1.trans x2)) e5 ?_
        intro al3 H3 uy x3 hr3 ry
        split at e6
        · rename_i j
          split at e6
          · rename_i kvs k hi hk'
            split at e6
            · rename_i hl
              cases e6
              obtain ⟨ws, e7, rf⟩ := dctAt hr3 hi
              have E := ext_put (u := .dK (putK ws k uv)) hr3 hi rfl
              have ek := keyA_ok ry hk'
              subst ek
              refine ⟨al3 j, upd H3 (al3 j) (.dK (putK ws k uv)), refAt (rx.mono x3), DPut.k e7 (by rw [← rf.length, sizeLine_eq]; omega), ?_⟩
              refine q al3 _ σ ?_ (hr3.put hi rfl rfl ?_) ?_
              · rw [List.length_set]; exact ((x1.trans x2).trans x3).trans E
              · exact ⟨_, upd_same, RF.mono E (putA_ok rf ((rv.mono x2).mono x3))⟩
              · rw [List.length_set]; exact er.mono (((x1.trans x2).trans x3).trans E)
            · cases e6
          · cases e6
        · cases e6
end
end SL
/-! ET: enumerate(..) of a tuple. -/
namespace L2
open PySem PyProof.Rows PySem.Spec PySem.Calls
section
variable {prog : Program} {w : World} {A : Around} {E : Value → Shared → Prop} {s : Shared}
abbrev enumO (it : Addr) : Obj := { cls := .type "enumerate", data := .fields #[.none, .bool false, .ref it, rawInt 0, .none, .none] }
theorem enum_make {v : Value} {o : Obj} {P : Heap → Prop} (B : Begins v o P) :
    Meets (Builtin.«enumerate.__new__» ⟨[.type "enumerate", v], []⟩) (fun _ R s => P s.heap ∧ R (.ok (.ret (.ref (s.heap.push o).objs.size))) { s with heap := (s.heap.push o).push (enumO s.heap.objs.size) }) :=
  .of_wp fun prog w A R ⟨hp, g, d, tk, os⟩ ⟨here, h⟩ => by
    have cls := sub_enumerate
    have begin_ : ∀ {A' : Around} {E : Value → Shared → Prop} {Q : Value → Shared → Prop}, Q (.ref hp.objs.size) ⟨hp.push o, g, d, tk, os⟩ → wpAny (model prog w) A' (pyIter v) Q E ⟨hp, g, d, tk, os⟩ :=
      fun q => B.iter prog w _ _ ⟨hp, g, d, tk, os⟩ _ here q
    wp_walk using begin_
    refine wpAny_stack_any fun st => ?_
    refine wpAny_pure ?_
    dsimp only
    split <;> (try split) <;> (wp_walk using begin_; exact ⟨_, rfl, h⟩)
theorem call_enum_tuple {t : Addr} {items : Array Value} {Q : Value → Shared → Prop} (ht : s.heap.IsTuple t items)
    (h : ∀ h', IsEnum h' (s.heap.objs.size + 1) s.heap.objs.size 0 .none → h'.IsTupleIter s.heap.objs.size t 0 → (∀ b o, s.heap.get? b = some o → h'.get? b = some o) → Q (.ref (s.heap.objs.size + 1)) { s with heap := h' }) :
    wpAny (model prog w) A (call (.type "enumerate") [.ref t]) Q E s := by
  let oI : Obj := { cls := .type "tuple_iterator", data := .fields #[.ref t, .int 0 0] }
  have size1 : (s.heap.push oI).objs.size = s.heap.objs.size + 1 := Heap.size_push ..
  have new : ((s.heap.push oI).push (enumO s.heap.objs.size)).get? (s.heap.objs.size + 1) = some (enumO s.heap.objs.size) := size1 ▸ Heap.get?_push_size (s.heap.push oI) rfl
  refine callType_new F.called_enumerate (by decide) (F.typeCall_enumerate_1 _) (F.newCall_enumerate_1 _) (fun obj => F.args_object_init_2 obj _) F.entry_enumerate_new (enum_make (begins_tuple t items)) ⟨ht, ?_⟩
  show _ ∧ _
  rw [size1]
  exact ⟨⟨_, new, rfl⟩, h _ new ⟨_, Heap.get?_push_of_some _ (Heap.get?_push_size _ rfl), rfl, rfl⟩ fun b o z => Heap.get?_push_of_some _ (Heap.get?_push_of_some _ z)⟩
end
/-- the items of the tuple at a with their places, in new pairs -/
def Itet (K : PySem.W.Frag) (a : Addr) : It where
  go := fun i H => ∃ xs x, SqT K H a xs ∧ xs[i]? = some x
  yld := fun i H v H' => ∃ T x, v = .ref T ∧ H T = none ∧ H' = upd H T (.tup [.int (i : Nat), x]) ∧ ∀ xs, SqT K H a xs → xs[i]? = some x
  stop := fun i H => ∃ xs, SqT K H a xs ∧ xs.length ≤ i
theorem turn_enumT {P : Program} {w : World} {K : PySem.W.Frag} {elts : List Expr} {kk : Nat} {tpos : Pos} (a e it : Addr) :
    Turn P w K (.Tuple elts kk tpos) (Itet K a) [e, it] e (fun i h => (∃ old, IsEnum h e it ((i : Nat) : Int) old) ∧ h.IsTupleIter it a i ∧ e ≠ it) := by
  have two : ∀ {b : Addr}, b ∈ [e, it] → b = e ∨ b = it := fun m => by simpa using m
  refine ⟨List.mem_cons_self .., ?_, ?_, ?_, ?_, ?_⟩
  · rintro i h ⟨⟨old, he⟩, ⟨o, ho, _, hd⟩, _⟩ b m
    rcases two m with rfl | rfl
    · exact ⟨_, he, fun v z => nomatch z⟩
    · exact ⟨o, ho, fun v z => by rw [hd] at z; cases z⟩
  · rintro i h h' ⟨⟨old, he⟩, hi, ne⟩ k
    exact ⟨⟨old, k e (by simp) _ he⟩, hi.at fun o z => k it (by simp) o z, ne⟩
  · rintro X rfl rfl rfl hc i pins s σ H E I fp ⟨⟨old, he⟩, hit, ne⟩ ⟨xs, x, sq, hx⟩
    obtain ⟨its, rv, at_, few⟩ := I.tuple sq
    have ⟨u, hu, ru⟩ := rv.get hx
    have inTup : s.heap.IsTuple a its.toArray := at_
    have lt : i < its.toArray.size := by
      rw [List.size_toArray]
      exact (List.getElem?_eq_some_iff.mp hu).1
    have below : ∀ b ∈ [e, it], b < s.heap.objs.size := fun b m => by
      rcases two m with rfl | rfl
      · exact Heap.lt_size he
      · obtain ⟨o, ho, _⟩ := hit
        exact Heap.lt_size ho
    have apart : a ≠ it := by
      rintro rfl
      obtain ⟨o1, h1, c1, _⟩ := inTup
      obtain ⟨o2, h2, c2, _⟩ := hit
      rw [h1] at h2
      cases h2
      rw [c1] at c2
      exact absurd (Value.type.inj c2) (by decide)
    have apart2 : e ∉ [it, a] := by
      intro m
      rcases (by simpa using m : e = it ∨ e = a) with z | rfl
      · exact ne z
      · obtain ⟨o1, h1, c1, _⟩ := inTup
        have he' : s.heap.get? e = some _ := he
        rw [h1] at he'
        cases he'
        exact absurd (Value.type.inj c1) (by decide)
    refine wpAny_pyNext_enum_itemD (Draws.tuple (A := X.A.in1) (show X.A.in1.handled = none from I.ok.hd hc) it a apart its.toArray) he ⟨hit, inTup⟩ lt ne apart2 ?_
    intro y h1 tk hy out st1 pair size1 keep
    have is : y = u := by
      have z : its.toArray[i]? = some u := by simpa using hu
      exact Option.some.inj (hy.symm.trans z)
    subst is
    refine ⟨_, rfl, wpAny_letOwnedTupleGo_enum (s := { s with heap := h1, toks := tk + 1 }) out fun h2 he2 sb => ?_⟩
    have e_old := below e (by simp)
    have pair2 : h2.get? s.heap.objs.size = some { cls := .type "tuple", data := .seq #[.int i tk, y] } := (sb.2 _ (Nat.ne_of_gt e_old)).trans pair
    have new : ObjOk X.prog X.w (upd H s.heap.objs.size (.tup [.int (i : Nat), x])) h2 s.heap.objs.size (.tup [.int (i : Nat), x]) :=
      ⟨Nat.le_of_ble_eq_true rfl, [.int i tk, y], .cons ⟨_, rfl⟩ (.cons ru .nil), ⟨_, pair2, rfl, _, rfl⟩⟩
    have same : ∀ b o, b ∉ [e, it] → s.heap.get? b = some o → h2.get? b = some o := fun b o m z => by
      have ne1 : b ≠ e := fun q => m (by simp [q])
      have ne2 : b ≠ it := fun q => m (by simp [q])
      exact (sb.2 b ne1).trans (keep b o ne1 ne2 z)
    have J := I.turnedNew (t' := tk + 1) (ch := [e, it]) same fp (Nat.le_refl _) new
    refine ⟨.ref s.heap.objs.size, _, J, rfl, ⟨_, x, rfl, I.hok.fresh (Nat.le_refl _), rfl, fun ys hy => by rw [I.tuple_inj hy sq]; exact hx⟩, ⟨⟨y, ?_⟩, st1.1.at fun o q => (sb.2 it (Ne.symm ne)).trans q, ne⟩, fun b m => ?_⟩
    · have up : ((i + 1 : Nat) : Int) = (i : Int) + 1 := by omega
      rw [up]; exact he2
    · rw [upd_ne (Nat.ne_of_lt (below b m))]
      exact (fp b m).1
  · rintro X rfl rfl rfl hc i pins s σ H E I fp ⟨⟨old, he⟩, hit, ne⟩ ⟨xs, sq, hx⟩
    obtain ⟨its, rv, at_, few⟩ := I.tuple sq
    have inTup : s.heap.IsTuple a its.toArray := at_
    have apart : a ≠ it := by
      rintro rfl
      obtain ⟨o1, h1, c1, _⟩ := inTup
      obtain ⟨o2, h2, c2, _⟩ := hit
      rw [h1] at h2
      cases h2
      rw [c1] at c2
      exact absurd (Value.type.inj c2) (by decide)
    have all : its.toArray.size ≤ i := by
      rw [List.size_toArray, ← rv.length]
      exact hx
    have ended : wpAny (model X.prog X.w) X.A (pyNext (.ref e)) (fun r s1 => r = none ∧ ∃ h', Heap.ExtBut it s.heap h' ∧ s1 = { s with heap := h' }) E s := by
      have typ : s.TypeIs (.ref e) "enumerate" := ⟨_, he, rfl⟩
      unfold pyNext
      refine wpAny_bind (wpAny_attempt (wpAny_callSpecial?_slot (name := Str.ofString "__next__") typ F.slot_enumerate_next (wpAny_call_entry F.slot_enumerate_next typ F.entry_enumerate_next ?_ (F.args_enumerate_next_1 _))))
      show wpAny _ X.A.in1 (field (.ref e) 2 >>= _) _ _ s
      refine wpAny_bind (wpAny_field he rfl (x := .ref it) rfl (wpAny_bind (wpAny_nextOf_tuple_end (show X.A.in1.handled = none from I.ok.hd hc) hit inTup (by rw [Array.getElem?_eq_none all]) fun h' x ex stop => ?_)))
      obtain ⟨o, ho, cl⟩ := stop
      exact wpAny_bind (wpAny_isInstance (T := "StopIteration") (b := true) ⟨o, ho, cl⟩ isSubtype_stop (wpAny_pure ⟨rfl, h', ex, rfl⟩))
    refine wpAny_mono ended (fun r s1 ⟨rn, h', ex, es⟩ => ?_) fun _ _ z => z
    subst es
    obtain ⟨f0, f1, f2, f3, f4, f5⟩ := fp it (by simp)
    exact ⟨rn, I.turned (t' := s.toks) (fun b o ne z => ex b o ne z) f0 f1 f3 f4 f5⟩
  · rintro A i s Q E ⟨⟨_, he⟩, _⟩ h
    exact wpAny_pyIter_enum he h
/-- enumerate(e): a list's items as they stand at each turn, or a tuple's -/
def iEnum2 (K : PySem.W.Frag) (ta : TA) : TI := fun σ H R => ta σ H fun vs H1 => ∃ a, vs = [.ref a] ∧ ((∃ xs, SqL K H1 a xs ∧ R (Ite K a) H1) ∨ ∃ xs, SqT K H1 a xs ∧ R (Itet K a) H1)
theorem pi_enum2 {X : Cx} {e : Expr} {ta : TA} {p pos tpos : Pos} {elts : List Expr} {kk : Nat} (hg : Gl X "enumerate") (hm : X.mg "enumerate" = none) (ha : PA X [e] ta) (hs : starEach [e] X.env = [(false, eval e X.env)] := by rfl) :
    PI X (.Tuple elts kk tpos) (.Call (.Name "enumerate" p) [e] [] pos) (iEnum2 X.K ta) := by
  constructor
  intro pins s σ H R I h
  have arg := ha.run pos pins s σ H _ I h
  refine Call_ (ld_blt I hg hm boot_enumerate (PyProof.Rows.callWith_type1 (thn arg ?_) hs rfl))
  rintro us s1 ⟨vs, H1, J, rv, a, rfl, q⟩
  match us, rv with
  | [u], .cons ru .nil =>
    have is : u = .ref a := ru
    subst is
    have old : ∀ b ∈ [s1.heap.objs.size + 1, s1.heap.objs.size], s1.heap.objs.size ≤ b := fun b m => by
      rcases (by simpa using m : b = s1.heap.objs.size + 1 ∨ b = s1.heap.objs.size) with rfl | rfl
      · exact Nat.le_succ _
      · exact Nat.le_refl _
    have fp : ∀ b ∈ [s1.heap.objs.size + 1, s1.heap.objs.size], FpOk X pins H1 b := fun b m => J.fpOk (old b m) (J.hok.fresh (old b m))
    rcases q with ⟨xs, sq, q⟩ | ⟨xs, sq, q⟩
    · obtain ⟨its, rv, at_, few⟩ := J.list sq
      refine call_enumerate_list at_.isList fun h' he hit hsz hk => wpAny_pyIter_enum he ?_
      exact ⟨_, _, _, _, H1, rfl, J.kept (t' := s1.toks) hk, turn_enum a (s1.heap.objs.size + 1) s1.heap.objs.size, ⟨⟨.none, he⟩, hit, Nat.succ_ne_self _⟩, fp, q⟩
    · obtain ⟨its, rv, at_, few⟩ := J.tuple sq
      refine call_enum_tuple (items := its.toArray) at_ fun h' he hit hk => wpAny_pyIter_enum he ?_
      exact ⟨_, _, _, _, H1, rfl, J.kept (t' := s1.toks) hk, turn_enumT a (s1.heap.objs.size + 1) s1.heap.objs.size, ⟨⟨.none, he⟩, hit, Nat.succ_ne_self _⟩, fp, q⟩
end L2
/-! SL8: walks, for, while, list comprehensions. -/
namespace SL
open PySem PySem.Spec PyProof.Rows L2

inductive Src where
  | tup (xs : List AV) | lst (k : Nat)
def Src.items (h : List AO) : Src → Option (List AV)
  | .tup xs => some xs
  | .lst k => match h[k]? with
    | some (.lst xs) => some xs
    | some (.rol xs) => some xs
    | _ => none
def toSrc (h : List AO) : AV → Option Src
  | .tup xs => some (.tup xs)
  | .ref k => match Src.items h (.lst k) with
    | some _ => some (.lst k)
    | none => none
  | _ => none
/-- what a loop walks -/
inductive AI where
  | src (s : Src) | rng (lo : Int) (n : Nat) | str (x : Str) | enm (s : Src) | zip (a b : Src) | dks (k : Nat)
def kA : Key → AV
  | .inl i => .int i
  | .inr z => .str z
def pairUp : Option AV → Option AV → Option AV
  | some x, some y => some (.tup [x, y])
  | _, _ => none
/-- turn i: stuck, at the end, or an item -/
def AI.at : AI → Nat → List AO → Option (Option AV)
  | .src s, i, h => (s.items h).map fun xs => xs[i]?
  | .rng lo n, i, _ => some (if i < n then some (.int (lo + (i : Nat))) else none)
  | .str x, i, _ => some ((x.cps[i]?).map fun c => .str ⟨#[c]⟩)
  | .enm s, i, h => (s.items h).map fun xs => (xs[i]?).map fun x => .tup [.int (i : Nat), x]
  | .zip a b, i, h => match a.items h, b.items h with
    | some xs, some ys => some (pairUp xs[i]? ys[i]?)
    | _, _ => none
  | .dks k, i, h => match h[k]? with
    | some (.ldk kvs) => some ((kvs[i]?).map fun p => kA p.1)
    | some (.ldt kvs) => some ((kvs[i]?).map fun p => .tup (p.1.map kA))
    | _ => none
/-- both of a kind -/
def Src.two : Src → Src → Bool
  | .tup _, .tup _ => true
  | .lst _, .lst _ => true
  | _, _ => false

section
variable {G : Gx} {X : Cx} {W : WX} {n : Nat} {al : Nat → Addr} {H : Hp} {σ : L2.St} {e : AEnv} {h' : List AO} {D : Ends} {pos : Pos}
def SrcR (G : Gx) (n : Nat) (al : Nat → Addr) (H : Hp) (a : Addr) : Src → Prop
  | .tup xs => ∃ vs, TupAt G H a vs ∧ RAs G n al H xs vs
  | .lst k => a = al k ∧ k < n
def Src.Sq (K : PySem.W.Frag) (H : Hp) (a : Addr) (vs : List V) : Src → Prop
  | .tup _ => SqT K H a vs
  | .lst _ => SqL K H a vs
theorem SrcR.mono {n' : Nat} {al' : Nat → Addr} {H' : Hp} {a : Addr} {s : Src} (x : Ext n al H n' al' H') (r : SrcR G n al H a s) : SrcR G n' al' H' a s := by
  cases s with
  | tup xs => obtain ⟨vs, t, rs⟩ := r; exact ⟨vs, t.mono x, rs.mono x⟩
  | lst k => exact ⟨r.1.trans (x.al k r.2).symm, Nat.lt_of_lt_of_le r.2 x.le⟩
theorem src_items {h : List AO} {a : Addr} {s : Src} {xs : List AV} (hr : HR G al h H) (r : SrcR G h.length al H a s) (e : s.items h = some xs) : ∃ vs, s.Sq G.K H a vs ∧ RAs G h.length al H xs vs := by
  cases s with
  | tup ys =>
    cases e
    obtain ⟨vs, t, rs⟩ := r
    exact ⟨vs, t.sq, rs⟩
  | lst k =>
    obtain ⟨rfl, _⟩ := r
    dsimp only [Src.items] at e
    split at e
    · rename_i q
      cases e
      obtain ⟨vs, h1, rs⟩ := lstAt hr q
      exact ⟨vs, .inl (.inl h1), rs⟩
    · rename_i q
      cases e
      obtain ⟨vs, h1, rs⟩ := hr.ob k _ q
      exact ⟨vs, RoL.sq h1, rs⟩
    · cases e
theorem toSrc_ok {h : List AO} {x : AV} {u : V} {s : Src} (r : RA G h.length al H x u) (e : toSrc h x = some s) : (∃ a, u = .ref a ∧ SrcR G h.length al H a s) ∧ ∃ xs, s.items h = some xs := by
  cases x with
  | tup xs =>
    cases e
    obtain ⟨a, vs, rfl, t, rs⟩ := tupAt r
    exact ⟨⟨a, rfl, vs, t, rs⟩, xs, rfl⟩
  | ref k =>
    unfold toSrc at e
    dsimp only at e
    split at e
    · rename_i xs q
      cases e
      cases r with
      | ref hk => exact ⟨⟨_, rfl, rfl, hk⟩, xs, q⟩
    · cases e
  | _ => cases e

/-! ### an iterator and its picture -/
structure ItR (G : Gx) (lo : Bool) (n : Nat) (al : Nat → Addr) (H : Hp) (I : AI) (J : It) : Prop where
  ok : ∀ al' h' H', Ext n al H h'.length al' H' → HR G al' h' H' → ∀ i, (I.at i h' = some none → J.stop i H') ∧ ∀ v, I.at i h' = some (some v) → J.go i H' ∧ ∀ x H2, J.yld i H' x H2 → Ext h'.length al' H' h'.length al' H2 ∧ HR G al' h' H2 ∧ RL G lo h'.length al' H2 v x
def Src.it (K : PySem.W.Frag) (a : Addr) : Src → It
  | .tup _ => Itt K a
  | .lst _ => Itl K a
theorem itr_src {a : Addr} {s : Src} {lo : Bool} (r : SrcR G n al H a s) : ItR G lo n al H (.src s) (s.it G.K a) := by
  refine ⟨fun al' h' H' x hr i => ?_⟩
  have r' := SrcR.mono x r
  refine ⟨fun q => ?_, fun v q => ?_⟩
  · cases z : s.items h' with
    | none => simp [AI.at, z] at q
    | some xs =>
      obtain ⟨vs, sq, rs⟩ := src_items hr r' z
      have hl : vs.length ≤ i := by
        rw [← rs.length]
        simpa [AI.at, z] using q
      cases s with
      | tup ys => exact ⟨vs, sq, hl⟩
      | lst k => exact ⟨vs, sq, hl⟩
  · cases z : s.items h' with
    | none => simp [AI.at, z] at q
    | some xs =>
      obtain ⟨vs, sq, rs⟩ := src_items hr r' z
      have hx : xs[i]? = some v := by simpa [AI.at, z] using q
      obtain ⟨u, hu, ru⟩ := rs.get hx
      cases s with
      | tup ys =>
        refine ⟨⟨vs, u, sq, hu⟩, fun y H2 yl => ?_⟩
        obtain ⟨rfl, y2⟩ := yl
        have := y2 vs sq
        rw [hu] at this
        cases this
        exact ⟨.refl, hr, .inl ru⟩
      | lst k =>
        refine ⟨⟨vs, u, sq, hu⟩, fun y H2 yl => ?_⟩
        obtain ⟨rfl, y2⟩ := yl
        have := y2 vs sq
        rw [hu] at this
        cases this
        exact ⟨.refl, hr, .inl ru⟩
theorem itr_rng {l : Int} {m : Nat} {lo : Bool} : ItR G lo n al H (.rng l m) (Itr l m) := by
  refine ⟨fun al' h' H' x hr i => ⟨fun q => ?_, fun v q => ?_⟩⟩
  · have q' : (if i < m then some (AV.int (l + (i : Nat))) else none) = none := Option.some.inj q
    split at q'
    · cases q'
    · exact Nat.le_of_not_lt (by assumption)
  · have q' : (if i < m then some (AV.int (l + (i : Nat))) else none) = some v := Option.some.inj q
    split at q'
    · cases q'
      refine ⟨by assumption, fun y H2 yl => ?_⟩
      obtain ⟨rfl, rfl⟩ := yl
      exact ⟨.refl, hr, .inl .int⟩
    · cases q'
theorem itr_str {z : Str} {lo : Bool} : ItR G lo n al H (.str z) (Its z) := by
  refine ⟨fun al' h' H' x hr i => ⟨fun q => ?_, fun v q => ?_⟩⟩
  · have q' : (z.cps[i]?).map (fun c => AV.str ⟨#[c]⟩) = none := Option.some.inj q
    rw [Option.map_eq_none_iff] at q'
    exact Array.getElem?_eq_none_iff.mp q'
  · have q' : (z.cps[i]?).map (fun c => AV.str ⟨#[c]⟩) = some v := Option.some.inj q
    cases y : z.cps[i]? with
    | none => rw [y] at q'; cases q'
    | some c =>
      rw [y] at q'
      cases q'
      refine ⟨?_, fun y2 H2 yl => ?_⟩
      · by_cases hlt : i < z.cps.size
        · exact hlt
        · rw [Array.getElem?_eq_none (Nat.le_of_not_lt hlt)] at y; cases y
      · obtain ⟨rfl, c', hc, rfl⟩ := yl
        rw [y] at hc
        cases hc
        exact ⟨.refl, hr, .inl .str⟩
theorem loose {a : Addr} {xs : List AV} {vs : List V} {h : List AO} (hr : HR G al h H) (ha : H a = none) (rs : RAs G h.length al H xs vs) : Ext h.length al H h.length al (upd H a (.tup vs)) ∧ HR G al h (upd H a (.tup vs)) ∧ RL G true h.length al (upd H a (.tup vs)) (.tup xs) (.ref a) :=
  ⟨ext_beside ha, hr.beside ha, .inr ⟨rfl, xs, a, vs, rfl, rfl, upd_same, rs.mono (ext_beside ha)⟩⟩
def Src.et (K : PySem.W.Frag) (a : Addr) : Src → It
  | .tup _ => Itet K a
  | .lst _ => Ite K a
theorem itr_enm {a : Addr} {s : Src} (r : SrcR G n al H a s) : ItR G true n al H (.enm s) (s.et G.K a) := by
  refine ⟨fun al' h' H' x hr i => ?_⟩
  have r' := SrcR.mono x r
  refine ⟨fun q => ?_, fun v q => ?_⟩
  · cases z : s.items h' with
    | none => simp [AI.at, z] at q
    | some xs =>
      obtain ⟨vs, sq, rs⟩ := src_items hr r' z
      have l : vs.length ≤ i := by
        rw [← rs.length]
        simpa [AI.at, z] using q
      cases s with
      | tup ys => exact ⟨vs, sq, l⟩
      | lst k => exact ⟨vs, sq, l⟩
  · cases z : s.items h' with
    | none => simp [AI.at, z] at q
    | some xs =>
      obtain ⟨vs, sq, rs⟩ := src_items hr r' z
      have hx : (xs[i]?).map (fun y => AV.tup [.int (i : Nat), y]) = some v := by simpa [AI.at, z] using q
      cases hy : xs[i]? with
      | none => rw [hy] at hx; cases hx
      | some y =>
        rw [hy] at hx
        cases hx
        obtain ⟨u, hu, ru⟩ := rs.get hy
        have done_ : ∀ {T : Addr} {w : V} {H2 : Hp}, H' T = none → H2 = upd H' T (.tup [.int (i : Nat), w]) → (vs[i]? = some w) → Ext h'.length al' H' h'.length al' H2 ∧ HR G al' h' H2 ∧ RL G true h'.length al' H2 (.tup [.int (i : Nat), y]) (.ref T) := by
          rintro T w H2 hT rfl y2
          rw [hu] at y2
          cases y2
          exact loose hr hT (.cons .int (.cons ru .nil))
        cases s with
        | tup ys => exact ⟨⟨vs, u, sq, hu⟩, fun y H2 ⟨T, w, e1, hT, e2, y2⟩ => e1 ▸ done_ hT e2 (y2 vs sq)⟩
        | lst k => exact ⟨⟨vs, u, sq, hu⟩, fun y H2 ⟨T, w, e1, hT, e2, y2⟩ => e1 ▸ done_ hT e2 (y2 vs sq)⟩
theorem itr_zip {a b : Addr} {s t : Src} (ra : SrcR G n al H a s) (rb : SrcR G n al H b t) (h2 : s.two t = true) : ItR G true n al H (.zip s t) (match s with | .tup _ => RZ.ItzT G.K a b | .lst _ => Itz G.K a b) := by
  refine ⟨fun al' h' H' x hr i => ?_⟩
  have ra' := SrcR.mono x ra
  have rb' := SrcR.mono x rb
  refine ⟨fun q => ?_, fun v q => ?_⟩
  · cases z : s.items h' with
    | none => simp [AI.at, z] at q
    | some xs =>
      cases z' : t.items h' with
      | none => simp [AI.at, z, z'] at q
      | some ys =>
        obtain ⟨vs, sq, rs⟩ := src_items hr ra' z
        obtain ⟨vs', sq', rs'⟩ := src_items hr rb' z'
        have hp : pairUp xs[i]? ys[i]? = none := by simpa [AI.at, z, z'] using q
        have hl : vs.length ≤ i ∨ vs'.length ≤ i := by
          rw [← rs.length, ← rs'.length]
          cases hx : xs[i]? with
          | none => exact .inl (List.getElem?_eq_none_iff.mp hx)
          | some x => cases hy : ys[i]? with
            | none => exact .inr (List.getElem?_eq_none_iff.mp hy)
            | some y => rw [hx, hy] at hp; cases hp
        cases s with
        | tup _ => cases t with
          | tup _ => exact ⟨vs, vs', sq, sq', hl⟩
          | lst _ => cases h2
        | lst _ => cases t with
          | tup _ => cases h2
          | lst _ => exact ⟨vs, vs', sq, sq', hl⟩
  · cases z : s.items h' with
    | none => simp [AI.at, z] at q
    | some xs =>
      cases z' : t.items h' with
      | none => simp [AI.at, z, z'] at q
      | some ys =>
        obtain ⟨vs, sq, rs⟩ := src_items hr ra' z
        obtain ⟨vs', sq', rs'⟩ := src_items hr rb' z'
        have hp : pairUp xs[i]? ys[i]? = some v := by simpa [AI.at, z, z'] using q
        cases hx : xs[i]? with
        | none => rw [hx] at hp; cases hp
        | some x0 => cases hy : ys[i]? with
          | none => rw [hx, hy] at hp; cases hp
          | some y0 =>
            rw [hx, hy] at hp; cases hp
            obtain ⟨u, hu, ru⟩ := rs.get hx
            obtain ⟨u', hu', ru'⟩ := rs'.get hy
            cases s with
            | tup _ => cases t with
              | tup _ =>
                refine ⟨⟨vs, vs', u, u', sq, sq', hu, hu'⟩, fun y H2 yl => ?_⟩
                obtain ⟨T, w, w', rfl, hT, rfl, y2, y3⟩ := yl
                have q1 := y2 vs sq
                have q2 := y3 vs' sq'
                rw [hu] at q1; rw [hu'] at q2
                cases q1; cases q2
                exact loose hr hT (.cons ru (.cons ru' .nil))
              | lst _ => cases h2
            | lst _ => cases t with
              | tup _ => cases h2
              | lst _ =>
                refine ⟨⟨vs, vs', u, u', sq, sq', hu, hu'⟩, fun y H2 yl => ?_⟩
                obtain ⟨T, w, w', rfl, hT, rfl, y2, y3⟩ := yl
                have q1 := y2 vs sq
                have q2 := y3 vs' sq'
                rw [hu] at q1; rw [hu'] at q2
                cases q1; cases q2
                exact loose hr hT (.cons ru (.cons ru' .nil))

def PoI (G : Gx) (W : WX) (lo : Bool) (n : Nat) (al : Nat → Addr) (H : Hp) (σ : L2.St) (r : Rs AI) (h' : List AO) (R : It → Hp → Prop) : Prop := match r with
  | .ok I => ∀ al' H' J, Ext n al H h'.length al' H' → HR G al' h' H' → ItR G lo h'.length al' H' I J → R J H'
  | .ex c k => FwX G n al H c k h' fun cls d H' => W cls d σ H'
def SndI (G : Gx) (W : WX) (lo : Bool) (wi : TI) (m : AEnv → AM AI) : Prop := ∀ σ H al e h r h' R, HR G al h H → ER G h.length al H e σ → m e h = some (r, h') → PoI G W lo h.length al H σ r h' R → wi σ H R
def SI (G : Gx) (X : Cx) (W : WX) (lo : Bool) (tg iter : Expr) (m : AEnv → AM AI) : Prop := ∃ wi, PI X tg iter wi ∧ SndI G W lo wi m

/-! ### the kinds of walk -/
def iSeq (K : PySem.W.Frag) (tl : TE) : TI := fun σ H R => tl σ H fun x H1 => (∃ a, x = .ref a ∧ (((∃ xs, SqL K H1 a xs) ∧ R (Itl K a) H1) ∨ ((∃ xs, SqT K H1 a xs) ∧ R (Itt K a) H1))) ∨ ∃ z, x = .str z ∧ R (Its z) H1
/-- a new iterator is nobody's -/
theorem it_room {pins : List (Addr × Obj)} {σ : L2.St} {H : Hp} {s : Shared} (I : Inv X pins σ H s) (ob : Obj) : Inv X pins σ H { s with heap := s.heap.push ob } ∧ ∀ c ∈ [s.heap.objs.size], FpOk X pins H c := by
  constructor
  · exact I.kept (t' := s.toks) fun _ _ => Heap.get?_push_of_some _
  · intro c hc
    rw [List.mem_singleton.mp hc]
    have none_ := I.hok.fresh (Nat.le_refl s.heap.objs.size)
    exact I.fpOk (Nat.le_refl _) none_
theorem pi_seq {l tg : Expr} {tl : TE} (hl : PE X l tl) : PI X tg l (iSeq X.K tl) := by
  constructor
  intro pins s σ H R h0 h
  apply thn (hl.run pins s σ H _ h0 h)
  rintro v s1 ⟨x, H1, I1, r1, q1⟩
  have room := it_room I1
  rcases q1 with ⟨a, e, ⟨⟨xs, hq⟩, q⟩ | ⟨⟨xs, hq⟩, q⟩⟩ | ⟨z, ez, q⟩
  · cases e
    cases r1
    have ⟨its, _, pl, _⟩ := I1.list hq
    exact wpAny_pyIter_list pl.isList ⟨_, _, _, _, H1, rfl, (room _).1, turn_list a _, ⟨_, Heap.get?_push_size _ rfl, rfl, rfl⟩, (room default).2, q⟩
  · cases e
    cases r1
    have ⟨its, _, pt, _⟩ := I1.tuple hq
    exact wpAny_pyIter_tuple (show s1.heap.IsTuple a its.toArray from pt) ⟨_, _, _, _, H1, rfl, (room _).1, turn_tuple a _, ⟨_, Heap.get?_push_size _ rfl, rfl, rfl⟩, (room default).2, q⟩
  · subst ez
    obtain ⟨t, rfl⟩ := r1
    cases ha : z.cps.all (· < 128)
    · exact wpAny_pyIter_wide ha (pi_one (tk := s1.toks) I1 _ (turn_str _ z t "str_iterator" (.inr rfl)) ⟨_, Heap.get?_push_size _ rfl, rfl, rfl⟩ q)
    · exact wpAny_pyIter_ascii ha (pi_one (tk := s1.toks) I1 _ (turn_str _ z t "str_ascii_iterator" (.inl rfl)) ⟨_, Heap.get?_push_size _ rfl, rfl, rfl⟩ q)
def iSq (m : AE) : AEnv → AM AI := fun e h => bnd (m e h) fun x h1 => match x with
  | .str z => some (.ok (.str z), h1)
  | x => (toSrc h1 x).map fun s => (.ok (.src s), h1)
theorem si_seq {tg l : Expr} {m : AE} {lo : Bool} (hK : X.K = G.K) (hl : SE G X W l m) : SI G X W lo tg l (iSq m) := by
  obtain ⟨t, p, s⟩ := hl
  refine ⟨_, pi_seq p, ?_⟩
  intro σ H al e h r h' R hr er hm q
  rcases bnd_some hm with ⟨c, k, e1, rfl⟩ | ⟨x, h1, e1, e2⟩
  · exact s σ H al e h _ _ _ hr er e1 q
  · refine s σ H al e h _ _ _ hr er e1 ?_
    intro al1 H1 u x1 hr1 r1
    split at e2
    · cases e2
      cases r1
      exact .inr ⟨_, rfl, q al1 H1 _ x1 hr1 itr_str⟩
    · cases z : toSrc h1 x with
      | none => rw [z] at e2; cases e2
      | some sr =>
        rw [z] at e2; cases e2
        obtain ⟨⟨a, rfl, ra⟩, xs, hx⟩ := toSrc_ok r1 z
        obtain ⟨vs, sq, _⟩ := src_items hr1 ra hx
        refine .inl ⟨a, rfl, ?_⟩
        rw [hK]
        cases sr with
        | tup ys => exact .inr ⟨⟨vs, sq⟩, q al1 H1 _ x1 hr1 (itr_src (s := .tup ys) ra)⟩
        | lst j => exact .inl ⟨⟨vs, sq⟩, q al1 H1 _ x1 hr1 (itr_src (s := .lst j) ra)⟩
def rngOk (i : Int) : Bool := decide (-(2 ^ 62) ≤ i ∧ i < 2 ^ 62)
def iR1 (ma : AEnv → AM (List AV)) : AEnv → AM AI := fun e h => bnd (ma e h) fun vs h1 => match vs with
  | [.int j] => if rngOk j = true then some (.ok (.rng 0 j.toNat), h1) else none
  | _ => none
theorem si_rng1 {tg a : Expr} {ma : AEnv → AM (List AV)} {p pos : Pos} {lo : Bool} (hm : X.mg "range" = none) (ha : SA G X W [a] ma) (hg : Gl X "range" := by rfl) (hs : starEach [a] X.env = [(false, eval a X.env)] := by rfl) : SI G X W lo tg (.Call (.Name "range" p) [a] [] pos) (iR1 ma) := by
  obtain ⟨t, pa, s⟩ := ha
  refine ⟨_, pi_range1 hg hm pa hs, ?_⟩
  intro σ H al e h r h' R hr er hm q
  rcases bnd_some hm with ⟨c, k, e1, rfl⟩ | ⟨vs, h1, e1, e2⟩
  · exact s σ H al e h _ _ _ hr er e1 q
  · refine s σ H al e h _ _ _ hr er e1 ?_
    intro al1 H1 us x1 hr1 rs
    split at e2
    · rename_i j
      split at e2
      · rename_i hj
        cases e2
        obtain ⟨u, rfl, r1⟩ := one_of rs
        cases r1
        obtain ⟨h3, h4⟩ := of_decide_eq_true hj
        exact ⟨j, rfl, h3, h4, q al1 H1 _ x1 hr1 itr_rng⟩
      · cases e2
    · cases e2
def iR2 (ma : AEnv → AM (List AV)) : AEnv → AM AI := fun e h => bnd (ma e h) fun vs h1 => match vs with
  | [.int i, .int j] => if rngOk i = true ∧ rngOk j = true then some (.ok (.rng i (j - i).toNat), h1) else none
  | _ => none
theorem si_rng2 {tg a b : Expr} {ma : AEnv → AM (List AV)} {p pos : Pos} {lo : Bool} (hm : X.mg "range" = none) (ha : SA G X W [a, b] ma) (hg : Gl X "range" := by rfl) (hs : starEach [a, b] X.env = [(false, eval a X.env), (false, eval b X.env)] := by rfl) (hs2 : starEach [b] X.env = [(false, eval b X.env)] := by rfl) :
    SI G X W lo tg (.Call (.Name "range" p) [a, b] [] pos) (iR2 ma) := by
  obtain ⟨t, pa, s⟩ := ha
  refine ⟨_, pi_range2 hg hm pa hs hs2, ?_⟩
  intro σ H al e h r h' R hr er hm q
  rcases bnd_some hm with ⟨c, k, e1, rfl⟩ | ⟨vs, h1, e1, e2⟩
  · exact s σ H al e h _ _ _ hr er e1 q
  · refine s σ H al e h _ _ _ hr er e1 ?_
    intro al1 H1 us x1 hr1 rs
    split at e2
    · rename_i i j
      split at e2
      · rename_i hj
        cases e2
        obtain ⟨u, w, rfl, r1, r2⟩ := two_of rs
        cases r1
        cases r2
        obtain ⟨h3, h4⟩ := of_decide_eq_true hj.1
        obtain ⟨h5, h6⟩ := of_decide_eq_true hj.2
        exact ⟨i, j, rfl, ⟨h3, h4, h5, h6⟩, q al1 H1 _ x1 hr1 itr_rng⟩
      · cases e2
    · cases e2
def iEn (ma : AEnv → AM (List AV)) : AEnv → AM AI := fun e h => bnd (ma e h) fun vs h1 => match vs with
  | [x] => match toSrc h1 x with
    | some s => some (.ok (.enm s), h1)
    | none => none
  | _ => none
theorem si_enum {a : Expr} {elts : List Expr} {kk : Nat} {tpos : Pos} {ma : AEnv → AM (List AV)} {p pos : Pos} (hK : X.K = G.K) (hm : X.mg "enumerate" = none) (ha : SA G X W [a] ma) (hg : Gl X "enumerate" := by rfl) (hs : starEach [a] X.env = [(false, eval a X.env)] := by rfl) :
    SI G X W true (.Tuple elts kk tpos) (.Call (.Name "enumerate" p) [a] [] pos) (iEn ma) := by
  obtain ⟨t, pa, s⟩ := ha
  refine ⟨_, pi_enum2 hg hm pa hs, ?_⟩
  intro σ H al e h r h' R hr er hm q
  rcases bnd_some hm with ⟨c, k, e1, rfl⟩ | ⟨vs, h1, e1, e2⟩
  · exact s σ H al e h _ _ _ hr er e1 q
  · refine s σ H al e h _ _ _ hr er e1 ?_
    intro al1 H1 us x1 hr1 rs
    split at e2
    · rename_i x
      split at e2
      · rename_i src hx
        cases e2
        obtain ⟨u, rfl, r1⟩ := one_of rs
        obtain ⟨⟨a, rfl, sr⟩, xs, hi⟩ := toSrc_ok r1 hx
        obtain ⟨vs, sq, _⟩ := src_items hr1 sr hi
        have fin := q al1 H1 _ x1 hr1 (itr_enm sr)
        refine ⟨a, rfl, ?_⟩
        rw [hK]
        cases src with
        | tup ys => exact .inr ⟨vs, sq, fin⟩
        | lst k => exact .inl ⟨vs, sq, fin⟩
      · cases e2
    · cases e2
def iZp (ma : AEnv → AM (List AV)) : AEnv → AM AI := fun e h => bnd (ma e h) fun vs h1 => match vs with
  | [x, y] => match toSrc h1 x, toSrc h1 y with
    | some s, some t => if s.two t = true then some (.ok (.zip s t), h1) else none
    | _, _ => none
  | _ => none
theorem si_zip {a b : Expr} {elts : List Expr} {kk : Nat} {tpos : Pos} {ma : AEnv → AM (List AV)} {p pos : Pos} (hK : X.K = G.K) (hm : X.mg "zip" = none) (ha : SA G X W [a, b] ma) (hg : Gl X "zip" := by rfl)
    (hs : starEach [a, b] X.env = (false, eval a X.env) :: starEach [b] X.env := by rfl) (hpl : (backTo pos (starEach [b] X.env)).any (·.1) = false := by rfl) :
    SI G X W true (.Tuple elts kk tpos) (.Call (.Name "zip" p) [a, b] [] pos) (iZp ma) := by
  obtain ⟨t, pa, s⟩ := ha
  refine ⟨_, RZ.pi_zipA hg hm pa hs hpl, ?_⟩
  intro σ H al e h r h' R hr er hm q
  rcases bnd_some hm with ⟨c, k, e1, rfl⟩ | ⟨vs, h1, e1, e2⟩
  · exact s σ H al e h _ _ _ hr er e1 q
  · refine s σ H al e h _ _ _ hr er e1 ?_
    intro al1 H1 us x1 hr1 rs
    split at e2
    · rename_i x y
      split at e2
      · rename_i s1 s2 hx hy
        split at e2
        · rename_i h2
          cases e2
          obtain ⟨u, w, rfl, r1, r2⟩ := two_of rs
          obtain ⟨⟨a1, rfl, ra⟩, xs, hxs⟩ := toSrc_ok r1 hx
          obtain ⟨⟨b1, rfl, rb⟩, ys, hys⟩ := toSrc_ok r2 hy
          obtain ⟨vs, sq, _⟩ := src_items hr1 ra hxs
          obtain ⟨vs', sq', _⟩ := src_items hr1 rb hys
          have z := itr_zip ra rb h2
          refine ⟨a1, b1, vs, vs', rfl, ?_⟩
          rw [hK]
          cases s1 with
          | tup _ => cases s2 with
            | tup _ => exact .inr ⟨sq, sq', q al1 H1 _ x1 hr1 z⟩
            | lst _ => cases h2
          | lst _ => cases s2 with
            | tup _ => cases h2
            | lst _ => exact .inl ⟨sq, sq', q al1 H1 _ x1 hr1 z⟩
        · cases e2
      · cases e2
    · cases e2

/-! ### for, while -/
def forL (I : AI) (g : AG) (b : AS) : Nat → Nat → AS
  | 0, _, _, _ => none
  | f + 1, i, e, h => match I.at i h with
    | none => none
    | some none => some (.nx e, h)
    | some (some v) => match g v e h with
      | none => none
      | some (e1, h1) => match b e1 h1 with
        | some (.nx e2, h2) => forL I g b f (i + 1) e2 h2
        | some (.ct e2, h2) => forL I g b f (i + 1) e2 h2
        | some (.bk e2, h2) => some (.nx e2, h2)
        | r => r
def mFor (N : Nat) (mi : AEnv → AM AI) (g : AG) (b : AS) : AS := fun e h => bndS (mi e h) e fun I h1 => forL I g b N 0 e h1
theorem snd_for {wi : TI} {mi : AEnv → AM AI} {g : TG} {mg : AG} {ws : List Nat} {lo : Bool} {tb : TS} {mb : AS} (N : Nat) (si : SndI G W lo wi mi) (sg : SndG G lo ws g mg) (sb : SndS G W tb mb) : SndS G W (tFor wi g tb) (mFor N mi mg mb) := by
  intro σ H al e h fl h' D hr er hm q
  rcases bndS_some hm with ⟨c, k, e1, rfl⟩ | ⟨I, h1, e1, e2⟩
  · exact si σ H al e h _ _ _ hr er e1 (PoS.exE er q)
  · refine si σ H al e h _ _ _ hr er e1 ?_
    intro al1 H1 J x1 hr1 IR
    refine ⟨fun i m σ2 H2 => ∃ al2 e2 h2, Ext h1.length al1 H1 h2.length al2 H2 ∧ HR G al2 h2 H2 ∧ ER G h2.length al2 H2 e2 σ2 ∧ forL I mg mb m i e2 h2 = some (fl, h') ∧ PoS G W h2.length al2 H2 fl h' D, ⟨N, al1, e, h1, .refl, hr1, er.mono x1, e2, PoS.after x1 q⟩, ?_⟩
    rintro i m σ2 H2 ⟨al2, e3, h2, x2, hr2, er2, em, q2⟩
    cases m with
    | zero => cases em
    | succ m =>
      obtain ⟨st, go⟩ := IR.ok al2 h2 H2 x2 hr2 i
      unfold forL at em
      split at em
      · cases em
      · rename_i z
        cases em
        exact .inl ⟨st z, q2 al2 H2 σ2 .refl hr2 er2⟩
      · rename_i v z
        obtain ⟨hg, yl⟩ := go v z
        split at em
        · cases em
        · rename_i e4 h4 ez
          refine .inr ⟨hg, fun σ5 H5 => ∃ al5 e5 h5, Ext h1.length al1 H1 h5.length al5 H5 ∧ HR G al5 h5 H5 ∧ ER G h5.length al5 H5 e5 σ5 ∧ forL I mg mb m (i + 1) e5 h5 = some (fl, h') ∧ PoS G W h5.length al5 H5 fl h' D, fun σ' H' w => ⟨m, Nat.lt_succ_self m, w⟩, fun x H3 y => ?_⟩
          obtain ⟨x3, hr3, rl⟩ := yl x H3 y
          have er3 := er2.mono x3
          refine sg σ2 H3 al2 e3 h2 v x e4 h4 _ hr3 er3 rl ez ?_
          intro al4 H4 σ4 x4 hr4 er4 _ _
          have xx := (x2.trans x3).trans x4
          have q4 := PoS.after (x3.trans x4) q2
          split at em
          · rename_i e5 h5 eb
            exact sb σ4 H4 al4 e4 h4 _ _ _ hr4 er4 eb fun al5 H5 σ5 x5 hr5 er5 => ⟨al5, e5, h5, xx.trans x5, hr5, er5, em, PoS.after x5 q4⟩
          · rename_i e5 h5 eb
            exact sb σ4 H4 al4 e4 h4 _ _ _ hr4 er4 eb fun al5 H5 σ5 x5 hr5 er5 => ⟨al5, e5, h5, xx.trans x5, hr5, er5, em, PoS.after x5 q4⟩
          · rename_i e5 h5 eb
            cases em
            exact sb σ4 H4 al4 e4 h4 _ _ _ hr4 er4 eb q4
          · rename_i n1 n2 n3
            refine sb σ4 H4 al4 e4 h4 fl h' _ hr4 er4 em ?_
            cases fl with
            | nx e5 => exact absurd em (n1 e5 h')
            | ct e5 => exact absurd em (n2 e5 h')
            | bk e5 => exact absurd em (n3 e5 h')
            | rt v => exact q4
            | ex c k e5 => exact q4
theorem ss_for {tg iter : Expr} {body : List Stmt} {mi : AEnv → AM AI} {mg : AG} {mb : AS} {ws : List Nat} {lo : Bool} (N : Nat) (hp : PassesOwn (model X.prog X.w) X.A X.env X.xe) (hc : X.calm = true) (hi : SI G X W lo tg iter mi) (hg : SG G X lo ws tg mg) (hb : SB G X W body mb)
    (hs : ∀ x, foldedSetIterable iter X.env x = pure x := by intro _; rfl) : SS G X W (.For tg iter body [] pos) (mFor N mi mg mb) := by
  obtain ⟨_, p1, s1⟩ := hi
  obtain ⟨_, p2, s2⟩ := hg
  obtain ⟨_, p3, s3⟩ := hb
  exact ⟨_, ps_for hp hc p1 p2 p3 hs, snd_for N s1 s2 s3⟩
def whL (c : AEnv → AM Bool) (b : AS) : Nat → AS
  | 0, _, _ => none
  | f + 1, e, h => match c e h with
    | none => none
    | some (.ex c k, h1) => some (.ex c k e, h1)
    | some (.ok false, h1) => some (.nx e, h1)
    | some (.ok true, h1) => match b e h1 with
      | some (.nx e2, h2) => whL c b f e2 h2
      | some (.ct e2, h2) => whL c b f e2 h2
      | some (.bk e2, h2) => some (.nx e2, h2)
      | r => r
theorem snd_while {tc : TT} {mc : AEnv → AM Bool} {tb : TS} {mb : AS} (N : Nat) (sc : SndT G W tc mc) (sb : SndS G W tb mb) : SndS G W (tWhile tc tb) (whL mc mb N) := by
  intro σ H al e h fl h' D hr er hm q
  refine ⟨fun m σ2 H2 => ∃ al2 e2 h2, HR G al2 h2 H2 ∧ ER G h2.length al2 H2 e2 σ2 ∧ whL mc mb m e2 h2 = some (fl, h') ∧ PoS G W h2.length al2 H2 fl h' D, ⟨N, al, e, h, hr, er, hm, q⟩, ?_⟩
  rintro m σ2 H2 ⟨al2, e2, h2, hr2, er2, em, q2⟩
  cases m with
  | zero => cases em
  | succ m =>
    unfold whL at em
    split at em
    · cases em
    · rename_i c k h3 ec
      cases em
      exact sc σ2 H2 al2 e2 h2 _ _ _ hr2 er2 ec (PoS.exE er2 q2)
    · rename_i h3 ec
      cases em
      exact sc σ2 H2 al2 e2 h2 _ _ _ hr2 er2 ec fun al3 H3 x3 hr3 => q2 al3 H3 σ2 x3 hr3 (er2.mono x3)
    · rename_i h3 ec
      refine sc σ2 H2 al2 e2 h2 _ _ _ hr2 er2 ec fun al3 H3 x3 hr3 => ?_
      have q3 := PoS.after x3 q2
      have er3 := er2.mono x3
      refine ⟨fun σ5 H5 => ∃ al5 e5 h5, HR G al5 h5 H5 ∧ ER G h5.length al5 H5 e5 σ5 ∧ whL mc mb m e5 h5 = some (fl, h') ∧ PoS G W h5.length al5 H5 fl h' D, fun σ' H' w => ⟨m, Nat.lt_succ_self m, w⟩, ?_⟩
      split at em
      · rename_i e5 h5 eb
        exact sb σ2 H3 al3 e2 h3 _ _ _ hr3 er3 eb fun al5 H5 σ5 x5 hr5 er5 => ⟨al5, e5, h5, hr5, er5, em, PoS.after x5 q3⟩
      · rename_i e5 h5 eb
        exact sb σ2 H3 al3 e2 h3 _ _ _ hr3 er3 eb fun al5 H5 σ5 x5 hr5 er5 => ⟨al5, e5, h5, hr5, er5, em, PoS.after x5 q3⟩
      · rename_i e5 h5 eb
        cases em
        exact sb σ2 H3 al3 e2 h3 _ _ _ hr3 er3 eb q3
      · rename_i n1 n2 n3
        refine sb σ2 H3 al3 e2 h3 fl h' _ hr3 er3 em ?_
        cases fl with
        | nx e5 => exact absurd em (n1 e5 h')
        | ct e5 => exact absurd em (n2 e5 h')
        | bk e5 => exact absurd em (n3 e5 h')
        | rt v => exact q3
        | ex c k e5 => exact q3
theorem ss_while {c : Expr} {body : List Stmt} {mc : AEnv → AM Bool} {mb : AS} (N : Nat) (hp : PassesOwn (model X.prog X.w) X.A X.env X.xe) (hc : ST G X W c mc) (hb : SB G X W body mb) : SS G X W (.While c body [] pos) (whL mc mb N) := by
  obtain ⟨_, p1, s1⟩ := hc
  obtain ⟨_, p2, s2⟩ := hb
  exact ⟨_, ps_while hp p1 p2, snd_while N s1 s2⟩
end
end SL
/-! SL9: list comprehensions, dict displays. -/
namespace SL
open PySem PySem.Spec PyProof.Rows L2

/-- no exception leaves a comprehension's block -/
abbrev W0 : WX := fun _ _ _ _ => False
/-- the block's context -/
abbrev bk (X : Cx) (scope : Scope) (s : Shared) (H : Hp) (C : Addr) (cl : List (Str × Addr)) (fp : List Addr) : Cx := X.blk s H scope (compEnvC scope cl C X.env) fp
section
variable {G : Gx} {X : Cx} {W : WX} {n : Nat} {al : Nat → Addr} {H : Hp} {σ : L2.St} {e : AEnv} {h' : List AO} {D : Ends} {pos : Pos}
/-! ### the readings that serve in every block -/
def rdE (G : Gx) (m : AE) : TE := fun σ H Q => ∃ al e h r h', HR G al h H ∧ ER G h.length al H e σ ∧ m e h = some (r, h') ∧ PoE G W0 h.length al H σ r h' Q
def rdT (G : Gx) (m : AEnv → AM Bool) : TT := fun σ H Q => ∃ al e h r h', HR G al h H ∧ ER G h.length al H e σ ∧ m e h = some (r, h') ∧ PoT G W0 h.length al H σ r h' Q
def rdG (G : Gx) (lo : Bool) (ws : List Nat) (m : AG) : TG := fun u σ H Q => ∃ al e h v e' h', HR G al h H ∧ ER G h.length al H e σ ∧ RL G lo h.length al H v u ∧ m v e h = some (e', h') ∧ FwG G h.length al H σ ws e' h' Q
theorem se_rd {ex : Expr} {m : AE} (h : SE G X W0 ex m) : PE X ex (rdE G m) := by
  obtain ⟨t, p, s⟩ := h
  refine ⟨fun pins sh σ H Q I hw => p.run pins sh σ H Q I ?_⟩
  obtain ⟨al, e, hh, r, h', hr, er, hm, q⟩ := hw
  exact s σ H al e hh r h' Q hr er hm q
theorem st_rd {ex : Expr} {m : AEnv → AM Bool} (h : ST G X W0 ex m) : PT X ex (rdT G m) := by
  obtain ⟨t, p, s⟩ := h
  refine ⟨fun pins sh σ H Q I hw => p.run pins sh σ H Q I ?_⟩
  obtain ⟨al, e, hh, r, h', hr, er, hm, q⟩ := hw
  exact s σ H al e hh r h' Q hr er hm q
theorem sg_rd {tg : Expr} {lo : Bool} {ws : List Nat} {m : AG} (h : SG G X lo ws tg m) : PG X tg (rdG G lo ws m) := by
  obtain ⟨g, p, s⟩ := h
  refine ⟨fun pins sh σ H v u Q I rv hw => p.run pins sh σ H v u Q I rv ?_⟩
  obtain ⟨al, e, hh, x, e', h', hr, er, rl, hm, q⟩ := hw
  exact s σ H al e hh x v e' h' Q hr er rl hm q
def mYes : AEnv → AM Bool := fun _ h => some (.ok true, h)
/-- the tests of a comprehension -/
def STs (G : Gx) (X : Cx) (ifs : List Expr) (m : AEnv → AM Bool) : Prop := PTs X ifs (rdT G m)
theorem sts_nil : STs G X [] mYes := by
  refine ⟨fun pins sh σ H Q I hw => pts_nil.run pins sh σ H Q I ?_⟩
  obtain ⟨al, e, hh, r, h', hr, er, hm, q⟩ := hw
  cases hm
  exact q al H .refl hr
theorem sts_one {c : Expr} {m : AEnv → AM Bool} (h : ST G X W0 c m) : STs G X [c] m := pts_one (st_rd h)

/-! ### the slots forgotten -/
theorem wipe_off (σ : L2.St) (i : Nat) : ∀ (vs : List Nat), i ∉ vs → (wipe σ vs)[i]? = σ[i]?
  | [], _ => rfl
  | v :: vs, h => by
    have h1 : v ≠ i := fun z => h (by rw [z]; exact List.mem_cons_self ..)
    show ((wipe σ vs).set v none)[i]? = _
    rw [List.getElem?_set_ne h1]
    exact wipe_off σ i vs fun z => h (List.mem_cons_of_mem _ z)
theorem wipe_on (σ : L2.St) (i : Nat) (hi : i < σ.length) : ∀ (vs : List Nat), i ∈ vs → (wipe σ vs)[i]? = some none
  | [], h => by cases h
  | v :: vs, h => by
    show ((wipe σ vs).set v none)[i]? = _
    by_cases z : v = i
    · subst z
      exact List.getElem?_set_self (by rw [wipe_length]; exact hi)
    · rw [List.getElem?_set_ne z]
      exact wipe_on σ i hi vs ((List.mem_cons.mp h).resolve_left fun q => z q.symm)
theorem wipe_same {σ τ : L2.St} {ws vs : List Nat} (hl : τ.length = σ.length) (hk : ∀ i, i ∉ ws → τ[i]? = σ[i]?) (hs : ∀ i, i ∈ ws → i ∈ vs) : wipe τ vs = wipe σ vs := by
  apply List.ext_getElem?
  intro i
  by_cases hi : i ∈ vs
  · by_cases hlt : i < σ.length
    · rw [wipe_on _ _ hlt _ hi, wipe_on _ _ (by rw [hl]; exact hlt) _ hi]
    · rw [List.getElem?_eq_none (by rw [wipe_length]; omega), List.getElem?_eq_none (by rw [wipe_length]; omega)]
  · rw [wipe_off _ _ _ hi, wipe_off _ _ _ hi]
    exact hk i fun z => hi (hs i z)
theorem wipe_twice (σ : L2.St) (vs : List Nat) : wipe (wipe σ vs) vs = wipe σ vs := by
  apply List.ext_getElem?
  intro i
  by_cases hi : i ∈ vs
  · by_cases hlt : i < σ.length
    · rw [wipe_on _ _ hlt _ hi, wipe_on _ _ (by rw [wipe_length]; exact hlt) _ hi]
    · rw [List.getElem?_eq_none (by rw [wipe_length, wipe_length]; omega), List.getElem?_eq_none (by rw [wipe_length]; omega)]
  · rw [wipe_off _ _ _ hi]

/-! ### [elt for tg in iter if ..] -/
def lcL (I : AI) (g : AG) (t : AEnv → AM Bool) (el : AE) (d : Nat) (e : AEnv) : Nat → Nat → List AO → Option (List AO)
  | 0, _, _ => none
  | f + 1, i, h => match I.at i h with
    | none => none
    | some none => some h
    | some (some v) => match g v e h with
      | none => none
      | some (e1, h1) => match t e1 h1 with
        | some (.ok false, h2) => lcL I g t el d e f (i + 1) h2
        | some (.ok true, h2) => match el e1 h2 with
          | some (.ok y, h3) => match h3[d]? with
            | some (.lst acc) => if acc.length < 100000 then lcL I g t el d e f (i + 1) (h3.set d (.lst (acc ++ [y]))) else none
            | _ => none
          | _ => none
        | _ => none
def mLc (N : Nat) (vs : List Nat) (mi : AEnv → AM AI) (g : AG) (t : AEnv → AM Bool) (el : AE) : AE := fun e h => bnd (mi e h) fun I h1 => match lcL I g t el h1.length (awipe e vs) N 0 (h1 ++ [.lst []]) with
  | some h2 => some (.ok (.ref h1.length), h2)
  | none => none
theorem snd_lc {wi : TI} {mi : AEnv → AM AI} {g : AG} {t : AEnv → AM Bool} {el : AE} {ws vs : List Nat} {lo : Bool} (N : Nat) (si : SndI G W lo wi mi) (hs : ∀ i, i ∈ ws → i ∈ vs) : SndE G W (tLc wi (rdG G lo ws g) (rdT G t) (rdE G el) vs) (mLc N vs mi g t el) := by
  intro σ H al e h r h' Q hr er hm q
  rcases bnd_some hm with ⟨c, k, e1, rfl⟩ | ⟨I, h1, e1, e2⟩
  · exact si σ H al e h _ _ _ hr er e1 q
  · refine si σ H al e h _ _ _ hr er e1 ?_
    intro al1 H1 J x1 hr1 IR Dl hD
    split at e2
    · rename_i hf ef
      cases e2
      have hlen : (h1 ++ [AO.lst []]).length = h1.length + 1 := by rw [List.length_append, List.length_singleton]
      have xb : Ext h1.length al1 H1 (h1 ++ [AO.lst []]).length (ext1 al1 h1.length Dl) (upd H1 Dl (.lst [])) := by rw [hlen]; exact ext_new hD
      have hr0 : HR G (ext1 al1 h1.length Dl) (h1 ++ [.lst []]) (upd H1 Dl (.lst [])) := hr1.newL hD .nil
      have er0 : ER G (h1 ++ [AO.lst []]).length (ext1 al1 h1.length Dl) (upd H1 Dl (.lst [])) (awipe e vs) (wipe σ vs) := (er.mono (x1.trans xb)).wipe vs
      refine ⟨fun i m H2 => ∃ al2 h2, Ext (h1 ++ [AO.lst []]).length (ext1 al1 h1.length Dl) (upd H1 Dl (.lst [])) h2.length al2 H2 ∧ HR G al2 h2 H2 ∧ lcL I g t el h1.length (awipe e vs) m i h2 = some h', ⟨N, _, _, .refl, hr0, ef⟩, ?_⟩
      rintro i m H2 ⟨al2, h2, x2, hr2, em⟩
      have dal : al2 h1.length = Dl := by
        rw [x2.al _ (by rw [hlen]; omega)]; exact ext1_at
      cases m with
      | zero => cases em
      | succ m =>
        obtain ⟨st, go⟩ := IR.ok al2 h2 H2 (xb.trans x2) hr2 i
        unfold lcL at em
        split at em
        · cases em
        · rename_i z
          cases em
          refine .inl ⟨st z, ?_⟩
          have rr := RA.ref (G := G) (n := h'.length) (al := al2) (H := H2) (i := h1.length) (by have := x2.le; rw [hlen] at this; omega)
          rw [dal] at rr
          exact q al2 H2 _ ((x1.trans xb).trans x2) hr2 rr
        · rename_i v z
          obtain ⟨hg, yl⟩ := go v z
          split at em
          · cases em
          · rename_i e4 h4 ez
            refine .inr ⟨hg, fun H5 => ∃ al5 h5, Ext (h1 ++ [AO.lst []]).length (ext1 al1 h1.length Dl) (upd H1 Dl (.lst [])) h5.length al5 H5 ∧ HR G al5 h5 H5 ∧ lcL I g t el h1.length (awipe e vs) m (i + 1) h5 = some h', fun H' w => ⟨m, Nat.lt_succ_self m, w⟩, fun x H3 y => ?_⟩
            obtain ⟨x3, hr3, rl⟩ := yl x H3 y
            have er3 := er0.mono (x2.trans x3)
            refine ⟨al2, awipe e vs, h2, v, e4, h4, hr3, er3, rl, ez, ?_⟩
            intro al4 H4 σ4 x4 hr4 er4 l4 k4
            refine ⟨(wipe_same l4 k4 hs).trans (wipe_twice σ vs), ?_⟩
            have xx := (x2.trans x3).trans x4
            split at em
            · rename_i h5 et
              refine ⟨al4, e4, h4, _, _, hr4, er4, et, ?_⟩
              intro al5 H5 x5 hr5
              rw [if_neg (by decide)]
              exact ⟨al5, h5, xx.trans x5, hr5, em⟩
            · rename_i h5 et
              refine ⟨al4, e4, h4, _, _, hr4, er4, et, ?_⟩
              intro al5 H5 x5 hr5
              rw [if_pos rfl]
              split at em
              · rename_i yv h6 ey
                refine ⟨al5, e4, h5, _, _, hr5, er4.mono x5, ey, ?_⟩
                intro al6 H6 u6 x6 hr6 r6
                split at em
                · rename_i acc hacc
                  split at em
                  · rename_i hsz
                    obtain ⟨us, hus, rus⟩ := lstAt hr6 hacc
                    have x7 := (xx.trans x5).trans x6
                    have dal6 : al6 h1.length = Dl := by
                      rw [x7.al _ (by rw [hlen]; omega)]; exact ext1_at
                    rw [dal6] at hus
                    have E := ext_put (u := .lst (us ++ [u6])) hr6 hacc rfl
                    rw [dal6] at E
                    refine ⟨us, hus, by rw [← rus.length, sizeLine_eq]; omega, al6, h6.set h1.length (.lst (acc ++ [yv])), ?_, ?_, em⟩
                    · rw [List.length_set]; exact x7.trans E
                    · have z7 := hr6.put (u := .lst (us ++ [u6])) (o' := .lst (acc ++ [yv])) hacc rfl rfl ?_
                      · rw [dal6] at z7; exact z7
                      · refine ⟨us ++ [u6], upd_same, ?_⟩
                        rw [dal6]
                        exact (rus.mono E).append (.cons (r6.mono E) .nil)
                  · cases em
                · cases em
              · cases em
            · cases em
    · cases e2
theorem se_lc {elt tg iter : Expr} {ifs : List Expr} {scope : Scope} {mi : AEnv → AM AI} {g : AG} {t : AEnv → AM Bool} {el : AE} {ws : List Nat} {lo : Bool} (N : Nat) (own : List (Str × Nat)) (hc : X.calm = true) (hN : X.N.Nodup) (ok : blkC X.N X.env.scope scope own = true) (hi : SI G X W lo tg iter mi)
    (hg : ∀ s H C cl fp, SG G (bk X scope s H C cl fp) lo ws tg g) (ht : ∀ s H C cl fp, STs G (bk X scope s H C cl fp) ifs t) (he : ∀ s H C cl fp, SE G (bk X scope s H C cl fp) W0 elt el)
    (hw : ws.all (fun i => decide (i ∈ own.map (·.2))) = true := by decide) (hs : ∀ x, foldedSetIterable iter X.env x = pure x := by intro _; rfl) :
    SE G X W (.ListComp elt [⟨tg, iter, ifs, 0⟩] scope pos) (mLc N (own.map (·.2)) mi g t el) := by
  obtain ⟨wi, pi, si⟩ := hi
  refine ⟨_, pe_lc hc hN pi (blkOk_by ok) (fun s H C cl fp => sg_rd (hg s H C cl fp)) (fun s H C cl fp => ht s H C cl fp) (fun s H C cl fp => se_rd (he s H C cl fp)) hs, snd_lc N si fun i h => ?_⟩
  exact of_decide_eq_true (List.all_eq_true.mp hw i h)
theorem ss_setLc (i : Nat) {y : Str} {py spos : Pos} {elt tg iter : Expr} {ifs : List Expr} {scope : Scope} {mi : AEnv → AM AI} {g : AG} {t : AEnv → AM Bool} {el : AE} {ws : List Nat} {lo : Bool} (N : Nat) (own : List (Str × Nat)) (hc : X.calm = true) (hN : X.N.Nodup) (ok : blkC X.N X.env.scope scope own = true) (hi : SI G X W lo tg iter mi)
    (hg : ∀ s H C cl fp, SG G (bk X scope s H C cl fp) lo ws tg g) (ht : ∀ s H C cl fp, STs G (bk X scope s H C cl fp) ifs t) (he : ∀ s H C cl fp, SE G (bk X scope s H C cl fp) W0 elt el)
    (hk : X.env.scope.kind = .function := by rfl) (hy : X.N[i]? = some y := by rfl) (hyl : X.env.scope.names.lookup y = some .local := by rfl) (hl : (py.line == pos.line) = true := by rfl)
    (ha : (scope.names.any fun (n, k) => n == y && (k == .local || k == .cell)) = false := by rfl)
    (hw : ws.all (fun i => decide (i ∈ own.map (·.2))) = true := by decide) (hs : ∀ x, foldedSetIterable iter X.env x = pure x := by intro _; rfl) :
    SS G X W (.Assign [.Name y py] (.ListComp elt [⟨tg, iter, ifs, 0⟩] scope pos) spos) (mAsg (mLc N (own.map (·.2)) mi g t el) (gA i)) := by
  obtain ⟨wi, pi, si⟩ := hi
  refine ⟨_, ps_setLc hc hN hy hyl (sw_true hk hyl hl ha) pi (blkOk_by ok) (fun s H C cl fp => sg_rd (hg s H C cl fp)) (fun s H C cl fp => ht s H C cl fp) (fun s H C cl fp => se_rd (he s H C cl fp)) hs, snd_asg (snd_lc N si fun i h => ?_) snd_gA⟩
  exact of_decide_eq_true (List.all_eq_true.mp hw i h)

/-! ### {k: v, ..} with constant int and text keys -/
def SPs (G : Gx) (X : Cx) (W : WX) (pos : Pos) (ks : List (Option Expr)) (vs : List Expr) (m : AEnv → AM (List (AV × AV))) : Prop := ∃ trs, PPs X pos ks vs trs ∧
  ∀ σ H al e h r h' (Q : List (V × V) → Hp → Prop), HR G al h H → ER G h.length al H e σ → m e h = some (r, h') →
    (match r with
      | .ok ps => ∀ al' H' us, Ext h.length al H h'.length al' H' → HR G al' h' H' → RAs G h'.length al' H' (ps.map (·.1)) (us.map (·.1)) → RAs G h'.length al' H' (ps.map (·.2)) (us.map (·.2)) → Q us H'
      | .ex c k => FwX G h.length al H c k h' fun cls d H' => W cls d σ H') → tPairs trs σ H Q
theorem sps_nil : SPs G X W pos [] [] (fun _ h => some (.ok [], h)) := ⟨[], pps_nil, by
  intro σ H al e h r h' Q hr er hm q
  cases hm
  exact q al H [] .refl hr .nil .nil⟩
def mPr (ma mb : AE) (mr : AEnv → AM (List (AV × AV))) : AEnv → AM (List (AV × AV)) := fun e h => bnd (ma e h) fun x h1 => bnd (mb e h1) fun y h2 => bnd (mr e h2) fun r h3 => some (.ok ((x, y) :: r), h3)
theorem sps_cons {k v : Expr} {ks : List (Option Expr)} {vs : List Expr} {ma mb : AE} {mr : AEnv → AM (List (AV × AV))} (ha : SE G X W k ma) (hb : SE G X W v mb) (hc : SPs G X W pos ks vs mr) : SPs G X W pos (some k :: ks) (v :: vs) (mPr ma mb mr) := by
  obtain ⟨ta, pa, sa⟩ := ha
  obtain ⟨tb, pb, sb⟩ := hb
  obtain ⟨tr, pr, sr⟩ := hc
  refine ⟨_, pps_cons pa pb pr, ?_⟩
  intro σ H al e h r h' Q hr er hm q
  rcases bnd_some hm with ⟨c, kk, e1, rfl⟩ | ⟨x, h1, e1, e2⟩
  · exact sa σ H al e h _ _ _ hr er e1 q
  · refine sa σ H al e h _ _ _ hr er e1 ?_
    intro al1 H1 u1 x1 hr1 r1
    rcases bnd_some e2 with ⟨c, kk, e3, rfl⟩ | ⟨y, h2, e3, e4⟩
    · exact sb σ H1 al1 e h1 _ _ _ hr1 (er.mono x1) e3 (PoE.after (r := .ex c kk) (Q := fun _ _ => True) x1 q)
    · refine sb σ H1 al1 e h1 _ _ _ hr1 (er.mono x1) e3 ?_
      intro al2 H2 u2 x2 hr2 r2
      rcases bnd_some e4 with ⟨c, kk, e5, rfl⟩ | ⟨rs, h3, e5, e6⟩
      · exact sr σ H2 al2 e h2 _ _ _ hr2 (er.mono (x1.trans x2)) e5 (PoE.after (r := .ex c kk) (Q := fun _ _ => True) (x1.trans x2) q)
      · cases e6
        refine sr σ H2 al2 e h2 _ _ _ hr2 (er.mono (x1.trans x2)) e5 ?_
        intro al3 H3 us x3 hr3 k3 v3
        exact q al3 H3 ((u1, u2) :: us) ((x1.trans x2).trans x3) hr3 (.cons (r1.mono (x2.trans x3)) k3) (.cons (r2.mono x3) v3)
def keysA : List (AV × AV) → Option (List (Key × AV))
  | [] => some []
  | (k, v) :: r => match keyA k, keysA r with
    | some k, some r => some ((k, v) :: r)
    | _, _ => none
theorem keysA_ok : ∀ {ps : List (AV × AV)} {kvs : List (Key × AV)} {us : List (V × V)}, RAs G n al H (ps.map (·.1)) (us.map (·.1)) → RAs G n al H (ps.map (·.2)) (us.map (·.2)) → keysA ps = some kvs →
    ∃ ws : List (Key × V), us = ws.map (fun kv => (kV kv.1, kv.2)) ∧ RF G n al H kvs ws
  | [], kvs, us, k3, v3, e => by
    cases e
    cases us with
    | nil => exact ⟨[], rfl, trivial⟩
    | cons u us => cases k3
  | (k, v) :: ps, kvs, us, k3, v3, e => by
    cases us with
    | nil => cases k3
    | cons u us =>
      obtain ⟨a, b⟩ := u
      cases k3 with
      | cons ka ks =>
        cases v3 with
        | cons va vs =>
          unfold keysA at e
          split at e
          · rename_i kk r e1 e2
            cases e
            obtain ⟨ws, rfl, rf⟩ := keysA_ok ks vs e2
            have := keyA_ok ka e1
            dsimp only at this va
            subst this
            exact ⟨(kk, b) :: ws, rfl, rfl, va, rf⟩
          · cases e
def mergeA (acc more : List (Key × AV)) : List (Key × AV) := more.foldl (fun acc kv => putA acc kv.1 kv.2) acc
theorem mergeA_ok : ∀ {more : List (Key × AV)} {ws : List (Key × V)} {acc : List (Key × AV)} {wa : List (Key × V)}, RF G n al H more ws → RF G n al H acc wa → RF G n al H (mergeA acc more) (mergeK wa ws)
  | [], [], _, _, _, ha => ha
  | (k, v) :: more, (k', u) :: ws, acc, wa, h, ha => by
    obtain ⟨e, r, t⟩ := h
    have e' : k = k' := e
    subst e'
    exact mergeA_ok (acc := putA acc k v) (wa := putK wa k u) t (putA_ok ha r)
  | [], _ :: _, _, _, h, _ => h.elim
  | _ :: _, [], _, _, h, _ => h.elim
def mDisp (mr : AEnv → AM (List (AV × AV))) : AE := fun e h => bnd (mr e (h ++ [.dct []])) fun ps h1 => match keysA ps, h1[h.length]? with
  | some kvs, some (.dct []) => if kvs.length ≤ 15 then some (.ok (.ref h.length), h1.set h.length (.dct (mergeA [] kvs))) else none
  | _, _ => none
theorem se_disp {ks : List (Option Expr)} {vs : List Expr} {mr : AEnv → AM (List (AV × AV))} (hm : SPs G X W pos ks vs mr) (hall : ks.all (·.isSome) = true := by rfl) (hl : ks.length = vs.length := by rfl) (h0 : ks ≠ [] := by exact List.cons_ne_nil _ _) (h15 : ks.length ≤ 15 := by decide) : SE G X W (.Dict ks vs pos) (mDisp mr) := by
  obtain ⟨trs, p, s⟩ := hm
  refine ⟨_, pe_disp p hall hl h0 h15, ?_⟩
  intro σ H al e h r h' Q hr er hm q p hp
  have hlen : (h ++ [AO.dct []]).length = h.length + 1 := by rw [List.length_append, List.length_singleton]
  have xb : Ext h.length al H (h ++ [AO.dct []]).length (ext1 al h.length p) (upd H p (.dK [])) := by rw [hlen]; exact ext_new hp
  have hr0 : HR G (ext1 al h.length p) (h ++ [.dct []]) (upd H p (.dK [])) := hr.new hp ⟨[], upd_same, trivial⟩
  rcases bnd_some hm with ⟨c, k, e1, rfl⟩ | ⟨ps, h1, e1, e2⟩
  · exact s σ _ _ e _ _ _ _ hr0 (er.mono xb) e1 (PoE.after (r := .ex c k) (Q := fun _ _ => True) xb q)
  · refine s σ _ _ e _ _ _ _ hr0 (er.mono xb) e1 ?_
    intro al1 H1 us x1 hr1 k3 v3
    split at e2
    · rename_i kvs ek ed
      split at e2
      · rename_i hle
        cases e2
        obtain ⟨ws, rfl, rf⟩ := keysA_ok k3 v3 ek
        obtain ⟨wd, e5, rfd⟩ := dctAt hr1 ed
        have dal : al1 h.length = p := by
          rw [x1.al _ (by rw [hlen]; omega)]; exact ext1_at
        rw [dal] at e5
        cases wd with
        | nil =>
          refine ⟨e5, ws, rfl, by rw [← rf.length]; exact hle, ?_⟩
          have E := ext_put (u := .dK (mergeK [] ws)) hr1 ed rfl
          have P := hr1.put (u := .dK (mergeK [] ws)) (o' := .dct (mergeA [] kvs)) ed rfl rfl ⟨_, upd_same, RF.mono E (mergeA_ok rf trivial)⟩
          have rr := RA.ref (G := G) (n := h1.length) (al := al1) (H := upd H1 (al1 h.length) (.dK (mergeK [] ws))) (i := h.length) (Nat.lt_of_lt_of_le (by rw [hlen]; omega) x1.le)
          rw [dal] at E P rr
          refine q al1 _ _ ?_ P (by rw [List.length_set]; exact rr)
          rw [List.length_set]
          exact (xb.trans x1).trans E
        | cons _ _ => exact rfd.elim
      · cases e2
    · cases e2
end
end SL
/-! SL10: a def's context, constants of the module, the end of a law row. -/
namespace SL
open PySem PySem.Spec PyProof.Rows L2

section
variable {P : Program} {w : World} {K : PySem.W.Frag} {mg : Str → Option Value} {base : Heap} {N : List Str} {qual : Str} {scope : Scope} {f : Addr} {cd : Value} {A : Around} {outer : List Env} {s : Shared} {H : Hp} {E : XK}
theorem tk_cx : Takes (cxOf (L2.CX P w) P w K mg base N qual scope f cd A outer s H E) (fun cls d _ H' => E cls d H') :=
  takes_of (E₁ := fun e' s'' => L2.CX P w outer H s E e' s'') rfl rfl rfl rfl
theorem own_cx : PassesOwn (model P w) (cxOf (L2.CX P w) P w K mg base N qual scope f cd A outer s H E).A (cxOf (L2.CX P w) P w K mg base N qual scope f cd A outer s H E).env (cxOf (L2.CX P w) P w K mg base N qual scope f cd A outer s H E).xe :=
  passes_of (X := cxOf (L2.CX P w) P w K mg base N qual scope f cd A outer s H E) (K := fun e s'' => L2.CX P w outer H s E e s'') (E₁ := fun e' s'' => L2.CX P w outer H s E e' s'') rfl
end
/-- a tuple that the module keeps -/
theorem ktup_of {K : PySem.W.Frag} {a : Addr} {its : Array Value} {n : Nat} {sl : Array (Option Value)} {vs : List V} (l : K.lookup a = some ⟨.type "tuple", none, .seq its n, sl⟩) (v : Vals vs its.toList) (z : vs.length ≤ 1000 := by decide) : KTup K a vs :=
  ⟨_, its, n, l, rfl, rfl, rfl, by
    have h1 : its.size = vs.length := by rw [← Array.length_toList]; exact v.length.symm
    rw [h1, sizeLine_eq]
    omega, v⟩
section
variable {K : PySem.W.Frag} {f : Addr} {x qual : Str} {fd : FuncData} {ps : List Str} {params : Arguments} {body : List Stmt} {scope : Scope} {kws : List (Str × V)}
/-- a def with keyword-only parameters, all of them written -/
theorem kbnAll (F : FunD K x qual params body scope [] kws f fd) (n : Nat) (ks : List Str)
    (h : ∀ (kV doc pm : Value) (an : Option Addr) (cdv ct : Value) (us ws : List Value), us.length = n → ws.length = ks.length → bindArgs (PySem.W.fnOf x qual params body scope .none kV doc pm an cdv ct) ⟨us, ks.zip ws⟩ = pure (ps.zip (us ++ ws))) :
    KBn K fd ps n ks (fun us ws => us ++ ws) (fun vs zs => vs ++ zs) := by
  have ⟨_, _, dV, _, _, _, _, _, _, _, is, _, _, dflt, _⟩ := F.ex
  have none_ : dV = .none := dflt.elim (fun z => z.2) fun z => absurd rfl z.1
  cases is
  cases none_
  exact ⟨fun _ us ws _ l1 l2 => .of_eq (h _ _ _ _ _ _ us ws l1 l2), fun r1 r2 => r1.append r2⟩
theorem funD0 {oc : Value} {od an : Option Addr} {osl : Array (Option Value)} {kV doc pm cdv ct : Value} (l : K.lookup f = some ⟨oc, od, .func (PySem.W.fnOf x qual params body scope .none kV doc pm an cdv ct), osl⟩)
    (c : PySem.W.codeIn K cdv qual = true) (k : PySem.W.keepIn K (.ref f) = true) : FunD K x qual params body scope [] [] f (PySem.W.fnOf x qual params body scope .none kV doc pm an cdv ct) := ⟨⟨oc, od, .none, kV, doc, pm, an, cdv, ct, osl, rfl, l, c, .inl ⟨rfl, rfl⟩, .inl rfl⟩, k⟩
theorem funDk {D : Addr} {oc : Value} {od an : Option Addr} {osl : Array (Option Value)} {doc pm cdv ct : Value} (l : K.lookup f = some ⟨oc, od, .func (PySem.W.fnOf x qual params body scope .none (.ref D) doc pm an cdv ct), osl⟩)
    (c : PySem.W.codeIn K cdv qual = true) (k : PySem.W.keepIn K (.ref f) = true) (hk : ∀ q ∈ kws, ∃ u, PySem.W.nsIn K D q.1 = some (some u) ∧ RelV q.2 u) : FunD K x qual params body scope [] kws f (PySem.W.fnOf x qual params body scope .none (.ref D) doc pm an cdv ct) := ⟨⟨oc, od, .none, .ref D, doc, pm, an, cdv, ct, osl, rfl, l, c, .inl ⟨rfl, rfl⟩, .inr ⟨D, rfl, hk⟩⟩, k⟩
end
theorem kws1 {K : PySem.W.Frag} {D : Addr} {x : Str} {v : V} {u : Value} (h : PySem.W.nsIn K D x = some (some u)) (r : RelV v u) : ∀ q ∈ [(x, v)], ∃ u, PySem.W.nsIn K D q.1 = some (some u) ∧ RelV q.2 u := fun q hq => by
  rw [List.mem_singleton.mp hq]
  exact ⟨u, h, r⟩

/-! ### the end -/
theorem vints {G : Gx} {n : Nat} {al : Nat → Addr} {H : Hp} : ∀ ns : List Int, RAs G n al H (ns.map AV.int) (ns.map V.int)
  | [] => .nil
  | _ :: ns => .cons .int (vints ns)
/-- the script, only read -/
theorem hr_script {G : Gx} {H : Hp} {a : Addr} {ns : List Int} (hO : Only H) (hS : SqL G.K H a (ns.map V.int)) : HR G (fun _ => a) [.rol (ns.map AV.int)] H := by
  refine ⟨fun i o hi => ?_, fun i j oi oj hi hj ti tj _ => ?_⟩
  · cases i with
    | zero =>
      cases hi
      refine ⟨ns.map V.int, ?_, vints ns⟩
      rcases hS with (h | ⟨o, h⟩) | h
      · rcases hO a with z | ⟨o, xs, z⟩
        · rw [z] at h; cases h
        · rw [z] at h; cases h
      · exact .inl ⟨o, h⟩
      · exact .inr h
    | succ i => cases hi
  · cases i with
    | zero => cases hi; cases ti
    | succ i => cases hi
/-- the same, for the def's promise -/
theorem law_start {G : Gx} {m : List AV → AM AV} {H : Hp} {a : Addr} {ns : List Int} {h' : List AO} (hO : Only H) (hS : SqL G.K H a (ns.map V.int)) (hm : m [.ref 0] [.rol (ns.map AV.int)] = some (.ok (.bl true), h')) : spG G 1 m [.ref a] H (fun v _ => v = .bl true) fun _ _ _ => False := by
  refine ⟨fun _ => a, [.rol (ns.map AV.int)], [.ref 0], _, h', hr_script hO hS, .cons (.ref (Nat.zero_lt_succ _)) .nil, rfl, hm, ?_⟩
  intro al' H' u x hr r
  cases r
  rfl

open PySem.W in
/-- how things stand when the law's def is called: the module, the script at a -/
structure Begun (K : PySem.W.Frag) (mg mb : Str → Option Value) (a : Addr) (vs : List Value) (ns : List Int) (t : Shared) : Prop where
  kin : K.In t.heap
  glob : t.heap.Ns mainGlobals mg
  blt : t.heap.Ns builtinsNs mb
  boot : ∀ x : Str, x ≠ "__name__" → mb x = bootBuiltins x
  lim : t.heap.NoLimit
  gens : t.gens = #[]
  at_ : t.heap.get? a = some { cls := .type "list", data := .seq vs.toArray }
  nums : IntsAre vs ns
  few : ns.length ≤ sizeLine
open PySem.W in
/-- the law's def is called once, behind the top (its body is met with an abstract heap that tracks the script alone) -/
theorem law_runs {P : Program} {w : World} {K : PySem.W.Frag} {mg mb : Str → Option Value} {k : Nat} {fa a : Addr} {fd : FuncData} {x : Str} {sp : Sp} {s₁ : Shared} {vs : List Value} {ns : List Int} (B : Begun K mg mb a vs ns s₁) (hr : Room k callerA)
    (F : ∀ base : Heap, K.In base → base.Ns mainGlobals mg → FnG P w K mg base k fa fd [x] sp) (hbind : ∀ (s : Shared) (u : Value), BindsTo s fd ⟨[u], []⟩ [(x, u)]) (hsp : ∀ H : Hp, Only H → SqL K H a (ns.map V.int) → sp [.ref a] H (fun v _ => v = .bl true) fun _ _ _ => False) :
    codeAny (model P w) callerA (.call (.ref fa) ⟨[.ref a], []⟩) (fun out t => out = .ok (.ret (.bool true)) ∧ OldK s₁.heap t.heap ∧ t.os = s₁.os ∧ AllBare t.gens) s₁ := by
  have ⟨KX, hns, hb, hbb, hlim, hg, ha, hi, hl⟩ := B
  -- the abstract heap: the script by its object, unless the module holds it
  obtain ⟨H, hO, hS, hok, hA, hK⟩ : ∃ H : Hp, Only H ∧ SqL K H a (ns.map V.int) ∧ HOk P w H s₁.heap ∧ (∀ b, H b ≠ none → b = a) ∧ (H a ≠ none → K.lookup a = none) := by
    have rv := vals_ints hi
    have ll : (ns.map V.int).length ≤ sizeLine := by rw [List.length_map]; exact hl
    cases hk : K.lookup a with
    | some o =>
      have e := KX a o hk
      rw [ha] at e
      cases e
      refine ⟨fun _ => none, fun _ => .inl rfl, .inr ⟨_, vs.toArray, _, hk, rfl, rfl, rfl, by rw [List.size_toArray, hi.length]; exact hl, by simpa using rv⟩, fun b u (z : (none : Option HO) = some u) => ?_, fun b z => absurd rfl z, fun z => absurd rfl z⟩
      cases z
    | none =>
      refine ⟨upd (fun _ => none) a (.frz { cls := .type "list", data := .seq vs.toArray } (.lst (ns.map V.int))), fun b => ?_, .inl (.inr ⟨_, upd_same⟩), fun b u z => ?_, fun b z => ?_, fun _ => rfl⟩
      · by_cases e : b = a
        · subst e; exact .inr ⟨_, _, upd_same⟩
        · exact .inl (upd_ne e)
      · by_cases e : b = a
        · subst e
          rw [upd_same] at z
          cases z
          exact ⟨ha, ll, vs, _, rv, ha⟩
        · rw [upd_ne e] at z; cases z
      · by_cases e : b = a
        · exact e
        · exact absurd (upd_ne e) z
  -- what stands beside the script
  have off : ∀ {b : Addr} {o : Obj}, s₁.heap.get? b = some o → H b = none → (hidT s₁.heap H).get? b = some o := fun e n => hidT_get e n
  have only : ∀ {b : Addr} {u : HO}, H b = some u → b = a := fun {b u} q => hA b (by rw [q]; exact Option.some_ne_none u)
  have nsd : ∀ {b : Addr} {m : Str → Option Value}, s₁.heap.Ns b m → (hidT s₁.heap H).Ns b m := fun {b m} ⟨o, es, ep, e, d, r⟩ => by
    refine ⟨o, es, ep, off e ?_, d, r⟩
    cases q : H b with
    | none => rfl
    | some u =>
      have e' := only q
      subst e'
      rw [ha] at e
      cases e
      nomatch (show Data.seq vs.toArray _ = Data.dict es ep from d)
  have KB : K.In (hidT s₁.heap H) := fun b o e => off (KX b o e) (by
    cases q : H b with
    | none => rfl
    | some u =>
      have e' := only q
      subst e'
      rw [hK (by rw [q]; exact Option.some_ne_none u)] at e
      cases e)
  have M : Mod K mg (hidT s₁.heap H) := ⟨KB, nsd hns, ⟨mb, nsd hb, hbb⟩, let ⟨mc, h1, h2⟩ := hlim; ⟨mc, nsd h1, h2⟩⟩
  have e0 : Env0 P w K mg (hidT s₁.heap H) callerA [] s₁ H := ⟨rfl, M, fun b o e => of_hidT e, Nat.le_of_eq (hidT_size _ _), trivial, fun b hb => absurd (show b ∈ ([] : List Addr) from hb) (by simp), hok, .of_eq hg⟩
  refine codeAny_mono ((F _ KB (nsd hns)).run callerA [] s₁ H ⟨[.ref a], []⟩ [.ref a] [.ref a] _ _ hr rfl e0 (hbind s₁ (.ref a)) (.cons rfl .nil) (hsp H hO hS)) fun r s' h => ?_
  cases r with
  | error e =>
    obtain ⟨_, _, _, _, _, _, _, _, _, _, _, _, z⟩ := (show L2.CX P w [] H s₁ (fun _ _ _ => False) e s' from h)
    exact z.elim
  | ok fl =>
    cases fl with
    | next => exact False.elim h
    | brk => exact False.elim h
    | cont => exact False.elim h
    | ret u =>
      have ⟨_, _, os, bare, un, after, isTrue_, told⟩ := h
      cases told
      refine ⟨congrArg (fun z => Except.ok (Flow.ret z)) isTrue_, OldK.of_keep ?_, os, bare⟩
      intro b o before
      cases hO b with
      | inl free => exact un.keep b o before free (fun z => absurd z List.not_mem_nil) (by simp)
      | inr lk =>
        have ⟨ob, _, z⟩ := lk
        have same := (hok b _ z).1
        rw [before] at same
        cases same
        exact (after b _ (un.frzs b _ _ z)).1
open PySem.W in
theorem walkG {l : PySem.W.OpenLaw} {n k : Nat} {fz : Bool} {q : Program} {loose : List Str} {XP : (Str → Option Value) → Heap → Prop} {YP : World → Heap → Prop} {d : DefRec} {K : Params → PySem.W.Frag} {m : List AV → AM AV}
    (hn : l.most = some n) (hn2 : n ≤ sizeLine) (noDef : d.params.defaults = []) (room : Room k callerA) (hY : ∀ (w : World) (h : Heap), YP w h → (K w.params).In h)
    (F : ∀ (w : World) (mg : Str → Option Value) (fa : Addr) (h : Heap), (K w.params).In h → h.Ns mainGlobals mg → mg d.name = some (.ref fa) →
      ∃ (fd : FuncData) (cl : Nat → Addr), (∀ (s : Shared) (u : Value), BindsTo s fd ⟨[u], []⟩ [("script", u)]) ∧
        ∀ base : Heap, (K w.params).In base → base.Ns mainGlobals mg → FnG l.prog w (K w.params) mg base k fa fd ["script"] (spG ⟨K w.params, cl, fz⟩ 1 m))
    (hm : ∀ ns : List Int, ns.length ≤ n → (∀ z ∈ ns, Builtin.Int.intBits z ≤ 1048576) → ∃ h', m [.ref 0] [.rol (ns.map AV.int)] = some (.ok (.bl true), h')) :
    WalkO q loose XP YP l.row.toRowW d [] (fun f us => PySem.call f us) := by
  apply Att.attach_callB hn noDef
  intro w _ t mg mb fa _ _ _ _ a us ns G Y _ _ _ glob at_ nums few bits gens
  have kin := hY w _ Y
  have ⟨fd, cl, binds, made⟩ := F w mg fa _ kin G.T.g glob
  have ⟨_, yes⟩ := hm ns few bits
  exact law_runs ⟨kin, G.T.g, G.T.b, G.T.builtins, G.T.nolimit, gens, at_, nums, Nat.le_trans few hn2⟩ room made binds fun _ only is => law_start (G := ⟨K w.params, cl, fz⟩) only is yes
end SL
/-! SL11: the rules in the short form that the printed terms use. -/
namespace SL
open PySem PySem.Spec PyProof.Rows L2
section
variable {G : Gx} {X : Cx} {W : WX} {k : Nat} {A : Around}
theorem hu1 (hr : Room k A) : A.units + 1 < cLine := by have := hr.un; omega
theorem hu64 (hr : Room k A) : A.units + 64 < cLine := by have := hr.un; omega
theorem hu65 (hr : Room k A) : A.units + 65 < cLine := by have := hr.un; omega
theorem o_eq (hr : Room k X.A) : OpR X (compareOp .Eq) (fun x y H Q => rEq x y H Q ∨ rEqD X.K x y H Q) := op_eq.or (op_eqD (hu64 hr))
theorem o_ne (hr : Room k X.A) : OpR X (compareOp .NotEq) (fun x y H Q => rNe x y H Q ∨ rNeD X.K x y H Q) := op_ne.or (op_neD (hu64 hr))
end
end SL
/-! PL1: plain laws of the semantic functions, for simp (continuations by name, so that simp does not walk into what is still to come). -/
namespace SL
open PySem PySem.Spec PyProof.Rows L2
abbrev OV (α : Type) := Option (Rs α × List AO)
abbrev OS := Option (Fl × List AO)
abbrev F1 := AV → List AO → Option (AV × List AO)
abbrev F2 := AV → AV → List AO → Option (AV × List AO)
abbrev FL := List AV → List AO → Option (AV × List AO)
abbrev FM := AV → List AV → List AO → Option (AV × List AO)
abbrev F3 := AV → Option Int → Option Int → List AO → Option (AV × List AO)
abbrev EL := AEnv → AM (List AV)
abbrev EB := AEnv → AM Bool
abbrev EO := AEnv → AM (Option Int)
def lft (o : Option (AV × List AO)) : OV AV := match o with
  | some (v, h) => some (.ok v, h)
  | none => none
def vrK (o : Option (Option AV)) (h : List AO) : OV AV := match o with
  | some (some v) => some (.ok v, h)
  | _ => none
def tBK (o : OV AV) : OV Bool := match o with
  | some (.ok (.bl b), h') => some (.ok b, h')
  | some (.ex c k, h') => some (.ex c k, h')
  | _ => none
def pSK (o : OV AV) : OV (Option Int) := match o with
  | some (.ok (.int i), h') => some (.ok (some i), h')
  | some (.ex c k, h') => some (.ex c k, h')
  | _ => none
def sqK (b : AS) (o : OS) : OS := match o with
  | some (.nx e1, h1) => b e1 h1
  | r => r
def fnK (o : OS) : OV AV := match o with
  | some (.nx _, h') => some (.ok .non, h')
  | some (.rt v, h') => some (.ok v, h')
  | some (.ex c k _, h') => some (.ex c k, h')
  | _ => none
def asK (o : Option (AEnv × List AO)) : OS := o.map fun p => (Fl.nx p.1, p.2)
def gsK (gs : AGs) (vs : List AV) (o : Option (AEnv × List AO)) : Option (AEnv × List AO) := match o with
  | some (e1, h1) => gs vs e1 h1
  | none => none
def fldK (c : Nat) (f : Str) (h : List AO) (o : Option AO) : Option (AV × List AO) := match o with
  | some (.ins d fs) => if d = c then (fs.lookup f).map fun v => (v, h) else none
  | _ => none
def putK' (c i : Nat) (f : Str) (y : AV) (e : AEnv) (h : List AO) (o : Option AO) : OS := match o with
  | some (.ins d fs) => if d = c ∧ fs.length < 900 then some (.nx e, h.set i (.ins c (putFA f y fs))) else none
  | _ => none
def lstK (o : Option AO) : Option (List AV) := match o with
  | some (.lst ys) => some ys
  | some (.rol ys) => some ys
  | _ => none
def isLst (o : Option AO) : Bool := match o with
  | some (.lst _) => true
  | _ => false
def appK (i : Nat) (y : AV) (h : List AO) (o : Option AO) : Option (AV × List AO) := match o with
  | some (.lst xs) => if xs.length < 1000000 then some (.non, h.set i (.lst (xs ++ [y]))) else none
  | _ => none
def popK (i : Nat) (h : List AO) (o : Option AO) : Option (AV × List AO) := match o with
  | some (.lst xs) => match xs[xs.length - 1]? with
    | some y => some (y, h.set i (.lst xs.dropLast))
    | none => none
  | _ => none
def slcK (lo hi : Option Int) (h : List AO) (o : Option AO) : Option (AV × List AO) := match o with
  | some (.lst xs) => some (.ref h.length, h ++ [.lst (cutA xs lo hi)])
  | some (.rol xs) => some (.ref h.length, h ++ [.lst (cutA xs lo hi)])
  | _ => none
def mapV (o : Option AV) (h : List AO) : Option (AV × List AO) := match o with
  | some v => some (v, h)
  | none => none
def lenV (o : Option (List AV)) (h : List AO) : Option (AV × List AO) := match o with
  | some ys => some (.int ys.length, h)
  | none => none
def eqK (neg : Bool) (h : List AO) (o : Option Bool) : Option (AV × List AO) := match o with
  | some b => some (.bl (if neg then !b else b), h)
  | none => none
section
variable {α β : Type} {e : AEnv} {h h1 h2 : List AO} {v x y : AV} {i j c d k : Nat} {f : Str} {fs : List (Str × AV)} {xs ys vs : List AV}
@[simp] theorem lft_some : lft (some (v, h)) = some (.ok v, h) := (rfl)
@[simp] theorem vrK_some : vrK (some (some v)) h = some (.ok v, h) := (rfl)
@[simp] theorem tBK_bl {b : Bool} : tBK (some (.ok (.bl b), h)) = some (.ok b, h) := (rfl)
@[simp] theorem tBK_ex : tBK (some (.ex c k, h)) = some (.ex c k, h) := (rfl)
@[simp] theorem pSK_int {i : Int} : pSK (some (.ok (.int i), h)) = some (.ok (some i), h) := (rfl)
@[simp] theorem sqK_nx {b : AS} : sqK b (some (.nx e, h)) = b e h := (rfl)
@[simp] theorem sqK_rt {b : AS} : sqK b (some (.rt v, h)) = some (.rt v, h) := (rfl)
@[simp] theorem sqK_ex {b : AS} : sqK b (some (.ex c k e, h)) = some (.ex c k e, h) := (rfl)
@[simp] theorem fnK_nx : fnK (some (.nx e, h)) = some (.ok .non, h) := (rfl)
@[simp] theorem fnK_rt : fnK (some (.rt v, h)) = some (.ok v, h) := (rfl)
@[simp] theorem fnK_ex : fnK (some (.ex c k e, h)) = some (.ex c k, h) := (rfl)
@[simp] theorem asK_some : asK (some (e, h)) = some (.nx e, h) := (rfl)
@[simp] theorem gsK_some {gs : AGs} : gsK gs vs (some (e, h)) = gs vs e h := (rfl)
@[simp] theorem fldK_some : fldK c f h (some (.ins c fs)) = mapV (fs.lookup f) h := by
  show (if c = c then (fs.lookup f).map (fun v => (v, h)) else none) = _
  rw [if_pos rfl]; cases fs.lookup f <;> rfl
@[simp] theorem mapV_some : mapV (some v) h = some (v, h) := (rfl)
@[simp] theorem lenV_some : lenV (some xs) h = some (.int xs.length, h) := (rfl)
@[simp] theorem eqK_some {n b : Bool} : eqK n h (some b) = some (.bl (if n then !b else b), h) := (rfl)
theorem putK_some (hl : fs.length < 900) : putK' c i f y e h (some (.ins c fs)) = some (.nx e, h.set i (.ins c (putFA f y fs))) := if_pos ⟨rfl, hl⟩
@[simp] theorem lstK_lst : lstK (some (.lst xs)) = some xs := (rfl)
@[simp] theorem lstK_rol : lstK (some (.rol xs)) = some xs := (rfl)
@[simp] theorem isLst_lst : isLst (some (.lst xs)) = true := (rfl)
theorem appK_lst (hl : xs.length < 1000000) : appK i y h (some (.lst xs)) = some (.non, h.set i (.lst (xs ++ [y]))) := if_pos hl
@[simp] theorem popK_lst : popK i h (some (.lst (xs ++ [y]))) = some (y, h.set i (.lst xs)) := by
  show (match (xs ++ [y])[(xs ++ [y]).length - 1]? with | some z => some (z, h.set i (.lst (xs ++ [y]).dropLast)) | none => none) = _
  rw [List.length_append, List.length_singleton, Nat.add_sub_cancel, List.getElem?_concat_length, List.dropLast_concat]
@[simp] theorem slcK_lst {lo hi : Option Int} : slcK lo hi h (some (.lst xs)) = some (.ref h.length, h ++ [.lst (cutA xs lo hi)]) := (rfl)
-- the parts of a text
@[simp] theorem e_mC : mC v e h = some (.ok v, h) := (rfl)
@[simp] theorem e_mVar : mVar i e h = vrK e[i]? h := (rfl)
@[simp] theorem e_mNil : mNil e h = some (.ok [], h) := (rfl)
@[simp] theorem e_mPn : mPn e h = some (.ok none, h) := (rfl)
@[simp] theorem e_mNx : mNx e h = some (.nx e, h) := (rfl)
@[simp] theorem e_mNo : mNo e h = none := (rfl)
@[simp] theorem e_mRetN : mRetN e h = some (.rt .non, h) := (rfl)
@[simp] theorem e_mBk : mBk e h = some (.bk e, h) := (rfl)
@[simp] theorem e_mCt : mCt e h = some (.ct e, h) := (rfl)
@[simp] theorem e_mB {m : AE} : mB m e h = tBK (m e h) := (rfl)
@[simp] theorem e_mPs {m : AE} : mPs m e h = pSK (m e h) := (rfl)
@[simp] theorem e_mSeq {a b : AS} : mSeq a b e h = sqK b (a e h) := (rfl)
@[simp] theorem e_mFn {N : Nat} {mb : AS} {avs : List AV} : mFn N mb avs h = fnK (mb (avs.map some ++ List.replicate (N - avs.length) none) h) := (rfl)
@[simp] theorem e_gA : gA i v e h = some (e.set i (some v), h) := (rfl)
@[simp] theorem e_gsNil : gsNil [] e h = some (e, h) := (rfl)
@[simp] theorem e_gsCons {g : AG} {gs : AGs} : gsCons g gs (v :: vs) e h = gsK gs vs (g v e h) := (rfl)
@[simp] theorem e_gTupA {gs : AGs} : gTupA gs (.tup xs) e h = gs xs e h := (rfl)
end
def m1K (f : F1) (o : OV AV) : OV AV := bnd o fun x h => lft (f x h)
@[simp] theorem m1K_ok (f : F1) {x : AV} {h : List AO} : m1K f (some (.ok x, h)) = lft (f x h) := (rfl)
@[simp] theorem e_m1 {f : F1} {ma : AE} {e : AEnv} {h : List AO} : m1 f ma e h = m1K f (ma e h) := (rfl)
def m2L (f : F2) (x : AV) (o : OV AV) : OV AV := bnd o fun y h => lft (f x y h)
@[simp] theorem m2L_ok (f : F2) (x : AV) {y : AV} {h : List AO} : m2L f x (some (.ok y, h)) = lft (f x y h) := (rfl)
def m2K (f : F2) (mb : AE) (e : AEnv) (o : OV AV) : OV AV := bnd o fun x h => m2L f x (mb e h)
@[simp] theorem m2K_ok (f : F2) (mb : AE) (e : AEnv) {x : AV} {h : List AO} : m2K f mb e (some (.ok x, h)) = m2L f x (mb e h) := (rfl)
@[simp] theorem e_m2 {f : F2} {ma mb : AE} {e : AEnv} {h : List AO} : m2 f ma mb e h = m2K f mb e (ma e h) := (rfl)
def mC1K (f : FL) (o : OV (List AV)) : OV AV := bnd o fun xs h => lft (f xs h)
@[simp] theorem mC1K_ok (f : FL) {xs : (List AV)} {h : List AO} : mC1K f (some (.ok xs, h)) = lft (f xs h) := (rfl)
@[simp] theorem e_mC1 {f : FL} {ma : EL} {e : AEnv} {h : List AO} : mC1 f ma e h = mC1K f (ma e h) := (rfl)
def mCoL (x : AV) (o : OV (List AV)) : OV (List AV) := bnd o fun xs h => some (.ok (x :: xs), h)
@[simp] theorem mCoL_ok (x : AV) {xs : (List AV)} {h : List AO} : mCoL x (some (.ok xs, h)) = some (.ok (x :: xs), h) := (rfl)
def mCoK (mr : EL) (e : AEnv) (o : OV AV) : OV (List AV) := bnd o fun x h => mCoL x (mr e h)
@[simp] theorem mCoK_ok (mr : EL) (e : AEnv) {x : AV} {h : List AO} : mCoK mr e (some (.ok x, h)) = mCoL x (mr e h) := (rfl)
@[simp] theorem e_mCons {ma : AE} {mr : EL} {e : AEnv} {h : List AO} : mCons ma mr e h = mCoK mr e (ma e h) := (rfl)
def mTupK  (o : OV (List AV)) : OV AV := bnd o fun xs h => if xs.length ≤ 1000000 then some (.ok (.tup xs), h) else none
@[simp] theorem mTupK_ok  {xs : (List AV)} {h : List AO} : mTupK  (some (.ok xs, h)) = if xs.length ≤ 1000000 then some (.ok (.tup xs), h) else none := (rfl)
@[simp] theorem e_mTup {ma : EL} {e : AEnv} {h : List AO} : mTup ma e h = mTupK (ma e h) := (rfl)
def mLstK  (o : OV (List AV)) : OV AV := bnd o fun xs h => if xs.length ≤ 1000000 then some (.ok (.ref h.length), h ++ [.lst xs]) else none
@[simp] theorem mLstK_ok  {xs : (List AV)} {h : List AO} : mLstK  (some (.ok xs, h)) = if xs.length ≤ 1000000 then some (.ok (.ref h.length), h ++ [.lst xs]) else none := (rfl)
@[simp] theorem e_mLst {ma : EL} {e : AEnv} {h : List AO} : mLst ma e h = mLstK (ma e h) := (rfl)
def mIfK (a b : AE) (e : AEnv) (o : OV Bool) : OV AV := bnd o fun k h => if k = true then a e h else b e h
@[simp] theorem mIfK_ok (a b : AE) (e : AEnv) {k : Bool} {h : List AO} : mIfK a b e (some (.ok k, h)) = if k = true then a e h else b e h := (rfl)
@[simp] theorem e_mIf {c : EB} {a b : AE} {e : AEnv} {h : List AO} : mIf c a b e h = mIfK a b e (c e h) := (rfl)
def andK (b : EB) (e : AEnv) (o : OV Bool) : OV Bool := bnd o fun c h => if c = true then b e h else some (.ok false, h)
@[simp] theorem andK_ok (b : EB) (e : AEnv) {c : Bool} {h : List AO} : andK b e (some (.ok c, h)) = if c = true then b e h else some (.ok false, h) := (rfl)
@[simp] theorem e_mAnd {a b : EB} {e : AEnv} {h : List AO} : mAnd a b e h = andK b e (a e h) := (rfl)
def orK (b : EB) (e : AEnv) (o : OV Bool) : OV Bool := bnd o fun c h => if c = true then some (.ok true, h) else b e h
@[simp] theorem orK_ok (b : EB) (e : AEnv) {c : Bool} {h : List AO} : orK b e (some (.ok c, h)) = if c = true then some (.ok true, h) else b e h := (rfl)
@[simp] theorem e_mOr {a b : EB} {e : AEnv} {h : List AO} : mOr a b e h = orK b e (a e h) := (rfl)
def notK  (o : OV Bool) : OV Bool := bnd o fun c h => some (.ok (!c), h)
@[simp] theorem notK_ok  {c : Bool} {h : List AO} : notK  (some (.ok c, h)) = some (.ok (!c), h) := (rfl)
@[simp] theorem e_mNot {a : EB} {e : AEnv} {h : List AO} : mNot a e h = notK (a e h) := (rfl)
def andVK (mb : AE) (e : AEnv) (o : OV Bool) : OV AV := bnd o fun c h => if c = true then mb e h else some (.ok (.bl false), h)
@[simp] theorem andVK_ok (mb : AE) (e : AEnv) {c : Bool} {h : List AO} : andVK mb e (some (.ok c, h)) = if c = true then mb e h else some (.ok (.bl false), h) := (rfl)
@[simp] theorem e_mAndV {ma mb : AE} {e : AEnv} {h : List AO} : mAndV ma mb e h = andVK mb e (tBK (ma e h)) := (rfl)
def orVK (mb : AE) (e : AEnv) (o : OV Bool) : OV AV := bnd o fun c h => if c = true then some (.ok (.bl true), h) else mb e h
@[simp] theorem orVK_ok (mb : AE) (e : AEnv) {c : Bool} {h : List AO} : orVK mb e (some (.ok c, h)) = if c = true then some (.ok (.bl true), h) else mb e h := (rfl)
@[simp] theorem e_mOrV {ma mb : AE} {e : AEnv} {h : List AO} : mOrV ma mb e h = orVK mb e (tBK (ma e h)) := (rfl)
def notVK  (o : OV Bool) : OV AV := bnd o fun c h => some (.ok (.bl (!c)), h)
@[simp] theorem notVK_ok  {c : Bool} {h : List AO} : notVK  (some (.ok c, h)) = some (.ok (.bl (!c)), h) := (rfl)
@[simp] theorem e_mNotV {ma : AE} {e : AEnv} {h : List AO} : mNotV ma e h = notVK (tBK (ma e h)) := (rfl)
def m3sM (f : F3) (x : AV) (l : Option Int) (o : OV (Option Int)) : OV AV := bnd o fun u h => lft (f x l u h)
@[simp] theorem m3sM_ok (f : F3) (x : AV) (l : Option Int) {u : (Option Int)} {h : List AO} : m3sM f x l (some (.ok u, h)) = lft (f x l u h) := (rfl)
def m3sL (f : F3) (x : AV) (mh : EO) (e : AEnv) (o : OV (Option Int)) : OV AV := bnd o fun l h => m3sM f x l (mh e h)
@[simp] theorem m3sL_ok (f : F3) (x : AV) (mh : EO) (e : AEnv) {l : (Option Int)} {h : List AO} : m3sL f x mh e (some (.ok l, h)) = m3sM f x l (mh e h) := (rfl)
def m3sK (f : F3) (ml mh : EO) (e : AEnv) (o : OV AV) : OV AV := bnd o fun x h => m3sL f x mh e (ml e h)
@[simp] theorem m3sK_ok (f : F3) (ml mh : EO) (e : AEnv) {x : AV} {h : List AO} : m3sK f ml mh e (some (.ok x, h)) = m3sL f x mh e (ml e h) := (rfl)
@[simp] theorem e_m3s {f : F3} {ma : AE} {ml mh : EO} {e : AEnv} {h : List AO} : m3s f ma ml mh e h = m3sK f ml mh e (ma e h) := (rfl)
def mBML (f : FM) (x : AV) (o : OV (List AV)) : OV AV := bnd o fun xs h => lft (f x xs h)
@[simp] theorem mBML_ok (f : FM) (x : AV) {xs : (List AV)} {h : List AO} : mBML f x (some (.ok xs, h)) = lft (f x xs h) := (rfl)
def mBMK (T : Ty) (f : FM) (ma : EL) (e : AEnv) (o : OV AV) : OV AV := bnd o fun x h => if tyA T h x = true then mBML f x (ma e h) else none
@[simp] theorem mBMK_ok (T : Ty) (f : FM) (ma : EL) (e : AEnv) {x : AV} {h : List AO} : mBMK T f ma e (some (.ok x, h)) = if tyA T h x = true then mBML f x (ma e h) else none := (rfl)
@[simp] theorem e_mBM {T : Ty} {f : FM} {mo : AE} {ma : EL} {e : AEnv} {h : List AO} : mBM T f mo ma e h = mBMK T f ma e (mo e h) := (rfl)
def mCallL (m : List AV → AM AV) (davs : List AV) (o : OV (List AV)) : OV AV := bnd o fun vs h => m (vs ++ davs) h
@[simp] theorem mCallL_ok (m : List AV → AM AV) (davs : List AV) {vs : (List AV)} {h : List AO} : mCallL m davs (some (.ok vs, h)) = m (vs ++ davs) h := (rfl)
@[simp] theorem e_mCall {m : List AV → AM AV} {davs : List AV} {ma : EL} {e : AEnv} {h : List AO} : mCall m davs ma e h = mCallL m davs (ma e h) := (rfl)
def mCalKL (m : List AV → AM AV) (g : List AV → List AV → List AV) (vs : List AV) (o : OV (List AV)) : OV AV := bnd o fun zs h => m (g vs zs) h
@[simp] theorem mCalKL_ok (m : List AV → AM AV) (g : List AV → List AV → List AV) (vs : List AV) {zs : (List AV)} {h : List AO} : mCalKL m g vs (some (.ok zs, h)) = m (g vs zs) h := (rfl)
def mCalKK (m : List AV → AM AV) (g : List AV → List AV → List AV) (mk : EL) (e : AEnv) (o : OV (List AV)) : OV AV := bnd o fun vs h => mCalKL m g vs (mk e h)
@[simp] theorem mCalKK_ok (m : List AV → AM AV) (g : List AV → List AV → List AV) (mk : EL) (e : AEnv) {vs : (List AV)} {h : List AO} : mCalKK m g mk e (some (.ok vs, h)) = mCalKL m g vs (mk e h) := (rfl)
@[simp] theorem e_mCallK {m : List AV → AM AV} {g : List AV → List AV → List AV} {ma mk : EL} {e : AEnv} {h : List AO} : mCallK m g ma mk e h = mCalKK m g mk e (ma e h) := (rfl)
def metL (m : List AV → AM AV) (davs : List AV) (i : Nat) (o : OV (List AV)) : OV AV := bnd o fun vs h => m (.ref i :: (vs ++ davs)) h
@[simp] theorem metL_ok {m : List AV → AM AV} {davs vs : List AV} {i : Nat} {h : List AO} : metL m davs i (some (.ok vs, h)) = m (.ref i :: (vs ++ davs)) h := (rfl)
def metK (c i : Nat) (nm : Str) (m : List AV → AM AV) (davs : List AV) (ma : EL) (e : AEnv) (h : List AO) (o : Option AO) : OV AV := match o with
  | some (.ins d fs) => if d = c ∧ fs.lookup nm = none then metL m davs i (ma e h) else none
  | _ => none
theorem metK_some {c i : Nat} {nm : Str} {m : List AV → AM AV} {davs : List AV} {ma : EL} {e : AEnv} {h : List AO} {fs : List (Str × AV)} (hl : fs.lookup nm = none) : metK c i nm m davs ma e h (some (.ins c fs)) = metL m davs i (ma e h) := if_pos ⟨rfl, hl⟩
def metX (c : Nat) (nm : Str) (m : List AV → AM AV) (davs : List AV) (ma : EL) (e : AEnv) (h : List AO) (x : AV) : OV AV := match x with
  | .ref i => metK c i nm m davs ma e h h[i]?
  | _ => none
@[simp] theorem metX_ref {c i : Nat} {nm : Str} {m : List AV → AM AV} {davs : List AV} {ma : EL} {e : AEnv} {h : List AO} : metX c nm m davs ma e h (.ref i) = metK c i nm m davs ma e h h[i]? := (rfl)
def metM (c : Nat) (nm : Str) (m : List AV → AM AV) (davs : List AV) (ma : EL) (e : AEnv) (o : OV AV) : OV AV := bnd o fun x h => metX c nm m davs ma e h x
@[simp] theorem metM_ok (c : Nat) (nm : Str) (m : List AV → AM AV) (davs : List AV) (ma : EL) (e : AEnv) {x : AV} {h : List AO} : metM c nm m davs ma e (some (.ok x, h)) = metX c nm m davs ma e h x := (rfl)
@[simp] theorem e_mMeth {c : Nat} {nm : Str} {m : List AV → AM AV} {davs : List AV} {mo : AE} {ma : EL} {e : AEnv} {h : List AO} : mMeth c nm m davs mo ma e h = metM c nm m davs ma e (mo e h) := (rfl)
def dropK (e : AEnv) (o : OV AV) : OS := bndS o e fun x h => some (.nx e, h)
@[simp] theorem dropK_ok (e : AEnv) {x : AV} {h : List AO} : dropK e (some (.ok x, h)) = some (.nx e, h) := (rfl)
@[simp] theorem e_mDrop {m : AE} {e : AEnv} {h : List AO} : mDrop m e h = dropK e (m e h) := (rfl)
def retK (e : AEnv) (o : OV AV) : OS := bndS o e fun x h => some (.rt x, h)
@[simp] theorem retK_ok (e : AEnv) {x : AV} {h : List AO} : retK e (some (.ok x, h)) = some (.rt x, h) := (rfl)
@[simp] theorem e_mRet {m : AE} {e : AEnv} {h : List AO} : mRet m e h = retK e (m e h) := (rfl)
def ifSK (a b : AS) (e : AEnv) (o : OV Bool) : OS := bndS o e fun d h => if d = true then a e h else b e h
@[simp] theorem ifSK_ok (a b : AS) (e : AEnv) {d : Bool} {h : List AO} : ifSK a b e (some (.ok d, h)) = if d = true then a e h else b e h := (rfl)
@[simp] theorem e_mIfS {c : EB} {a b : AS} {e : AEnv} {h : List AO} : mIfS c a b e h = ifSK a b e (c e h) := (rfl)
def asgK (g : AG) (e : AEnv) (o : OV AV) : OS := bndS o e fun x h => asK (g x e h)
@[simp] theorem asgK_ok (g : AG) (e : AEnv) {x : AV} {h : List AO} : asgK g e (some (.ok x, h)) = asK (g x e h) := (rfl)
@[simp] theorem e_mAsg {m : AE} {g : AG} {e : AEnv} {h : List AO} : mAsg m g e h = asgK g e (m e h) := (rfl)
def parL (i j : Nat) (e : AEnv) (vs : List AV) (h : List AO) : OS := match vs with
  | [v, w] => some (.nx ((e.set i (some v)).set j (some w)), h)
  | _ => none
@[simp] theorem parL_two {i j : Nat} {e : AEnv} {h : List AO} {v w : AV} : parL i j e [v, w] h = some (.nx ((e.set i (some v)).set j (some w)), h) := (rfl)
def parK (i j : Nat) (e : AEnv) (o : OV (List AV)) : OS := bndS o e fun vs h => parL i j e vs h
@[simp] theorem parK_ok (i j : Nat) (e : AEnv) {vs : (List AV)} {h : List AO} : parK i j e (some (.ok vs, h)) = parL i j e vs h := (rfl)
@[simp] theorem e_mPar {i j : Nat} {ma : EL} {e : AEnv} {h : List AO} : mPar i j ma e h = parK i j e (ma e h) := (rfl)
def ptX (c : Nat) (f : Str) (y : AV) (e : AEnv) (h : List AO) (x : AV) : OS := match x with
  | .ref i => putK' c i f y e h h[i]?
  | _ => none
@[simp] theorem ptX_ref {c i : Nat} {f : Str} {y : AV} {e : AEnv} {h : List AO} : ptX c f y e h (.ref i) = putK' c i f y e h h[i]? := (rfl)
def fSL (c : Nat) (f : Str) (y : AV) (e : AEnv) (o : OV AV) : OS := bndS o e fun x h => ptX c f y e h x
@[simp] theorem fSL_ok (c : Nat) (f : Str) (y : AV) (e : AEnv) {x : AV} {h : List AO} : fSL c f y e (some (.ok x, h)) = ptX c f y e h x := (rfl)
def fSK (c : Nat) (f : Str) (mo : AE) (e : AEnv) (o : OV AV) : OS := bndS o e fun y h => fSL c f y e (mo e h)
@[simp] theorem fSK_ok (c : Nat) (f : Str) (mo : AE) (e : AEnv) {y : AV} {h : List AO} : fSK c f mo e (some (.ok y, h)) = fSL c f y e (mo e h) := (rfl)
@[simp] theorem e_mFldS {c : Nat} {f : Str} {mo mv : AE} {e : AEnv} {h : List AO} : mFldS c f mo mv e h = fSK c f mo e (mv e h) := (rfl)
def dpF (v x y : AV) (e : AEnv) (h : List AO) : OS := match x with
  | .ref i => match h[i]?, keyA y with
    | some (.dct kvs), some k => if kvs.length < 100000 then some (.nx e, h.set i (.dct (putA kvs k v))) else none
    | _, _ => none
  | _ => none
def dpM (v x : AV) (e : AEnv) (o : OV AV) : OS := bndS o e fun y h => dpF v x y e h
@[simp] theorem dpM_ok (v x : AV) (e : AEnv) {y : AV} {h : List AO} : dpM v x e (some (.ok y, h)) = dpF v x y e h := (rfl)
def dpL (v : AV) (mk : AE) (e : AEnv) (o : OV AV) : OS := bndS o e fun x h => dpM v x e (mk e h)
@[simp] theorem dpL_ok (v : AV) (mk : AE) (e : AEnv) {x : AV} {h : List AO} : dpL v mk e (some (.ok x, h)) = dpM v x e (mk e h) := (rfl)
def dpK (mo mk : AE) (e : AEnv) (o : OV AV) : OS := bndS o e fun v h => dpL v mk e (mo e h)
@[simp] theorem dpK_ok (mo mk : AE) (e : AEnv) {v : AV} {h : List AO} : dpK mo mk e (some (.ok v, h)) = dpL v mk e (mo e h) := (rfl)
@[simp] theorem e_mDput {mo mk mv : AE} {e : AEnv} {h : List AO} : mDput mo mk mv e h = dpK mo mk e (mv e h) := (rfl)
section
variable {e : AEnv} {h h1 h2 : List AO} {v x y : AV} {i j c d k : Nat} {f : Str} {fs : List (Str × AV)} {xs ys vs : List AV}
-- the operations
@[simp] theorem oFld_ref : oFld c f (.ref i) h = fldK c f h h[i]? := (rfl)
@[simp] theorem oAdd_int {i j : Int} : oAdd (.int i) (.int j) h = some (.int (i + j), h) := (rfl)
@[simp] theorem oSub_int {i j : Int} : oSub (.int i) (.int j) h = some (.int (i - j), h) := (rfl)
@[simp] theorem oNeg_int {i : Int} : oNeg (.int i) h = some (.int (-i), h) := (rfl)
@[simp] theorem cLt_int {i j : Int} : cLt (.int i) (.int j) h = some (.bl (decide (i < j)), h) := (rfl)
@[simp] theorem cLe_int {i j : Int} : cLe (.int i) (.int j) h = some (.bl (decide (i ≤ j)), h) := (rfl)
@[simp] theorem cGt_int {i j : Int} : cGt (.int i) (.int j) h = some (.bl (decide (j < i)), h) := (rfl)
@[simp] theorem cGe_int {i j : Int} : cGe (.int i) (.int j) h = some (.bl (decide (j ≤ i)), h) := (rfl)
@[simp] theorem cEq_k {n : Bool} : cEq n x y h = eqK n h (eqA h x y) := by unfold cEq eqK; cases eqA h x y <;> rfl
@[simp] theorem eqA_int {i j : Int} : eqA h (.int i) (.int j) = some (decide (i = j)) := (rfl)
@[simp] theorem eqA_str {i j : Str} : eqA h (.str i) (.str j) = some (decide (i = j)) := (rfl)
@[simp] theorem itemsA_tup : itemsA h (.tup xs) = some xs := (rfl)
@[simp] theorem itemsA_ref : itemsA h (.ref i) = lstK h[i]? := (rfl)
@[simp] theorem fLen_tup : fLen [.tup xs] h = some (.int xs.length, h) := (rfl)
@[simp] theorem itemsA_ktp : itemsA h (.ktp xs) = some xs := (rfl)
@[simp] theorem fLen_ref : fLen [.ref i] h = lenV (lstK h[i]?) h := by
  show (lstK h[i]?).map (fun ys => (AV.int ys.length, h)) = _
  cases lstK h[i]? <;> rfl
@[simp] theorem tyA_lst : tyA .lst h (.ref i) = isLst h[i]? := (rfl)
@[simp] theorem fAppend_ref : fAppend (.ref i) [y] h = appK i y h h[i]? := (rfl)
@[simp] theorem fPop_ref : fPop (.ref i) [] h = popK i h h[i]? := (rfl)
@[simp] theorem oSl_ref {lo hi : Option Int} : oSl (.ref i) lo hi h = slcK lo hi h h[i]? := (rfl)
@[simp] theorem isN_non : cIsN false .non .non h = some (.bl true, h) := (rfl)
@[simp] theorem isN_int {i : Int} : cIsN false (.int i) .non h = some (.bl false, h) := (rfl)
@[simp] theorem isN_str {i : Str} : cIsN false (.str i) .non h = some (.bl false, h) := (rfl)
@[simp] theorem notN_non : cIsN true .non .non h = some (.bl false, h) := (rfl)
@[simp] theorem notN_tup : cIsN true (.tup xs) .non h = some (.bl true, h) := (rfl)
theorem get_app {o : AO} (q : h[i]? = some o) (h1 : List AO) : (h ++ h1)[i]? = some o := by
  rw [List.getElem?_append_left (List.getElem?_eq_some_iff.mp q).1]; exact q
theorem set_app {o : AO} (q : h[i]? = some o) (h1 : List AO) (y : AO) : (h ++ h1).set i y = h.set i y ++ h1 := List.set_append_left _ _ (List.getElem?_eq_some_iff.mp q).1
theorem set_at {o : AO} (q : h[i]? = some o) (y : AO) : (h.set i y)[i]? = some y := List.getElem?_set_self (List.getElem?_eq_some_iff.mp q).1
theorem set_ne (q : i ≠ j) (y : AO) : (h.set i y)[j]? = h[j]? := List.getElem?_set_ne q
theorem lt_of_at {o : AO} (q : h[i]? = some o) : i < h.length := (List.getElem?_eq_some_iff.mp q).1
end

/-! ### loops -/
section
variable {I : AI} {g : AG} {b : AS} {c : EB} {t : EB} {el : AE} {e : AEnv} {h : List AO} {d f i n : Nat}
theorem forL_inv (Iv : Nat → AEnv → List AO → Prop) (n : Nat) (hstop : ∀ e h, Iv n e h → I.at n h = some none)
    (hstep : ∀ i e h, i < n → Iv i e h → ∃ v e1 h1 e2 h2, I.at i h = some (some v) ∧ g v e h = some (e1, h1) ∧ b e1 h1 = some (.nx e2, h2) ∧ Iv (i + 1) e2 h2) :
    ∀ (k i f : Nat) (e : AEnv) (h : List AO), i + k = n → k < f → Iv i e h → ∃ e' h', forL I g b f i e h = some (.nx e', h') ∧ Iv n e' h'
  | 0, i, f + 1, e, h, hk, hf, h0 => by
    have : i = n := by omega
    subst this
    exact ⟨e, h, by unfold forL; rw [hstop e h h0], h0⟩
  | k + 1, i, f + 1, e, h, hk, hf, h0 => by
    obtain ⟨v, e1, h1, e2, h2, q1, q2, q3, q4⟩ := hstep i e h (by omega) h0
    obtain ⟨e', h', r1, r2⟩ := forL_inv Iv n hstop hstep k (i + 1) f e2 h2 (by omega) (by omega) q4
    exact ⟨e', h', by unfold forL; simp only [q1, q2, q3]; exact r1, r2⟩
  | _, _, 0, _, _, _, hf, _ => by omega
def frA (I : AI) (g : AG) (b : AS) (f i : Nat) (o : OS) : OS := match o with
  | some (.nx e2, h2) => forL I g b f (i + 1) e2 h2
  | some (.ct e2, h2) => forL I g b f (i + 1) e2 h2
  | some (.bk e2, h2) => some (.nx e2, h2)
  | r => r
def frB (I : AI) (g : AG) (b : AS) (f i : Nat) (o : Option (AEnv × List AO)) : OS := match o with
  | none => none
  | some (e1, h1) => frA I g b f i (b e1 h1)
def frC (I : AI) (g : AG) (b : AS) (f i : Nat) (e : AEnv) (h : List AO) (o : Option (Option AV)) : OS := match o with
  | none => none
  | some none => some (.nx e, h)
  | some (some v) => frB I g b f i (g v e h)
theorem forL_st : forL I g b (f + 1) i e h = frC I g b f i e h (I.at i h) := (rfl)
@[simp] theorem frC_end : frC I g b f i e h (some none) = some (.nx e, h) := (rfl)
@[simp] theorem frC_it {v : AV} : frC I g b f i e h (some (some v)) = frB I g b f i (g v e h) := (rfl)
@[simp] theorem frB_some : frB I g b f i (some (e, h)) = frA I g b f i (b e h) := (rfl)
@[simp] theorem frA_nx : frA I g b f i (some (.nx e, h)) = forL I g b f (i + 1) e h := (rfl)
@[simp] theorem frA_ct : frA I g b f i (some (.ct e, h)) = forL I g b f (i + 1) e h := (rfl)
@[simp] theorem frA_bk : frA I g b f i (some (.bk e, h)) = some (.nx e, h) := (rfl)
@[simp] theorem frA_rt {v : AV} : frA I g b f i (some (.rt v, h)) = some (.rt v, h) := (rfl)
def whA (c : EB) (b : AS) (f : Nat) (o : OS) : OS := match o with
  | some (.nx e2, h2) => whL c b f e2 h2
  | some (.ct e2, h2) => whL c b f e2 h2
  | some (.bk e2, h2) => some (.nx e2, h2)
  | r => r
def whB (c : EB) (b : AS) (f : Nat) (e : AEnv) (o : OV Bool) : OS := match o with
  | none => none
  | some (.ex c k, h1) => some (.ex c k e, h1)
  | some (.ok false, h1) => some (.nx e, h1)
  | some (.ok true, h1) => whA c b f (b e h1)
theorem whL_st : whL c b (f + 1) e h = whB c b f e (c e h) := (rfl)
@[simp] theorem whB_f : whB c b f e (some (.ok false, h)) = some (.nx e, h) := (rfl)
@[simp] theorem whB_t : whB c b f e (some (.ok true, h)) = whA c b f (b e h) := (rfl)
@[simp] theorem whA_nx : whA c b f (some (.nx e, h)) = whL c b f e h := (rfl)
@[simp] theorem whA_ct : whA c b f (some (.ct e, h)) = whL c b f e h := (rfl)
@[simp] theorem whA_bk : whA c b f (some (.bk e, h)) = some (.nx e, h) := (rfl)
@[simp] theorem whA_rt {v : AV} : whA c b f (some (.rt v, h)) = some (.rt v, h) := (rfl)
def lcF (I : AI) (g : AG) (t : EB) (el : AE) (d : Nat) (e : AEnv) (f i : Nat) (y : AV) (h : List AO) (o : Option AO) : Option (List AO) := match o with
  | some (.lst acc) => if acc.length < 100000 then lcL I g t el d e f (i + 1) (h.set d (.lst (acc ++ [y]))) else none
  | _ => none
def lcE (I : AI) (g : AG) (t : EB) (el : AE) (d : Nat) (e : AEnv) (f i : Nat) (o : OV AV) : Option (List AO) := match o with
  | some (.ok y, h3) => lcF I g t el d e f i y h3 h3[d]?
  | _ => none
def lcD (I : AI) (g : AG) (t : EB) (el : AE) (d : Nat) (e : AEnv) (f i : Nat) (e1 : AEnv) (o : OV Bool) : Option (List AO) := match o with
  | some (.ok false, h2) => lcL I g t el d e f (i + 1) h2
  | some (.ok true, h2) => lcE I g t el d e f i (el e1 h2)
  | _ => none
def lcB (I : AI) (g : AG) (t : EB) (el : AE) (d : Nat) (e : AEnv) (f i : Nat) (o : Option (AEnv × List AO)) : Option (List AO) := match o with
  | none => none
  | some (e1, h1) => lcD I g t el d e f i e1 (t e1 h1)
def lcA (I : AI) (g : AG) (t : EB) (el : AE) (d : Nat) (e : AEnv) (f i : Nat) (h : List AO) (o : Option (Option AV)) : Option (List AO) := match o with
  | none => none
  | some none => some h
  | some (some v) => lcB I g t el d e f i (g v e h)
theorem lcL_st : lcL I g t el d e (f + 1) i h = lcA I g t el d e f i h (I.at i h) := by
  rw [lcL]
  unfold lcA lcB lcD lcE lcF
  rcases I.at i h with _ | _ | v
  · rfl
  · rfl
  · dsimp only
    rcases g v e h with _ | ⟨e1, h1⟩
    · rfl
    · dsimp only
      rcases t e1 h1 with _ | ⟨_ | _, h2⟩
      · rfl
      · rename_i b
        cases b
        · rfl
        · dsimp only
          rcases el e1 h2 with _ | ⟨_ | _, h3⟩
          · rfl
          · first
            | rfl
            | (rcases h3[d]? with _ | o
               · rfl
               · cases o <;> rfl)
          · rfl
      · rfl
@[simp] theorem lcA_end : lcA I g t el d e f i h (some none) = some h := (rfl)
@[simp] theorem lcA_it {v : AV} : lcA I g t el d e f i h (some (some v)) = lcB I g t el d e f i (g v e h) := (rfl)
@[simp] theorem lcB_some {e1 : AEnv} : lcB I g t el d e f i (some (e1, h)) = lcD I g t el d e f i e1 (t e1 h) := (rfl)
@[simp] theorem lcD_f {e1 : AEnv} : lcD I g t el d e f i e1 (some (.ok false, h)) = lcL I g t el d e f (i + 1) h := (rfl)
@[simp] theorem lcD_t {e1 : AEnv} : lcD I g t el d e f i e1 (some (.ok true, h)) = lcE I g t el d e f i (el e1 h) := (rfl)
@[simp] theorem lcE_ok {y : AV} : lcE I g t el d e f i (some (.ok y, h)) = lcF I g t el d e f i y h h[d]? := (rfl)
@[simp] theorem lcF_lst {y : AV} {acc : List AV} : lcF I g t el d e f i y h (some (.lst acc)) = if acc.length < 100000 then lcL I g t el d e f (i + 1) (h.set d (.lst (acc ++ [y]))) else none := (rfl)
@[simp] theorem e_mYes : mYes e h = some (.ok true, h) := (rfl)
def lcZ (d : Nat) (o : Option (List AO)) : OV AV := match o with
  | some h2 => some (.ok (.ref d), h2)
  | none => none
@[simp] theorem lcZ_some : lcZ d (some h) = some (.ok (.ref d), h) := (rfl)
def mLcK (N : Nat) (vs : List Nat) (g : AG) (t : EB) (el : AE) (e : AEnv) (o : OV AI) : OV AV := bnd o fun I h1 => lcZ h1.length (lcL I g t el h1.length (awipe e vs) N 0 (h1 ++ [.lst []]))
@[simp] theorem e_mLc {N : Nat} {vs : List Nat} {mi : AEnv → AM AI} : mLc N vs mi g t el e h = mLcK N vs g t el e (mi e h) := (rfl)
@[simp] theorem mLcK_ok {N : Nat} {vs : List Nat} : mLcK N vs g t el e (some (.ok I, h)) = lcZ h.length (lcL I g t el h.length (awipe e vs) N 0 (h ++ [.lst []])) := (rfl)
def mForK (N : Nat) (g : AG) (b : AS) (e : AEnv) (o : OV AI) : OS := bndS o e fun I h1 => forL I g b N 0 e h1
@[simp] theorem e_mFor {N : Nat} {mi : AEnv → AM AI} : mFor N mi g b e h = mForK N g b e (mi e h) := (rfl)
@[simp] theorem mForK_ok {N : Nat} : mForK N g b e (some (.ok I, h)) = forL I g b N 0 e h := (rfl)
def iSqF (x : AV) (h : List AO) : OV AI := match x with
  | .str z => some (.ok (.str z), h)
  | x => (toSrc h x).map fun s => (.ok (.src s), h)
def iSqK (o : OV AV) : OV AI := bnd o iSqF
@[simp] theorem e_iSq {m : AE} : iSq m e h = iSqK (m e h) := (rfl)
@[simp] theorem iSqK_ok {x : AV} : iSqK (some (.ok x, h)) = iSqF x h := (rfl)
@[simp] theorem iSqF_str {z : Str} : iSqF (.str z) h = some (.ok (.str z), h) := (rfl)
@[simp] theorem iSqF_tup {xs : List AV} : iSqF (.tup xs) h = some (.ok (.src (.tup xs)), h) := (rfl)
def srcK (k : Nat) (h : List AO) (o : Option (List AV)) : OV AI := match o with
  | some _ => some (.ok (.src (.lst k)), h)
  | none => none
@[simp] theorem srcK_some {k : Nat} {xs : List AV} : srcK k h (some xs) = some (.ok (.src (.lst k)), h) := (rfl)
@[simp] theorem iSqF_ref {k : Nat} : iSqF (.ref k) h = srcK k h (lstK h[k]?) := by
  cases q : h[k]? with
  | none => simp [iSqF, toSrc, Src.items, lstK, srcK, q]
  | some o => cases o <;> simp [iSqF, toSrc, Src.items, lstK, srcK, q]
def iR1F (vs : List AV) (h : List AO) : OV AI := match vs with
  | [.int j] => if rngOk j = true then some (.ok (.rng 0 j.toNat), h) else none
  | _ => none
def iR1K (o : OV (List AV)) : OV AI := bnd o iR1F
@[simp] theorem e_iR1 {ma : EL} : iR1 ma e h = iR1K (ma e h) := (rfl)
@[simp] theorem iR1K_ok {vs : List AV} : iR1K (some (.ok vs, h)) = iR1F vs h := (rfl)
@[simp] theorem iR1F_one {j : Int} : iR1F [.int j] h = if rngOk j = true then some (.ok (.rng 0 j.toNat), h) else none := (rfl)
@[simp] theorem at_tup {xs : List AV} : AI.at (.src (.tup xs)) i h = some xs[i]? := (rfl)
def atK (i : Nat) (o : Option (List AV)) : Option (Option AV) := match o with
  | some xs => some xs[i]?
  | none => none
@[simp] theorem atK_some {xs : List AV} : atK i (some xs) = some xs[i]? := (rfl)
@[simp] theorem at_lst {k : Nat} : AI.at (.src (.lst k)) i h = atK i (lstK h[k]?) := by
  cases q : h[k]? with
  | none => simp [AI.at, Src.items, lstK, atK, q]
  | some o => cases o <;> simp [AI.at, Src.items, lstK, atK, q]
@[simp] theorem at_rng {lo : Int} {m : Nat} : AI.at (.rng lo m) i h = some (if i < m then some (.int (lo + (i : Nat))) else none) := (rfl)
def dgK (k : Key) (h : List AO) (o : Option AO) : Option (AV × List AO) := match o with
  | some (.dct kvs) => mapV (valA kvs k) h
  | _ => none
@[simp] theorem dgK_dct {k : Key} {kvs : List (Key × AV)} : dgK k h (some (.dct kvs)) = mapV (valA kvs k) h := (rfl)
@[simp] theorem oDget_str {k : Nat} {z : Str} : oDget (.ref k) (.str z) h = dgK (.inr z) h h[k]? := by
  cases q : h[k]? with
  | none => simp [oDget, dgK, q]
  | some o => cases o <;> simp [oDget, dgK, q, keyA, mapV] <;> (rename_i kvs; cases valA kvs (Sum.inr z : Key) <;> rfl)
def dpO (k : Key) (v : AV) (j : Nat) (e : AEnv) (h : List AO) (o : Option AO) : OS := match o with
  | some (.dct kvs) => if kvs.length < 100000 then some (.nx e, h.set j (.dct (putA kvs k v))) else none
  | _ => none
theorem dpO_dct {k : Key} {v : AV} {j : Nat} {kvs : List (Key × AV)} (hl : kvs.length < 100000) : dpO k v j e h (some (.dct kvs)) = some (.nx e, h.set j (.dct (putA kvs k v))) := if_pos hl
@[simp] theorem dpF_str {j : Nat} {z : Str} {v : AV} : dpF v (.ref j) (.str z) e h = dpO (.inr z) v j e h h[j]? := by
  cases q : h[j]? with
  | none => simp [dpF, dpO, q]
  | some o => cases o <;> simp [dpF, dpO, q, keyA]
theorem oMod_int {i j : Int} (q : j ≠ 0) : oMod (.int i) (.int j) h = some (.int (i.fmod j), h) := by
  show (if j = 0 then none else some (AV.int (i.fmod j))).map (fun v => (v, h)) = _
  rw [if_neg q]; rfl
theorem oFdiv_int {i j : Int} (q : j ≠ 0 ∧ j.natAbs < 1073741824) : oFdiv (.int i) (.int j) h = some (.int (i.fdiv j), h) := by
  show (if j ≠ 0 ∧ j.natAbs < 1073741824 then some (AV.int (i.fdiv j)) else none).map (fun v => (v, h)) = _
  rw [if_pos q]; rfl
theorem oMul_int {i j : Int} (q : i.natAbs.log2 + j.natAbs.log2 < 130000000) : oMul (.int i) (.int j) h = some (.int (i * j), h) := by
  show (if i.natAbs.log2 + j.natAbs.log2 < 130000000 then some (AV.int (i * j)) else none).map (fun v => (v, h)) = _
  rw [if_pos q]; rfl
theorem oPow_int {i j : Int} (q : 0 ≤ j ∧ ((i.natAbs.log2 : Int) + 1) * j ≤ 2 ^ 27) : oPow (.int i) (.int j) h = some (.int (i ^ j.toNat), h) := by
  show (if 0 ≤ j ∧ ((i.natAbs.log2 : Int) + 1) * j ≤ 2 ^ 27 then some (AV.int (i ^ j.toNat)) else none).map (fun v => (v, h)) = _
  rw [if_pos q]; rfl
@[simp] theorem fInt1_int {i : Int} : fInt1 [.int i] h = some (.int i, h) := (rfl)
theorem log2_lt' {n k : Nat} (q : n < 2 ^ k) (hk : 0 < k) : n.log2 < k := by
  by_cases z : n = 0
  · subst z; simpa using hk
  · exact (Nat.log2_lt z).mpr q
theorem log2_nn {i : Int} {k : Nat} (h0 : 0 ≤ i) (q : i < 2 ^ k) (hk : 0 < k) : i.natAbs.log2 < k := by
  refine log2_lt' ?_ hk
  have : ((i.natAbs : Nat) : Int) < ((2 ^ k : Nat) : Int) := by
    rw [Int.natAbs_of_nonneg h0]
    rw [Int.natCast_pow]
    exact q
  exact Int.ofNat_lt.mp this
def ixK (i : Int) (h : List AO) (o : Option (List AV)) : Option (AV × List AO) := match o with
  | some ys => mapV (atI ys i) h
  | none => none
@[simp] theorem ixK_some {i : Int} {ys : List AV} : ixK i h (some ys) = mapV (atI ys i) h := (rfl)
@[simp] theorem oIx_tup {i : Int} {xs : List AV} : oIx (.tup xs) (.int i) h = mapV (atI xs i) h := by
  show (atI xs i).map (fun v => (v, h)) = _
  cases atI xs i <;> rfl
@[simp] theorem oIx_ref {i : Int} {k : Nat} : oIx (.ref k) (.int i) h = ixK i h (lstK h[k]?) := by
  cases q : h[k]? with
  | none => simp [oIx, itemsA, q, lstK, ixK]
  | some o => cases o <;> simp [oIx, itemsA, q, lstK, ixK] <;> (rename_i xs; cases atI xs i <;> rfl)
theorem atI_n {α : Type} {xs : List α} {i : Nat} : atI xs (i : Int) = xs[i]? := by
  unfold atI ixN
  rw [if_pos (Int.natCast_nonneg i)]
  by_cases hi : (i : Int) < xs.length
  · rw [if_pos hi]; simp
  · rw [if_neg hi]
    exact (List.getElem?_eq_none (by omega)).symm
@[simp] theorem get_off {l : List AO} {k : Nat} : (h ++ l)[h.length + k]? = l[k]? := by
  rw [List.getElem?_append_right (Nat.le_add_right _ _), Nat.add_sub_cancel_left]
@[simp] theorem get_off0 {l : List AO} : (h ++ l)[h.length]? = l[0]? := get_off (k := 0)
@[simp] theorem set_off {l : List AO} {k : Nat} {y : AO} : (h ++ l).set (h.length + k) y = h ++ l.set k y := by
  rw [List.set_append_right _ _ (Nat.le_add_right _ _), Nat.add_sub_cancel_left]
@[simp] theorem set_off0 {l : List AO} {y : AO} : (h ++ l).set h.length y = h ++ l.set 0 y := set_off (k := 0)
def dispF (n : Nat) (ps : List (AV × AV)) (h1 : List AO) : OV AV := match keysA ps, h1[n]? with
  | some kvs, some (.dct []) => if kvs.length ≤ 15 then some (.ok (.ref n), h1.set n (.dct (mergeA [] kvs))) else none
  | _, _ => none
def dispK (n : Nat) (o : OV (List (AV × AV))) : OV AV := bnd o (dispF n)
abbrev EP' := AEnv → AM (List (AV × AV))
@[simp] theorem e_mDisp {mr : EP'} : mDisp mr e h = dispK h.length (mr e (h ++ [.dct []])) := (rfl)
@[simp] theorem dispK_ok {n : Nat} {ps : List (AV × AV)} : dispK n (some (.ok ps, h)) = dispF n ps h := (rfl)
theorem dispF_ok {n : Nat} {ps : List (AV × AV)} {kvs : List (Key × AV)} (q1 : keysA ps = some kvs) (q2 : h[n]? = some (.dct [])) (q3 : kvs.length ≤ 15) : dispF n ps h = some (.ok (.ref n), h.set n (.dct (mergeA [] kvs))) := by
  unfold dispF; rw [q1, q2]; exact if_pos q3
def mPrM (x y : AV) (o : OV (List (AV × AV))) : OV (List (AV × AV)) := bnd o fun r h3 => some (.ok ((x, y) :: r), h3)
def mPrL (x : AV) (mr : EP') (e : AEnv) (o : OV AV) : OV (List (AV × AV)) := bnd o fun y h2 => mPrM x y (mr e h2)
def mPrK (mb : AE) (mr : EP') (e : AEnv) (o : OV AV) : OV (List (AV × AV)) := bnd o fun x h1 => mPrL x mr e (mb e h1)
@[simp] theorem e_mPr {ma mb : AE} {mr : EP'} : mPr ma mb mr e h = mPrK mb mr e (ma e h) := (rfl)
@[simp] theorem mPrK_ok {mb : AE} {mr : EP'} {x : AV} : mPrK mb mr e (some (.ok x, h)) = mPrL x mr e (mb e h) := (rfl)
@[simp] theorem mPrL_ok {mr : EP'} {x y : AV} : mPrL x mr e (some (.ok y, h)) = mPrM x y (mr e h) := (rfl)
@[simp] theorem mPrM_ok {x y : AV} {r : List (AV × AV)} : mPrM x y (some (.ok r, h)) = some (.ok ((x, y) :: r), h) := (rfl)
@[simp] theorem at_str {z : Str} : AI.at (.str z) i h = some ((z.cps[i]?).map fun c => .str ⟨#[c]⟩) := (rfl)
end
end SL
/-! PL3: more plain laws for simp: making, isinstance, in, deep equality, pops. -/
namespace SL
open PySem PySem.Spec PyProof.Rows L2
def mkL (n : Nat) (o : OV AV) : OV AV := bnd o fun v h2 => match v with
  | .non => some (.ok (.ref n), h2)
  | _ => none
def makeK (c : Nat) (m : List AV → AM AV) (davs : List AV) (o : OV (List AV)) : OV AV := bnd o fun vs h1 => mkL h1.length (m (.ref h1.length :: (vs ++ davs)) (h1 ++ [.ins c []]))
def m3cM (f' : F2) (y : AV) (o : OV AV) : OV AV := bnd o fun z h4 => lft (f' y z h4)
def m3cT (f' : F2) (y : AV) (mc : AE) (e : AEnv) (o : Option (AV × List AO)) : OV AV := match o with
  | some (.bl true, h3) => m3cM f' y (mc e h3)
  | some (.bl false, h3) => some (.ok (.bl false), h3)
  | _ => none
def m3cL (f f' : F2) (x : AV) (mc : AE) (e : AEnv) (o : OV AV) : OV AV := bnd o fun y h2 => m3cT f' y mc e (f x y h2)
def m3cK (f f' : F2) (mb mc : AE) (e : AEnv) (o : OV AV) : OV AV := bnd o fun x h1 => m3cL f f' x mc e (mb e h1)
def isiK (o : Option Bool) (h : List AO) : Option (AV × List AO) := match o with
  | some b => some (.bl b, h)
  | none => none
def isi2K (o o' : Option Bool) (h : List AO) : Option (AV × List AO) := match o, o' with
  | some a, some b => some (.bl (a || b), h)
  | _, _ => none
def inK (neg : Bool) (h : List AO) (o : Option Bool) : Option (AV × List AO) := match o with
  | some b => some (.bl (if neg then !b else b), h)
  | none => none
def bsK (g : List Bool → Bool) (h : List AO) (o : Option (List AV)) : Option (AV × List AO) := match o with
  | some ys => match blsA ys with
    | some bs => some (.bl (g bs), h)
    | none => none
  | none => none
def onlyL (o : Option AO) : Option (List AV) := match o with
  | some (.lst xs) => some xs
  | _ => none
def lisK (o : Option (List AV)) (h : List AO) : Option (AV × List AO) := match o with
  | some ys => some (.ref h.length, h ++ [.lst ys])
  | none => none
def tupK (o : Option (List AV)) (h : List AO) : Option (AV × List AO) := match o with
  | some ys => some (.tup ys, h)
  | none => none
def idK (o : Option Nat) (h : List AO) : Option (AV × List AO) := match o with
  | some j => some (.int (j : Nat), h)
  | none => none
def pop0K (i : Nat) (h : List AO) (o : Option AO) : Option (AV × List AO) := match o with
  | some (.lst (x :: xs)) => some (x, h.set i (.lst xs))
  | _ => none
def dqK (o o' : Option PyData) : Option Bool := match o, o' with
  | some d, some e => if SeqAt.shaped d && SeqAt.shaped e then some (PyData.eqv d e) else none
  | _, _ => none
def rfK (f : Nat) (h : List AO) (o : Option AO) : Option PyData := match o with
  | some (.lst xs) => (toD0s (rfD f h) xs).map .list
  | some (.rol xs) => (toD0s (rfD f h) xs).map .list
  | _ => none
section
variable {e : AEnv} {h h1 h2 : List AO} {v x y z : AV} {i j c d k : Nat} {f f' : F2} {xs ys vs : List AV}
@[simp] theorem e_mMake {m : List AV → AM AV} {davs : List AV} {ma : EL} : mMake c m davs ma e h = makeK c m davs (ma e h) := by
  unfold mMake makeK mkL
  rfl
@[simp] theorem makeK_ok {m : List AV → AM AV} {davs : List AV} : makeK c m davs (some (.ok vs, h)) = mkL h.length (m (.ref h.length :: (vs ++ davs)) (h ++ [.ins c []])) := (rfl)
@[simp] theorem mkL_ok : mkL i (some (.ok .non, h)) = some (.ok (.ref i), h) := (rfl)
@[simp] theorem e_m3c {ma mb mc : AE} : m3c f f' ma mb mc e h = m3cK f f' mb mc e (ma e h) := by
  unfold m3c m3cK m3cL m3cT m3cM lft
  rfl
@[simp] theorem m3cK_ok {mb mc : AE} : m3cK f f' mb mc e (some (.ok x, h)) = m3cL f f' x mc e (mb e h) := (rfl)
@[simp] theorem m3cL_ok {mc : AE} : m3cL f f' x mc e (some (.ok y, h)) = m3cT f' y mc e (f x y h) := (rfl)
@[simp] theorem m3cT_t {mc : AE} : m3cT f' y mc e (some (.bl true, h)) = m3cM f' y (mc e h) := (rfl)
@[simp] theorem m3cT_f {mc : AE} : m3cT f' y mc e (some (.bl false, h)) = some (.ok (.bl false), h) := (rfl)
@[simp] theorem m3cM_ok : m3cM f' y (some (.ok z, h)) = lft (f' y z h) := (rfl)
@[simp] theorem oIsi1 {T : Ty} : oIsi [T] x h = isiK (isT T h x) h := by
  show (isT T h x).map (fun b => (AV.bl b, h)) = _
  cases isT T h x <;> rfl
@[simp] theorem oIsi2 {T U : Ty} : oIsi [T, U] x h = isi2K (isT T h x) (isT U h x) h := by
  unfold oIsi isi2K
  first
    | rfl
    | (cases isT T h x <;> cases isT U h x <;> rfl)
@[simp] theorem isiK_some {b : Bool} : isiK (some b) h = some (.bl b, h) := (rfl)
@[simp] theorem isi2K_some {a b : Bool} : isi2K (some a) (some b) h = some (.bl (a || b), h) := (rfl)
@[simp] theorem isT_int {T : Ty} {i : Int} : isT T h (.int i) = some (match T with | .int => true | _ => false) := (rfl)
@[simp] theorem isT_str {T : Ty} {i : Str} : isT T h (.str i) = some (match T with | .str => true | _ => false) := (rfl)
@[simp] theorem isT_bl {T : Ty} {i : Bool} : isT T h (.bl i) = some (match T with | .int => true | .bool => true | _ => false) := (rfl)
@[simp] theorem isT_tup {T : Ty} : isT T h (.tup xs) = some (match T with | .tup => true | _ => false) := (rfl)
@[simp] theorem isT_non {T : Ty} : isT T h .non = some false := (rfl)
def isLK (T : Ty) (o : Option AO) : Option Bool := match o with
  | some (.lst _) => some (match T with | .lst => true | _ => false)
  | some (.rol _) => some (match T with | .lst => true | _ => false)
  | some (.dct _) => some (match T with | .dct => true | _ => false)
  | some (.dtp _) => some (match T with | .dct => true | _ => false)
  | _ => none
@[simp] theorem isT_ref {T : Ty} : isT T h (.ref i) = isLK T h[i]? := (rfl)
@[simp] theorem isLK_lst {T : Ty} : isLK T (some (.lst xs)) = some (match T with | .lst => true | _ => false) := (rfl)
@[simp] theorem isLK_rol {T : Ty} : isLK T (some (.rol xs)) = some (match T with | .lst => true | _ => false) := (rfl)
@[simp] theorem cIn_str {n : Bool} {a : Str} : cIn n (.str a) (.tup xs) h = inK n h (inX h (.str a) xs) := by
  show (inX h (.str a) xs).map (fun b => (AV.bl (if n then !b else b), h)) = _
  cases inX h (.str a) xs <;> rfl
@[simp] theorem cIn_int {n : Bool} {a : Int} : cIn n (.int a) (.tup xs) h = inK n h (inX h (.int a) xs) := by
  show (inX h (.int a) xs).map (fun b => (AV.bl (if n then !b else b), h)) = _
  cases inX h (.int a) xs <;> rfl
@[simp] theorem cIn_strK {n : Bool} {a : Str} : cIn n (.str a) (.ktp xs) h = inK n h (inX h (.str a) xs) := by
  show (inX h (.str a) xs).map (fun b => (AV.bl (if n then !b else b), h)) = _
  cases inX h (.str a) xs <;> rfl
@[simp] theorem inK_some {n b : Bool} : inK n h (some b) = some (.bl (if n then !b else b), h) := (rfl)
theorem inX_flat (q : (flatA x && ys.all flatA) = true) : inX h x ys = some (ys.any fun y => eqF y x) := if_pos q
@[simp] theorem fAll_ref : fAll [.ref i] h = bsK (fun bs => bs.all id) h (onlyL h[i]?) := by
  cases q : h[i]? with
  | none => simp [fAll, fBs, q, onlyL, bsK]
  | some o => cases o <;> simp [fAll, fBs, q, onlyL, bsK] <;> (rename_i xs; cases blsA xs <;> rfl)
@[simp] theorem onlyL_lst : onlyL (some (.lst xs)) = some xs := (rfl)
theorem bsK_some {g : List Bool → Bool} {bs : List Bool} (q : blsA ys = some bs) : bsK g h (some ys) = some (.bl (g bs), h) := by
  simp only [bsK, q]
@[simp] theorem blsA_nil : blsA [] = some [] := (rfl)
@[simp] theorem fList_ref : fList [.ref i] h = lisK (lstK h[i]?) h := by
  show (lstK h[i]?).map (fun ys => (AV.ref h.length, h ++ [.lst ys])) = _
  cases lstK h[i]? <;> rfl
@[simp] theorem lisK_some : lisK (some ys) h = some (.ref h.length, h ++ [.lst ys]) := (rfl)
@[simp] theorem fTuple_ref : fTuple [.ref i] h = tupK (lstK h[i]?) h := by
  show (lstK h[i]?).map (fun ys => (AV.tup ys, h)) = _
  cases lstK h[i]? <;> rfl
@[simp] theorem fTuple_tup : fTuple [.tup xs] h = some (.tup xs, h) := (rfl)
@[simp] theorem tupK_some : tupK (some ys) h = some (.tup ys, h) := (rfl)
@[simp] theorem fPopAt_0 : fPopAt (.ref i) [.int 0] h = pop0K i h h[i]? := by
  cases q : h[i]? with
  | none => simp [fPopAt, q, pop0K]
  | some o => cases o <;> simp [fPopAt, q, pop0K] <;> (rename_i xs; cases xs <;> simp [seqIndex?])
@[simp] theorem pop0K_cons : pop0K i h (some (.lst (x :: xs))) = some (x, h.set i (.lst xs)) := (rfl)
@[simp] theorem tyA_tup : tyA .tup h (.tup xs) = true := (rfl)
@[simp] theorem fTIdx_tup {a : Str} {ss : List Str} (q : strsA xs = some ss) : fTIdx (.tup xs) [.str a] h = idK (idxS a ss) h := by
  show (match strsA xs with | some ys => (idxS a ys).map (fun j => (AV.int (j : Nat), h)) | none => none) = _
  rw [q]
  dsimp only
  cases idxS a ss <;> rfl
@[simp] theorem idK_some : idK (some j) h = some (.int (j : Nat), h) := (rfl)
@[simp] theorem eqA_ref : eqA h (.ref i) y = dqK (toD h (.ref i)) (toD h y) := by
  unfold eqA dqK
  cases y <;> rfl
@[simp] theorem eqA_tup : eqA h (.tup xs) y = dqK (toD h (.tup xs)) (toD h y) := by
  unfold eqA dqK
  cases y <;> rfl
theorem dqK_same {d : PyData} (q : SeqAt.shaped d = true) : dqK (some d) (some d) = some true := by
  unfold dqK
  have c : d.canLay0 = true := by
    unfold SeqAt.shaped at q
    rw [Bool.and_eq_true] at q
    exact q.1
  show (if (SeqAt.shaped d && SeqAt.shaped d) = true then some (PyData.eqv d d) else none) = _
  rw [q, SeqAt.eqv_refl d c]
  rfl
theorem dqK_some {d e : PyData} (q : SeqAt.shaped d = true) (q' : SeqAt.shaped e = true) : dqK (some d) (some e) = some (PyData.eqv d e) := by
  unfold dqK
  show (if (SeqAt.shaped d && SeqAt.shaped e) = true then some (PyData.eqv d e) else none) = _
  rw [q, q']
  rfl
theorem rfD_st {f : Nat} : rfD (f + 1) h i = rfK f h h[i]? := by
  cases q : h[i]? with
  | none => simp [rfD, rfK, q]
  | some o => cases o <;> simp [rfD, rfK, q]
@[simp] theorem rfK_lst {f : Nat} : rfK f h (some (.lst xs)) = (toD0s (rfD f h) xs).map .list := (rfl)
@[simp] theorem toD_ref : toD h (.ref i) = rfD 12 h i := (rfl)
@[simp] theorem toD_tup : toD h (.tup xs) = (toD0s (rfD 12 h) xs).map .tuple := by
  show toD0 (rfD 12 h) (.tup xs) = _
  simp [toD0]
@[simp] theorem atI_0 : atI xs 0 = xs[0]? := atI_n (i := 0)
@[simp] theorem atI_1 : atI xs 1 = xs[1]? := atI_n (i := 1)
@[simp] theorem atI_pos {i : Int} (q : 0 ≤ i) : atI xs i = xs[i.toNat]? := by
  obtain ⟨n, rfl⟩ := Int.eq_ofNat_of_zero_le q
  rw [atI_n, Int.toNat_natCast]
@[simp] theorem atI_m1 : atI xs (-1) = xs[xs.length - 1]? := by
  unfold atI ixN
  rw [if_neg (by decide)]
  by_cases q : xs = []
  · subst q; rfl
  · have hl : 0 < xs.length := List.length_pos_iff.mpr q
    by_cases z : (-(xs.length : Int) ≤ -1)
    · rw [if_pos z]
      simp
      congr 1
      omega
    · exact absurd (by omega) z
theorem ofStr_inj' {a b : String} (q : Str.ofString a = Str.ofString b) : a = b := by
  rw [Str.ofString_eq_toList, Str.ofString_eq_toList] at q
  have q1 : (a.toList.map Char.toNat).toArray = (b.toList.map Char.toNat).toArray := congrArg Str.cps q
  have q2 : a.toList.map Char.toNat = b.toList.map Char.toNat := by simpa using q1
  have inj : ∀ l m : List Char, l.map Char.toNat = m.map Char.toNat → l = m := by
    intro l
    induction l with
    | nil => intro m hm; cases m <;> simp_all
    | cons c l ih =>
      intro m hm
      cases m with
      | nil => simp at hm
      | cons d m =>
        simp only [List.map_cons, List.cons.injEq] at hm
        have cd : c = d := by
          apply Char.ext
          exact UInt32.toNat_inj.mp hm.1
        rw [cd, ih m hm.2]
  have q3 := inj _ _ q2
  exact String.toList_inj.mp q3
@[simp] theorem ofStr_inj {a b : String} : (Str.ofString a = Str.ofString b) = (a = b) := propext ⟨ofStr_inj', fun q => by rw [q]⟩
@[simp] theorem ofStr_beq {a b : String} : (Str.ofString a == Str.ofString b) = (a == b) := by
  by_cases q : a = b
  · subst q; simp
  · have : ¬ Str.ofString a = Str.ofString b := fun z => q (ofStr_inj' z)
    rw [beq_eq_false_iff_ne.mpr this, beq_eq_false_iff_ne.mpr q]
@[simp] theorem strOk_lit {s : String} : PyData.strOk (Str.ofString s) = true := by
  rw [Str.ofString_eq_toList]
  unfold PyData.strOk
  simp only [List.all_toArray, List.all_map, List.all_eq_true, Function.comp_apply, decide_eq_true_eq]
  intro c _
  have := c.valid
  rcases this with q | ⟨_, q⟩
  · exact Nat.lt_trans q (by decide)
  · exact q
@[simp] theorem fLen_str' {z : Str} : fLen [.str z] h = if z.length ≤ 1000000 then some (.int z.length, h) else none := (rfl)
theorem dqK_two {d e : PyData} : dqK (some d) (some e) = if SeqAt.shaped d && SeqAt.shaped e then some (PyData.eqv d e) else none := (rfl)
def lastOf (x : AV) : List AV → AV
  | [] => x
  | y :: ys => lastOf y ys
@[simp] theorem lastOf_nil : lastOf x [] = x := (rfl)
@[simp] theorem lastOf_cons : lastOf x (y :: ys) = lastOf y ys := (rfl)
theorem lastOf_at : ∀ (x : AV) (xs : List AV), (x :: xs)[(x :: xs).length - 1]? = some (lastOf x xs)
  | x, [] => rfl
  | x, y :: ys => by
    have := lastOf_at y ys
    simpa using this
@[simp] theorem popK_cons : popK i h (some (.lst (x :: xs))) = some (lastOf x xs, h.set i (.lst (x :: xs).dropLast)) := by
  show (match (x :: xs)[(x :: xs).length - 1]? with | some z => some (z, h.set i (.lst (x :: xs).dropLast)) | none => none) = _
  rw [lastOf_at]
def catK (h : List AO) (o o' : Option AO) : Option (AV × List AO) := match o, o' with
  | some (.lst xs), some (.lst ys) => if xs.length + ys.length ≤ 1000000 then some (.ref h.length, h ++ [.lst (xs ++ ys)]) else none
  | _, _ => none
@[simp] theorem oAdd_ref : oAdd (.ref i) (.ref j) h = catK h h[i]? h[j]? := (rfl)
@[simp] theorem catK_two : catK h (some (.lst xs)) (some (.lst ys)) = if xs.length + ys.length ≤ 1000000 then some (.ref h.length, h ++ [.lst (xs ++ ys)]) else none := (rfl)
end
end SL
/-! SL12: star items, three names at once, sums, properties, classes with keywords. -/
namespace SL
open PySem PySem.Spec PyProof.Rows L2
section
variable {G : Gx} {X : Cx} {W : WX} {pos : Pos}
/-! ### *e in a row of values -/
def mStar (ma : AE) (mr : AEnv → AM (List AV)) : AEnv → AM (List AV) := fun e h => bnd (ma e h) fun x h1 => match itemsA h1 x with
  | some xs => bnd (mr e h1) fun ys h2 => some (.ok (xs ++ ys), h2)
  | none => none
theorem sa_star {e : Expr} {es : List Expr} {ma : AE} {mr : AEnv → AM (List AV)} {p : Pos} (hK : X.K = G.K) (ha : SE G X W e ma) (hb : SA G X W es mr) (hs : starEach (.Starred e p :: es) X.env = (true, eval e X.env) :: starEach es X.env := by rfl) : SA G X W (.Starred e p :: es) (mStar ma mr) := by
  obtain ⟨t, pa, s⟩ := ha
  obtain ⟨t2, pb, s2⟩ := hb
  refine ⟨_, StX.pa_star pa pb hs, ?_⟩
  intro σ H al e h r h' Q hr er hm q
  rcases bnd_some hm with ⟨c, k, e1, rfl⟩ | ⟨x, h1, e1, e2⟩
  · exact s σ H al e h _ _ _ hr er e1 q
  · refine s σ H al e h _ _ _ hr er e1 ?_
    intro al1 H1 u x1 hr1 r1
    split at e2
    · rename_i xs hx
      obtain ⟨a, vs, rfl, sq, rs, _⟩ := items_ok hr1 r1 hx
      refine ⟨a, vs, rfl, by rw [hK]; exact sq.symm, ?_⟩
      rcases bnd_some e2 with ⟨c, k, e3, rfl⟩ | ⟨ys, h2, e3, e4⟩
      · exact s2 σ H1 al1 e h1 _ _ _ hr1 (er.mono x1) e3 (PoA.after (r := .ex c k) (Q := fun _ _ => True) x1 q)
      · cases e4
        refine s2 σ H1 al1 e h1 _ _ _ hr1 (er.mono x1) e3 ?_
        intro al2 H2 us x2 hr2 r2
        exact q al2 H2 _ (x1.trans x2) hr2 ((rs.mono x2).append r2)
    · cases e2
/-! ### a, b, c = x, y, z -/
def mPar3 (i j l : Nat) (ma : AEnv → AM (List AV)) : AS := fun e h => bndS (ma e h) e fun vs h1 => match vs with
  | [u, v, w] => some (.nx (((e.set i (some u)).set j (some v)).set l (some w)), h1)
  | _ => none
theorem ss_par3 (i j l : Nat) {x y z : Str} {a b c : Expr} {ma : AEnv → AM (List AV)} {px py pz pt : Pos} {kt k2 pt2} (hc : X.calm = true) (hN : X.N.Nodup) (ha : SA G X W [a, b, c] ma) (hi : X.N[i]? = some x := by rfl) (hj : X.N[j]? = some y := by rfl) (hl : X.N[l]? = some z := by rfl) (hij : i ≠ j := by decide) (hil : i ≠ l := by decide) (hjl : j ≠ l := by decide)
    (hx : X.env.scope.names.lookup x = some .local := by rfl) (hy : X.env.scope.names.lookup y = some .local := by rfl) (hz : X.env.scope.names.lookup z = some .local := by rfl)
    (hw : swappedStores [.Tuple [.Name x px, .Name y py, .Name z pz] kt pt] (.Tuple [a, b, c] k2 pt2) X.env = pure (some [x, y, z]) := by rfl)
    (hs : swapsWithSole [.Tuple [.Name x px, .Name y py, .Name z pz] kt pt] (.Tuple [a, b, c] k2 pt2) pos.line X.env = pure false := by rfl) : SS G X W (.Assign [.Tuple [.Name x px, .Name y py, .Name z pz] kt pt] (.Tuple [a, b, c] k2 pt2) pos) (mPar3 i j l ma) := by
  obtain ⟨t, p, s⟩ := ha
  refine ⟨_, ps_par3 hc hN hi hj hl hij hil hjl hx hy hz p hw hs, ?_⟩
  intro σ H al e h fl h' D hr er hm q
  rcases bndS_some hm with ⟨c, k, e1, rfl⟩ | ⟨vs, h1, e1, e2⟩
  · exact s σ H al e h _ _ _ hr er e1 (PoS.exE er q)
  · refine s σ H al e h _ _ _ hr er e1 ?_
    intro al1 H1 us x1 hr1 rs
    split at e2
    · cases e2
      cases rs with
      | cons r1 rs =>
        cases rs with
        | cons r2 rs =>
          cases rs with
          | cons r3 rs =>
            cases rs
            exact ⟨_, _, _, rfl, q al1 H1 _ x1 hr1 ((((er.mono x1).set r1).set r2).set r3)⟩
    · cases e2
/-! ### sum of a list of ints -/
def intsA : List AV → Option (List Int)
  | [] => some []
  | .int i :: r => (intsA r).map fun is => i :: is
  | _ => none
theorem intsA_ok {n : Nat} {al : Nat → Addr} {H : Hp} : ∀ {xs : List AV} {us : List V} {is : List Int}, RAs G n al H xs us → intsA xs = some is → us = is.map V.int
  | [], _, is, r, e => by cases e; cases r; rfl
  | x :: xs, _, is, r, e => by
    cases r with
    | cons r1 rs =>
      cases x with
      | int i =>
        cases r1
        unfold intsA at e
        cases w : intsA xs with
        | none => rw [w] at e; cases e
        | some js => rw [w] at e; cases e; rw [intsA_ok rs w]; rfl
      | _ => cases e
def fSum : List AV → List AO → Option (AV × List AO) := fun xs h => match xs with
  | [.ref i] => match h[i]? with
    | some (.lst ys) => match intsA ys with
      | some is => some (.int is.sum, h)
      | none => none
    | _ => none
  | _ => none
theorem snd_sum : SndC G (rSum G.K) fSum := by
  intro H al h xs us v h' Q hr rs e q
  unfold fSum at e
  split at e
  · rename_i i
    split at e
    · rename_i ys hi
      split at e
      · rename_i is hs
        cases e
        obtain ⟨vs, e1, rv⟩ := lstAt hr hi
        obtain ⟨u, rfl, r1⟩ := one_of rs
        have e2 := refAt r1
        subst e2
        have e3 := intsA_ok rv hs
        subst e3
        exact ⟨_, is, rfl, .inl (.inl e1), q al H _ .refl hr .int⟩
      · cases e
    · cases e
  · cases e
theorem se_sum {e : Expr} {ma : AEnv → AM (List AV)} {p pos : Pos} (hK : X.K = G.K) (hc : X.calm = true) (hm : X.mg "sum" = none) (ha : SA G X W [e] ma) (hg : Gl X "sum" := by rfl) (he : starEach [e] X.env = (false, eval e X.env) :: starEach [] X.env := by rfl)
    (hpl : (backTo pos (starEach [] X.env)).any (·.1) = false := by rfl) : SE G X W (.Call (.Name "sum" p) [e] [] pos) (mC1 fSum ma) := se_callB (r := rSum G.K) (hK ▸ cr_sum hc) snd_sum hm (by decide +kernel) ha hg (by decide) (by decide) he hpl
end
end SL
/-! SL13: list(range(..)), tuple(range(..)), properties, making with keywords. -/
namespace SL
open PySem PySem.Spec PyProof.Rows L2
section
variable {G : Gx} {X : Cx} {W : WX} {pos : Pos}
def mRg2 (c : Bool) (ma mb : AE) : AE := fun e h => bnd (ma e h) fun x h1 => bnd (mb e h1) fun y h2 => match x, y with
  | .int i, .int j => if -1000000 ≤ i ∧ i ≤ 1000000 ∧ -1000000 ≤ j ∧ j ≤ 1000000 then (if c = true then some (.ok (.ref h2.length), h2 ++ [.lst ((List.range (j - i).toNat).map fun k => .int (i + (k : Nat)))]) else some (.ok (.tup ((List.range (j - i).toNat).map fun k => .int (i + (k : Nat)))), h2)) else none
  | _, _ => none
theorem ras_rg {n : Nat} {al : Nat → Addr} {H : Hp} {i j : Int} : RAs G n al H ((List.range (j - i).toNat).map fun k => AV.int (i + (k : Nat))) (rgV i j) := by
  unfold rgV
  generalize List.range (j - i).toNat = l
  induction l with
  | nil => exact .nil
  | cons a l ih => exact .cons .int ih
theorem rg_ok {i j : Int} (h : -1000000 ≤ i ∧ i ≤ 1000000 ∧ -1000000 ≤ j ∧ j ≤ 1000000) : RgOk i j := ⟨by omega, by omega, by omega, by omega, by omega⟩
theorem se_listRg {a b : Expr} {ma mb : AE} {p q2 p2 : Pos} (hc : X.calm = true) (hm : X.mg "list" = none) (hm2 : X.mg "range" = none) (ha : SE G X W a ma) (hb : SE G X W b mb) (hg : Gl X "list" := by rfl) (hg2 : Gl X "range" := by rfl)
    (na : starEach [.Call (.Name "range" q2) [a, b] [] p2] X.env = (false, eval (.Call (.Name "range" q2) [a, b] [] p2) X.env) :: starEach [] X.env := by rfl) (nb : starEach [a, b] X.env = (false, eval a X.env) :: starEach [b] X.env := by rfl)
    (nc : starEach [b] X.env = (false, eval b X.env) :: starEach [] X.env := by rfl) (hp : (backTo p2 (starEach [b] X.env)).any (·.1) = false := by rfl) :
    SE G X W (.Call (.Name "list" p) [.Call (.Name "range" q2) [a, b] [] p2] [] pos) (mRg2 true ma mb) := by
  obtain ⟨ta, pa, sa⟩ := ha
  obtain ⟨tb, pb, sb⟩ := hb
  refine ⟨_, pe_listRg hc hg hm (prg_2 hg2 hm2 pa pb nb nc hp) na, ?_⟩
  intro σ H al e h r h' Q hr er hm q
  rcases bnd_some hm with ⟨c, k, e1, rfl⟩ | ⟨x, h1, e1, e2⟩
  · exact sa σ H al e h _ _ _ hr er e1 q
  · refine sa σ H al e h _ _ _ hr er e1 ?_
    intro al1 H1 u x1 hr1 r1
    rcases bnd_some e2 with ⟨c, k, e3, rfl⟩ | ⟨y, h2, e3, e4⟩
    · exact sb σ H1 al1 e h1 _ _ _ hr1 (er.mono x1) e3 (PoE.after (r := .ex c k) (Q := fun _ _ => True) x1 q)
    · refine sb σ H1 al1 e h1 _ _ _ hr1 (er.mono x1) e3 ?_
      intro al2 H2 w x2 hr2 r2
      split at e4
      · rename_i i j
        split at e4
        · rename_i hb
          rw [if_pos rfl] at e4
          cases e4
          cases r1
          cases r2
          exact ⟨i, j, rfl, rfl, rg_ok hb, fun l hl => FwV.newL (x1.trans x2) hr2 hl ras_rg q⟩
        · cases e4
      · cases e4
theorem se_tupRg {a b : Expr} {ma mb : AE} {p q2 p2 : Pos} (hz : G.fz = false) (hc : X.calm = true) (hm : X.mg "tuple" = none) (hm2 : X.mg "range" = none) (ha : SE G X W a ma) (hb : SE G X W b mb) (hg : Gl X "tuple" := by rfl) (hg2 : Gl X "range" := by rfl)
    (na : starEach [.Call (.Name "range" q2) [a, b] [] p2] X.env = (false, eval (.Call (.Name "range" q2) [a, b] [] p2) X.env) :: starEach [] X.env := by rfl) (nb : starEach [a, b] X.env = (false, eval a X.env) :: starEach [b] X.env := by rfl)
    (nc : starEach [b] X.env = (false, eval b X.env) :: starEach [] X.env := by rfl) (hp : (backTo p2 (starEach [b] X.env)).any (·.1) = false := by rfl) :
    SE G X W (.Call (.Name "tuple" p) [.Call (.Name "range" q2) [a, b] [] p2] [] pos) (mRg2 false ma mb) := by
  obtain ⟨ta, pa, sa⟩ := ha
  obtain ⟨tb, pb, sb⟩ := hb
  refine ⟨_, pe_tupRg hc hg hm (prg_2 hg2 hm2 pa pb nb nc hp) na, ?_⟩
  intro σ H al e h r h' Q hr er hm q
  rcases bnd_some hm with ⟨c, k, e1, rfl⟩ | ⟨x, h1, e1, e2⟩
  · exact sa σ H al e h _ _ _ hr er e1 q
  · refine sa σ H al e h _ _ _ hr er e1 ?_
    intro al1 H1 u x1 hr1 r1
    rcases bnd_some e2 with ⟨c, k, e3, rfl⟩ | ⟨y, h2, e3, e4⟩
    · exact sb σ H1 al1 e h1 _ _ _ hr1 (er.mono x1) e3 (PoE.after (r := .ex c k) (Q := fun _ _ => True) x1 q)
    · refine sb σ H1 al1 e h1 _ _ _ hr1 (er.mono x1) e3 ?_
      intro al2 H2 w x2 hr2 r2
      split at e4
      · rename_i i j
        split at e4
        · rename_i hb
          rw [if_neg (by decide)] at e4
          cases e4
          cases r1
          cases r2
          exact ⟨i, j, rfl, rfl, rg_ok hb, fun l hl => FwV.newT hz (x1.trans x2) hr2 hl ras_rg q⟩
        · cases e4
      · cases e4
/-! ### o.f, a property -/
section
variable {k np : Nat} {g C p0 : Addr} {fd : FuncData} {ps : List Str} {m : List AV → AM AV} {f : Str} {o : Expr}
/-- no exception is to leave a property -/
def mProp (c : Nat) (m : List AV → AM AV) (mo : AE) : AE := fun e h => bnd (mo e h) fun x h1 => match x with
  | .ref i => match h1[i]? with
    | some (.ins d _) => if d = c then match m [.ref i] h1 with
      | some (.ok v, h2) => some (.ok v, h2)
      | _ => none
      else none
    | _ => none
  | _ => none
theorem in1_guards {A : Around} : A.in1.guards = A.guards := by
  first | rfl | simp [Around.in1]
theorem pe_propG {ta : TE} {sp : Sp} (he : PE X o ta) (c : Cls X.K C) (hp : PropOf X.K C f p0 g) (F : FnG X.prog X.w X.K X.mg X.base k g fd ["self"] sp) (hr : Room (k + 1) X.A) (hgu : X.A.guards = some []) (hb : Binds X.K fd ["self"] [])
    (hab : attributeBase o f X.env (eval o X.env) = eval o X.env) : PE X (.Attribute o f pos) (fun σ H Q => ta σ H fun x H1 => ∃ a dx fs, x = .ref a ∧ H1 a = some (.ins C dx fs) ∧ sp [.ref a] H1 Q fun _ _ _ => False) := by
  constructor
  intro pins t σ H Q inv want
  apply attr_of hab
  apply thn (he.run pins t σ H _ inv want)
  rintro u t1 ⟨_, H1, I1, ru, a, dx, fs, rfl, ea, q⟩
  obtain rfl : Value.ref a = u := Eq.symm ru
  have ⟨_, O, _⟩ := ins_get I1.hok ea
  have ⟨_, J, _⟩ := O.look
  have ⟨_, pr⟩ := hp.rec_
  have tick := I1.tok (t1.toks + 1)
  have isCls : (PySem.W.clsIn X.K C).isSome = true := by
    have ⟨_, z, _⟩ := PySem.W.any_some c.hd
    simp [z]
  have noGet := PySem.W.plainGet_of (c.get f)
  apply PySem.W.get_bind I1.kIn J noGet.1 (PySem.W.findObj_data isCls hp.at_ hp.get hp.tak) noGet.2
  apply wpAny_call
  apply PySem.W.prop_get (s := { t1 with toks := t1.toks + 1 }) I1.kIn pr
  apply codeAny_mono (F.run X.A.in1 X.stack _ H1 ⟨[.ref a], []⟩ _ [V.ref a] Q (fun _ _ _ => False) hr.in1 (in1_guards.trans hgu) tick.env0.in1 (hb _ [.ref a] tick.kIn rfl) (.cons rfl .nil) q)
  intro r t2 hq
  match r, hq with
  | .error er, hq =>
    have ⟨_, _, _, _, _, _, _, _, _, _, _, _, no⟩ := (show L2.CX X.prog X.w X.stack H1 _ (fun _ _ _ => False) er t2 from hq)
    exact no.elim
  | .ok (.ret u), hq =>
    have ⟨v, H2, I3, rv, end_⟩ := tick.after hq
    show wpAny _ _ (handedOut u) _ _ t2
    exact PySem.W.handedOut_of (handed_of rv) ▸ wpAny_pure ⟨v, H2, I3, rv, end_⟩
  | .ok .next, hq => exact hq.elim
  | .ok .brk, hq => exact hq.elim
  | .ok .cont, hq => exact hq.elim
theorem se_prop {c : Nat} {mo : AE} (hK : X.K = G.K) (hc : Cls G.K (G.cl c)) (hp : PropOf G.K (G.cl c) f p0 g) (F : FnG X.prog X.w X.K X.mg X.base k g fd ["self"] (spG G 1 m)) (hr : Room (k + 1) X.A) (hgu : X.A.guards = some []) (hb : Binds X.K fd ["self"] []) (ho : SE G X W o mo)
    (hab : attributeBase o f X.env (eval o X.env) = eval o X.env := by rfl) : SE G X W (.Attribute o f pos) (mProp c m mo) := by
  obtain ⟨t, p, s⟩ := ho
  refine ⟨_, pe_propG p (hK ▸ hc) (hK ▸ hp) F hr hgu hb hab, ?_⟩
  intro σ H al e h r h' Q hR er hm q
  rcases bnd_some hm with ⟨cc, kk, e1, rfl⟩ | ⟨x, h1, e1, e2⟩
  · exact s σ H al e h _ _ _ hR er e1 q
  · refine s σ H al e h _ _ _ hR er e1 ?_
    intro al1 H1 u x1 hr1 r1
    split at e2
    · rename_i i
      split at e2
      · rename_i d fs hi
        split at e2
        · rename_i hd
          subst hd
          split at e2
          · rename_i v h2 em
            cases e2
            obtain ⟨dx, gs, e4, rf⟩ := insAt hr1 hi
            exact ⟨al1 i, dx, gs, refAt r1, e4, al1, h1, [.ref i], .ok v, h', hr1, .cons (by have := r1; rw [refAt r1] at this; exact this) .nil, rfl, em, FwV.after x1 q⟩
          · cases e2
        · cases e2
      · cases e2
    · cases e2
end
end
end SL
/-! SL14: dicts whose keys are tuples; locked dicts and their walks. Plain tuples (fz = false). -/
namespace SL
open PySem PySem.Spec PyProof.Rows L2
section
variable {G : Gx} {X : Cx} {W : WX} {pos : Pos} {n : Nat} {al : Nat → Addr} {H : Hp} {h h' : List AO}
/-! ### tuple keys -/
def keysT : List AV → Option (List Key)
  | [] => some []
  | x :: xs => match keyA x, keysT xs with
    | some k, some ks => some (k :: ks)
    | _, _ => none
def keyT : AV → Option (List Key)
  | .tup xs => keysT xs
  | _ => none
theorem keysT_ok : ∀ {xs : List AV} {us : List V} {ks : List Key}, RAs G n al H xs us → keysT xs = some ks → us = ks.map kV
  | [], us, ks, r, e => by cases e; cases r; rfl
  | x :: xs, us, ks, r, e => by
    cases r with
    | cons r1 rs =>
      unfold keysT at e
      split at e
      · rename_i k ks' e1 e2
        cases e
        rw [keyA_ok r1 e1, keysT_ok rs e2]
        rfl
      · cases e
theorem keyT_ok {x : AV} {u : V} {ks : List Key} (hz : G.fz = false) (r : RA G n al H x u) (e : keyT x = some ks) : ∃ b, u = .ref b ∧ H b = some (.tup (ks.map kV)) := by
  cases x with
  | tup xs =>
    obtain ⟨a, vs, rfl, t, rs⟩ := tupAt r
    rcases t with ⟨_, t⟩ | ⟨z, _⟩ | ⟨z, _⟩
    · exact ⟨a, rfl, by rw [t, keysT_ok rs e]⟩
    · rw [hz] at z; cases z
    · rw [hz] at z; cases z
  | _ => cases e
/-- what a dict holds, locked or not -/
def dgA (y : AV) : Option AO → Option (Option AV)
  | some (.dct kvs) => (keyA y).map fun k => valA kvs k
  | some (.ldk kvs) => (keyA y).map fun k => valA kvs k
  | some (.dtp kvs) => (keyT y).map fun k => valA kvs k
  | some (.ldt kvs) => (keyT y).map fun k => valA kvs k
  | _ => none
theorem dgA_ok {i : Nat} {y : AV} {u : V} {ov : Option AV} (hz : G.fz = false) (hr : HR G al h H) (ry : RA G h.length al H y u) (e : dgA y h[i]? = some ov) : (ov = none ∧ DGet H (al i) u none) ∨ ∃ v w, ov = some v ∧ DGet H (al i) u (some w) ∧ RA G h.length al H v w := by
  cases hi : h[i]? with
  | none => rw [hi] at e; cases e
  | some o =>
    rw [hi] at e
    have ob := hr.ob i o hi
    have K : ∀ {kvs : List (Key × AV)} {ws : List (Key × V)}, Rd H (al i) (.dK ws) → RF G h.length al H kvs ws → (keyA y).map (fun k => valA kvs k) = some ov → (ov = none ∧ DGet H (al i) u none) ∨ ∃ v w, ov = some v ∧ DGet H (al i) u (some w) ∧ RA G h.length al H v w := by
      intro kvs ws rd rf e
      cases ek : keyA y with
      | none => rw [ek] at e; cases e
      | some k =>
        rw [ek] at e
        have eu := keyA_ok ry ek
        cases e
        rcases valA_ok (k := k) rf with ⟨z1, z2⟩ | ⟨v, w, z1, z2, z3⟩
        · exact .inl ⟨z1, .inl ⟨ws, k, rd, eu, z2.symm⟩⟩
        · exact .inr ⟨v, w, z1, .inl ⟨ws, k, rd, eu, z2.symm⟩, z3⟩
    have T : ∀ {kvs : List (List Key × AV)} {ws : List (List Key × V)}, Rd H (al i) (.dT ws) → RF G h.length al H kvs ws → (keyT y).map (fun k => valA kvs k) = some ov → (ov = none ∧ DGet H (al i) u none) ∨ ∃ v w, ov = some v ∧ DGet H (al i) u (some w) ∧ RA G h.length al H v w := by
      intro kvs ws rd rf e
      cases ek : keyT y with
      | none => rw [ek] at e; cases e
      | some k =>
        rw [ek] at e
        obtain ⟨b, eu, hb⟩ := keyT_ok hz ry ek
        cases e
        rcases valA_ok (k := k) rf with ⟨z1, z2⟩ | ⟨v, w, z1, z2, z3⟩
        · exact .inl ⟨z1, .inr ⟨ws, k, b, rd, eu, hb, z2.symm⟩⟩
        · exact .inr ⟨v, w, z1, .inr ⟨ws, k, b, rd, eu, hb, z2.symm⟩, z3⟩
    cases o with
    | dct kvs => obtain ⟨ws, e1, rf⟩ := ob; exact K (.inl e1) rf e
    | ldk kvs => obtain ⟨od, ws, e1, rf⟩ := ob; exact K (.inr ⟨od, e1⟩) rf e
    | dtp kvs => obtain ⟨ws, e1, rf⟩ := ob; exact T (.inl e1) rf e
    | ldt kvs => obtain ⟨od, ws, e1, rf⟩ := ob; exact T (.inr ⟨od, e1⟩) rf e
    | _ => cases e
/-- d[k] of any of them -/
def oDgetA : AV → AV → List AO → Option (AV × List AO) := fun x y h => match x with
  | .ref i => match dgA y h[i]? with
    | some (some v) => some (v, h)
    | _ => none
  | _ => none
theorem snd_dgetA (hz : G.fz = false) : SndO G rDG oDgetA := by
  intro H al h x y u w v h' Q hr rx ry e q
  cases x with
  | ref i =>
    unfold oDgetA at e
    dsimp only at e
    split at e
    · rename_i v' hd
      cases e
      rcases dgA_ok hz hr ry hd with ⟨z, _⟩ | ⟨v2, w2, z, g, r2⟩
      · cases z
      · cases z
        exact ⟨_, w2, refAt rx, g, q al H _ .refl hr r2⟩
    · cases e
  | _ => cases e
theorem se_dgetA {a b : Expr} {ma mb : AE} (hz : G.fz = false) (hu : X.A.units + 1 < cLine) (ha : SE G X W a ma) (hb : SE G X W b mb) (hs : NoSl b := by exact fun _ _ => rfl) : SE G X W (.Subscript a b pos) (m2 oDgetA ma mb) := by
  obtain ⟨ta, pa, sa⟩ := ha
  obtain ⟨tb, pb, sb⟩ := hb
  exact ⟨_, pe_dget hu pa pb hs, snd_2 sa sb (snd_dgetA hz)⟩
/-- k in d, k not in d -/
def oDin (neg : Bool) : AV → AV → List AO → Option (AV × List AO) := fun y x h => match x with
  | .ref i => match dgA y h[i]? with
    | some o => some (.bl (if neg then !o.isSome else o.isSome), h)
    | none => none
  | _ => none
def rDin (neg : Bool) : R2 := fun y x H Q => ∃ a o, x = .ref a ∧ DGet H a y o ∧ Q (.bl (if neg then !o.isSome else o.isSome)) H
theorem snd_din {neg : Bool} (hz : G.fz = false) : SndO G (rDin neg) (oDin neg) := by
  intro H al h y x w u v h' Q hr ry rx e q
  cases x with
  | ref i =>
    unfold oDin at e
    dsimp only at e
    split at e
    · rename_i o hd
      cases e
      rcases dgA_ok hz hr ry hd with ⟨rfl, g⟩ | ⟨v2, w2, rfl, g, r2⟩
      · exact ⟨_, none, refAt rx, g, q al H _ .refl hr .bl⟩
      · exact ⟨_, some w2, refAt rx, g, q al H _ .refl hr .bl⟩
    · cases e
  | _ => cases e
theorem se_din {a b : Expr} {ma mb : AE} (hz : G.fz = false) (hu : X.A.units + 1 < cLine) (ha : SE G X W a ma) (hb : SE G X W b mb) (hm : behindInMarks .In b = false := by rfl) : SE G X W (.Compare a [.In] [b] pos) (m2 (oDin false) ma mb) := by
  obtain ⟨ta, pa, sa⟩ := ha
  obtain ⟨tb, pb, sb⟩ := hb
  exact ⟨_, pe_cmp (pc_din hu pa pb) hm, snd_2 sa sb (snd_din (neg := false) hz)⟩
theorem se_dnotin {a b : Expr} {ma mb : AE} (hz : G.fz = false) (hu : X.A.units + 1 < cLine) (ha : SE G X W a ma) (hb : SE G X W b mb) (hm : behindInMarks .NotIn b = false := by rfl) : SE G X W (.Compare a [.NotIn] [b] pos) (m2 (oDin true) ma mb) := by
  obtain ⟨ta, pa, sa⟩ := ha
  obtain ⟨tb, pb, sb⟩ := hb
  exact ⟨_, pe_cmp (pc_dnotin hu pa pb) hm, snd_2 sa sb (snd_din (neg := true) hz)⟩
/-! ### d[k] = v -/
def dpA (y v : AV) : Option AO → Option AO
  | some (.dct kvs) => match keyA y with
    | some k => if kvs.length < 100000 then some (.dct (putA kvs k v)) else none
    | none => none
  | some (.dtp kvs) => match keyT y with
    | some k => if kvs.length < 100000 then some (.dtp (putA kvs k v)) else none
    | none => none
  | _ => none
def mDputA (mo mk mv : AE) : AS := fun e h => bndS (mv e h) e fun v h1 => bndS (mo e h1) e fun x h2 => bndS (mk e h2) e fun y h3 => match x with
  | .ref i => match dpA y v h3[i]? with
    | some o => some (.nx e, h3.set i o)
    | none => none
  | _ => none
theorem ss_dputA {o i value : Expr} {pos' : Pos} {mo mk mv : AE} (hz : G.fz = false) (hu : X.A.units + 1 < cLine) (ho : SE G X W o mo) (hk : SE G X W i mk) (hv : SE G X W value mv) (hs : swapsWith value (some (.Subscript o i pos')) pos.line X.env = pure false := by rfl) :
    SS G X W (.Assign [.Subscript o i pos'] value pos) (mDputA mo mk mv) := by
  obtain ⟨to, po, so⟩ := ho
  obtain ⟨tk, pk, sk⟩ := hk
  obtain ⟨tv, pv, sv⟩ := hv
  refine ⟨_, ps_dput hu po pk pv hs, ?_⟩
  intro σ H al e h fl h' D hr er hm q
  rcases bndS_some hm with ⟨cc, k, e1, rfl⟩ | ⟨v, h1, e1, e2⟩
  · exact sv σ H al e h _ _ _ hr er e1 (PoS.exE er q)
  · refine sv σ H al e h _ _ _ hr er e1 ?_
    intro al1 H1 uv x1 hr1 rv
    rcases bndS_some e2 with ⟨cc, k, e3, rfl⟩ | ⟨x, h2, e3, e4⟩
    · exact so σ H1 al1 e h1 _ _ _ hr1 (er.mono x1) e3 (PoS.exE (er.mono x1) (PoS.after x1 q))
    · refine so σ H1 al1 e h1 _ _ _ hr1 (er.mono x1) e3 ?_
      intro al2 H2 ux x2 hr2 rx
      rcases bndS_some e4 with ⟨cc, k, e5, rfl⟩ | ⟨y, h3, e5, e6⟩
      · exact sk σ H2 al2 e h2 _ _ _ hr2 (er.mono (x1.trans x2)) e5 (PoS.exE (er.mono (x1.trans x2)) (PoS.after (x1.trans x2) q))
      · refine sk σ H2 al2 e h2 _ _ _ hr2 (er.mono (x1.trans x2)) e5 ?_
        intro al3 H3 uy x3 hr3 ry
        split at e6
        · rename_i j
          split at e6
          · rename_i o hd
            cases e6
            cases hi : h3[j]? with
            | none => rw [hi] at hd; cases hd
            | some oo =>
              rw [hi] at hd
              cases oo with
              | dct kvs =>
                unfold dpA at hd
                dsimp only at hd
                split at hd
                · rename_i k ek
                  split at hd
                  · rename_i hl
                    cases hd
                    obtain ⟨ws, e7, rf⟩ := dctAt hr3 hi
                    have E := ext_put (u := .dK (putK ws k uv)) hr3 hi rfl
                    have ek' := keyA_ok ry ek
                    subst ek'
                    refine ⟨al3 j, upd H3 (al3 j) (.dK (putK ws k uv)), refAt (rx.mono x3), DPut.k e7 (by rw [← rf.length, sizeLine_eq]; omega), ?_⟩
                    refine q al3 _ σ ?_ (hr3.put hi rfl rfl ?_) ?_
                    · rw [List.length_set]; exact ((x1.trans x2).trans x3).trans E
                    · exact ⟨_, upd_same, RF.mono E (putA_ok rf ((rv.mono x2).mono x3))⟩
                    · rw [List.length_set]; exact er.mono (((x1.trans x2).trans x3).trans E)
                  · cases hd
                · cases hd
              | dtp kvs =>
                unfold dpA at hd
                dsimp only at hd
                split at hd
                · rename_i k ek
                  split at hd
                  · rename_i hl
                    cases hd
                    obtain ⟨ws, e7, rf⟩ := (hr3.ob j _ hi : ∃ ws, H3 (al3 j) = some (.dT ws) ∧ RF G h3.length al3 H3 kvs ws)
                    have E := ext_put (u := .dT (putK ws k uv)) hr3 hi rfl
                    obtain ⟨b, eu, hb⟩ := keyT_ok hz ry ek
                    subst eu
                    refine ⟨al3 j, upd H3 (al3 j) (.dT (putK ws k uv)), refAt (rx.mono x3), DPut.t e7 hb (by rw [← rf.length, sizeLine_eq]; omega), ?_⟩
                    refine q al3 _ σ ?_ (hr3.put hi rfl rfl ?_) ?_
                    · rw [List.length_set]; exact ((x1.trans x2).trans x3).trans E
                    · exact ⟨_, upd_same, RF.mono E (putA_ok rf ((rv.mono x2).mono x3))⟩
                    · rw [List.length_set]; exact er.mono (((x1.trans x2).trans x3).trans E)
                  · cases hd
                · cases hd
              | _ => cases hd
          · cases e6
        · cases e6
/-! ### walking the keys of a locked dict -/
theorem kA_ok {k : Key} : RA G n al H (kA k) (kV k) := by
  cases k with
  | inl i => exact .int
  | inr z => exact .str
theorem kAs_ok : ∀ ks : List Key, RAs G n al H (ks.map kA) (ks.map kV)
  | [] => .nil
  | k :: ks => .cons kA_ok (kAs_ok ks)
theorem RF.at_ {κ : Type} : ∀ {ps : List (κ × AV)} {qs : List (κ × V)} {i : Nat}, RF G n al H ps qs → (ps[i]?).map (·.1) = (qs[i]?).map (·.1)
  | [], [], i, _ => by simp
  | p :: ps, q :: qs, 0, h => by simp [h.1]
  | p :: ps, q :: qs, i + 1, h => by simpa using RF.at_ (i := i) h.2.2
  | [], _ :: _, _, h => h.elim
  | _ :: _, [], _, h => h.elim
theorem itr_dk {k : Nat} {od : Obj} {ws : List (Key × V)} {lo : Bool} (hk : k < n) (e : H (al k) = some (.frz od (.dK ws))) (hl : ∀ al' h' H', Ext n al H h'.length al' H' → HR G al' h' H' → ∀ kvs, h'[k]? ≠ some (.ldt kvs)) : ItR G lo n al H (.dks k) (Itk (al k) od ws) := by
  refine ⟨fun al' h' H' x hr i => ?_⟩
  have e' := x.tf _ _ _ e
  cases hi : h'[k]? with
  | none => exact ⟨fun q => (by simp [AI.at, hi] at q), fun v q => (by simp [AI.at, hi] at q)⟩
  | some o =>
    cases o with
    | ldk kvs =>
      obtain ⟨od', ws', e2, rf⟩ := (hr.ob k _ hi : ∃ od ws, H' (al' k) = some (.frz od (.dK ws)) ∧ RF G h'.length al' H' kvs ws)
      rw [x.al k hk, e'] at e2
      cases e2
      have ra := RF.at_ (i := i) rf
      refine ⟨fun q => ?_, fun v q => ?_⟩
      · have q' : kvs[i]? = none := by simpa [AI.at, hi] using q
        exact ⟨e', by rw [← rf.length]; exact List.getElem?_eq_none_iff.mp q'⟩
      · have q' : (kvs[i]?).map (fun p => kA p.1) = some v := by simpa [AI.at, hi] using q
        cases hp : kvs[i]? with
        | none => rw [hp] at q'; cases q'
        | some p =>
          rw [hp] at q' ra
          cases q'
          have hlt : i < ws.length := by rw [← rf.length]; exact (List.getElem?_eq_some_iff.mp hp).1
          refine ⟨⟨e', hlt⟩, fun y H2 yl => ?_⟩
          obtain ⟨rfl, k2, v2, h1, rfl⟩ := yl
          rw [h1] at ra
          have : p.1 = k2 := Option.some.inj ra
          subst this
          exact ⟨.refl, hr, .inl kA_ok⟩
    | ldt kvs => exact absurd hi (hl al' h' H' x hr kvs)
    | _ => exact ⟨fun q => (by simp [AI.at, hi] at q), fun v q => (by simp [AI.at, hi] at q)⟩
theorem itr_dt {k : Nat} {od : Obj} {ws : List (List Key × V)} {lo : Bool} (hz : G.fz = false) (hk : k < n) (e : H (al k) = some (.frz od (.dT ws))) : ItR G lo n al H (.dks k) (Itkt (al k) od ws) := by
  refine ⟨fun al' h' H' x hr i => ?_⟩
  have e' := x.tf _ _ _ e
  cases hi : h'[k]? with
  | none => exact ⟨fun q => (by simp [AI.at, hi] at q), fun v q => (by simp [AI.at, hi] at q)⟩
  | some o =>
    cases o with
    | ldt kvs =>
      obtain ⟨od', ws', e2, rf⟩ := (hr.ob k _ hi : ∃ od ws, H' (al' k) = some (.frz od (.dT ws)) ∧ RF G h'.length al' H' kvs ws)
      rw [x.al k hk, e'] at e2
      cases e2
      have ra := RF.at_ (i := i) rf
      refine ⟨fun q => ?_, fun v q => ?_⟩
      · have q' : kvs[i]? = none := by simpa [AI.at, hi] using q
        exact ⟨e', by rw [← rf.length]; exact List.getElem?_eq_none_iff.mp q'⟩
      · have q' : (kvs[i]?).map (fun p => AV.tup (p.1.map kA)) = some v := by simpa [AI.at, hi] using q
        cases hp : kvs[i]? with
        | none => rw [hp] at q'; cases q'
        | some p =>
          rw [hp] at q' ra
          cases q'
          have hlt : i < ws.length := by rw [← rf.length]; exact (List.getElem?_eq_some_iff.mp hp).1
          refine ⟨⟨e', hlt⟩, fun y H2 yl => ?_⟩
          obtain ⟨rfl, k2, v2, b, h1, rfl, hb⟩ := yl
          rw [h1] at ra
          have : p.1 = k2 := Option.some.inj ra
          subst this
          exact ⟨.refl, hr, .inl (.tup (.inl ⟨hz, hb⟩) (kAs_ok _))⟩
    | ldk kvs =>
      obtain ⟨od', ws', e2, rf⟩ := (hr.ob k _ hi : ∃ od ws, H' (al' k) = some (.frz od (.dK ws)) ∧ RF G h'.length al' H' kvs ws)
      rw [x.al k hk, e'] at e2
      cases e2
    | _ => exact ⟨fun q => (by simp [AI.at, hi] at q), fun v q => (by simp [AI.at, hi] at q)⟩
def iDk (m : AE) : AEnv → AM AI := fun e h => bnd (m e h) fun x h1 => match x with
  | .ref k => match h1[k]? with
    | some (.ldk _) => some (.ok (.dks k), h1)
    | some (.ldt _) => some (.ok (.dks k), h1)
    | _ => none
  | _ => none
theorem si_keys {tg l : Expr} {m : AE} {lo : Bool} (hz : G.fz = false) (hl : SE G X W l m) : SI G X W lo tg l (iDk m) := by
  obtain ⟨t, p, s⟩ := hl
  refine ⟨_, pi_keys p, ?_⟩
  intro σ H al e h r h' R hr er hm q
  rcases bnd_some hm with ⟨c, k, e1, rfl⟩ | ⟨x, h1, e1, e2⟩
  · exact s σ H al e h _ _ _ hr er e1 q
  · refine s σ H al e h _ _ _ hr er e1 ?_
    intro al1 H1 u x1 hr1 r1
    split at e2
    · rename_i k
      have hk : k < h1.length := by cases r1; assumption
      split at e2
      · rename_i kvs hi
        cases e2
        obtain ⟨od, ws, e3, rf⟩ := (hr1.ob k _ hi : ∃ od ws, H1 (al1 k) = some (.frz od (.dK ws)) ∧ RF G h'.length al1 H1 kvs ws)
        refine ⟨al1 k, od, refAt r1, .inl ⟨ws, e3, q al1 H1 _ x1 hr1 (itr_dk hk e3 fun al' h2 H' x hr' kvs' hc => ?_)⟩⟩
        obtain ⟨od', ws', e4, _⟩ := (hr'.ob k _ hc : ∃ od ws, H' (al' k) = some (.frz od (.dT ws)) ∧ RF G h2.length al' H' kvs' ws)
        rw [x.al k hk, x.tf _ _ _ e3] at e4
        cases e4
      · rename_i kvs hi
        cases e2
        obtain ⟨od, ws, e3, rf⟩ := (hr1.ob k _ hi : ∃ od ws, H1 (al1 k) = some (.frz od (.dT ws)) ∧ RF G h'.length al1 H1 kvs ws)
        exact ⟨al1 k, od, refAt r1, .inr ⟨ws, e3, q al1 H1 _ x1 hr1 (itr_dt hz hk e3)⟩⟩
      · cases e2
    · cases e2
end
end SL
/-! SL15: a dict is locked while a statement (an expression) runs. -/
namespace SL
open PySem PySem.Spec PyProof.Rows L2
/-- what a value needs of a later state -/
structure ExtT (n : Nat) (al : Nat → Addr) (H : Hp) (n' : Nat) (al' : Nat → Addr) (H' : Hp) : Prop where
  le : n ≤ n'
  al : ∀ i, i < n → al' i = al i
  tp : ∀ b xs, H b = some (.tup xs) → H' b = some (.tup xs)
  tt : ∀ b o xs, H b = some (.frz o (.tup xs)) → H' b = some (.frz o (.tup xs))
section
variable {G : Gx} {n n' : Nat} {al al' : Nat → Addr} {H H' : Hp} {h h' : List AO}
theorem TupAt.monoT {a : Addr} {vs : List V} (e : ExtT n al H n' al' H') (t : TupAt G H a vs) : TupAt G H' a vs := by
  rcases t with ⟨z, t⟩ | ⟨z, o, d, t⟩ | t
  · exact .inl ⟨z, e.tp _ _ t⟩
  · exact .inr (.inl ⟨z, o, d, e.tt _ _ _ t⟩)
  · exact .inr (.inr t)
mutual
theorem RA.monoT (e : ExtT n al H n' al' H') : ∀ {x : AV} {v : V}, RA G n al H x v → RA G n' al' H' x v
  | _, _, .non => .non
  | _, _, .bl => .bl
  | _, _, .int => .int
  | _, _, .str => .str
  | _, _, .tup t hs => .tup (t.monoT e) (RAs.monoT e hs)
  | _, _, .ref (i := i) hi => by
    have q := e.al i hi
    rw [← q]
    exact .ref (Nat.lt_of_lt_of_le hi e.le)
  | _, _, .cst => .cst
  | _, _, .ktp t hs => .ktp t (RAs.monoT e hs)
theorem RAs.monoT (e : ExtT n al H n' al' H') : ∀ {xs : List AV} {vs : List V}, RAs G n al H xs vs → RAs G n' al' H' xs vs
  | _, _, .nil => .nil
  | _, _, .cons t hs => .cons (RA.monoT e t) (RAs.monoT e hs)
end
theorem RF.monoT {κ : Type} (e : ExtT n al H n' al' H') : ∀ {ps : List (κ × AV)} {qs : List (κ × V)}, RF G n al H ps qs → RF G n' al' H' ps qs
  | [], [], t => t
  | _ :: _, _ :: _, t => ⟨t.1, t.2.1.monoT e, RF.monoT e t.2.2⟩
  | [], _ :: _, t => t.elim
  | _ :: _, [], t => t.elim
theorem ER.monoT {e : AEnv} {σ : L2.St} (x : ExtT n al H n' al' H') (t : ER G n al H e σ) : ER G n' al' H' e σ := ⟨t.len, fun i v q => let ⟨u, a, b⟩ := t.at_ i v q; ⟨u, a, b.monoT x⟩⟩
/-- an object that is not touched -/
theorem OR.monoT {a : Addr} {o : AO} (t : OR G n al H a o) (e : ExtT n al H n' al' H') (k : ∀ u, H a = some u → H' a = some u) : OR G n' al' H' a o := by
  cases o with
  | lst xs => obtain ⟨vs, q, r⟩ := t; exact ⟨vs, k _ q, r.monoT e⟩
  | rol xs =>
    obtain ⟨vs, q, r⟩ := t
    refine ⟨vs, ?_, r.monoT e⟩
    rcases q with ⟨ob, q⟩ | q
    · exact .inl ⟨ob, k _ q⟩
    · exact .inr q
  | dct kvs => obtain ⟨vs, q, r⟩ := t; exact ⟨vs, k _ q, r.monoT e⟩
  | dtp kvs => obtain ⟨vs, q, r⟩ := t; exact ⟨vs, k _ q, r.monoT e⟩
  | ldk kvs => obtain ⟨od, vs, q, r⟩ := t; exact ⟨od, vs, k _ q, r.monoT e⟩
  | ldt kvs => obtain ⟨od, vs, q, r⟩ := t; exact ⟨od, vs, k _ q, r.monoT e⟩
  | ins c fs => obtain ⟨dx, vs, q, r⟩ := t; exact ⟨dx, vs, k _ q, r.monoT e⟩
  | xd fs => obtain ⟨vs, q, r⟩ := t; exact ⟨vs, k _ q, r.monoT e⟩
/-- the lock is taken off -/
theorem ext_off {i : Nat} {od : Obj} {u : HO} (hu : (∀ xs, u ≠ .tup xs)) (hd : H (al i) = some (.frz od u)) : ExtT n al H n al (upd H (al i) u) :=
  ⟨Nat.le_refl _, fun _ _ => rfl, fun b xs hb => by
    rw [upd_ne (fun z => by rw [z, hd] at hb; cases hb)]; exact hb, fun b o xs hb => by
    rw [upd_ne (fun z => by rw [z, hd] at hb; cases hb; exact hu xs rfl)]; exact hb⟩
theorem HR.off {i : Nat} {od : Obj} {u : HO} {o o' : AO} (hr : HR G al h H) (hi : h[i]? = some o) (to : o.trk = true) (to' : o'.trk = true) (hu : (∀ xs, u ≠ .tup xs) ∧ ∀ xs, u ≠ .lst xs) (hd : H (al i) = some (.frz od u)) (w : OR G h.length al (upd H (al i) u) (al i) o') : HR G al (h.set i o') (upd H (al i) u) := by
  have hlt : i < h.length := (List.getElem?_eq_some_iff.mp hi).1
  have E : ExtT h.length al H h.length al (upd H (al i) u) := ext_off hu.1 hd
  refine ⟨fun j x hj => ?_, fun j k oj ok hj hk tj tk hh => ?_⟩
  · rw [List.length_set]
    by_cases e : i = j
    · subst e
      rw [List.getElem?_set_self hlt] at hj
      cases hj
      exact w
    · rw [List.getElem?_set_ne e] at hj
      have q := hr.ob j x hj
      cases tx : x.trk with
      | true =>
        refine OR.monoT q E fun y hy => ?_
        rw [upd_ne (fun z => e (hr.inj i j o x hi hj to tx z.symm))]
        exact hy
      | false =>
        cases x with
        | rol xs =>
          obtain ⟨vs, r, rs⟩ := q
          refine ⟨vs, ?_, rs.monoT E⟩
          rcases r with ⟨ob, r⟩ | r
          · refine .inl ⟨ob, ?_⟩
            rw [upd_ne (fun z => by rw [z, hd] at r; cases r; exact hu.2 _ rfl)]
            exact r
          · exact .inr r
        | _ => cases tx
  · have old : ∀ {m : Nat} {x : AO}, (h.set i o')[m]? = some x → x.trk = true → ∃ y, h[m]? = some y ∧ y.trk = true := fun {m x} hm tx => by
      by_cases e : i = m
      · subst e; exact ⟨o, hi, to⟩
      · rw [List.getElem?_set_ne e] at hm
        exact ⟨x, hm, tx⟩
    obtain ⟨y, hy, ty⟩ := old hj tj
    obtain ⟨z, hz, tz⟩ := old hk tk
    exact hr.inj j k y z hy hz ty tz hh
end
/-- locked, free -/
def lkA : AO → Option AO
  | .dct kvs => some (.ldk kvs)
  | .dtp kvs => some (.ldt kvs)
  | _ => none
def fkA : AO → Option AO
  | .ldk kvs => some (.dct kvs)
  | .ldt kvs => some (.dtp kvs)
  | _ => none
section
variable {G : Gx} {X : Cx} {W : WX} {n : Nat} {al : Nat → Addr} {H : Hp} {h h' : List AO}
/-- taking the lock -/
theorem lock_on {i : Nat} {o o' : AO} (hr : HR G al h H) (hi : h[i]? = some o) (hl : lkA o = some o') : ∃ u, H (al i) = some u ∧ Mut (some u) ∧ ((∀ xs, u ≠ .tup xs) ∧ ∀ xs, u ≠ .lst xs) ∧ (∀ od v, u ≠ .frz od v) ∧ ∀ od, HR G al (h.set i o') (upd H (al i) (.frz od u)) ∧ Ext h.length al H h.length al (upd H (al i) (.frz od u)) := by
  cases o with
  | dct kvs =>
    cases hl
    obtain ⟨ws, e, rf⟩ := (hr.ob i _ hi : ∃ ws, H (al i) = some (.dK ws) ∧ RF G h.length al H kvs ws)
    refine ⟨_, e, trivial, ⟨fun _ z => (by cases z), fun _ z => (by cases z)⟩, fun _ _ z => (by cases z), fun od => ?_⟩
    have E := ext_put (u := .frz od (.dK ws)) hr hi rfl
    exact ⟨hr.put hi rfl rfl ⟨od, ws, upd_same, RF.mono E rf⟩, E⟩
  | dtp kvs =>
    cases hl
    obtain ⟨ws, e, rf⟩ := (hr.ob i _ hi : ∃ ws, H (al i) = some (.dT ws) ∧ RF G h.length al H kvs ws)
    refine ⟨_, e, trivial, ⟨fun _ z => (by cases z), fun _ z => (by cases z)⟩, fun _ _ z => (by cases z), fun od => ?_⟩
    have E := ext_put (u := .frz od (.dT ws)) hr hi rfl
    exact ⟨hr.put hi rfl rfl ⟨od, ws, upd_same, RF.mono E rf⟩, E⟩
  | _ => cases hl
/-- giving it back -/
theorem lock_off {i : Nat} {od : Obj} {u : HO} {o o' : AO} (hr : HR G al h H) (hi : h[i]? = some o) (hl : fkA o = some o') (hu : (∀ xs, u ≠ .tup xs) ∧ ∀ xs, u ≠ .lst xs) (hd : H (al i) = some (.frz od u)) : HR G al (h.set i o') (upd H (al i) u) := by
  cases o with
  | ldk kvs =>
    cases hl
    obtain ⟨od', ws, e, rf⟩ := (hr.ob i _ hi : ∃ od ws, H (al i) = some (.frz od (.dK ws)) ∧ RF G h.length al H kvs ws)
    rw [hd] at e
    cases e
    exact hr.off hi rfl rfl hu hd ⟨ws, upd_same, RF.monoT (ext_off hu.1 hd) rf⟩
  | ldt kvs =>
    cases hl
    obtain ⟨od', ws, e, rf⟩ := (hr.ob i _ hi : ∃ od ws, H (al i) = some (.frz od (.dT ws)) ∧ RF G h.length al H kvs ws)
    rw [hd] at e
    cases e
    exact hr.off hi rfl rfl hu hd ⟨ws, upd_same, RF.monoT (ext_off hu.1 hd) rf⟩
  | _ => cases hl
/-- which object: the one that slot i names -/
def selV (i : Nat) : AEnv → List AO → Option Nat := fun e _ => match e[i]? with
  | some (some (.ref k)) => some k
  | _ => none
/-- .. the one that the field f of slot i's object names -/
def selF (i : Nat) (f : Str) : AEnv → List AO → Option Nat := fun e h => match e[i]? with
  | some (some (.ref k)) => match h[k]? with
    | some (.ins _ fs) => match fs.lookup f with
      | some (.ref j) => some j
      | _ => none
    | _ => none
  | _ => none
def offA (i : Nat) (h : List AO) : Option (List AO) := match h[i]? with
  | some o => match fkA o with
    | some o' => some (h.set i o')
    | none => none
  | none => none
def onA (i : Nat) (h : List AO) : Option (List AO) := match h[i]? with
  | some o => match lkA o with
    | some o' => some (h.set i o')
    | none => none
  | none => none
def mLockS (sel : AEnv → List AO → Option Nat) (m : AS) : AS := fun e h => match sel e h with
  | some i => match onA i h with
    | some h1 => match m e h1 with
      | some (.ex _ _ _, _) => none
      | some (fl, h2) => match offA i h2 with
        | some h3 => some (fl, h3)
        | none => none
      | none => none
    | none => none
  | none => none
theorem ss_lock {st : Stmt} {m : AS} (sel : AEnv → List AO → Option Nat) (hs : SS G X W st m) : SS G X W st (mLockS sel m) := by
  obtain ⟨t, p, s⟩ := hs
  refine ⟨_, ps_lock p, ?_⟩
  intro σ H al e h fl h' D hr er hm q
  unfold mLockS at hm
  split at hm
  · rename_i i hsel
    split at hm
    · rename_i h1 hon
      unfold onA at hon
      split at hon
      · rename_i o hi
        split at hon
        · rename_i o' hl
          cases hon
          obtain ⟨u, hu, mu, hn, hf, on⟩ := lock_on hr hi hl
          have hlt : i < h.length := (List.getElem?_eq_some_iff.mp hi).1
          refine ⟨al i, u, hu, mu, fun od => ?_⟩
          obtain ⟨hr1, x1⟩ := on od
          have x1' : Ext h.length al H (h.set i o').length al (upd H (al i) (.frz od u)) := by rw [List.length_set]; exact x1
          split at hm
          · cases hm
          · rename_i fl2 h2 nex em
            split at hm
            · rename_i h3 hoff
              cases hm
              unfold offA at hoff
              split at hoff
              · rename_i o2 hi2
                split at hoff
                · rename_i o3 hl3
                  cases hoff
                  -- at the statement's end
                  have fin : ∀ al' H', Ext (h.set i o').length al (upd H (al i) (.frz od u)) h2.length al' H' → HR G al' h2 H' → H' (al i) = some (.frz od u) ∧ HR G al' (h2.set i o3) (upd H' (al i) u) ∧ Ext h.length al H (h2.set i o3).length al' (upd H' (al i) u) ∧ ExtT h2.length al' H' (h2.set i o3).length al' (upd H' (al i) u) := by
                    intro al' H' x2 hr2
                    have hd : H' (al i) = some (.frz od u) := x2.tf _ _ _ upd_same
                    have ea : al' i = al i := x2.al i (by rw [List.length_set]; exact hlt)
                    have hd' : H' (al' i) = some (.frz od u) := by rw [ea]; exact hd
                    have h5 := lock_off hr2 hi2 hl3 hn hd'
                    have h6 : ExtT h2.length al' H' h2.length al' (upd H' (al' i) u) := ext_off hn.1 hd'
                    rw [ea] at h5 h6
                    have x12 := x1'.trans x2
                    refine ⟨hd, h5, ?_, by rw [List.length_set]; exact h6⟩
                    rw [List.length_set]
                    refine ⟨x12.le, x12.al, fun b xs hb => ?_, fun b o v hb => ?_⟩
                    · rw [upd_ne (fun z => by rw [z, hu] at hb; cases hb; exact hn.1 _ rfl)]
                      exact x12.tp _ _ hb
                    · rw [upd_ne (fun z => by rw [z, hu] at hb; cases hb; exact hf _ _ rfl)]
                      exact x12.tf _ _ _ hb
                  refine s σ _ al e (h.set i o') fl h2 _ hr1 (er.mono x1') em ?_
                  cases fl with
                  | nx e2 =>
                    intro al' H' σ' x2 hr2 er2
                    obtain ⟨f1, f2, f3, f4⟩ := fin al' H' x2 hr2
                    exact ⟨f1, q al' _ σ' f3 f2 (er2.monoT f4)⟩
                  | bk e2 =>
                    intro al' H' σ' x2 hr2 er2
                    obtain ⟨f1, f2, f3, f4⟩ := fin al' H' x2 hr2
                    exact ⟨f1, q al' _ σ' f3 f2 (er2.monoT f4)⟩
                  | ct e2 =>
                    intro al' H' σ' x2 hr2 er2
                    obtain ⟨f1, f2, f3, f4⟩ := fin al' H' x2 hr2
                    exact ⟨f1, q al' _ σ' f3 f2 (er2.monoT f4)⟩
                  | rt v =>
                    intro al' H' w x2 hr2 r2
                    obtain ⟨f1, f2, f3, f4⟩ := fin al' H' x2 hr2
                    exact ⟨f1, q al' _ w f3 f2 (r2.monoT f4)⟩
                  | ex c k e2 => exact absurd rfl (nex c k e2)
                · cases hoff
              · cases hoff
            · cases hm
          · cases hm
        · cases hon
      · cases hon
    · cases hm
  · cases hm
end
end SL
/-! SL16: locks around an expression. -/
namespace SL
open PySem PySem.Spec PyProof.Rows L2
section
variable {G : Gx} {X : Cx} {W : WX}
def mLockE (sel : AEnv → List AO → Option Nat) (m : AE) : AE := fun e h => match sel e h with
  | some i => match onA i h with
    | some h1 => match m e h1 with
      | some (.ok v, h2) => match offA i h2 with
        | some h3 => some (.ok v, h3)
        | none => none
      | _ => none
    | none => none
  | none => none
theorem se_lock {ex : Expr} {m : AE} (sel : AEnv → List AO → Option Nat) (hs : SE G X W ex m) : SE G X W ex (mLockE sel m) := by
  obtain ⟨t, p, s⟩ := hs
  refine ⟨_, pe_lock p, ?_⟩
  intro σ H al e h r h' Q hr er hm q
  unfold mLockE at hm
  split at hm
  · rename_i i hsel
    split at hm
    · rename_i h1 hon
      unfold onA at hon
      split at hon
      · rename_i o hi
        split at hon
        · rename_i o' hl
          cases hon
          obtain ⟨u, hu, mu, hn, hf, on⟩ := lock_on hr hi hl
          have hlt : i < h.length := (List.getElem?_eq_some_iff.mp hi).1
          refine ⟨al i, u, hu, mu, fun od => ?_⟩
          obtain ⟨hr1, x1⟩ := on od
          have x1' : Ext h.length al H (h.set i o').length al (upd H (al i) (.frz od u)) := by rw [List.length_set]; exact x1
          split at hm
          · rename_i v h2 em
            split at hm
            · rename_i h3 hoff
              cases hm
              unfold offA at hoff
              split at hoff
              · rename_i o2 hi2
                split at hoff
                · rename_i o3 hl3
                  cases hoff
                  refine s σ _ al e (h.set i o') _ h2 _ hr1 (er.mono x1') em ?_
                  intro al' H' w x2 hr2 r2
                  have hd : H' (al i) = some (.frz od u) := x2.tf _ _ _ upd_same
                  have ea : al' i = al i := x2.al i (by rw [List.length_set]; exact hlt)
                  have hd' : H' (al' i) = some (.frz od u) := by rw [ea]; exact hd
                  have h5 := lock_off hr2 hi2 hl3 hn hd'
                  have h6 : ExtT h2.length al' H' h2.length al' (upd H' (al' i) u) := ext_off hn.1 hd'
                  rw [ea] at h5 h6
                  have x12 := x1'.trans x2
                  refine ⟨hd, q al' _ w ?_ h5 (by rw [List.length_set]; exact r2.monoT h6)⟩
                  rw [List.length_set]
                  refine ⟨x12.le, x12.al, fun b xs hb => ?_, fun b o v hb => ?_⟩
                  · rw [upd_ne (fun z => by rw [z, hu] at hb; cases hb; exact hn.1 _ rfl)]
                    exact x12.tp _ _ hb
                  · rw [upd_ne (fun z => by rw [z, hu] at hb; cases hb; exact hf _ _ rfl)]
                    exact x12.tf _ _ _ hb
                · cases hoff
              · cases hoff
            · cases hm
          · cases hm
        · cases hon
      · cases hon
    · cases hm
  · cases hm
end
end SL
/-! SL17: dict displays whose keys are tuples. -/
namespace L2
open PySem PySem.Spec PyProof.Rows
def mergeKT (kvs more : List (List Key × V)) : List (List Key × V) := more.foldl (fun acc kv => putK acc kv.1 kv.2) kvs
theorem length_mergeKT (more kvs : List (List Key × V)) : (mergeKT kvs more).length ≤ kvs.length + more.length := by
  revert kvs
  induction more with
  | nil => exact fun _ => Nat.le_refl _
  | cons kv more ih =>
    intro kvs
    refine Nat.le_trans (ih (putK kvs kv.1 kv.2)) ?_
    have one := length_putK kvs kv.1 kv.2
    simp only [List.length_cons]
    omega
theorem KT.merge {H : Hp} : ∀ {more : List (List Key × V)} {rs : List (List Key × Addr × Value)} {kvs : List (List Key × V)} {xs : List (List Key × Addr × Value)}, KT H more rs → KT H kvs xs → KT H (mergeKT kvs more) (storedAllH xs rs) := by
  intro more rs kvs xs r
  induction r generalizing kvs xs with
  | nil => intro q; exact q
  | @cons p q ps qs h t ih =>
    intro r0
    obtain ⟨h1, h2, h3⟩ := h
    have e : KT H (putK kvs p.1 p.2) (storedH xs q.1 q.2.1 q.2.2) := by
      have := r0.put p.1 h2 h3
      rw [← h1]; exact this
    exact ih e
/-- keys, their tuples, values -/
abbrev Row := List Key × Addr × V
def rowP (r : Row) : V × V := (.ref r.2.1, r.2.2)
def rowK (r : Row) : List Key × V := (r.1, r.2.2)
theorem carriesT {P : Program} {w : World} {H : Hp} {h : Heap} (ok : HOk P w H h) : ∀ {rs : List Row} {ws : List (Value × Value)}, (∀ r ∈ rs, H r.2.1 = some (.tup (r.1.map kV))) → VV (rs.map rowP) ws → ∃ xs, CarriesH (tupleKind (mixKind P w)) h ws xs ∧ KT H (rs.map rowK) xs
  | [], _, _, r => by rw [List.map_nil] at r; cases r; exact ⟨[], True.intro, .nil⟩
  | p :: rs, _, hk, r => by
    rw [List.map_cons] at r
    cases r with
    | @cons a b as bs h t =>
      obtain ⟨xs, c, q⟩ := carriesT ok (fun r hr => hk r (List.mem_cons_of_mem _ hr)) t
      obtain ⟨b1, b2⟩ := b
      have k1 := hk p List.mem_cons_self
      exact ⟨(p.1, p.2.1, b2) :: xs, ⟨h.1, rfl, key_of ok k1, c⟩, .cons ⟨rfl, k1, h.2⟩ q⟩
def tDispT (trs : List (TE × TE)) : TE := fun σ H Q => ∀ p, H p = none → tPairs trs σ (upd H p (.dT [])) fun ps H2 => H2 p = some (.dT []) ∧ ∃ rs : List Row, ps = rs.map rowP ∧ (∀ r ∈ rs, H2 r.2.1 = some (.tup (r.1.map kV))) ∧ rs.length ≤ 15 ∧ Q (.ref p) (upd H2 p (.dT (mergeKT [] (rs.map rowK))))
/-- a tracked dict of the kind with tuple keys, written over -/
theorem Inv.overT {X : Cx} {pins : List (Addr × Obj)} {σ : St} {H : Hp} {t : Shared} {c : Addr} {old new : List (List Key × V)} {xs : List (List Key × Addr × Value)} {g : Heap} {tk : Nat} (inv : Inv X pins σ H t) (there : H c = some (.dT old)) (few : new.length ≤ sizeLine) (rel : KT H new xs)
    (same : Heap.SameBut c t.heap g) (made : g.DictOfH (tupleKind (mixKind X.prog X.w)) c xs) : Inv X pins σ (upd H c (.dT new)) { t with heap := g, toks := tk } := by
  have ⟨_, notMods, _⟩ := dt_of inv.hok there
  have ⟨ob, rows, cap, at_, ex, da, li, _, nd⟩ := made
  have keep : ∀ b ys, H b = some (.tup ys) → upd H c (.dT new) b = some (.tup ys) := by
    intro b ys hb
    rw [upd_ne]
    · exact hb
    · rintro rfl
      rw [there] at hb
      cases hb
  exact d_write inv (there ▸ trivial) same ⟨ob, at_⟩ ⟨few, notMods, xs, rel.keeps keep, ob, rows, cap, at_, ex, da, li, nd⟩
theorem pe_dispT {X : Cx} {pos : Pos} {keys : List (Option Expr)} {values : List Expr} {trs : List (TE × TE)} (hu : X.A.units < cLine) (h : PPs X pos keys values trs) (hall : keys.all (·.isSome) = true) (hl : keys.length = values.length) (h0 : keys ≠ [])
    (h15 : keys.length ≤ 15) : PE X (.Dict keys values pos) (tDispT trs) := by
  constructor
  intro pins t σ H Q inv want
  have new := inv.hok.fresh (Nat.le_refl t.heap.objs.size)
  have begun := inv.laid (o := .dT []) (t' := t.toks) (fun _ _ => Heap.get?_push_of_some _) (Nat.le_refl _) (dt_empty t.heap inv.big)
  have many := pairTrees_length keys values X.env pos hall hl
  have some_ : pairTrees keys values X.env pos ≠ [] := by
    intro z
    apply h0
    rw [z] at many
    exact List.eq_nil_of_length_eq_zero many.symm
  rw [arm_eval_Dict, zip_pairTrees keys values X.env pos hall hl, dictDisplay_pairs _ some_ (by omega)]
  apply wpAny_bind
  apply wpAny_standAt
  apply wpAny_bind
  refine wpAny_subDictH (knd := tupleKind (mixKind X.prog X.w)) hu (many ▸ h15) (thn (h.run pins _ σ _ _ begun (want _ new)) ?_)
  rintro ws t2 ⟨ps, H2, inv2, rel, there, rs, rfl, keys_, few, q⟩
  have ⟨xs, carry, kt⟩ := carriesT inv2.hok keys_ rel
  have ⟨_, _, none_, nil_, made⟩ := dt_of inv2.hok there
  cases nil_
  refine ⟨xs, carry, made, fun g tk made2 same => wpAny_pure ⟨V.ref _, _, inv2.overT there ?_ (kt.merge .nil) same made2, rfl, q⟩⟩
  have le := length_mergeKT (rs.map rowK) []
  simp only [List.length_map, List.length_nil] at le
  have := sizeLine_eq
  omega
end L2
/-! SH1: what a semantic function does on a small heap it does behind any other objects (refs moved up). -/
namespace SL
open PySem PySem.Spec PyProof.Rows L2
mutual
def shV (s : Nat) : AV → AV
  | .tup xs => .tup (shVs s xs)
  | .ref n => .ref (s + n)
  | .non => .non
  | .bl b => .bl b
  | .int i => .int i
  | .str x => .str x
  | .cst v => .cst v
  | .ktp xs => .ktp (shVs s xs)
def shVs (s : Nat) : List AV → List AV
  | [] => []
  | x :: xs => shV s x :: shVs s xs
end
theorem shVs_eq {s : Nat} : ∀ xs : List AV, shVs s xs = xs.map (shV s)
  | [] => rfl
  | x :: xs => by rw [shVs, List.map_cons, shVs_eq xs]
def shP {κ : Type} (s : Nat) (ps : List (κ × AV)) : List (κ × AV) := ps.map fun p => (p.1, shV s p.2)
def shO (s : Nat) : AO → AO
  | .lst xs => .lst (xs.map (shV s))
  | .rol xs => .rol (xs.map (shV s))
  | .dct kvs => .dct (shP s kvs)
  | .dtp kvs => .dtp (shP s kvs)
  | .ldk kvs => .ldk (shP s kvs)
  | .ldt kvs => .ldt (shP s kvs)
  | .ins c fs => .ins c (shP s fs)
  | .xd fs => .xd (shP s fs)
def shH (p h : List AO) : List AO := p ++ h.map (shO p.length)
def shE (s : Nat) (e : AEnv) : AEnv := e.map (Option.map (shV s))
def shR {α : Type} (f : α → α) (s : Nat) : Rs α → Rs α
  | .ok a => .ok (f a)
  | .ex c k => .ex c (s + k)
def shSrc (s : Nat) : Src → Src
  | .tup xs => .tup (xs.map (shV s))
  | .lst k => .lst (s + k)
def shI (s : Nat) : AI → AI
  | .src a => .src (shSrc s a)
  | .rng l n => .rng l n
  | .str x => .str x
  | .enm a => .enm (shSrc s a)
  | .zip a b => .zip (shSrc s a) (shSrc s b)
  | .dks k => .dks (s + k)
def shFl (s : Nat) : Fl → Fl
  | .nx e => .nx (shE s e)
  | .rt v => .rt (shV s v)
  | .bk e => .bk (shE s e)
  | .ct e => .ct (shE s e)
  | .ex c k e => .ex c (s + k) (shE s e)
section
variable {p h g : List AO} {i s : Nat} {o : AO} {e : AEnv} {xs : List AV} {x : AV}
@[simp] theorem shV_tup : shV s (.tup xs) = .tup (xs.map (shV s)) := by rw [shV, shVs_eq]
@[simp] theorem shV_ktp : shV s (.ktp xs) = .ktp (xs.map (shV s)) := by rw [shV, shVs_eq]
@[simp] theorem shV_ref : shV s (.ref i) = .ref (s + i) := by rw [shV]
@[simp] theorem shV_non : shV s .non = .non := by rw [shV]
@[simp] theorem shV_bl {b : Bool} : shV s (.bl b) = .bl b := by rw [shV]
@[simp] theorem shV_int {j : Int} : shV s (.int j) = .int j := by rw [shV]
@[simp] theorem shV_str {z : Str} : shV s (.str z) = .str z := by rw [shV]
@[simp] theorem shV_cst {v : V} : shV s (.cst v) = .cst v := by rw [shV]
theorem shV_kA {k : Key} : shV s (kA k) = kA k := by
  cases k <;> simp [kA]
theorem shV_kAs {ks : List Key} : (ks.map kA).map (shV s) = ks.map kA := by
  rw [List.map_map]; apply List.map_congr_left; intro k _; exact shV_kA
@[simp] theorem shH_len : (shH p h).length = p.length + h.length := by simp [shH]
@[simp] theorem shH_get : (shH p h)[p.length + i]? = (h[i]?).map (shO p.length) := by
  rw [shH, List.getElem?_append_right (Nat.le_add_right _ _), Nat.add_sub_cancel_left, List.getElem?_map]
theorem shH_app : shH p (h ++ g) = shH p h ++ g.map (shO p.length) := by simp [shH]
theorem shH_set : shH p (h.set i o) = (shH p h).set (p.length + i) (shO p.length o) := by
  rw [shH, shH, List.set_append_right _ _ (Nat.le_add_right _ _), Nat.add_sub_cancel_left, List.map_set]
theorem shE_get : (shE s e)[i]? = (e[i]?).map (Option.map (shV s)) := by rw [shE, List.getElem?_map]
theorem shE_set {v : Option AV} : shE s (e.set i v) = (shE s e).set i (v.map (shV s)) := by rw [shE, shE, List.map_set]
theorem shE_wipe : ∀ vs : List Nat, shE s (awipe e vs) = awipe (shE s e) vs
  | [] => rfl
  | v :: vs => by
    show shE s ((awipe e vs).set v none) = (awipe (shE s e) vs).set v none
    rw [shE_set, shE_wipe vs]
    rfl
theorem shP_look {κ : Type} [BEq κ] {k : κ} : ∀ ps : List (κ × AV), (shP s ps).lookup k = (ps.lookup k).map (shV s)
  | [] => rfl
  | (a, v) :: ps => by
    show List.lookup k ((a, shV s v) :: shP s ps) = _
    rw [List.lookup_cons, List.lookup_cons]
    cases k == a with
    | true => rfl
    | false => exact shP_look ps
theorem shP_val {κ : Type} [DecidableEq κ] {k : κ} : ∀ ps : List (κ × AV), valA (shP s ps) k = (valA ps k).map (shV s)
  | [] => rfl
  | (a, v) :: ps => by
    have ih := shP_val (k := k) ps
    unfold valA shP at ih ⊢
    rw [List.map_cons, List.find?_cons, List.find?_cons]
    by_cases z : a = k
    · simp [z]
    · simpa [z] using ih
theorem shP_put {κ : Type} [DecidableEq κ] {k : κ} {v : AV} (ps : List (κ × AV)) : shP s (putA ps k v) = putA (shP s ps) k (shV s v) := by
  have a : ((shP s ps).any fun kv => decide (kv.1 = k)) = ps.any fun kv => decide (kv.1 = k) := by
    rw [shP, List.any_map]; rfl
  unfold putA
  rw [a]
  split
  · unfold shP
    simp only [List.map_map]
    apply List.map_congr_left
    intro q _
    simp only [Function.comp_apply]
    split <;> rfl
  · unfold shP
    rw [List.map_append]
    rfl
theorem shP_putF {f : Str} {v : AV} : ∀ ps : List (Str × AV), shP s (putFA f v ps) = putFA f (shV s v) (shP s ps)
  | [] => rfl
  | (a, x) :: ps => by
    show shP s (if a = f then (a, v) :: ps else (a, x) :: putFA f v ps) = if a = f then (a, shV s v) :: shP s ps else (a, shV s x) :: putFA f (shV s v) (shP s ps)
    split
    · rfl
    · show (a, shV s x) :: shP s (putFA f v ps) = _
      rw [shP_putF ps]
theorem shP_len {κ : Type} (ps : List (κ × AV)) : (shP s ps).length = ps.length := by rw [shP, List.length_map]
end
/-! ### the promises -/
def ShE (m : AE) : Prop := ∀ (p : List AO) (e : AEnv) (h : List AO) (r : Rs AV) (h' : List AO), m e h = some (r, h') → m (shE p.length e) (shH p h) = some (shR (shV p.length) p.length r, shH p h')
def ShB (m : AEnv → AM Bool) : Prop := ∀ (p : List AO) (e : AEnv) (h : List AO) (r : Rs Bool) (h' : List AO), m e h = some (r, h') → m (shE p.length e) (shH p h) = some (shR id p.length r, shH p h')
def ShL (m : AEnv → AM (List AV)) : Prop := ∀ (p : List AO) (e : AEnv) (h : List AO) (r : Rs (List AV)) (h' : List AO), m e h = some (r, h') → m (shE p.length e) (shH p h) = some (shR (List.map (shV p.length)) p.length r, shH p h')
def ShN (m : AEnv → AM (Option Int)) : Prop := ∀ (p : List AO) (e : AEnv) (h : List AO) (r : Rs (Option Int)) (h' : List AO), m e h = some (r, h') → m (shE p.length e) (shH p h) = some (shR id p.length r, shH p h')
def ShIt (m : AEnv → AM AI) : Prop := ∀ (p : List AO) (e : AEnv) (h : List AO) (r : Rs AI) (h' : List AO), m e h = some (r, h') → m (shE p.length e) (shH p h) = some (shR (shI p.length) p.length r, shH p h')
def ShPr (m : AEnv → AM (List (AV × AV))) : Prop := ∀ (p : List AO) (e : AEnv) (h : List AO) (r : Rs (List (AV × AV))) (h' : List AO), m e h = some (r, h') → m (shE p.length e) (shH p h) = some (shR (List.map fun q => (shV p.length q.1, shV p.length q.2)) p.length r, shH p h')
def ShS (m : AS) : Prop := ∀ (p : List AO) (e : AEnv) (h : List AO) (r : Fl) (h' : List AO), m e h = some (r, h') → m (shE p.length e) (shH p h) = some (shFl p.length r, shH p h')
def ShM (m : List AV → AM AV) : Prop := ∀ (p : List AO) (vs : List AV) (h : List AO) (r : Rs AV) (h' : List AO), m vs h = some (r, h') → m (vs.map (shV p.length)) (shH p h) = some (shR (shV p.length) p.length r, shH p h')
def Sh1 (f : AV → List AO → Option (AV × List AO)) : Prop := ∀ (p : List AO) (x : AV) (h : List AO) (v : AV) (h' : List AO), f x h = some (v, h') → f (shV p.length x) (shH p h) = some (shV p.length v, shH p h')
def Sh2 (f : AV → AV → List AO → Option (AV × List AO)) : Prop := ∀ (p : List AO) (x y : AV) (h : List AO) (v : AV) (h' : List AO), f x y h = some (v, h') → f (shV p.length x) (shV p.length y) (shH p h) = some (shV p.length v, shH p h')
def Sh3 (f : AV → Option Int → Option Int → List AO → Option (AV × List AO)) : Prop := ∀ (p : List AO) (x : AV) (l u : Option Int) (h : List AO) (v : AV) (h' : List AO), f x l u h = some (v, h') → f (shV p.length x) l u (shH p h) = some (shV p.length v, shH p h')
def ShFL (f : List AV → List AO → Option (AV × List AO)) : Prop := ∀ (p : List AO) (xs : List AV) (h : List AO) (v : AV) (h' : List AO), f xs h = some (v, h') → f (xs.map (shV p.length)) (shH p h) = some (shV p.length v, shH p h')
def ShFM (f : AV → List AV → List AO → Option (AV × List AO)) : Prop := ∀ (p : List AO) (x : AV) (xs : List AV) (h : List AO) (v : AV) (h' : List AO), f x xs h = some (v, h') → f (shV p.length x) (xs.map (shV p.length)) (shH p h) = some (shV p.length v, shH p h')
def ShG (g : AG) : Prop := ∀ (p : List AO) (v : AV) (e : AEnv) (h : List AO) (e' : AEnv) (h' : List AO), g v e h = some (e', h') → g (shV p.length v) (shE p.length e) (shH p h) = some (shE p.length e', shH p h')
def ShGs (g : AGs) : Prop := ∀ (p : List AO) (vs : List AV) (e : AEnv) (h : List AO) (e' : AEnv) (h' : List AO), g vs e h = some (e', h') → g (vs.map (shV p.length)) (shE p.length e) (shH p h) = some (shE p.length e', shH p h')
/-- two in a row -/
theorem sh_bnd {α β : Type} {fa : α → α} {fb : β → β} {p : List AO} {m m' : Option (Rs α × List AO)} {f f' : α → AM β} {r : Rs β} {h' : List AO} (hm : ∀ r h', m = some (r, h') → m' = some (shR fa p.length r, shH p h'))
    (hf : ∀ a h r h', f a h = some (r, h') → f' (fa a) (shH p h) = some (shR fb p.length r, shH p h')) (e : bnd m f = some (r, h')) : bnd m' f' = some (shR fb p.length r, shH p h') := by
  rcases bnd_some e with ⟨c, k, e1, rfl⟩ | ⟨a, h1, e1, e2⟩
  · rw [hm _ _ e1]; rfl
  · rw [hm _ _ e1]
    exact hf _ _ _ _ e2
theorem sh_bndS {α : Type} {fa : α → α} {p : List AO} {en : AEnv} {m m' : Option (Rs α × List AO)} {f f' : α → List AO → Option (Fl × List AO)} {r : Fl} {h' : List AO} (hm : ∀ r h', m = some (r, h') → m' = some (shR fa p.length r, shH p h'))
    (hf : ∀ a h r h', f a h = some (r, h') → f' (fa a) (shH p h) = some (shFl p.length r, shH p h')) (e : bndS m en f = some (r, h')) : bndS m' (shE p.length en) f' = some (shFl p.length r, shH p h') := by
  rcases bndS_some e with ⟨c, k, e1, rfl⟩ | ⟨a, h1, e1, e2⟩
  · rw [hm _ _ e1]; rfl
  · rw [hm _ _ e1]
    exact hf _ _ _ _ e2
end SL
/-! SH2: the parts of a text. -/
namespace SL
open PySem PySem.Spec PyProof.Rows L2
theorem sh_lft {p : List AO} {o o' : Option (AV × List AO)} {r : Rs AV} {h' : List AO} (ho : ∀ v h', o = some (v, h') → o' = some (shV p.length v, shH p h')) (e : lft o = some (r, h')) : lft o' = some (shR (shV p.length) p.length r, shH p h') := by
  cases o with
  | none => cases e
  | some q =>
    obtain ⟨v, h1⟩ := q
    cases e
    rw [ho _ _ rfl]
    rfl
theorem sh_tBK {p : List AO} {o o' : OV AV} {r : Rs Bool} {h' : List AO} (ho : ∀ v h', o = some (v, h') → o' = some (shR (shV p.length) p.length v, shH p h')) (e : tBK o = some (r, h')) : tBK o' = some (shR id p.length r, shH p h') := by
  unfold tBK at e
  split at e
  · cases e
    rw [ho _ _ rfl]
    simp [shR, tBK]
  · cases e
    rw [ho _ _ rfl]
    rfl
  · cases e
theorem sh_pSK {p : List AO} {o o' : OV AV} {r : Rs (Option Int)} {h' : List AO} (ho : ∀ v h', o = some (v, h') → o' = some (shR (shV p.length) p.length v, shH p h')) (e : pSK o = some (r, h')) : pSK o' = some (shR id p.length r, shH p h') := by
  unfold pSK at e
  split at e
  · cases e
    rw [ho _ _ rfl]
    simp [shR, pSK]
  · cases e
    rw [ho _ _ rfl]
    rfl
  · cases e
section
variable {i : Nat} {v : AV}
theorem sh_mVar : ShE (mVar i) := by
  intro p e h r h' q
  unfold mVar at q ⊢
  rw [shE_get]
  split at q
  · rename_i v hv
    cases q
    rw [hv]
    rfl
  · cases q
theorem sh_mC (hv : ∀ s, shV s v = v) : ShE (mC v) := by
  intro p e h r h' q
  cases q
  show some (Rs.ok v, shH p h) = some (.ok (shV p.length v), shH p h)
  rw [hv]
theorem sh_m1 {f : F1} {ma : AE} (hf : Sh1 f) (ha : ShE ma) : ShE (m1 f ma) := fun p e h r h' q => sh_bnd (fb := shV p.length) (ha p e h) (fun x h1 r h' q => sh_lft (hf p x h1) q) q
theorem sh_m2 {f : F2} {ma mb : AE} (hf : Sh2 f) (ha : ShE ma) (hb : ShE mb) : ShE (m2 f ma mb) := fun p e h r h' q => sh_bnd (fb := shV p.length) (ha p e h) (fun x h1 r h' q => sh_bnd (fb := shV p.length) (hb p e h1) (fun y h2 r h' q => sh_lft (hf p x y h2) q) q) q
theorem sh_mC1 {f : FL} {ma : EL} (hf : ShFL f) (ha : ShL ma) : ShE (mC1 f ma) := fun p e h r h' q => sh_bnd (fb := shV p.length) (ha p e h) (fun x h1 r h' q => sh_lft (hf p x h1) q) q
theorem sh_mNil : ShL mNil := fun p e h r h' q => by cases q; rfl
theorem sh_mCons {ma : AE} {mr : EL} (ha : ShE ma) (hr : ShL mr) : ShL (mCons ma mr) := fun p e h r h' q => sh_bnd (fb := List.map (shV p.length)) (ha p e h) (fun x h1 r h' q => sh_bnd (fb := List.map (shV p.length)) (hr p e h1) (fun y h2 r h' q => by cases q; rfl) q) q
theorem sh_mTup {ma : EL} (ha : ShL ma) : ShE (mTup ma) := fun p e h r h' q => sh_bnd (fb := shV p.length) (ha p e h) (fun x h1 r h' q => by
  split at q
  · rename_i hl
    cases q
    rw [if_pos (by rw [List.length_map]; exact hl)]
    simp [shR]
  · cases q) q
theorem sh_mLst {ma : EL} (ha : ShL ma) : ShE (mLst ma) := fun p e h r h' q => sh_bnd (fb := shV p.length) (ha p e h) (fun x h1 r h' q => by
  split at q
  · rename_i hl
    cases q
    rw [if_pos (by rw [List.length_map]; exact hl), shH_app]
    simp [shR, shO]
  · cases q) q
theorem sh_mB {m : AE} (h : ShE m) : ShB (mB m) := fun p e hh r h' q => sh_tBK (h p e hh) q
theorem sh_mIf {c : EB} {a b : AE} (hc : ShB c) (ha : ShE a) (hb : ShE b) : ShE (mIf c a b) := fun p e h r h' q => sh_bnd (fb := shV p.length) (hc p e h) (fun x h1 r h' q => by
  cases x with
  | true => exact ha p e h1 r h' q
  | false => exact hb p e h1 r h' q) q
theorem sh_mAnd {a b : EB} (ha : ShB a) (hb : ShB b) : ShB (mAnd a b) := fun p e h r h' q => sh_bnd (fb := id) (ha p e h) (fun x h1 r h' q => by
  cases x with
  | true => exact hb p e h1 r h' q
  | false => cases q; rfl) q
theorem sh_mOr {a b : EB} (ha : ShB a) (hb : ShB b) : ShB (mOr a b) := fun p e h r h' q => sh_bnd (fb := id) (ha p e h) (fun x h1 r h' q => by
  cases x with
  | true => cases q; rfl
  | false => exact hb p e h1 r h' q) q
theorem sh_mNot {a : EB} (ha : ShB a) : ShB (mNot a) := fun p e h r h' q => sh_bnd (fb := id) (ha p e h) (fun x h1 r h' q => by cases q; rfl) q
theorem sh_mAndV {a b : AE} (ha : ShE a) (hb : ShE b) : ShE (mAndV a b) := fun p e h r h' q => sh_bnd (fb := shV p.length) (sh_mB ha p e h) (fun x h1 r h' q => by
  cases x with
  | true => exact hb p e h1 r h' q
  | false => cases q; simp [shR]) q
theorem sh_mOrV {a b : AE} (ha : ShE a) (hb : ShE b) : ShE (mOrV a b) := fun p e h r h' q => sh_bnd (fb := shV p.length) (sh_mB ha p e h) (fun x h1 r h' q => by
  cases x with
  | true => cases q; simp [shR]
  | false => exact hb p e h1 r h' q) q
theorem sh_mNotV {a : AE} (ha : ShE a) : ShE (mNotV a) := fun p e h r h' q => sh_bnd (fb := shV p.length) (sh_mB ha p e h) (fun x h1 r h' q => by cases q; simp [shR]) q
theorem sh_mPn : ShN mPn := fun p e h r h' q => by cases q; rfl
theorem sh_mPs {m : AE} (h : ShE m) : ShN (mPs m) := fun p e hh r h' q => sh_pSK (h p e hh) q
theorem sh_m3s {f : F3} {ma : AE} {ml mh : EO} (hf : Sh3 f) (ha : ShE ma) (hl : ShN ml) (hh : ShN mh) : ShE (m3s f ma ml mh) := fun p e h r h' q => sh_bnd (fb := shV p.length) (ha p e h) (fun x h1 r h' q => sh_bnd (fb := shV p.length) (hl p e h1) (fun l h2 r h' q => sh_bnd (fb := shV p.length) (hh p e h2) (fun u h3 r h' q => sh_lft (hf p x l u h3) q) q) q) q
theorem sh_m3c {f f' : F2} {ma mb mc : AE} (hf : Sh2 f) (hf' : Sh2 f') (ha : ShE ma) (hb : ShE mb) (hc : ShE mc) : ShE (m3c f f' ma mb mc) := fun p e h r h' q => sh_bnd (fb := shV p.length) (ha p e h) (fun x h1 r h' q => sh_bnd (fb := shV p.length) (hb p e h1) (fun y h2 r h' q => by
  split at q
  · rename_i h3 ef
    rw [hf p x y h2 _ _ ef, shV_bl]
    exact sh_bnd (fb := shV p.length) (hc p e h3) (fun z h4 r h' q => sh_lft (hf' p y z h4) q) q
  · rename_i h3 ef
    cases q
    rw [hf p x y h2 _ _ ef, shV_bl]
    simp [shR]
  · cases q) q) q
theorem tyA_sh {T : Ty} {p h : List AO} {x : AV} : tyA T (shH p h) (shV p.length x) = tyA T h x := by
  cases x with
  | ref i =>
    rw [shV_ref]
    cases T <;> first | rfl | skip
    show (match (shH p h)[p.length + i]? with | some (.lst _) => true | _ => false) = (match h[i]? with | some (.lst _) => true | _ => false)
    rw [shH_get]
    cases h[i]? with
    | none => rfl
    | some o => cases o <;> rfl
  | tup xs => rw [shV_tup]; cases T <;> rfl
  | _ => cases T <;> simp [tyA]
theorem sh_mBM {T : Ty} {f : FM} {mo : AE} {ma : EL} (hf : ShFM f) (ho : ShE mo) (ha : ShL ma) : ShE (mBM T f mo ma) := fun p e h r h' q => sh_bnd (fb := shV p.length) (ho p e h) (fun x h1 r h' q => by
  rw [tyA_sh]
  split at q
  · rename_i ht
    rw [if_pos ht]
    exact sh_bnd (fb := shV p.length) (ha p e h1) (fun xs h2 r h' q => sh_lft (hf p x xs h2) q) q
  · cases q) q
theorem sh_mCall {m : List AV → AM AV} {davs : List AV} {ma : EL} (hm : ShM m) (hd : ∀ s, davs.map (shV s) = davs) (ha : ShL ma) : ShE (mCall m davs ma) := fun p e h r h' q => sh_bnd (fb := shV p.length) (ha p e h) (fun vs h1 r h' q => by
  have := hm p (vs ++ davs) h1 r h' q
  rw [List.map_append, hd] at this
  exact this) q
theorem sh_mCallK {m : List AV → AM AV} {ma mk : EL} (hm : ShM m) (ha : ShL ma) (hk : ShL mk) : ShE (mCallK m (fun vs zs => vs ++ zs) ma mk) := fun p e h r h' q => sh_bnd (fb := shV p.length) (ha p e h) (fun vs h1 r h' q => sh_bnd (fb := shV p.length) (hk p e h1) (fun zs h2 r h' q => by
  have := hm p (vs ++ zs) h2 r h' q
  rw [List.map_append] at this
  exact this) q) q
theorem sh_mMeth {c : Nat} {nm : Str} {m : List AV → AM AV} {davs : List AV} {mo : AE} {ma : EL} (hm : ShM m) (hd : ∀ s, davs.map (shV s) = davs) (ho : ShE mo) (ha : ShL ma) : ShE (mMeth c nm m davs mo ma) := fun p e h r h' q => sh_bnd (fb := shV p.length) (ho p e h) (fun x h1 r h' q => by
  cases x with
  | ref i =>
    rw [shV_ref]
    dsimp only at q ⊢
    rw [shH_get]
    split at q
    · rename_i d fs hi
      rw [hi]
      dsimp only [Option.map, shO]
      split at q
      · rename_i hc
        rw [if_pos ⟨hc.1, by rw [shP_look, hc.2]; rfl⟩]
        exact sh_bnd (fb := shV p.length) (ha p e h1) (fun vs h2 r h' q => by
          have := hm p (.ref i :: (vs ++ davs)) h2 r h' q
          rw [List.map_cons, List.map_append, hd, shV_ref] at this
          exact this) q
      · cases q
    · cases q
  | _ => cases q) q
theorem sh_mMake {c : Nat} {m : List AV → AM AV} {davs : List AV} {ma : EL} (hm : ShM m) (hd : ∀ s, davs.map (shV s) = davs) (ha : ShL ma) : ShE (mMake c m davs ma) := fun p e h r h' q => sh_bnd (fb := shV p.length) (ha p e h) (fun vs h1 r h' q => by
  rw [shH_len]
  refine sh_bnd (fa := shV p.length) (fb := shV p.length) (m' := m (.ref (p.length + h1.length) :: (vs.map (shV p.length) ++ davs)) (shH p h1 ++ [.ins c []])) (fun r h' q => ?_) (fun v h2 r h' q => ?_) q
  · have := hm p (.ref h1.length :: (vs ++ davs)) (h1 ++ [.ins c []]) r h' q
    rw [List.map_cons, List.map_append, hd, shV_ref, shH_app] at this
    exact this
  · cases v with
    | non => cases q; simp [shR]
    | _ => cases q) q
/-! ### statements -/
theorem sh_mNx : ShS mNx := fun p e h r h' q => by cases q; rfl
theorem sh_mBk : ShS mBk := fun p e h r h' q => by cases q; rfl
theorem sh_mCt : ShS mCt := fun p e h r h' q => by cases q; rfl
theorem sh_mNo : ShS mNo := fun p e h r h' q => by cases q
theorem sh_mSeq {a b : AS} (ha : ShS a) (hb : ShS b) : ShS (mSeq a b) := fun p e h r h' q => by
  unfold mSeq at q ⊢
  split at q
  · rename_i e1 h1 ea
    rw [ha p e h _ _ ea]
    exact hb p e1 h1 r h' q
  · rename_i nn
    rw [ha p e h _ _ q]
    cases r with
    | nx e1 => exact absurd q (nn e1 h')
    | _ => rfl
theorem sh_mDrop {m : AE} (h : ShE m) : ShS (mDrop m) := fun p e hh r h' q => sh_bndS (h p e hh) (fun v h1 r h' q => by cases q; rfl) q
theorem sh_mRet {m : AE} (h : ShE m) : ShS (mRet m) := fun p e hh r h' q => sh_bndS (h p e hh) (fun v h1 r h' q => by cases q; rfl) q
theorem sh_mRetN : ShS mRetN := fun p e h r h' q => by cases q; simp [mRetN, shFl]
theorem sh_mIfS {c : EB} {a b : AS} (hc : ShB c) (ha : ShS a) (hb : ShS b) : ShS (mIfS c a b) := fun p e h r h' q => sh_bndS (hc p e h) (fun x h1 r h' q => by
  cases x with
  | true => exact ha p e h1 r h' q
  | false => exact hb p e h1 r h' q) q
theorem sh_gA : ShG (gA i) := fun p v e h e' h' q => by
  cases q
  show some ((shE p.length e).set i (some (shV p.length v)), shH p h) = _
  rw [shE_set]
  rfl
theorem sh_gsNil : ShGs gsNil := fun p vs e h e' h' q => by
  unfold gsNil at q ⊢
  split at q
  · rename_i z
    cases q
    cases vs with
    | nil => rfl
    | cons _ _ => cases z
  · cases q
theorem sh_gsCons {g : AG} {gs : AGs} (hg : ShG g) (hs : ShGs gs) : ShGs (gsCons g gs) := fun p vs e h e' h' q => by
  cases vs with
  | nil => cases q
  | cons v vs =>
    rw [List.map_cons]
    dsimp only [gsCons] at q ⊢
    split at q
    · rename_i e1 h1 eg
      rw [hg p v e h _ _ eg]
      exact hs p vs e1 h1 _ _ q
    · cases q
theorem sh_gTupA {gs : AGs} (hs : ShGs gs) : ShG (gTupA gs) := fun p v e h e' h' q => by
  cases v with
  | tup xs =>
    rw [shV_tup]
    exact hs p xs e h _ _ q
  | _ => cases q
theorem sh_mAsg {m : AE} {g : AG} (hm : ShE m) (hg : ShG g) : ShS (mAsg m g) := fun p e h r h' q => sh_bndS (hm p e h) (fun v h1 r h' q => by
  cases z : g v e h1 with
  | none => rw [z] at q; cases q
  | some w =>
    obtain ⟨e2, h2⟩ := w
    rw [z] at q
    cases q
    rw [hg p v e h1 _ _ z]
    rfl) q
theorem sh_mPar {i j : Nat} {ma : EL} (ha : ShL ma) : ShS (mPar i j ma) := fun p e h r h' q => sh_bndS (ha p e h) (fun vs h1 r h' q => by
  split at q
  · cases q
    simp [shFl, shE_set]
  · cases q) q
theorem sh_mFldS {c : Nat} {f : Str} {mo mv : AE} (ho : ShE mo) (hv : ShE mv) : ShS (mFldS c f mo mv) := fun p e h r h' q => sh_bndS (hv p e h) (fun y h1 r h' q => sh_bndS (ho p e h1) (fun x h2 r h' q => by
  cases x with
  | ref i =>
    rw [shV_ref]
    dsimp only at q ⊢
    rw [shH_get]
    split at q
    · rename_i d fs hi
      rw [hi]
      dsimp only [Option.map, shO]
      split at q
      · rename_i hc
        cases q
        rw [if_pos ⟨hc.1, by rw [shP_len]; exact hc.2⟩, shH_set]
        dsimp only [shO, shFl]
        rw [shP_putF]
      · cases q
    · cases q
  | _ => cases q) q) q
theorem keyA_sh {s : Nat} {y : AV} {k : Key} (e : keyA y = some k) : keyA (shV s y) = some k := by
  cases y with
  | int i => rw [shV_int]; exact e
  | str i => rw [shV_str]; exact e
  | _ => cases e
theorem sh_mDput {mo mk mv : AE} (ho : ShE mo) (hk : ShE mk) (hv : ShE mv) : ShS (mDput mo mk mv) := fun p e h r h' q => sh_bndS (hv p e h) (fun v h1 r h' q => sh_bndS (ho p e h1) (fun x h2 r h' q => sh_bndS (hk p e h2) (fun y h3 r h' q => by
  cases x with
  | ref i =>
    rw [shV_ref]
    dsimp only at q ⊢
    rw [shH_get]
    split at q
    · rename_i kvs k hi ek
      rw [hi, keyA_sh ek]
      dsimp only [Option.map, shO]
      split at q
      · rename_i hc
        cases q
        rw [if_pos (by rw [shP_len]; exact hc), shH_set]
        dsimp only [shO, shFl]
        rw [shP_put]
      · cases q
    · cases q
  | _ => cases q) q) q) q
theorem sh_mFn {N : Nat} {mb : AS} (hb : ShS mb) : ShM (mFn N mb) := fun p vs h r h' q => by
  have he : (vs.map (shV p.length)).map some ++ List.replicate (N - (vs.map (shV p.length)).length) none = shE p.length (vs.map some ++ List.replicate (N - vs.length) none) := by
    simp [shE]
  unfold mFn at q ⊢
  rw [he]
  split at q
  · rename_i e1 h1 eb
    cases q
    rw [hb p _ h _ _ eb]
    simp [shFl, shR]
  · rename_i v h1 eb
    cases q
    rw [hb p _ h _ _ eb]
    rfl
  · rename_i c k e1 h1 eb
    cases q
    rw [hb p _ h _ _ eb]
    rfl
  · cases q
end
end SL
/-! SH3: loops, comprehensions, the operations. -/
namespace SL
open PySem PySem.Spec PyProof.Rows L2
section
variable {p h : List AO} {i : Nat} {x y : AV} {xs : List AV}
theorem src_sh {s : Src} : (shSrc p.length s).items (shH p h) = (s.items h).map (List.map (shV p.length)) := by
  cases s with
  | tup xs => rfl
  | lst k =>
    show (match (shH p h)[p.length + k]? with | some (.lst xs) => some xs | some (.rol xs) => some xs | _ => none) = (match h[k]? with | some (.lst xs) => some xs | some (.rol xs) => some xs | _ => none).map (List.map (shV p.length))
    rw [shH_get]
    cases h[k]? with
    | none => rfl
    | some o => cases o <;> rfl
theorem at_sh {I : AI} : (shI p.length I).at i (shH p h) = (I.at i h).map (Option.map (shV p.length)) := by
  cases I with
  | src s =>
    show ((shSrc p.length s).items (shH p h)).map (fun xs => xs[i]?) = ((s.items h).map fun xs => xs[i]?).map (Option.map (shV p.length))
    rw [src_sh]
    cases s.items h with
    | none => rfl
    | some xs => simp
  | rng l n =>
    show some (if i < n then some (AV.int (l + (i : Nat))) else none) = (some (if i < n then some (AV.int (l + (i : Nat))) else none)).map _
    split <;> simp
  | str z =>
    show some ((z.cps[i]?).map fun c => AV.str ⟨#[c]⟩) = (some ((z.cps[i]?).map fun c => AV.str ⟨#[c]⟩)).map _
    cases z.cps[i]? <;> simp
  | enm s =>
    show ((shSrc p.length s).items (shH p h)).map (fun xs => (xs[i]?).map fun x => AV.tup [.int (i : Nat), x]) = ((s.items h).map fun xs => (xs[i]?).map fun x => AV.tup [.int (i : Nat), x]).map (Option.map (shV p.length))
    rw [src_sh]
    cases s.items h with
    | none => rfl
    | some xs =>
      simp only [Option.map_some, List.getElem?_map]
      cases xs[i]? <;> simp
  | zip a b =>
    show (match (shSrc p.length a).items (shH p h), (shSrc p.length b).items (shH p h) with | some xs, some ys => some (pairUp xs[i]? ys[i]?) | _, _ => none) =
      (match a.items h, b.items h with | some xs, some ys => some (pairUp xs[i]? ys[i]?) | _, _ => none).map (Option.map (shV p.length))
    rw [src_sh, src_sh]
    cases a.items h with
    | none => rfl
    | some xs => cases b.items h with
      | none => rfl
      | some ys =>
        simp only [Option.map_some, List.getElem?_map]
        cases xs[i]? with
        | none => cases ys[i]? <;> rfl
        | some x => cases ys[i]? <;> simp [pairUp]
  | dks k =>
    show (match (shH p h)[p.length + k]? with | some (.ldk kvs) => some ((kvs[i]?).map fun (q : Key × AV) => kA q.1) | some (.ldt kvs) => some ((kvs[i]?).map fun (q : List Key × AV) => AV.tup (q.1.map kA)) | _ => none) =
      (match h[k]? with | some (.ldk kvs) => some ((kvs[i]?).map fun (q : Key × AV) => kA q.1) | some (.ldt kvs) => some ((kvs[i]?).map fun (q : List Key × AV) => AV.tup (q.1.map kA)) | _ => none).map (Option.map (shV p.length))
    rw [shH_get]
    cases h[k]? with
    | none => rfl
    | some o =>
      cases o with
      | ldk kvs =>
        show some (((shP p.length kvs)[i]?).map fun (q : Key × AV) => kA q.1) = some (((kvs[i]?).map fun (q : Key × AV) => kA q.1).map (shV p.length))
        rw [shP, List.getElem?_map]
        cases kvs[i]? with
        | none => rfl
        | some q => simp [shV_kA]
      | ldt kvs =>
        show some (((shP p.length kvs)[i]?).map fun (q : List Key × AV) => AV.tup (q.1.map kA)) = some (((kvs[i]?).map fun (q : List Key × AV) => AV.tup (q.1.map kA)).map (shV p.length))
        rw [shP, List.getElem?_map]
        cases kvs[i]? with
        | none => rfl
        | some q => simp [shV_kA]
      | _ => rfl
theorem sh_forL {I : AI} {g : AG} {b : AS} (hg : ShG g) (hb : ShS b) : ∀ (f i : Nat) (p : List AO) (e : AEnv) (h : List AO) (r : Fl) (h' : List AO), forL I g b f i e h = some (r, h') → forL (shI p.length I) g b f i (shE p.length e) (shH p h) = some (shFl p.length r, shH p h')
  | 0, i, p, e, h, r, h', q => by cases q
  | f + 1, i, p, e, h, r, h', q => by
    unfold forL at q ⊢
    rw [at_sh]
    cases z : I.at i h with
    | none => rw [z] at q; cases q
    | some o =>
      rw [z] at q
      cases o with
      | none => cases q; rfl
      | some v =>
        simp only [Option.map_some] at q ⊢
        cases zg : g v e h with
        | none => rw [zg] at q; cases q
        | some w =>
          obtain ⟨e1, h1⟩ := w
          rw [zg] at q
          rw [hg p v e h _ _ zg]
          simp only at q ⊢
          cases zb : b e1 h1 with
          | none => rw [zb] at q; cases q
          | some w2 =>
            obtain ⟨fl, h2⟩ := w2
            rw [zb] at q
            rw [hb p e1 h1 _ _ zb]
            cases fl with
            | nx e2 => exact sh_forL hg hb f (i + 1) p e2 h2 r h' q
            | ct e2 => exact sh_forL hg hb f (i + 1) p e2 h2 r h' q
            | bk e2 => cases q; rfl
            | rt v => cases q; rfl
            | ex c k e2 => cases q; rfl
theorem sh_mFor {N : Nat} {mi : AEnv → AM AI} {g : AG} {b : AS} (hi : ShIt mi) (hg : ShG g) (hb : ShS b) : ShS (mFor N mi g b) := fun p e h r h' q => sh_bndS (hi p e h) (fun I h1 r h' q => sh_forL hg hb N 0 p e h1 r h' q) q
theorem sh_whL {c : EB} {b : AS} (hc : ShB c) (hb : ShS b) : ∀ (f : Nat), ShS (whL c b f)
  | 0 => fun p e h r h' q => by cases q
  | f + 1 => fun p e h r h' q => by
    unfold whL at q ⊢
    cases z : c e h with
    | none => rw [z] at q; cases q
    | some w =>
      obtain ⟨o, h1⟩ := w
      rw [z] at q
      rw [hc p e h _ _ z]
      cases o with
      | ex c k => cases q; rfl
      | ok d =>
        cases d with
        | false => cases q; rfl
        | true =>
          simp only [shR, id] at q ⊢
          cases zb : b e h1 with
          | none => rw [zb] at q; cases q
          | some w2 =>
            obtain ⟨fl, h2⟩ := w2
            rw [zb] at q
            rw [hb p e h1 _ _ zb]
            cases fl with
            | nx e2 => exact sh_whL hc hb f p e2 h2 r h' q
            | ct e2 => exact sh_whL hc hb f p e2 h2 r h' q
            | bk e2 => cases q; rfl
            | rt v => cases q; rfl
            | ex c k e2 => cases q; rfl
theorem sh_lcL {I : AI} {g : AG} {t : EB} {el : AE} {d : Nat} {e : AEnv} (hg : ShG g) (ht : ShB t) (he : ShE el) : ∀ (f i : Nat) (p : List AO) (h h' : List AO), lcL I g t el d e f i h = some h' → lcL (shI p.length I) g t el (p.length + d) (shE p.length e) f i (shH p h) = some (shH p h')
  | 0, i, p, h, h', q => by cases q
  | f + 1, i, p, h, h', q => by
    rw [lcL_st] at q ⊢
    rw [at_sh]
    cases z : I.at i h with
    | none => rw [z] at q; cases q
    | some o =>
      rw [z] at q
      cases o with
      | none => cases q; rfl
      | some v =>
        rw [lcA_it] at q
        show lcA _ g t el (p.length + d) _ f i _ (some (some (shV p.length v))) = _
        rw [lcA_it]
        cases zg : g v e h with
        | none => rw [zg] at q; cases q
        | some w =>
          obtain ⟨e1, h1⟩ := w
          rw [zg, lcB_some] at q
          rw [hg p v e h _ _ zg, lcB_some]
          cases zt : t e1 h1 with
          | none => rw [zt] at q; cases q
          | some w2 =>
            obtain ⟨o2, h2⟩ := w2
            rw [zt] at q
            rw [ht p e1 h1 _ _ zt]
            cases o2 with
            | ex c k => cases q
            | ok b =>
              cases b with
              | false => exact sh_lcL hg ht he f (i + 1) p h2 h' q
              | true =>
                rw [lcD_t] at q
                show lcD _ g t el (p.length + d) _ f i _ (some (.ok true, _)) = _
                rw [lcD_t]
                cases ze : el e1 h2 with
                | none => rw [ze] at q; cases q
                | some w3 =>
                  obtain ⟨o3, h3⟩ := w3
                  rw [ze] at q
                  rw [he p e1 h2 _ _ ze]
                  cases o3 with
                  | ex c k => cases q
                  | ok y =>
                    rw [lcE_ok] at q
                    show lcE _ g t el (p.length + d) _ f i (some (.ok (shV p.length y), _)) = _
                    rw [lcE_ok, shH_get]
                    cases zd : h3[d]? with
                    | none => rw [zd] at q; cases q
                    | some o4 =>
                      rw [zd] at q
                      cases o4 with
                      | lst acc =>
                        rw [lcF_lst] at q
                        show lcF _ g t el (p.length + d) _ f i _ _ (some (.lst (acc.map (shV p.length)))) = _
                        rw [lcF_lst, List.length_map]
                        split at q
                        · rename_i hl
                          rw [if_pos hl]
                          have := sh_lcL hg ht he f (i + 1) p _ h' q
                          rw [shH_set] at this
                          simp only [shO, List.map_append, List.map_cons, List.map_nil] at this
                          exact this
                        · cases q
                      | _ => cases q
theorem sh_mLc {N : Nat} {vs : List Nat} {mi : AEnv → AM AI} {g : AG} {t : EB} {el : AE} (hi : ShIt mi) (hg : ShG g) (ht : ShB t) (he : ShE el) : ShE (mLc N vs mi g t el) := fun p e h r h' q => sh_bnd (fb := shV p.length) (hi p e h) (fun I h1 r h' q => by
  cases z : lcL I g t el h1.length (awipe e vs) N 0 (h1 ++ [.lst []]) with
  | none => rw [z] at q; cases q
  | some h2 =>
    rw [z] at q
    cases q
    have := sh_lcL hg ht he N 0 p _ _ z
    rw [shE_wipe, shH_app] at this
    rw [shH_len]
    have e2 : List.map (shO p.length) [AO.lst []] = [AO.lst []] := rfl
    rw [e2] at this
    rw [this]
    simp [shR]) q
theorem sh_mYes : ShB mYes := fun p e h r h' q => by cases q; rfl
theorem toSrc_sh : toSrc (shH p h) (shV p.length x) = (toSrc h x).map (shSrc p.length) := by
  cases x with
  | tup xs => rw [shV_tup]; rfl
  | ref k =>
    rw [shV_ref]
    show (match (shSrc p.length (.lst k)).items (shH p h) with | some _ => some (Src.lst (p.length + k)) | none => none) = (match (Src.lst k).items h with | some _ => some (Src.lst k) | none => none).map (shSrc p.length)
    rw [src_sh]
    cases (Src.lst k).items h <;> rfl
  | _ => simp [toSrc]
theorem sh_iSq {m : AE} (hm : ShE m) : ShIt (iSq m) := fun p e h r h' q => sh_bnd (fb := shI p.length) (hm p e h) (fun x h1 r h' q => by
  cases x with
  | str z => rw [shV_str]; cases q; rfl
  | tup xs =>
    rw [shV_tup]
    cases q
    rfl
  | ref k =>
    rw [shV_ref]
    have q' : (toSrc h1 (.ref k)).map (fun s => (Rs.ok (AI.src s), h1)) = some (r, h') := q
    show (toSrc (shH p h1) (.ref (p.length + k))).map (fun s => (Rs.ok (AI.src s), shH p h1)) = _
    have z := toSrc_sh (p := p) (h := h1) (x := .ref k)
    rw [shV_ref] at z
    rw [z]
    cases w : toSrc h1 (.ref k) with
    | none => rw [w] at q'; cases q'
    | some s => rw [w] at q'; cases q'; rfl
  | _ => cases q) q
theorem sh_iR1 {ma : EL} (ha : ShL ma) : ShIt (iR1 ma) := fun p e h r h' q => sh_bnd (fb := shI p.length) (ha p e h) (fun vs h1 r h' q => by
  split at q
  · split at q
    · rename_i hj
      cases q
      simp [hj, shR, shI]
    · cases q
  · cases q) q
theorem sh_iR2 {ma : EL} (ha : ShL ma) : ShIt (iR2 ma) := fun p e h r h' q => sh_bnd (fb := shI p.length) (ha p e h) (fun vs h1 r h' q => by
  split at q
  · split at q
    · rename_i hj
      cases q
      simp [hj, shR, shI]
    · cases q
  · cases q) q
end
end SL
/-! SH4: the operations. -/
namespace SL
open PySem PySem.Spec PyProof.Rows L2
section
variable {p h : List AO} {i : Nat} {x y : AV} {xs : List AV}
theorem sh_or {f g : F2} (hf : Sh2 f) (hg : Sh2 g) (hn : ∀ p x y h, f x y h = none → f (shV p.length x) (shV p.length y) (shH p h) = none) : Sh2 (orO f g) := fun p x y h v h' q => by
  unfold orO at q ⊢
  cases z : f x y h with
  | some w =>
    obtain ⟨a, b⟩ := w
    rw [z] at q
    cases q
    rw [hf p x y h _ _ z]
  | none =>
    rw [z] at q
    rw [hn p x y h z]
    exact hg p x y h v h' q
theorem sh_fI {g : Int → Int → Option AV} (hg : ∀ i j v, g i j = some v → ∀ s, shV s v = v) : Sh2 (fI g) := fun p x y h v h' q => by
  obtain ⟨i, j, rfl, rfl, e, rfl⟩ := fI_some q
  rw [shV_int, shV_int, hg i j v e]
  show (g i j).map (fun v => (v, shH p h')) = _
  rw [e]
  rfl
theorem nn_fI {g : Int → Int → Option AV} (p : List AO) (x y : AV) (h : List AO) (e : fI g x y h = none) : fI g (shV p.length x) (shV p.length y) (shH p h) = none := by
  cases x with
  | int i => cases y with
    | int j =>
      rw [shV_int, shV_int]
      have e' : (g i j).map (fun v => (v, h)) = none := e
      show (g i j).map (fun v => (v, shH p h)) = none
      cases z : g i j with
      | none => rfl
      | some v => rw [z] at e'; cases e'
    | _ => simp [fI]
  | _ => simp [fI]
theorem sh_add0 : Sh2 oAdd0 := sh_fI fun i j v e s => by cases e; exact shV_int
theorem sh_oSub : Sh2 oSub := sh_fI fun i j v e s => by cases e; exact shV_int
theorem sh_oMod : Sh2 oMod := sh_fI fun i j v e s => by
  split at e
  · cases e
  · cases e; exact shV_int
theorem sh_oFdiv : Sh2 oFdiv := sh_fI fun i j v e s => by
  split at e
  · cases e; exact shV_int
  · cases e
theorem sh_oMul : Sh2 oMul := sh_fI fun i j v e s => by
  split at e
  · cases e; exact shV_int
  · cases e
theorem sh_oPow : Sh2 oPow := sh_fI fun i j v e s => by
  split at e
  · cases e; exact shV_int
  · cases e
theorem sh_addS : Sh2 oAddS := fun p x y h v h' q => by
  cases x with
  | str a => cases y with
    | str b =>
      rw [shV_str, shV_str]
      unfold oAddS at q ⊢
      dsimp only at q ⊢
      split at q
      · rename_i hc
        cases q
        rw [if_pos hc, shV_str]
      · cases q
    | _ => cases q
  | _ => cases q
theorem nn_addS (p : List AO) (x y : AV) (h : List AO) (e : oAddS x y h = none) : oAddS (shV p.length x) (shV p.length y) (shH p h) = none := by
  cases x with
  | str a => cases y with
    | str b =>
      rw [shV_str, shV_str]
      unfold oAddS at e ⊢
      dsimp only at e ⊢
      split at e
      · cases e
      · rename_i hc; rw [if_neg hc]
    | _ => simp [oAddS]
  | _ => simp [oAddS]
theorem sh_addL : Sh2 oAddL := fun p x y h v h' q => by
  cases x with
  | ref a => cases y with
    | ref b =>
      rw [shV_ref, shV_ref]
      unfold oAddL at q ⊢
      dsimp only at q ⊢
      rw [shH_get, shH_get]
      split at q
      · rename_i ha hb
        rw [ha, hb]
        dsimp only [Option.map, shO]
        split at q
        · rename_i hc
          cases q
          rw [if_pos (by simpa using hc), shH_app, shH_len, shV_ref]
          simp [shO]
        · cases q
      · cases q
    | _ => cases q
  | _ => cases q
theorem nn_or {f g : F2} (hf : ∀ p x y h, f x y h = none → f (shV p.length x) (shV p.length y) (shH p h) = none) (hg : ∀ p x y h, g x y h = none → g (shV p.length x) (shV p.length y) (shH p h) = none) (p : List AO) (x y : AV) (h : List AO) (e : orO f g x y h = none) : orO f g (shV p.length x) (shV p.length y) (shH p h) = none := by
  unfold orO at e ⊢
  cases z : f x y h with
  | some w => rw [z] at e; cases e
  | none =>
    rw [z] at e
    rw [hf p x y h z]
    exact hg p x y h e
theorem sh_oAdd : Sh2 oAdd := sh_or (sh_or sh_add0 sh_addS nn_fI) sh_addL (nn_or nn_fI nn_addS)
theorem nn_addL (p : List AO) (x y : AV) (h : List AO) (e : oAddL x y h = none) : oAddL (shV p.length x) (shV p.length y) (shH p h) = none := by
  cases x with
  | ref a => cases y with
    | ref b =>
      rw [shV_ref, shV_ref]
      unfold oAddL at e ⊢
      dsimp only at e ⊢
      rw [shH_get, shH_get]
      cases ha : h[a]? with
      | none => rfl
      | some o => cases o with
        | lst us => cases hb : h[b]? with
          | none => rfl
          | some o' => cases o' with
            | lst ws =>
              rw [ha, hb] at e
              dsimp only [Option.map, shO] at e ⊢
              split at e
              · cases e
              · rename_i hc
                rw [if_neg (by simpa using hc)]
            | _ => rfl
        | _ => rfl
    | _ => simp [oAddL]
  | _ => simp [oAddL]
theorem sh_addT : Sh2 oAddT := fun p x y h v h' q => by
  cases x with
  | tup a => cases y with
    | tup b =>
      rw [shV_tup, shV_tup]
      unfold oAddT at q ⊢
      dsimp only at q ⊢
      split at q
      · rename_i hc
        cases q
        rw [if_pos (by simpa using hc), shV_tup]
        simp
      · cases q
    | _ => cases q
  | _ => cases q
theorem sh_oAddA : Sh2 oAddA := sh_or sh_oAdd sh_addT (nn_or (nn_or nn_fI nn_addS) nn_addL)
theorem sh_oNeg : Sh1 oNeg := fun p x h v h' q => by
  cases x with
  | int i => cases q; rw [shV_int]; simp [oNeg]
  | _ => cases q
/-! comparisons -/
theorem toD0_sh {rf rf' : Nat → Option PyData} {s : Nat} (hr : ∀ i, rf' (s + i) = rf i) : ∀ v : AV, toD0 rf' (shV s v) = toD0 rf v := by
  intro v
  induction v using AV.rec (motive_2 := fun xs => toD0s rf' (xs.map (shV s)) = toD0s rf xs) with
  | tup xs ih => rw [shV_tup]; simp only [toD0]; rw [ih]
  | ref n => rw [shV_ref]; simp only [toD0]; exact hr n
  | nil => rfl
  | cons x xs ih1 ih2 => rw [List.map_cons]; simp only [toD0s]; rw [ih1, ih2]
  | non => rw [shV_non]; simp only [toD0]
  | bl b => rw [shV_bl]; simp only [toD0]
  | int b => rw [shV_int]; simp only [toD0]
  | str b => rw [shV_str]; simp only [toD0]
  | cst b => rw [shV_cst]; simp only [toD0]
  | ktp b => rw [shV_ktp]; simp only [toD0]
theorem toD0s_sh {rf rf' : Nat → Option PyData} {s : Nat} (hr : ∀ i, rf' (s + i) = rf i) : ∀ xs : List AV, toD0s rf' (xs.map (shV s)) = toD0s rf xs
  | [] => rfl
  | x :: xs => by rw [List.map_cons]; simp only [toD0s]; rw [toD0_sh hr x, toD0s_sh hr xs]
theorem rfD_sh : ∀ (f : Nat) (i : Nat), rfD f (shH p h) (p.length + i) = rfD f h i
  | 0, i => rfl
  | f + 1, i => by
    rw [rfD_st, rfD_st, shH_get]
    cases h[i]? with
    | none => rfl
    | some o =>
      cases o with
      | lst xs => show (toD0s _ (xs.map (shV p.length))).map _ = (toD0s _ xs).map _; rw [toD0s_sh (rfD_sh f) xs]
      | rol xs => show (toD0s _ (xs.map (shV p.length))).map _ = (toD0s _ xs).map _; rw [toD0s_sh (rfD_sh f) xs]
      | _ => rfl
theorem toD_sh {v : AV} : toD (shH p h) (shV p.length v) = toD h v := toD0_sh (rfD_sh 12) v
theorem eqS_sh {s : Nat} : eqS (shV s x) (shV s y) = eqS x y := by
  cases x <;> cases y <;> simp [eqS]
theorem eqA_sh : eqA (shH p h) (shV p.length x) (shV p.length y) = eqA h x y := by
  unfold eqA
  rw [eqS_sh, toD_sh, toD_sh]
theorem sh_cEq {n : Bool} : Sh2 (cEq n) := fun p x y h v h' q => by
  obtain ⟨b, e, rfl, rfl⟩ := cEq_some q
  unfold cEq
  rw [eqA_sh, e, shV_bl]
  rfl
theorem sh_cB {g : Int → Int → Bool} {gs : Str → Str → Bool} : Sh2 (cB g gs) := fun p x y h v h' q => by
  cases x with
  | int i => cases y with
    | int j => rw [shV_int, shV_int]; cases q; rw [shV_bl]; rfl
    | _ => cases q
  | str i => cases y with
    | str j => rw [shV_str, shV_str]; cases q; rw [shV_bl]; rfl
    | _ => cases q
  | _ => cases q
theorem sh_cLt : Sh2 cLt := sh_cB
theorem sh_cLe : Sh2 cLe := sh_cB
theorem sh_cGt : Sh2 cGt := sh_fI fun i j v e s => by cases e; exact shV_bl
theorem sh_cGe : Sh2 cGe := sh_fI fun i j v e s => by cases e; exact shV_bl
theorem sh_cIsN {n : Bool} : Sh2 (cIsN n) := fun p x y h v h' q => by
  cases y with
  | non =>
    rw [shV_non]
    cases x with
    | non => rw [shV_non]; cases q; rw [shV_bl]; rfl
    | cst _ => cases q
    | ref _ => rw [shV_ref]; cases q; rw [shV_bl]; rfl
    | tup _ => rw [shV_tup]; cases q; rw [shV_bl]; rfl
    | ktp _ => rw [shV_ktp]; cases q; rw [shV_bl]; rfl
    | bl _ => rw [shV_bl]; cases q; rw [shV_bl]; rfl
    | int _ => rw [shV_int]; cases q; rw [shV_bl]; rfl
    | str _ => rw [shV_str]; cases q; rw [shV_bl]; rfl
  | _ => cases q
theorem items_sh : itemsA (shH p h) (shV p.length x) = (itemsA h x).map (List.map (shV p.length)) := by
  cases x with
  | tup xs => rw [shV_tup]; rfl
  | ktp xs => rw [shV_ktp]; rfl
  | ref k =>
    rw [shV_ref, itemsA_ref, itemsA_ref, shH_get]
    cases h[k]? with
    | none => rfl
    | some o => cases o <;> rfl
  | _ => simp [itemsA]
theorem flat_sh {s : Nat} : flatA (shV s x) = flatA x := by cases x <;> simp [flatA]
theorem flats_sh {s : Nat} : ∀ xs : List AV, (xs.map (shV s)).all flatA = xs.all flatA
  | [] => rfl
  | x :: xs => by rw [List.map_cons, List.all_cons, List.all_cons, flat_sh, flats_sh xs]
theorem eqF_sh {s : Nat} : eqF (shV s x) (shV s y) = eqF x y := by cases x <;> cases y <;> simp [eqF]
theorem anyF_sh {s : Nat} : ∀ xs : List AV, ((xs.map (shV s)).any fun y => eqF y (shV s x)) = xs.any fun y => eqF y x
  | [] => rfl
  | y :: xs => by rw [List.map_cons, List.any_cons, List.any_cons, eqF_sh, anyF_sh xs]
theorem inX_sh : inX (shH p h) (shV p.length x) (xs.map (shV p.length)) = inX h x xs := by
  unfold inX
  rw [flat_sh, flats_sh, anyF_sh, toD_sh, toD0s_sh (rfD_sh 12)]
theorem sh_cIn {n : Bool} : Sh2 (cIn n) := fun p x y h v h' q => by
  have gen : (match itemsA h y with | some ys => (inX h x ys).map fun b => (AV.bl (if n then !b else b), h) | none => none) = some (v, h') → (match itemsA (shH p h) (shV p.length y) with | some ys => (inX (shH p h) (shV p.length x) ys).map fun b => (AV.bl (if n then !b else b), shH p h) | none => none) = some (shV p.length v, shH p h') := by
    intro q
    rw [items_sh]
    cases z : itemsA h y with
    | none => rw [z] at q; cases q
    | some ys =>
      rw [z] at q
      simp only [Option.map_some] at q ⊢
      rw [inX_sh]
      cases w : inX h x ys with
      | none => rw [w] at q; cases q
      | some b => rw [w] at q; cases q; rw [shV_bl]; rfl
  cases x with
  | str a => cases y with
    | str z =>
      rw [shV_str, shV_str]
      unfold cIn at q ⊢
      dsimp only at q ⊢
      split at q
      · rename_i c hc
        cases q
        rw [shV_bl]
      · cases q
    | tup ys => rw [shV_str, shV_tup]; have := gen q; rw [shV_str, shV_tup] at this; exact this
    | ktp ys => rw [shV_str, shV_ktp]; have := gen q; rw [shV_str, shV_ktp] at this; exact this
    | ref k => rw [shV_str, shV_ref]; have := gen q; rw [shV_str, shV_ref] at this; exact this
    | _ => cases q
  | tup a =>
    have := gen q
    rw [shV_tup] at this ⊢
    exact this
  | ref a =>
    have := gen q
    rw [shV_ref] at this ⊢
    exact this
  | int a =>
    have := gen q
    rw [shV_int] at this ⊢
    exact this
  | bl a =>
    have := gen q
    rw [shV_bl] at this ⊢
    exact this
  | non =>
    have := gen q
    rw [shV_non] at this ⊢
    exact this
  | cst a =>
    have := gen q
    rw [shV_cst] at this ⊢
    exact this
  | ktp a =>
    have := gen q
    rw [shV_ktp] at this ⊢
    exact this
end
end SL
/-! SH5: the operations, second part; and the use. -/
namespace SL
open PySem PySem.Spec PyProof.Rows L2
section
variable {p h : List AO} {i : Nat} {x y : AV} {xs : List AV}
theorem atI_sh {s : Nat} {j : Int} : atI (xs.map (shV s)) j = (atI xs j).map (shV s) := by
  unfold atI
  rw [List.length_map]
  cases ixN xs.length j with
  | none => rfl
  | some k => simp
theorem sh_oIx : Sh2 oIx := fun p x y h v h' q => by
  have gen : ∀ j : Int, (match itemsA h x with | some ys => (atI ys j).map fun v => (v, h) | none => none) = some (v, h') → (match itemsA (shH p h) (shV p.length x) with | some ys => (atI ys j).map fun v => (v, shH p h) | none => none) = some (shV p.length v, shH p h') := by
    intro j q
    rw [items_sh]
    cases z : itemsA h x with
    | none => rw [z] at q; cases q
    | some ys =>
      rw [z] at q
      simp only [Option.map_some] at q ⊢
      rw [atI_sh]
      cases w : atI ys j with
      | none => rw [w] at q; cases q
      | some b => rw [w] at q; cases q; rfl
  cases y with
  | int j =>
    rw [shV_int]
    cases x with
    | str z =>
      rw [shV_str]
      unfold oIx at q ⊢
      dsimp only at q ⊢
      split at q
      · rename_i hc
        rw [if_pos hc]
        cases w : atI z.cps.toList j with
        | none => rw [w] at q; cases q
        | some b => rw [w] at q; cases q; rw [shV_str]; rfl
      · cases q
    | tup ys => have := gen j q; rw [shV_tup] at this ⊢; exact this
    | ktp ys => have := gen j q; rw [shV_ktp] at this ⊢; exact this
    | ref k => have := gen j q; rw [shV_ref] at this ⊢; exact this
    | _ => cases q
  | _ => cases x <;> cases q
theorem cutA_sh {s : Nat} {lo hi : Option Int} : cutA (xs.map (shV s)) lo hi = (cutA xs lo hi).map (shV s) := by
  unfold cutA
  rw [List.length_map, List.map_take, List.map_drop]
theorem sh_oSl : Sh3 oSl := fun p x lo hi h v h' q => by
  cases x with
  | str z =>
    rw [shV_str]
    unfold oSl at q ⊢
    dsimp only at q ⊢
    split at q
    · rename_i hc
      cases q
      rw [if_pos hc, shV_str]
    · cases q
  | ref k =>
    rw [shV_ref]
    rw [oSl_ref] at q ⊢
    rw [shH_get]
    cases z : h[k]? with
    | none => rw [z] at q; cases q
    | some o =>
      rw [z] at q
      cases o with
      | lst us =>
        cases q
        show some (AV.ref (shH p h).length, shH p h ++ [AO.lst (cutA (us.map (shV p.length)) lo hi)]) = _
        rw [cutA_sh, shH_app, shH_len, shV_ref]
        rfl
      | rol us =>
        cases q
        show some (AV.ref (shH p h).length, shH p h ++ [AO.lst (cutA (us.map (shV p.length)) lo hi)]) = _
        rw [cutA_sh, shH_app, shH_len, shV_ref]
        rfl
      | _ => cases q
  | _ => cases q
theorem sh_oSlT : Sh3 oSlT := fun p x lo hi h v h' q => by
  cases x with
  | tup us =>
    rw [shV_tup]
    cases q
    show some (AV.tup (cutA (us.map (shV p.length)) lo hi), shH p h) = _
    rw [cutA_sh, shV_tup]
  | str z => have := sh_oSl p (.str z) lo hi h v h' q; rw [shV_str] at this ⊢; exact this
  | ref k => have := sh_oSl p (.ref k) lo hi h v h' q; rw [shV_ref] at this ⊢; exact this
  | _ => cases q
theorem sh_oFld {c : Nat} {f : Str} : Sh1 (oFld c f) := fun p x h v h' q => by
  cases x with
  | ref k =>
    rw [shV_ref]
    rw [oFld_ref] at q ⊢
    rw [shH_get]
    cases z : h[k]? with
    | none => rw [z] at q; cases q
    | some o =>
      rw [z] at q
      cases o with
      | ins d fs =>
        unfold fldK at q ⊢
        dsimp only [Option.map, shO] at q ⊢
        split at q
        · rename_i hd
          rw [if_pos hd, shP_look]
          cases w : fs.lookup f with
          | none => rw [w] at q; cases q
          | some u => rw [w] at q; cases q; rfl
        · cases q
      | _ => cases q
  | _ => cases q
theorem isT_sh {T : Ty} : isT T (shH p h) (shV p.length x) = isT T h x := by
  cases x with
  | ref k =>
    rw [shV_ref, isT_ref, isT_ref, shH_get]
    cases h[k]? with
    | none => rfl
    | some o => cases o <;> rfl
  | tup _ => rw [shV_tup]; rfl
  | ktp _ => rw [shV_ktp]; rfl
  | non => rw [shV_non]; rfl
  | bl _ => rw [shV_bl]; rfl
  | int _ => rw [shV_int]; rfl
  | str _ => rw [shV_str]; rfl
  | cst _ => rw [shV_cst]; rfl
theorem sh_oIsi {Ts : List Ty} : Sh1 (oIsi Ts) := fun p x h v h' q => by
  match Ts, q with
  | [T], q =>
    rw [oIsi1] at q ⊢
    rw [isT_sh]
    cases w : isT T h x with
    | none => rw [w] at q; cases q
    | some b => rw [w] at q; cases q; rw [shV_bl]; rfl
  | [T, U], q =>
    rw [oIsi2] at q ⊢
    rw [isT_sh, isT_sh]
    cases w : isT T h x with
    | none => rw [w] at q; cases q
    | some a => cases w2 : isT U h x with
      | none => rw [w, w2] at q; cases q
      | some b => rw [w, w2] at q; cases q; rw [shV_bl]; rfl
  | [], q => cases q
  | _ :: _ :: _ :: _, q => cases q
theorem sh_oDget : Sh2 oDget := fun p x y h v h' q => by
  cases x with
  | ref k =>
    rw [shV_ref]
    unfold oDget at q ⊢
    dsimp only at q ⊢
    rw [shH_get]
    split at q
    · rename_i kvs ky hk ek
      rw [hk, keyA_sh ek]
      dsimp only [Option.map, shO]
      rw [shP_val]
      cases w : valA kvs ky with
      | none => rw [w] at q; cases q
      | some u => rw [w] at q; cases q; rfl
    · cases q
  | _ => cases q
theorem sh_fLen : ShFL fLen := fun p xs h v h' q => by
  match xs, q with
  | [x], q =>
    have gen : (itemsA h x).map (fun ys => (AV.int ys.length, h)) = some (v, h') → (itemsA (shH p h) (shV p.length x)).map (fun ys => (AV.int ys.length, shH p h)) = some (shV p.length v, shH p h') := by
      intro q
      rw [items_sh]
      cases w : itemsA h x with
      | none => rw [w] at q; cases q
      | some ys => rw [w] at q; cases q; simp
    rw [List.map_cons, List.map_nil]
    cases x with
    | str z =>
      rw [shV_str]
      unfold fLen at q ⊢
      dsimp only at q ⊢
      split at q
      · rename_i hc
        cases q
        rw [if_pos hc, shV_int]
      · cases q
    | tup ys => have := gen q; rw [shV_tup] at this ⊢; exact this
    | ktp ys => have := gen q; rw [shV_ktp] at this ⊢; exact this
    | ref k => have := gen q; rw [shV_ref] at this ⊢; exact this
    | _ => cases q
  | [], q => cases q
  | x :: y :: zs, q =>
    exfalso
    unfold fLen at q
    split at q
    · rename_i e; cases e
    · rename_i e; cases e
    · cases q
theorem sh_fInt1 : ShFL fInt1 := fun p xs h v h' q => by
  unfold fInt1 at q
  split at q
  all_goals first
    | (cases q; simp [fInt1]; done)
    | (cases q; done)
theorem sh_f2I {g : Int → Int → Int} : ShFL (f2I g) := fun p xs h v h' q => by
  unfold f2I at q
  split at q
  · cases q; simp [f2I]
  · cases q
theorem bls_sh {s : Nat} : ∀ (xs : List AV) (bs : List Bool), blsA xs = some bs → blsA (xs.map (shV s)) = some bs
  | [], bs, e => e
  | x :: xs, bs, e => by
    cases x with
    | bl b =>
      rw [List.map_cons, shV_bl]
      unfold blsA at e ⊢
      cases w : blsA xs with
      | none => rw [w] at e; cases e
      | some cs => rw [w] at e; cases e; rw [bls_sh xs cs w]; rfl
    | _ => cases e
theorem sh_fBs {g : List Bool → Bool} : ShFL (fBs g) := fun p xs h v h' q => by
  unfold fBs at q
  split at q
  · rename_i k
    split at q
    · rename_i ys hk
      cases w : blsA ys with
      | none => rw [w] at q; cases q
      | some bs =>
        rw [w] at q
        cases q
        unfold fBs
        simp only [List.map_cons, List.map_nil, shV_ref, shH_get, hk, Option.map_some, shO, bls_sh ys bs w, shV_bl]
    · cases q
  · cases q
theorem sh_fAll : ShFL fAll := sh_fBs
theorem sh_fAny : ShFL fAny := sh_fBs
theorem sh_fMax2 : ShFL fMax2 := sh_f2I
theorem sh_fMin2 : ShFL fMin2 := sh_f2I
theorem sh_fList : ShFL fList := fun p xs h v h' q => by
  unfold fList at q
  split at q
  · rename_i x
    cases w : itemsA h x with
    | none => rw [w] at q; cases q
    | some ys =>
      rw [w] at q
      cases q
      unfold fList
      simp only [List.map_cons, List.map_nil, items_sh, w, Option.map_some, shH_len, shH_app, shV_ref, shO]
  · cases q
theorem itemsT_sh : itemsT (shH p h) (shV p.length x) = (itemsT h x).map (List.map (shV p.length)) := by
  cases x with
  | ktp xs => rw [shV_ktp]; rfl
  | tup xs => rw [shV_tup]; rfl
  | ref k =>
    have := items_sh (p := p) (h := h) (x := .ref k)
    rw [shV_ref] at this ⊢
    exact this
  | _ => simp [itemsT, itemsA]
theorem sh_fTuple : ShFL fTuple := fun p xs h v h' q => by
  unfold fTuple at q
  split at q
  · rename_i x
    cases w : itemsT h x with
    | none => rw [w] at q; cases q
    | some ys =>
      rw [w] at q
      cases q
      unfold fTuple
      simp only [List.map_cons, List.map_nil, itemsT_sh, w, Option.map_some, shV_tup]
  · cases q
theorem sh_fAppend : ShFM fAppend := fun p x xs h v h' q => by
  unfold fAppend at q
  split at q
  · rename_i k y
    split at q
    · rename_i us hk
      split at q
      · rename_i hc
        cases q
        unfold fAppend
        simp only [List.map_cons, List.map_nil, shV_ref, shH_get, hk, Option.map_some, shO, List.length_map, hc, if_true, shV_non, shH_set, List.map_append]
      · cases q
    · cases q
  · cases q
theorem sh_fPop : ShFM fPop := fun p x xs h v h' q => by
  unfold fPop at q
  split at q
  · rename_i k
    split at q
    · rename_i us hk
      split at q
      · rename_i z hz
        cases q
        unfold fPop
        simp only [List.map_nil, shV_ref, shH_get, hk, Option.map_some, shO, List.length_map, List.getElem?_map, hz, shH_set, List.map_dropLast]
      · cases q
    · cases q
  · cases q
theorem eraseIdx_sh {s : Nat} : ∀ (xs : List AV) (k : Nat), (xs.map (shV s)).eraseIdx k = (xs.eraseIdx k).map (shV s)
  | [], _ => rfl
  | _ :: _, 0 => rfl
  | x :: xs, k + 1 => by
    show shV s x :: (xs.map (shV s)).eraseIdx k = shV s x :: (xs.eraseIdx k).map (shV s)
    rw [eraseIdx_sh xs k]
theorem sh_fPopAt : ShFM fPopAt := fun p x xs h v h' q => by
  unfold fPopAt at q
  split at q
  · rename_i k j
    split at q
    · rename_i us hk
      split at q
      · rename_i hj
        split at q
        · rename_i n hn
          split at q
          · rename_i z hz
            cases q
            unfold fPopAt
            simp only [List.map_cons, List.map_nil, shV_ref, shV_int, shH_get, hk, Option.map_some, shO, List.length_map, hj, and_self, if_true, hn, List.getElem?_map, hz, shH_set, eraseIdx_sh]
          · cases q
        · cases q
      · cases q
    · cases q
  · cases q
theorem sh_fExtend : ShFM fExtend := fun p x xs h v h' q => by
  unfold fExtend at q
  split at q
  · rename_i k j
    split at q
    · rename_i us ws hk hj
      split at q
      · rename_i hc
        cases q
        unfold fExtend
        simp only [List.map_cons, List.map_nil, shV_ref, shH_get, hk, hj, Option.map_some, shO, List.length_map, hc, if_true, shV_non, shH_set, List.map_append]
      · cases q
    · cases q
  · cases q
theorem strs_sh {s : Nat} : ∀ (xs : List AV) (ss : List Str), strsA xs = some ss → strsA (xs.map (shV s)) = some ss
  | [], ss, e => e
  | x :: xs, ss, e => by
    cases x with
    | str b =>
      rw [List.map_cons, shV_str]
      unfold strsA at e ⊢
      cases w : strsA xs with
      | none => rw [w] at e; cases e
      | some cs => rw [w] at e; cases e; rw [strs_sh xs cs w]; rfl
    | _ => cases e
theorem sh_fTIdx : ShFM fTIdx := fun p x xs h v h' q => by
  unfold fTIdx at q
  split at q
  · rename_i us z
    split at q
    · rename_i ss hs
      cases w : idxS z ss with
      | none => rw [w] at q; cases q
      | some j =>
        rw [w] at q
        cases q
        unfold fTIdx
        simp only [shV_tup, List.map_cons, List.map_nil, shV_str, strs_sh us ss hs, w, Option.map_some, shV_int]
    · cases q
  · cases q
/-! dict displays -/
theorem sh_prNil : ShPr (fun _ h => some (.ok [], h)) := fun p e h r h' q => by cases q; rfl
theorem sh_mPr {ma mb : AE} {mr : EP'} (ha : ShE ma) (hb : ShE mb) (hr : ShPr mr) : ShPr (mPr ma mb mr) := fun p e h r h' q => sh_bnd (fb := List.map fun q => (shV p.length q.1, shV p.length q.2)) (ha p e h) (fun x h1 r h' q => sh_bnd (fb := List.map fun q => (shV p.length q.1, shV p.length q.2)) (hb p e h1) (fun y h2 r h' q =>
  sh_bnd (fb := List.map fun q => (shV p.length q.1, shV p.length q.2)) (hr p e h2) (fun z h3 r h' q => by cases q; rfl) q) q) q
theorem keysA_sh {s : Nat} : ∀ (ps : List (AV × AV)) (kvs : List (Key × AV)), keysA ps = some kvs → keysA (ps.map fun q => (shV s q.1, shV s q.2)) = some (shP s kvs)
  | [], kvs, e => by cases e; rfl
  | (k, v) :: ps, kvs, e => by
    unfold keysA at e
    split at e
    · rename_i kk r e1 e2
      cases e
      rw [List.map_cons]
      unfold keysA
      rw [keyA_sh e1, keysA_sh ps r e2]
      rfl
    · cases e
theorem merge_sh {s : Nat} : ∀ (more acc : List (Key × AV)), shP s (mergeA acc more) = mergeA (shP s acc) (shP s more)
  | [], acc => rfl
  | (k, v) :: more, acc => by
    show shP s (mergeA (putA acc k v) more) = mergeA (putA (shP s acc) k (shV s v)) (shP s more)
    rw [merge_sh more, shP_put]
theorem sh_mDisp {mr : EP'} (hr : ShPr mr) : ShE (mDisp mr) := fun p e h r h' q => by
  rw [e_mDisp] at q ⊢
  refine sh_bnd (fa := List.map fun q => (shV p.length q.1, shV p.length q.2)) (fb := shV p.length) (m' := mr (shE p.length e) (shH p h ++ [.dct []])) (fun r h' q => ?_) (fun ps h1 r h' q => ?_) q
  · have := hr p e _ _ _ q
    rw [shH_app] at this
    exact this
  · unfold dispF at q ⊢
    split at q
    · rename_i kvs e1 e2
      rw [keysA_sh ps kvs e1, shH_len, shH_get, e2]
      dsimp only [Option.map, shO, shP, List.map]
      split at q
      · rename_i hl
        cases q
        rw [if_pos (by rw [List.length_map]; exact hl), shH_set]
        simp only [shR, shV_ref, shO, merge_sh]
        rfl
      · cases q
    · cases q
theorem sh_iEn {ma : EL} (ha : ShL ma) : ShIt (iEn ma) := fun p e h r h' q => sh_bnd (fb := shI p.length) (ha p e h) (fun vs h1 r h' q => by
  split at q
  · rename_i x
    cases z : toSrc h1 x with
    | none => rw [z] at q; exact nomatch q
    | some s =>
      rw [z] at q
      cases q
      simp only [List.map_cons, List.map_nil, toSrc_sh, z, Option.map_some]
      rfl
  · cases q) q
theorem two_sh {s : Nat} {a b : Src} : (shSrc s a).two (shSrc s b) = a.two b := by cases a <;> cases b <;> rfl
theorem sh_iZp {ma : EL} (ha : ShL ma) : ShIt (iZp ma) := fun p e h r h' q => sh_bnd (fb := shI p.length) (ha p e h) (fun vs h1 r h' q => by
  split at q
  · rename_i x y
    split at q
    · rename_i s t hs ht
      split at q
      · rename_i h2
        cases q
        simp only [List.map_cons, List.map_nil, toSrc_sh, hs, ht, Option.map_some, two_sh, h2, if_true]
        rfl
      · cases q
    · cases q
  · cases q) q
end
/-- the use: what is worked out with nothing beside it holds behind any objects -/
theorem sh_use {m : List AV → AM AV} {vs : List AV} {v : AV} {g : List AO} (hm : ShM m) (hv : ∀ s, vs.map (shV s) = vs) (hr : ∀ s, shV s v = v) (e : m vs [] = some (.ok v, g)) (h : List AO) : m vs h = some (.ok v, h ++ g.map (shO h.length)) := by
  have q := hm h vs [] _ _ e
  rw [hv] at q
  have e1 : shH h [] = h := by simp [shH]
  rw [e1] at q
  rw [q]
  simp [shR, hr, shH]
/-- a yes, seen by running -/
def isYes (o : Option (Rs AV × List AO)) : Bool := match o with
  | some (.ok (.bl true), _) => true
  | _ => false
theorem yes_of {o : Option (Rs AV × List AO)} (h : isYes o = true) : ∃ g, o = some (.ok (.bl true), g) := by
  unfold isYes at h
  split at h
  · exact ⟨_, rfl⟩
  · cases h
theorem sh_yes {m : List AV → AM AV} {vs : List AV} (hm : ShM m) (hv : ∀ s, vs.map (shV s) = vs) (e : isYes (m vs []) = true) (h : List AO) : ∃ g, m vs h = some (.ok (.bl true), h ++ g) := by
  obtain ⟨g, q⟩ := yes_of e
  exact ⟨_, sh_use hm hv (fun _ => shV_bl) q h⟩
end SL
/-! SH6: the shift laws of SL12 .. SL16. -/
namespace SL
open PySem PySem.Spec PyProof.Rows L2
section
variable {p h : List AO} {i j l : Nat} {x y : AV} {xs : List AV}
theorem sh_mStar {ma : AE} {mr : EL} (ha : ShE ma) (hr : ShL mr) : ShL (mStar ma mr) := fun p e h r h' q => sh_bnd (fb := List.map (shV p.length)) (ha p e h) (fun x h1 r h' q => by
  rw [items_sh]
  split at q
  · rename_i xs hx
    rw [hx]
    exact sh_bnd (fb := List.map (shV p.length)) (hr p e h1) (fun ys h2 r h' q => by cases q; simp [shR]) q
  · cases q) q
theorem sh_mPar3 {ma : EL} (ha : ShL ma) : ShS (mPar3 i j l ma) := fun p e h r h' q => sh_bndS (ha p e h) (fun vs h1 r h' q => by
  match vs, q with
  | [u, v, w], q =>
    cases q
    simp [shFl, shE_set, mPar3]
  | [], q => cases q
  | [_], q => cases q
  | [_, _], q => cases q
  | _ :: _ :: _ :: _ :: _, q => cases q) q
theorem intsA_sh {s : Nat} : ∀ {xs : List AV} {is : List Int}, intsA xs = some is → intsA (xs.map (shV s)) = some is
  | [], is, q => q
  | x :: xs, is, q => by
    cases x with
    | int k =>
      unfold intsA at q
      cases w : intsA xs with
      | none => rw [w] at q; cases q
      | some js =>
        rw [w] at q
        cases q
        rw [List.map_cons, shV_int, intsA, intsA_sh w]
        rfl
    | _ => cases q
theorem sh_fSum : ShFL fSum := fun p xs h v h' q => by
  unfold fSum at q
  split at q
  · rename_i k
    split at q
    · rename_i ys hk
      split at q
      · rename_i is hs
        cases q
        rw [List.map_cons, List.map_nil, shV_ref]
        unfold fSum
        dsimp only
        rw [shH_get, hk]
        dsimp only [Option.map, shO]
        rw [intsA_sh hs, shV_int]
      · cases q
    · cases q
  · cases q
theorem sh_mRg2 {c : Bool} {ma mb : AE} (ha : ShE ma) (hb : ShE mb) : ShE (mRg2 c ma mb) := fun p e h r h' q => sh_bnd (fb := shV p.length) (ha p e h) (fun x h1 r h' q => sh_bnd (fb := shV p.length) (hb p e h1) (fun y h2 r h' q => by
  cases x with
  | int a => cases y with
    | int b =>
      rw [shV_int, shV_int]
      dsimp only at q ⊢
      have M : ((List.range (b - a).toNat).map fun k => AV.int (a + (k : Nat))).map (shV p.length) = (List.range (b - a).toNat).map fun k => AV.int (a + (k : Nat)) := by
        rw [List.map_map]
        apply List.map_congr_left
        intro k _
        exact shV_int
      split at q
      · rename_i hc
        rw [if_pos hc]
        split at q
        · rename_i hd
          rw [if_pos hd]
          cases q
          rw [shH_app]
          simp only [shR, shV_ref, shH_len, List.map_cons, List.map_nil, shO, M]
        · rename_i hd
          rw [if_neg hd]
          cases q
          simp only [shR, shV_tup, M]
      · cases q
    | _ => cases q
  | _ => cases q) q) q
theorem sh_mProp {c : Nat} {m : List AV → AM AV} {mo : AE} (hm : ShM m) (ho : ShE mo) : ShE (mProp c m mo) := fun p e h r h' q => sh_bnd (fb := shV p.length) (ho p e h) (fun x h1 r h' q => by
  cases x with
  | ref k =>
    rw [shV_ref]
    dsimp only at q ⊢
    rw [shH_get]
    split at q
    · rename_i d fs hk
      rw [hk]
      dsimp only [Option.map, shO]
      split at q
      · rename_i hd
        rw [if_pos hd]
        split at q
        · rename_i v h2 em
          cases q
          have := hm p [.ref k] h1 _ _ em
          rw [List.map_cons, List.map_nil, shV_ref] at this
          rw [this]
          rfl
        · cases q
      · cases q
    · cases q
  | _ => cases q) q
theorem keysT_sh {s : Nat} : ∀ {xs : List AV} {ks : List Key}, keysT xs = some ks → keysT (xs.map (shV s)) = some ks
  | [], ks, q => q
  | x :: xs, ks, q => by
    unfold keysT at q
    split at q
    · rename_i k ks' e1 e2
      cases q
      rw [List.map_cons, keysT, keyA_sh e1, keysT_sh e2]
    · cases q
theorem keyT_sh {s : Nat} {ks : List Key} (e : keyT x = some ks) : keyT (shV s x) = some ks := by
  cases x with
  | tup xs => rw [shV_tup]; exact keysT_sh e
  | _ => cases e
theorem dgA_sh {ov : Option AV} {k : Nat} (e : dgA y h[k]? = some ov) : dgA (shV p.length y) (shH p h)[p.length + k]? = some (ov.map (shV p.length)) := by
  rw [shH_get]
  cases hk : h[k]? with
  | none => rw [hk] at e; cases e
  | some o =>
    rw [hk] at e
    have K : ∀ {kvs : List (Key × AV)}, (keyA y).map (fun k => valA kvs k) = some ov → (keyA (shV p.length y)).map (fun k => valA (shP p.length kvs) k) = some (ov.map (shV p.length)) := by
      intro kvs e
      cases w : keyA y with
      | none => rw [w] at e; cases e
      | some z => rw [w] at e; cases e; rw [keyA_sh w, Option.map_some, shP_val]
    have T : ∀ {kvs : List (List Key × AV)}, (keyT y).map (fun k => valA kvs k) = some ov → (keyT (shV p.length y)).map (fun k => valA (shP p.length kvs) k) = some (ov.map (shV p.length)) := by
      intro kvs e
      cases w : keyT y with
      | none => rw [w] at e; cases e
      | some z => rw [w] at e; cases e; rw [keyT_sh w, Option.map_some, shP_val]
    cases o with
    | dct kvs => exact K e
    | ldk kvs => exact K e
    | dtp kvs => exact T e
    | ldt kvs => exact T e
    | _ => cases e
theorem sh_oDgetA : Sh2 oDgetA := fun p x y h v h' q => by
  cases x with
  | ref k =>
    rw [shV_ref]
    unfold oDgetA at q ⊢
    dsimp only at q ⊢
    split at q
    · rename_i u hd
      cases q
      rw [dgA_sh hd]
      rfl
    · cases q
  | _ => cases q
theorem sh_oDin {n : Bool} : Sh2 (oDin n) := fun p y x h v h' q => by
  cases x with
  | ref k =>
    rw [shV_ref]
    unfold oDin at q ⊢
    dsimp only at q ⊢
    split at q
    · rename_i o hd
      cases q
      rw [dgA_sh hd]
      simp
    · cases q
  | _ => cases q
theorem dpA_sh {v : AV} {k : Nat} {o : AO} (e : dpA y v h[k]? = some o) : dpA (shV p.length y) (shV p.length v) (shH p h)[p.length + k]? = some (shO p.length o) := by
  rw [shH_get]
  unfold dpA at e
  split at e
  · rename_i kvs hk
    split at e
    · rename_i z ek
      split at e
      · rename_i hl
        cases e
        rw [hk]
        dsimp only [Option.map, shO, dpA]
        rw [keyA_sh ek]
        dsimp only
        rw [if_pos (by rw [shP_len]; exact hl), shP_put]
      · cases e
    · cases e
  · rename_i kvs hk
    split at e
    · rename_i z ek
      split at e
      · rename_i hl
        cases e
        rw [hk]
        dsimp only [Option.map, shO, dpA]
        rw [keyT_sh ek]
        dsimp only
        rw [if_pos (by rw [shP_len]; exact hl), shP_put]
      · cases e
    · cases e
  · cases e
theorem sh_mDputA {mo mk mv : AE} (ho : ShE mo) (hk : ShE mk) (hv : ShE mv) : ShS (mDputA mo mk mv) := fun p e h r h' q => sh_bndS (hv p e h) (fun v h1 r h' q => sh_bndS (ho p e h1) (fun x h2 r h' q => sh_bndS (hk p e h2) (fun y h3 r h' q => by
  cases x with
  | ref i =>
    rw [shV_ref]
    dsimp only at q ⊢
    split at q
    · rename_i o ho
      cases q
      rw [dpA_sh ho, shH_set]
      rfl
    · cases q
  | _ => cases q) q) q) q
theorem sh_iDk {m : AE} (hm : ShE m) : ShIt (iDk m) := fun p e h r h' q => sh_bnd (fb := shI p.length) (hm p e h) (fun x h1 r h' q => by
  cases x with
  | ref k =>
    rw [shV_ref]
    dsimp only at q ⊢
    rw [shH_get]
    split at q
    · rename_i kvs hk
      cases q
      rw [hk]
      rfl
    · rename_i kvs hk
      cases q
      rw [hk]
      rfl
    · cases q
  | _ => cases q) q
/-! ### locks -/
def ShSel (sel : AEnv → List AO → Option Nat) : Prop := ∀ (p : List AO) (e : AEnv) (h : List AO) (i : Nat), sel e h = some i → sel (shE p.length e) (shH p h) = some (p.length + i)
theorem sh_selV : ShSel (selV i) := fun p e h k q => by
  unfold selV at q ⊢
  rw [shE_get]
  split at q
  · rename_i z hz
    cases q
    rw [hz]
    simp
  · cases q
theorem sh_selF {f : Str} : ShSel (selF i f) := fun p e h k q => by
  unfold selF at q ⊢
  rw [shE_get]
  split at q
  · rename_i z hz
    rw [hz]
    simp only [Option.map_some, shV_ref]
    rw [shH_get]
    split at q
    · rename_i c fs hk
      rw [hk]
      simp only [Option.map_some, shO]
      rw [shP_look]
      split at q
      · rename_i u hu
        cases q
        rw [hu]
        simp
      · cases q
    · cases q
  · cases q
theorem lkA_sh {s : Nat} {o o' : AO} (e : lkA o = some o') : lkA (shO s o) = some (shO s o') := by
  cases o <;> cases e <;> rfl
theorem fkA_sh {s : Nat} {o o' : AO} (e : fkA o = some o') : fkA (shO s o) = some (shO s o') := by
  cases o <;> cases e <;> rfl
theorem onA_sh {g : List AO} (e : onA i h = some g) : onA (p.length + i) (shH p h) = some (shH p g) := by
  unfold onA at e ⊢
  rw [shH_get]
  split at e
  · rename_i o ho
    split at e
    · rename_i o' hl
      cases e
      rw [ho]
      simp only [Option.map_some]
      rw [lkA_sh hl, shH_set]
    · cases e
  · cases e
theorem offA_sh {g : List AO} (e : offA i h = some g) : offA (p.length + i) (shH p h) = some (shH p g) := by
  unfold offA at e ⊢
  rw [shH_get]
  split at e
  · rename_i o ho
    split at e
    · rename_i o' hl
      cases e
      rw [ho]
      simp only [Option.map_some]
      rw [fkA_sh hl, shH_set]
    · cases e
  · cases e
theorem sh_mLockS {sel : AEnv → List AO → Option Nat} {m : AS} (hs : ShSel sel) (hm : ShS m) : ShS (mLockS sel m) := fun p e h r h' q => by
  unfold mLockS at q ⊢
  split at q
  · rename_i i hi
    rw [hs p e h i hi]
    dsimp only
    split at q
    · rename_i h1 ho
      rw [onA_sh ho]
      dsimp only
      split at q
      · cases q
      · rename_i fl h2 hx em
        rw [hm p e h1 _ _ em]
        split at q
        · rename_i h3 hf
          cases q
          cases r with
          | ex c k e' => exact absurd rfl (hx c k e')
          | nx e' => dsimp only [shFl]; rw [offA_sh hf]
          | bk e' => dsimp only [shFl]; rw [offA_sh hf]
          | ct e' => dsimp only [shFl]; rw [offA_sh hf]
          | rt v => dsimp only [shFl]; rw [offA_sh hf]
        · cases q
      · cases q
    · cases q
  · cases q
theorem sh_mLockE {sel : AEnv → List AO → Option Nat} {m : AE} (hs : ShSel sel) (hm : ShE m) : ShE (mLockE sel m) := fun p e h r h' q => by
  unfold mLockE at q ⊢
  split at q
  · rename_i i hi
    rw [hs p e h i hi]
    dsimp only
    split at q
    · rename_i h1 ho
      rw [onA_sh ho]
      dsimp only
      split at q
      · rename_i v h2 em
        rw [hm p e h1 _ _ em]
        dsimp only [shR]
        split at q
        · rename_i h3 hf
          cases q
          rw [offA_sh hf]
        · cases q
      · cases q
    · cases q
  · cases q
end
end SL
/-! SL18: dict displays whose keys are tuples: the rule, and its shift law. -/
namespace SL
open PySem PySem.Spec PyProof.Rows L2
section
variable {G : Gx} {X : Cx} {W : WX} {pos : Pos} {n : Nat} {al : Nat → Addr} {H : Hp} {h h' : List AO}
def keysTA : List (AV × AV) → Option (List (List Key × AV))
  | [] => some []
  | (k, v) :: r => match keyT k, keysTA r with
    | some k, some r => some ((k, v) :: r)
    | _, _ => none
theorem keysTA_ok (hz : G.fz = false) : ∀ {ps : List (AV × AV)} {kvs : List (List Key × AV)} {us : List (V × V)}, RAs G n al H (ps.map (·.1)) (us.map (·.1)) → RAs G n al H (ps.map (·.2)) (us.map (·.2)) → keysTA ps = some kvs →
    ∃ rs : List L2.Row, us = rs.map rowP ∧ (∀ r ∈ rs, H r.2.1 = some (.tup (r.1.map kV))) ∧ RF G n al H kvs (rs.map rowK)
  | [], kvs, us, k3, v3, e => by
    cases e
    cases us with
    | nil => exact ⟨[], rfl, fun r hr => absurd hr List.not_mem_nil, trivial⟩
    | cons u us => cases k3
  | (k, v) :: ps, kvs, us, k3, v3, e => by
    cases us with
    | nil => cases k3
    | cons u us =>
      obtain ⟨a, b⟩ := u
      cases k3 with
      | cons ka ks =>
        cases v3 with
        | cons va vs =>
          unfold keysTA at e
          split at e
          · rename_i kk r e1 e2
            cases e
            obtain ⟨rs, rfl, hk, rf⟩ := keysTA_ok hz ks vs e2
            obtain ⟨c, ec, hc⟩ := keyT_ok hz ka e1
            dsimp only at ec va
            subst ec
            refine ⟨(kk, c, b) :: rs, rfl, fun r hr => ?_, rfl, va, rf⟩
            exact (List.mem_cons.mp hr).elim (fun z => z ▸ hc) (hk r)
          · cases e
def mergeAT (acc more : List (List Key × AV)) : List (List Key × AV) := more.foldl (fun acc kv => putA acc kv.1 kv.2) acc
theorem mergeAT_ok : ∀ {more : List (List Key × AV)} {ws : List (List Key × V)} {acc : List (List Key × AV)} {wa : List (List Key × V)}, RF G n al H more ws → RF G n al H acc wa → RF G n al H (mergeAT acc more) (mergeKT wa ws)
  | [], [], _, _, _, ha => ha
  | (k, v) :: more, (k', u) :: ws, acc, wa, h, ha => by
    obtain ⟨e, r, t⟩ := h
    have e' : k = k' := e
    subst e'
    exact mergeAT_ok (acc := putA acc k v) (wa := putK wa k u) t (putA_ok ha r)
  | [], _ :: _, _, _, h, _ => h.elim
  | _ :: _, [], _, _, h, _ => h.elim
def dispTF (i : Nat) (ps : List (AV × AV)) : AM AV := fun h1 => match keysTA ps, h1[i]? with
  | some kvs, some (.dtp []) => if kvs.length ≤ 15 then some (.ok (.ref i), h1.set i (.dtp (mergeAT [] kvs))) else none
  | _, _ => none
def mDispT (mr : AEnv → AM (List (AV × AV))) : AE := fun e h => bnd (mr e (h ++ [.dtp []])) (dispTF h.length)
theorem se_dispT {ks : List (Option Expr)} {vs : List Expr} {mr : AEnv → AM (List (AV × AV))} (hz : G.fz = false) (hu : X.A.units < cLine) (hm : SPs G X W pos ks vs mr) (hall : ks.all (·.isSome) = true := by rfl) (hl : ks.length = vs.length := by rfl) (h0 : ks ≠ [] := by exact List.cons_ne_nil _ _) (h15 : ks.length ≤ 15 := by decide) : SE G X W (.Dict ks vs pos) (mDispT mr) := by
  obtain ⟨trs, p, s⟩ := hm
  refine ⟨_, pe_dispT hu p hall hl h0 h15, ?_⟩
  intro σ H al e h r h' Q hr er hm q p hp
  have hlen : (h ++ [AO.dtp []]).length = h.length + 1 := by rw [List.length_append, List.length_singleton]
  have xb : Ext h.length al H (h ++ [AO.dtp []]).length (ext1 al h.length p) (upd H p (.dT [])) := by rw [hlen]; exact ext_new hp
  have hr0 : HR G (ext1 al h.length p) (h ++ [.dtp []]) (upd H p (.dT [])) := hr.new hp ⟨[], upd_same, trivial⟩
  rcases bnd_some hm with ⟨c, k, e1, rfl⟩ | ⟨ps, h1, e1, e2⟩
  · exact s σ _ _ e _ _ _ _ hr0 (er.mono xb) e1 (PoE.after (r := .ex c k) (Q := fun _ _ => True) xb q)
  · refine s σ _ _ e _ _ _ _ hr0 (er.mono xb) e1 ?_
    intro al1 H1 us x1 hr1 k3 v3
    unfold dispTF at e2
    split at e2
    · rename_i kvs ek ed
      split at e2
      · rename_i hle
        cases e2
        obtain ⟨rs, rfl, hk, rf⟩ := keysTA_ok hz k3 v3 ek
        obtain ⟨wd, e5, rfd⟩ := (hr1.ob _ _ ed : ∃ ws, H1 (al1 h.length) = some (.dT ws) ∧ RF G h1.length al1 H1 [] ws)
        have dal : al1 h.length = p := by
          rw [x1.al _ (by rw [hlen]; omega)]; exact ext1_at
        rw [dal] at e5
        cases wd with
        | nil =>
          refine ⟨e5, rs, rfl, hk, by rw [← List.length_map (as := rs) (f := rowK), ← rf.length]; exact hle, ?_⟩
          have E := ext_put (u := .dT (mergeKT [] (rs.map rowK))) hr1 ed rfl
          have P := hr1.put (u := .dT (mergeKT [] (rs.map rowK))) (o' := .dtp (mergeAT [] kvs)) ed rfl rfl ⟨_, upd_same, RF.mono E (mergeAT_ok rf trivial)⟩
          have rr := RA.ref (G := G) (n := h1.length) (al := al1) (H := upd H1 (al1 h.length) (.dT (mergeKT [] (rs.map rowK)))) (i := h.length) (Nat.lt_of_lt_of_le (by rw [hlen]; omega) x1.le)
          rw [dal] at E P rr
          refine q al1 _ _ ?_ P (by rw [List.length_set]; exact rr)
          rw [List.length_set]
          exact (xb.trans x1).trans E
        | cons _ _ => exact rfd.elim
      · cases e2
    · cases e2
/-! ### its shift law -/
theorem keysTA_sh {s : Nat} : ∀ (ps : List (AV × AV)) (kvs : List (List Key × AV)), keysTA ps = some kvs → keysTA (ps.map fun q => (shV s q.1, shV s q.2)) = some (shP s kvs)
  | [], kvs, e => by cases e; rfl
  | (k, v) :: ps, kvs, e => by
    unfold keysTA at e
    split at e
    · rename_i kk r e1 e2
      cases e
      rw [List.map_cons]
      unfold keysTA
      rw [keyT_sh e1, keysTA_sh ps r e2]
      rfl
    · cases e
theorem mergeT_sh {s : Nat} : ∀ (more acc : List (List Key × AV)), shP s (mergeAT acc more) = mergeAT (shP s acc) (shP s more)
  | [], acc => rfl
  | (k, v) :: more, acc => by
    show shP s (mergeAT (putA acc k v) more) = mergeAT (putA (shP s acc) k (shV s v)) (shP s more)
    rw [mergeT_sh more, shP_put]
theorem sh_mDispT {mr : AEnv → AM (List (AV × AV))} (hr : ShPr mr) : ShE (mDispT mr) := fun p e h r h' q => by
  unfold mDispT at q ⊢
  refine sh_bnd (fa := List.map fun q => (shV p.length q.1, shV p.length q.2)) (fb := shV p.length) (m' := mr (shE p.length e) (shH p h ++ [.dtp []])) (fun r h' q => ?_) (fun ps h1 r h' q => ?_) q
  · have := hr p e _ _ _ q
    rw [shH_app] at this
    exact this
  · unfold dispTF at q ⊢
    split at q
    · rename_i kvs e1 e2
      rw [keysTA_sh ps kvs e1, shH_len, shH_get, e2]
      dsimp only [Option.map, shO, shP, List.map]
      split at q
      · rename_i hl
        cases q
        rw [if_pos (by rw [List.length_map]; exact hl), shH_set]
        simp only [shR, shV_ref, shO, mergeT_sh]
        rfl
      · cases q
    · cases q
end
end SL
/-! SL19: an own exception over ValueError whose __init__ says super().__init__(text) and keeps one field. -/
namespace SL
open PySem PySem.Spec PySem.Calls PySem.W PyProof.Rows L2

structure SupScope (sc : Scope) (prm : Str) : Prop where
  slf : sc.names.lookup ("self" : Str) = some .local
  par : sc.names.lookup prm = some .local
  sup : sc.names.lookup ("super" : Str) = some .globalImplicit
  cls : sc.names.lookup ("__class__" : Str) = some .free
  cell : ∀ x ∈ sc.names, x.2 ≠ .cell
  co : sc.isCoroutine = false
  gen : sc.isGenerator = false
  kind : sc.kind = .function
  ne : prm ≠ "self"
  dbg : (prm == ("__debug__" : Str)) = false
def SupBody (prm fld qual : Str) (sc : Scope) (body : List Stmt) : Prop := ∃ (p0 p1 p2 p3 p4 p5 p6 p7 p8 p9 : Pos) (msg : Str) (j : Nat),
  body = [.Expr (.Call (.Attribute (.Call (.Name "super" p0) [] [] p1) "__init__" p2) [.Constant (.str msg) j p3] [] p4) p5, .Assign [.Attribute (.Name "self" p6) fld p7] (.Name prm p8) p9] ∧
  ∀ (L fI cda cc : Addr), interactive (PySem.W.ksEnv qual sc L fI (.ref cda) cc) = false ∧
    swapsWith (.Call (.Attribute (.Call (.Name "super" p0) [] [] p1) "__init__" p2) [.Constant (.str msg) j p3] [] p4) none p5.line (PySem.W.ksEnv qual sc L fI (.ref cda) cc) = pure false ∧
    swapsWith (.Name prm p8) (some (.Attribute (.Name "self" p6) fld p7)) p9.line (PySem.W.ksEnv qual sc L fI (.ref cda) cc) = pure false ∧ ∃ pl : Sem Bool, eval (.Call (.Attribute (.Call (.Name "super" p0) [] [] p1) "__init__" p2) [.Constant (.str msg) j p3] [] p4) (PySem.W.ksEnv qual sc L fI (.ref cda) cc) = (do
      let so ← attributeBase (.Call (.Name "super" p0) [] [] p1) "__init__" (PySem.W.ksEnv qual sc L fI (.ref cda) cc) (eval (.Call (.Name "super" p0) [] [] p1) (PySem.W.ksEnv qual sc L fI (.ref cda) cc))
      standAt p2.atName
      let (g, first) ← holding [so] (getMethod so "__init__" pl)
      callWith p4 g first (backTo p4 (starEach [.Constant (.str msg) j p3] (PySem.W.ksEnv qual sc L fI (.ref cda) cc))) [])
/-- the def of such an __init__ -/
structure SupFn (P : Program) (K : PySem.W.Frag) (C fI : Addr) (prm fld qual : Str) (params : Arguments) (body : List Stmt) (sc : Scope) (cda cc : Addr) (fd : FuncData) : Prop where
  lk : ∃ (oc : Value) (od : Option Addr) (osl : Array (Option Value)), K.lookup fI = some ⟨oc, od, .func fd, osl⟩
  isFn : ∃ (name : Str) (dV kV doc pm ct : Value) (an : Option Addr), fd = PySem.W.ksFn name qual params body sc dV kV doc pm an (.ref cda) ct cc
  crec : PySem.W.codeIn K (.ref cda) qual = true
  code : ∃ (oc : Value) (od : Option Addr) (vs : Array Value) (osl : Array (Option Value)) (file : Str) (tf : Tok), K.lookup cda = some ⟨oc, od, .fields vs, osl⟩ ∧ vs[2]? = some (.str file tf) ∧ ((P.main.file : Str) == file) = true
  cell : ∃ (oc : Value) (od : Option Addr) (osl : Array (Option Value)), K.lookup cc = some ⟨oc, od, .cell (some (.ref C)), osl⟩
  bind : ∀ s x u, BindsTo s fd ⟨[x, u], []⟩ [("self", x), (prm, u)]
  hd : ∃ ar : Arg, (params.posonlyargs ++ params.args).head? = some ar ∧ ar.arg = "self"
  isBody : SupBody prm fld qual sc body
  sc : SupScope sc prm
/-- the class -/
structure SupC (P : Program) (K : PySem.W.Frag) (C fI : Addr) (prm fld : Str) : Prop where
  T : OexC K C
  iC : PySem.W.findIn K (.ref C) "__init__" = some (some (.ref fI))
  tI : PySem.W.typeIn K (.ref fI) = some (.type "function")
  sup : PySem.W.ks_superIn K C C "__init__" = some (some (.builtin "ValueError.__init__"))
  sub : PySem.W.subIn K (.ref C) (.type "ValueError") = some true
  slf : PySem.W.mroIn K C (.ref C) = some true
  opq : PySem.W.nsIn K PySem.cStatics "thirdparty.any" = some none
  nofld : PySem.W.findIn K (.ref C) fld = some none
  top : (P.main.scope.names.lookup ("super" : Str)).isSome = false
  fn : ∃ qual params body sc cda cc fd, SupFn P K C fI prm fld qual params body sc cda cc fd

section
variable {P : Program} {w : World} {K : PySem.W.Frag} {mg : Str → Option Value} {base : Heap} {C fI : Addr} {prm fld : Str}
/-- the run of __init__ on a new exception -/
theorem sup_run (S : SupC P K C fI prm fld) (M : Mod K mg base) (hsup : mg "super" = none) {A : Around} {R : Result → Shared → Prop} {hp : Heap} {g : Array GenState} {d : Drawn} {t : Nat} {os : OsState} {a t0 : Addr} {u : Value}
    (kb : ∀ b o, base.get? b = some o → hp.get? b = some o) (hn : base.get? a = none) (room : A.depth < recursionLimit) (ha : hp.get? a = some (PySem.HandSPX.excO C t0))
    (h : ∀ h2 tk dx t1, (∀ b o, b ≠ a → hp.get? b = some o → h2.get? b = some o) → hp.objs.size ≤ dx → dx ≠ a → h2.get? a = some ({ cls := .ref C, dict := some dx, data := .fields #[.ref t1, .none, .none, .none, .bool false, .none] } : Obj) →
      h2.Ns1 dx (fun y => if y = fld then some u else none) → R (.ok (.ret .none)) ⟨h2, g, d, tk, os⟩) :
    codeAny (model P w) A (.call (.ref fI) ⟨[.ref a, u], []⟩) R ⟨hp, g, d, t, os⟩ := by
  obtain ⟨qual, params, body, sc, cda, cc, fd, N⟩ := S.fn
  obtain ⟨oc, od, osl, lk⟩ := N.lk
  obtain ⟨name, dV, kV, doc, pm, ct, an, rfl⟩ := N.isFn
  obtain ⟨p0, p1, p2, p3, p4, p5, p6, p7, p8, p9, msg, j, rfl, evs⟩ := N.isBody
  obtain ⟨nm, q, Nn, bs, bm, sn, sub, ab, col, dd, k0, k1, k2, k3, k5, hC, hbm⟩ := S.T.cls
  have kin : K.In hp := M.kin.keeps kb
  have below : a < hp.objs.size := Heap.lt_size ha
  refine ks_codeAny_call_defAt (binds := [("self", .ref a), (prm, u)]) room (kin _ _ lk) rfl (M.nolimit.keeps kb) (PySem.W.codeRec_of kin N.crec) rfl (N.bind _ _ _) N.sc.cell ?_ ?_ N.sc.co N.sc.gen N.sc.kind
  · intro x hx
    refine (List.mem_cons.mp hx).elim (fun z => z ▸ N.sc.slf) fun z => ?_
    rw [List.mem_singleton.mp z]; exact N.sc.par
  · intro h1 ns1 up1
    have kin1 : K.In h1 := kin.keeps up1
    have a1 := up1 _ _ ha
    have vSelf : (fun x => ([("self", Value.ref a), (prm, u)] : List (Str × Value)).reverse.lookup x) ("self" : Str) = some (.ref a) := by
      show ([(prm, u), ("self", Value.ref a)] : List (Str × Value)).lookup ("self" : Str) = _
      rw [List.lookup_cons, (show (("self" : Str) == prm) = false from beq_eq_false_iff_ne.mpr (Ne.symm N.sc.ne))]
      simp [List.lookup]
    have vPrm : (fun x => ([("self", Value.ref a), (prm, u)] : List (Str × Value)).reverse.lookup x) prm = some u := by
      show ([(prm, u), ("self", Value.ref a)] : List (Str × Value)).lookup prm = _
      rw [List.lookup_cons, beq_self_eq_true]
    obtain ⟨ar, har, harg⟩ := N.hd
    obtain ⟨co, cod, cvs, csl, file, tf, lcode, cfile, isMain⟩ := N.code
    obtain ⟨ceo, ced, cesl, lcell⟩ := N.cell
    obtain ⟨mb, blt1, blt2⟩ := M.blt
    have old1 := fun b o z => up1 b o (kb b o z)
    let ev := PySem.W.ksEnv qual sc hp.objs.size fI (.ref cda) cc
    obtain ⟨notAsked, noSwap, noSwap2, pl, evs⟩ := evs hp.objs.size fI cda cc
    apply ks_wpAt_execs_cons
    refine ks_wpAt_Expr_any ?_ notAsked noSwap
    refine ks_wpAt_MethodCall (env := ev) (o := .Call (.Name "super" p0) [] [] p1) (pl := pl) ?_ evs
    refine ks_wpAt_super_base (env := ev) (f := fI) (cc := cda) (ar := ar) (file := file) (tf := tf) N.sc.sup N.sc.cls (by decide) rfl (kin1 _ _ lk) rfl har rfl (kin1 _ _ lcode) rfl cfile isMain S.top ?_
    refine PySem.W.ks_loadName_global (env := ev) N.sc.kind N.sc.sup ?_
    refine loadGlobal_builtin (env := ev) (M.glob.keeps old1) hsup (blt1.keeps old1) (blt2 "super" (by decide)) ⟨rfl, ?_⟩
    refine wpAny_loadName_free (env := ev) N.sc.kind N.sc.cls rfl ⟨_, kin1 _ _ lcell, rfl⟩ ?_
    rw [harg]
    refine wpAny_loadName_local (env := ev) N.sc.kind N.sc.slf ns1 vSelf ?_
    apply ks_wpAny_isType_cls (kin1 _ _ hC) rfl
    refine ⟨rfl, ?_⟩
    apply ks_wpAny_call_super (kin1 _ _ hC) rfl a1 rfl (fun _ z => nomatch z) (PySem.W.looks_mroIn kin1 S.slf)
    intro h2 so2 up2
    have kin2 : K.In h2 := kin1.keeps up2
    have a2 := up2 _ _ a1
    have hcl : PySem.W.clsIn K C = some { name := nm, bases := bs, mro := .ref C :: bm, ns := Nn, qualname := q, hasDict := true, slotNames := sn, subclasses := sub, abstract := ab, collection := col, hasDel := false } := by
      unfold PySem.W.clsIn; rw [hC] <;> rfl
    have inst : PySem.W.Looks (model P w) h2 (isInstance (.ref a) (.type "ValueError")) true :=
      PySem.W.Looks.andThen (show PySem.W.InstAt h2 a (PySem.HandSPX.excO C t0) C none from ⟨a2, rfl, rfl, trivial⟩).type (PySem.W.looks_subIn kin2 S.sub)
    have nC : a ≠ C := by
      rintro rfl
      have z := kin _ _ hC
      rw [ha] at z
      cases z
    have along := S.sup
    unfold PySem.W.ks_superIn at along
    rw [hcl] at along
    apply PySem.W.kxs_getMethod PySem.W.kxs_ValueError so2 (PySem.W.looks_opaque kin2 S.opq) ((PySem.W.looks_clsIn kin2 hcl).andThen .now) rfl kin2 along inst nC (by decide)
    show wpAny _ _ (callWith p4 (.ref h2.objs.size) [] (backTo p4 (starEach [.Constant (.str msg) j p3] _)) []) _ _ _
    apply PySem.W.kxs_callWith (i := "ValueError.__init__") (x := a) rfl
    refine evalArgs_plain (spliced_cons (Constant_str (k := j) (pos := p3) (spliced_nil ?_)))
    have a3 : (h2.push (PySem.W.kxs_mw "ValueError.__init__" a)).get? a = _ := Heap.get?_push_of_some _ a2
    have u3 : (h2.push (PySem.W.kxs_mw "ValueError.__init__" a)).get? h2.objs.size = some (PySem.W.kxs_mw "ValueError.__init__" a) := Heap.get?_push_size h2 rfl
    refine ⟨u3, ?_⟩
    have kin3 := kin2.keeps (h' := h2.push (PySem.W.kxs_mw "ValueError.__init__" a)) fun b o z => Heap.get?_push_of_some _ z
    have FB := F.excBase_ValueError
    refine wpAny_call ?_
    refine codeAny_of_tree ?_
    show wpAny _ _ (callAny (.ref h2.objs.size) ⟨[.str msg _], []⟩) _ _ _
    unfold callAny
    refine wpAny_bind (wpAny_load u3 ?_)
    have kind : (Value.type "method-wrapper" == Value.type "method" || Value.type "method-wrapper" == Value.type "builtin_function_or_method" || Value.type "method-wrapper" == Value.type "method-wrapper") = true := by decide
    simp only [PySem.W.kxs_mw, kind, if_true]
    refine KFB.if_so (by decide) (wpAny_bind (check_bound_init FB.toExcCallFacts (kin3 _ _ hC) a3 rfl (wpAny_bind (wpAny_pure (wpAny_pure ⟨PySem.plainId_quiet FB.init.plain _, codeAny_builtin FB.initEntry ?_⟩)))))
    refine PySem.W.exc_init_tree (cls := .ref C) (t0 := t0) (dv := none) (c2 := .none) (c3 := .none) (b4 := .bool false) a3 (by rw [sizeLine_eq]; exact Nat.le_of_ble_eq_true rfl) ?_
    intro h4 up4 a4 _
    have LA : hp.objs.size ≠ a := Nat.ne_of_gt below
    have up04 : ∀ b o, b ≠ a → hp.get? b = some o → h4.get? b = some o := fun b o nb z => up4 b o nb (Heap.get?_push_of_some _ (up2 _ _ (up1 _ _ z)))
    have nK : ∀ {b : Addr} {o : Obj}, K.lookup b = some o → b ≠ a := by
      intro b o z e
      have y := M.kin _ _ z
      rw [e, hn] at y
      cases y
    have kin4 : K.In h4 := fun b o z => up04 b o (nK z) (kin _ _ z)
    have ns4 : h4.Ns hp.objs.size (fun x => ([("self", Value.ref a), (prm, u)] : List (Str × Value)).reverse.lookup x) := by
      obtain ⟨oL, es, ep, z, r⟩ := ns1
      exact ⟨oL, es, ep, up4 _ _ LA (Heap.get?_push_of_some _ (up2 _ _ z)), r⟩
    apply ks_wpAt_execs_cons
    refine wpAt_of_wpAny (plainObj_wpAny_Assign_Attribute (PySem.ESX.ldL ns4 vPrm (PySem.ESX.ldL ns4 vSelf ?_ N.sc.kind N.sc.slf) N.sc.kind N.sc.par N.sc.dbg) noSwap2)
    refine set_plain kin4 (od := none) ⟨a4, rfl, rfl, trivial⟩ S.T.sa (PySem.HandSPX.exc_osa kin4 a4 hcl hbm rfl S.nofld ?_)
    intro h5 tk dx up5 big ne a5 ns5
    refine wpAt_of_wpAny (wpAny_execs_nil ?_)
    have room4 : hp.objs.size < h4.objs.size := by
      obtain ⟨oL, es, ep, z, r⟩ := ns4
      exact Heap.lt_size z
    exact h h5 tk dx _ (fun b o nb z => up5 b o nb (up04 b o nb z)) (Nat.le_of_lt (Nat.lt_of_lt_of_le room4 big)) ne a5 ns5

/-! ### C(e) -/
def tMkS (C : Addr) (fld : Str) (te : TE) : L2.St → Hp → XK → Prop := fun σ H Q => te σ H fun v H1 => ∀ d, H1 d = none → Q (.ref C) (some d) (upd H1 d (.xd [(fld, v)]))
theorem pmk_sup {X : Cx} {x : Str} {p pos : Pos} {e : Expr} {te : TE} (S : SupC X.prog X.K C fI prm fld) (hsup : X.mg "super" = none) (hr : Room 2 X.A) (hg : Gl X x) (hm : X.mg x = some (.ref C)) (he : PE X e te)
    (hdb : (x == ("__debug__" : Str)) = false := by decide) (hs : starEach [e] X.env = (false, eval e X.env) :: starEach [] X.env := by rfl) (hpl : (backTo pos (starEach [] X.env)).any (·.1) = false := by rfl) :
    PMk X (.Call (.Name x p) [e] [] pos) (tMkS C fld te) := by
  intro pins s σ H Q I want
  obtain ⟨nm, q, Nn, bs, bm, sn, sub, ab, col, dd, k0, k1, k2, k3, k5, hC, hbm⟩ := S.T.cls
  apply wpAny_Call_Name_kw (ld_glob I hg hm _ hdb)
  have arg := (pa_cons he pa_nil hs).run pos pins s σ H (fun vs H1 => match vs with | [v] => ∀ d, H1 d = none → Q (.ref C) (some d) (upd H1 d (.xd [(fld, v)])) | _ => False) I want
  apply PySem.W.callWith_K (h₀ := X.base) I.ok.mod.kin S.T.kC _ hs hpl
  apply thn arg
  rintro us ⟨hp, g, dr, tk, os⟩ ⟨vs, H1, J, same, want⟩
  match vs, us, same, want with
  | [v], [u], .cons rv .nil, want =>
    refine ⟨J.kIn, ?_⟩
    have push2 : ∀ b o, hp.get? b = some o → ((hp.push (PySem.W.kdv_tup [u])).push (PySem.HandSPX.excO C hp.objs.size)).get? b = some o := fun b o z => Heap.get?_push_of_some _ (Heap.get?_push_of_some _ z)
    have made : ((hp.push (PySem.W.kdv_tup [u])).push (PySem.HandSPX.excO C hp.objs.size)).get? (hp.objs.size + 1) = some (PySem.HandSPX.excO C hp.objs.size) := by heap_get
    have fresh : hp.get? (hp.objs.size + 1) = none := by
      cases z : hp.get? (hp.objs.size + 1) with
      | none => rfl
      | some o => exact absurd (Heap.lt_size z) (Nat.not_lt.mpr (Nat.le_succ _))
    have noBase : X.base.get? (hp.objs.size + 1) = none := by
      cases z : X.base.get? (hp.objs.size + 1) with
      | none => rfl
      | some o => rw [J.bk _ _ z] at fresh; cases fresh
    apply wpAny_call
    apply PySem.HandSPX.call_own F.excBase_ValueError (fun Y => PySem.HandSPX.refsVE_contains Y bm hbm) (J.kIn _ _ hC) (PySem.W.looks_findIn J.kIn S.iC) (fun self => PySem.W.bind_fn J.kIn self S.tI) (by rw [sizeLine_eq]; exact Nat.le_of_ble_eq_true rfl)
    apply sup_run S J.ok.mod hsup (fun b o z => push2 _ _ (J.bk _ _ z)) noBase (hr.make C [u] []).depth made
    intro h2 tk2 dx t1 up big ne a2 ns2
    refine ⟨rfl, ?_⟩
    obtain ⟨G, same, gone⟩ := restrict h2 fun b => decide (b ≠ hp.objs.size + 1)
    have there : ∀ b, b ≠ hp.objs.size + 1 → G.get? b = h2.get? b := fun b z => same b (decide_eq_true z)
    have above : hp.objs.size ≤ dx := by
      have two : hp.objs.size + 1 < ((hp.push (PySem.W.kdv_tup [u])).push (PySem.HandSPX.excO C hp.objs.size)).objs.size := Heap.lt_size made
      omega
    have rel : ∀ f, RelO (([(fld, v)] : List (Str × V)).lookup f) (if f = fld then some u else none) := relO_put (fs := []) rv fun _ => True.intro
    have J2 : Inv X pins σ (upd H1 dx (.xd [(fld, v)])) ⟨G, g, dr, tk2, os⟩ := J.laid (t' := tk2) (h' := G) (a := dx)
      (fun b o z => (there b (fun e => by rw [e, fresh] at z; cases z)).trans (up b o (fun e => by rw [e, fresh] at z; cases z) (push2 _ _ z))) above ⟨_, ns2.at fun o y => (there dx ne).trans y, rel⟩
    refine ⟨hp.objs.size + 1, _, _, ⟨G, g, dr, tk2, os⟩, _, .ref C, some dx, rfl, J2, ?_, gone _ (by simp), a2, ⟨rfl, rfl⟩, rfl, rfl, ?_, rfl, J.bare, raises_own S.T.exC S.T.tyC, want dx (J.hok.fresh above)⟩
    · intro b o z
      by_cases e : b = hp.objs.size + 1
      · rw [e, gone _ (by simp)] at z; cases z
      · exact (there b e).symm.trans z
    · rw [upd_ne (Ne.symm ne)]
      exact J.hok.fresh (Nat.le_succ _)
end
end SL
/-! SL20: raise of an own exception; try with one clause. -/
namespace SL
open PySem PySem.Spec PyProof.Rows L2
section
variable {G : Gx} {X : Cx} {W : WX} {pos : Pos} {C fI : Addr} {prm fld : Str}
/-! ### raise C(e) -/
def mRaise (c : Nat) (fld : Str) (ma : AE) : AS := fun e h => bndS (ma e h) e fun v h1 => some (.ex c h1.length e, h1 ++ [.xd [(fld, v)]])
theorem ss_raise {c : Nat} {x : Str} {p pos' : Pos} {a : Expr} {ma : AE} (S : SupC X.prog X.K (G.cl c) fI prm fld) (hsup : X.mg "super" = none) (tk : Takes X W) (hr : Room 2 X.A) (hm : X.mg x = some (.ref (G.cl c))) (ha : SE G X W a ma) (hc : X.calm = true := by rfl) (hg : Gl X x := by rfl)
    (hdb : (x == ("__debug__" : Str)) = false := by decide) (hs : starEach [a] X.env = (false, eval a X.env) :: starEach [] X.env := by rfl) (hpl : (backTo pos' (starEach [] X.env)).any (·.1) = false := by rfl) :
    SS G X W (.Raise (some (.Call (.Name x p) [a] [] pos')) none pos) (mRaise c fld ma) := by
  obtain ⟨t, pa, sa⟩ := ha
  refine ⟨_, ps_raise hc tk (pmk_sup S hsup hr hg hm pa hdb hs hpl), ?_⟩
  intro σ H al e h fl h' D hR er hm q
  rcases bndS_some hm with ⟨cc, kk, e1, rfl⟩ | ⟨v, h1, e1, e2⟩
  · exact sa σ H al e h _ _ _ hR er e1 (PoS.exE er q)
  · cases e2
    refine sa σ H al e h _ _ _ hR er e1 ?_
    intro al1 H1 u x1 hr1 r1 d hd
    have xd : Ext h1.length al1 H1 (h1 ++ [AO.xd [(fld, v)]]).length (ext1 al1 h1.length d) (upd H1 d (.xd [(fld, u)])) := by
      rw [List.length_append, List.length_singleton]; exact ext_new hd
    have h2 : HR G (ext1 al1 h1.length d) (h1 ++ [.xd [(fld, v)]]) (upd H1 d (.xd [(fld, u)])) := by
      refine hr1.new hd ⟨[(fld, u)], upd_same, rfl, ?_, trivial⟩
      have y := r1.mono xd
      rw [List.length_append, List.length_singleton] at y
      exact y
    have key := q (ext1 al1 h1.length d) _ σ (x1.trans xd) h2 (er.mono (x1.trans xd)) (by rw [List.length_append, List.length_singleton]; omega) ⟨[(fld, v)], by rw [List.getElem?_append_right (Nat.le_refl _), Nat.sub_self]; rfl⟩
    rw [ext1_at] at key
    exact key

/-! ### what a body does, as a reading -/
def tBody (G : Gx) (m : AS) (W : WX) : TS := fun D σ H => ∃ al e h fl h', HR G al h H ∧ ER G h.length al H e σ ∧ m e h = some (fl, h') ∧ PoS G W h.length al H fl h' D
theorem sb_body {b : List Stmt} {m : AS} (hb : SB G X W b m) : PSs X b (tBody G m W) := by
  obtain ⟨t, p, s⟩ := hb
  exact ⟨fun pins s0 σ H D I ⟨al, e, h, fl, h', hr, er, hm, q⟩ => p.run pins s0 σ H D I (s σ H al e h fl h' D hr er hm q)⟩

/-! ### the suite: k the exception's dict, slot i the exception -/
def Wn : WX := fun _ _ _ _ => False
/-- slot i holds a, number k stands at d -/
structure Held (n : Nat) (al : Nat → Addr) (σ : L2.St) (k : Nat) (d : Addr) (i : Option Nat) (a : Addr) : Prop where
  lt : k < n
  at_ : al k = d
  var : ∀ j, i = some j → σ[j]? = some (some (.ref a))
theorem Held.mono {n n' : Nat} {al al' : Nat → Addr} {H H' : Hp} {σ : L2.St} {k : Nat} {d : Addr} {i : Option Nat} {a : Addr} (x : Ext n al H n' al' H') (h : Held n al σ k d i a) : Held n' al' σ k d i a :=
  ⟨Nat.lt_of_lt_of_le h.lt x.le, (x.al k h.lt).trans h.at_, h.var⟩
def XndE (G : Gx) (k : Nat) (d : Addr) (i : Option Nat) (a : Addr) (t : TE) (m : AE) : Prop := ∀ σ H al e h r h' Q, HR G al h H → ER G h.length al H e σ → Held h.length al σ k d i a → m e h = some (r, h') → PoE G Wn h.length al H σ r h' Q → t σ H Q
def XndA (G : Gx) (k : Nat) (d : Addr) (i : Option Nat) (a : Addr) (t : TA) (m : AEnv → AM (List AV)) : Prop := ∀ σ H al e h r h' Q, HR G al h H → ER G h.length al H e σ → Held h.length al σ k d i a → m e h = some (r, h') → PoA G Wn h.length al H σ r h' Q → t σ H Q
def XndS (G : Gx) (k : Nat) (d : Addr) (i : Option Nat) (a : Addr) (t : TS) (m : AS) : Prop := ∀ σ H al e h fl h' D, HR G al h H → ER G h.length al H e σ → Held h.length al σ k d i a → m e h = some (fl, h') → PoS G Wn h.length al H fl h' D → t D σ H
def XE (G : Gx) (X : Cx) (k : Nat) (d : Addr) (i : Option Nat) (a : Addr) (e : Expr) (m : AE) : Prop := ∃ t, PE X e t ∧ XndE G k d i a t m
def XA (G : Gx) (X : Cx) (k : Nat) (d : Addr) (i : Option Nat) (a : Addr) (es : List Expr) (m : AEnv → AM (List AV)) : Prop := ∃ t, PA X es t ∧ XndA G k d i a t m
def XB (G : Gx) (X : Cx) (k : Nat) (d : Addr) (i : Option Nat) (a : Addr) (sts : List Stmt) (m : AS) : Prop := ∃ t, PSs X sts t ∧ XndS G k d i a t m
variable {k : Nat} {d a : Addr} {i : Option Nat}
theorem xe_of {e : Expr} {m : AE} (h : SE G X Wn e m) : XE G X k d i a e m := let ⟨t, p, s⟩ := h; ⟨t, p, fun σ H al e h r h' Q hr er _ hm q => s σ H al e h r h' Q hr er hm q⟩
theorem xb_of {sts : List Stmt} {m : AS} (h : SB G X Wn sts m) : XB G X k d i a sts m := let ⟨t, p, s⟩ := h; ⟨t, p, fun σ H al e h r h' Q hr er _ hm q => s σ H al e h r h' Q hr er hm q⟩
theorem xa_nil : XA G X k d i a [] mNil := ⟨_, pa_nil, fun σ H al e h r h' Q hr er _ hm q => snd_nil (W := Wn) σ H al e h r h' Q hr er hm q⟩
theorem xa_cons {e : Expr} {es : List Expr} {ma : AE} {mr : AEnv → AM (List AV)} (ha : XE G X k d i a e ma) (hb : XA G X k d i a es mr) (hs : starEach (e :: es) X.env = (false, eval e X.env) :: starEach es X.env := by rfl) : XA G X k d i a (e :: es) (mCons ma mr) := by
  obtain ⟨t, p, s⟩ := ha
  obtain ⟨t2, p2, s2⟩ := hb
  refine ⟨_, pa_cons p p2 hs, ?_⟩
  intro σ H al en h r h' Q hr er hd hm q
  rcases bnd_some hm with ⟨c, k', e1, rfl⟩ | ⟨x, h1, e1, e2⟩
  · exact s σ H al en h _ _ _ hr er hd e1 q
  · refine s σ H al en h _ _ _ hr er hd e1 fun al1 H1 u x1 hr1 r1 => ?_
    rcases bnd_some e2 with ⟨c, k', e3, rfl⟩ | ⟨y, h2, e3, e4⟩
    · exact s2 σ H1 al1 en h1 _ _ _ hr1 (er.mono x1) (hd.mono x1) e3 (PoA.after (r := .ex c k') x1 q)
    · cases e4
      exact s2 σ H1 al1 en h1 _ _ _ hr1 (er.mono x1) (hd.mono x1) e3 fun al2 H2 us x2 hr2 r2 => q al2 H2 _ (x1.trans x2) hr2 (.cons (r1.mono x2) r2)
theorem xe_tup {es : List Expr} {x1} {ma : AEnv → AM (List AV)} (hz : G.fz = false) (ha : XA G X k d i a es ma) : XE G X k d i a (.Tuple es x1 pos) (mTup ma) := by
  obtain ⟨t, p, s⟩ := ha
  refine ⟨_, pe_tup p, ?_⟩
  intro σ H al en h r h' Q hr er hd hm q
  rcases bnd_some hm with ⟨c, k', e1, rfl⟩ | ⟨x, h1, e1, e2⟩
  · exact s σ H al en h _ _ _ hr er hd e1 q
  · split at e2
    · cases e2
      refine s σ H al en h _ _ _ hr er hd e1 fun al1 H1 us x1 hr1 r1 => ?_
      have := r1.length
      exact ⟨by rw [sizeLine_eq]; omega, fun p hp => FwV.newT hz x1 hr1 hp r1 q⟩
    · cases e2
theorem xe_lst {es : List Expr} {ma : AEnv → AM (List AV)} (ha : XA G X k d i a es ma) : XE G X k d i a (.List es pos) (mLst ma) := by
  obtain ⟨t, p, s⟩ := ha
  refine ⟨_, pe_lst p, ?_⟩
  intro σ H al en h r h' Q hr er hd hm q
  rcases bnd_some hm with ⟨c, k', e1, rfl⟩ | ⟨x, h1, e1, e2⟩
  · exact s σ H al en h _ _ _ hr er hd e1 q
  · split at e2
    · cases e2
      refine s σ H al en h _ _ _ hr er hd e1 fun al1 H1 us x1 hr1 r1 => ?_
      have := r1.length
      exact ⟨by rw [sizeLine_eq]; omega, fun p hp => FwV.newL x1 hr1 hp r1 q⟩
    · cases e2
/-- e.f, e the exception -/
def mXf (k : Nat) (f : Str) : AE := fun _ h => match h[k]? with
  | some (.xd fs) => match fs.lookup f with
    | some v => some (.ok v, h)
    | none => none
  | _ => none
theorem xe_fld {c j : Nat} {n f : Str} {p : Pos} {oe : Obj} {cls : Value} {pn : List (Addr × Obj)} (T : XfC X.K (G.cl c)) (hno : PySem.W.findIn X.K (.ref (G.cl c)) f = some none) (hz : Zc cls (some d) oe) (hf : ∃ vs, oe.data = .fields vs) (hcl : cls = .ref (G.cl c))
    (hN : X.N[j]? = some n := by rfl) (hv : Vis X.env.scope n := by first | exact Or.inl rfl | exact Or.inr (Or.inl rfl) | exact Or.inr (Or.inr rfl)) (hd : (n == ("__debug__" : Str)) = false := by decide) (hcd : (n == ("__classdict__" : Str)) = false := by decide)
    (hb : attributeBase (.Name n p) f X.env (eval (.Name n p) X.env) = eval (.Name n p) X.env := by rfl) :
    XE G (X.suite a ((a, oe) :: pn)) k d (some j) a (.Attribute (.Name n p) f pos) (mXf k f) := by
  refine ⟨_, pe_xf T hno hz hf (pe_var (X := X.suite a ((a, oe) :: pn)) hN hv hd hcd) hb, ?_⟩
  intro σ H al en h r h' Q hr er hd hm q
  refine ⟨.ref a, hd.var j rfl, rfl, hcl, d, ?_⟩
  unfold mXf at hm
  split at hm
  · rename_i fs hi
    obtain ⟨gs, e1, rf⟩ := (hr.ob k _ hi : ∃ gs, H (al k) = some (.xd gs) ∧ RF G h.length al H fs gs)
    split at hm
    · rename_i v hl
      cases hm
      rcases rf.lookup (x := f) with ⟨z, _⟩ | ⟨v2, u2, l1, l2, r2⟩
      · rw [hl] at z; cases z
      · rw [hl] at l1; cases l1
        exact ⟨gs, u2, rfl, hd.at_ ▸ e1, l2, q al H u2 .refl hr r2⟩
    · cases hm
  · cases hm
theorem xb_ret {ex : Expr} {m : AE} (he : XE G X k d i a ex m) : XB G X k d i a [.Return (some ex) pos] (mRet m) := by
  obtain ⟨t, p, s⟩ := he
  refine ⟨_, pss_one (ps_ret p), ?_⟩
  intro σ H al e h fl h' D hr er hd hm q
  rcases bndS_some hm with ⟨c, k', e1, rfl⟩ | ⟨v, h1, e1, e2⟩
  · exact s σ H al e h _ _ _ hr er hd e1 (PoS.exE er q)
  · cases e2
    exact s σ H al e h _ _ _ hr er hd e1 q

/-! ### a try with one clause that has a name -/
def offFl (i : Nat) : Fl → Option Fl
  | .nx e => some (.nx (e.set i none))
  | .rt v => some (.rt v)
  | .bk e => some (.bk (e.set i none))
  | .ct e => some (.ct (e.set i none))
  | .ex _ _ _ => none
def mTryAs (i cH : Nat) (mb : AS) (ms : Nat → AS) : AS := fun e h => match mb e h with
  | some (.ex c k e1, h1) => if c = cH ∧ i < e1.length then match ms k (e1.set i none) h1 with
      | some (fl, h2) => (offFl i fl).map fun fl => (fl, h2)
      | none => none
    else none
  | r => r
def tSuite (G : Gx) (c : Nat) (i : Option Nat) (ms : Nat → AS) (a : Addr) (cls : Value) (d : Option Addr) : TS := fun D σ H => ∃ (d' : Addr) (k : Nat) (al : Nat → Addr) (e : AEnv) (h : List AO) (fl : Fl) (h' : List AO),
  d = some d' ∧ cls = .ref (G.cl c) ∧ HR G al h H ∧ ER G h.length al H e σ ∧ Held h.length al σ k d' i a ∧ ms k e h = some (fl, h') ∧ PoS G Wn h.length al H fl h' D
theorem ER.cover {n : Nat} {al : Nat → Addr} {H : Hp} {e : AEnv} {σ : L2.St} {j : Nat} {v : V} (r : ER G n al H e σ) : ER G n al H (e.set j none) (σ.set j (some v)) := by
  refine ⟨by rw [List.length_set, List.length_set]; exact r.len, fun m w q => ?_⟩
  by_cases z : j = m
  · subst z
    by_cases b : j < e.length
    · rw [List.getElem?_set_self b] at q; cases q
    · rw [List.getElem?_eq_none (by rw [List.length_set]; omega)] at q; cases q
  · rw [List.getElem?_set_ne z] at q ⊢
    exact r.at_ m w q
theorem suite_pss {c : Nat} {i : Option Nat} {b₀ : Stmt} {suite : List Stmt} {ms : Nat → AS} {a : Addr} {oe : Obj} {cls : Value} {d : Option Addr} {pn : List (Addr × Obj)} (hz : Zc cls d oe) (hf : ∃ vs, oe.data = .fields vs)
    (hsu : ∀ (a : Addr) (oe : Obj) (cls : Value) (d : Addr) (pn : List (Addr × Obj)) (k : Nat), Zc cls (some d) oe → (∃ vs, oe.data = .fields vs) → cls = .ref (G.cl c) → XB G (X.suite a ((a, oe) :: pn)) k d i a (b₀ :: suite) (ms k)) :
    PSs (X.suite a ((a, oe) :: pn)) (b₀ :: suite) (tSuite G c i ms a cls d) := by
  constructor
  intro pins s σ H D I
  rintro ⟨d', k, al, e, h, fl, h', rfl, ec, hr, er, hd, hm, q⟩
  obtain ⟨t, p, snd⟩ := hsu a oe cls d' pn k hz hf ec
  exact p.run pins s σ H D I (snd σ H al e h fl h' D hr er hd hm q)
theorem ss_tryAs (i c : Nat) {x n : Str} {np pos' : Pos} {body suite : List Stmt} {b₀ : Stmt} {mb : AS} {ms : Nat → AS} (hN : X.N.Nodup) (hmg : X.mg x = some (.ref (G.cl c))) (tk : Takes X W) (hx : PySem.W.exmOne X.K (.ref (G.cl c)) (.ref (G.cl c)) = some true)
    (hb : ∀ (W' : WX) (pn : List (Addr × Obj)) (xe : Value → Shared → Prop), Takes (X.tr pn xe) W' → PassesOwn (model X.prog X.w) X.A X.env xe → SB G (X.tr pn xe) W' body mb)
    (hsu : ∀ (a : Addr) (oe : Obj) (cls : Value) (d : Addr) (pn : List (Addr × Obj)) (k : Nat), Zc cls (some d) oe → (∃ vs, oe.data = .fields vs) → cls = .ref (G.cl c) → XB G (X.suite a ((a, oe) :: pn)) k d (some i) a (b₀ :: suite) (ms k))
    (hs : X.stack = X.env :: X.outer := by rfl) (hf : X.env.frame = some X.env.locals := by rfl) (hi : X.N[i]? = some n := by rfl) (hln : X.env.kindOf n = some .local := by rfl) (hg : Gl X x := by rfl) (hdb : (x == ("__debug__" : Str)) = false := by decide) :
    SS G X W (.Try body [.ExceptHandler (some (.Name x np)) (some n) (b₀ :: suite) pos'] [] [] pos) (mTryAs i c mb ms) := by
  refine ⟨_, ps_try_as (tb := tBody G mb) (ts := tSuite G c (some i) ms) hs hf hN hi hln ⟨hg, hdb, .inl hmg⟩ tk (fun W' pn xe t po => sb_body (hb W' pn xe t po)) (fun a oe cls d pn hz hf => suite_pss hz hf hsu), ?_⟩
  intro σ H al e h fl h' D hr er hm q
  unfold mTryAs at hm
  split at hm
  · rename_i c' k e1 h1 eb
    split at hm
    · rename_i hc
      obtain ⟨rfl, room⟩ := hc
      split at hm
      · rename_i fl2 h2 es
        cases ho : offFl i fl2 with
        | none => rw [ho] at hm; cases hm
        | some fl3 =>
          rw [ho] at hm
          cases hm
          refine ⟨al, e, h, _, h1, hr, er, eb, ?_⟩
          intro al1 H1 σ1 x1 hr1 er1 hk hxd
          refine ⟨true, hx, fun _ a na => ⟨al1 k, k, al1, e1.set i none, h1, fl2, _, rfl, rfl, hr1, er1.cover, ⟨hk, rfl, ?_⟩, es, ?_⟩, fun z => nomatch z⟩
          · intro j hj
            cases hj
            exact List.getElem?_set_self (er1.len ▸ room)
          · cases fl2 with
            | nx e2 => cases ho; exact fun al2 H2 σ2 x2 hr2 er2 => q al2 H2 _ (x1.trans x2) hr2 er2.clear
            | rt v => cases ho; exact fun al2 H2 u x2 hr2 r2 => q al2 H2 u (x1.trans x2) hr2 r2
            | bk e2 => cases ho; exact fun al2 H2 σ2 x2 hr2 er2 => q al2 H2 _ (x1.trans x2) hr2 er2.clear
            | ct e2 => cases ho; exact fun al2 H2 σ2 x2 hr2 er2 => q al2 H2 _ (x1.trans x2) hr2 er2.clear
            | ex _ _ _ => cases ho
      · cases hm
    · cases hm
  · rename_i no
    refine ⟨al, e, h, fl, h', hr, er, hm, ?_⟩
    cases fl with
    | ex c k e1 => exact absurd hm (no c k e1 h')
    | nx e2 => exact q
    | rt v => exact q
    | bk e2 => exact q
    | ct e2 => exact q

/-- try: body, except x: suite -/
def onFl : Fl → Option Fl
  | .ex _ _ _ => none
  | fl => some fl
def mTryOn (cH : Nat) (mb ms : AS) : AS := fun e h => match mb e h with
  | some (.ex c _ e1, h1) => if c = cH then match ms e1 h1 with
      | some (fl, h2) => (onFl fl).map fun fl => (fl, h2)
      | none => none
    else none
  | r => r
theorem ss_tryOn (c : Nat) {x : Str} {np pos' : Pos} {body suite : List Stmt} {b₀ : Stmt} {mb ms : AS} (hmg : X.mg x = some (.ref (G.cl c))) (tk : Takes X W) (hx : PySem.W.exmOne X.K (.ref (G.cl c)) (.ref (G.cl c)) = some true)
    (hb : ∀ (W' : WX) (pn : List (Addr × Obj)) (xe : Value → Shared → Prop), Takes (X.tr pn xe) W' → PassesOwn (model X.prog X.w) X.A X.env xe → SB G (X.tr pn xe) W' body mb)
    (hsu : ∀ (a : Addr) (pn : List (Addr × Obj)), SB G (X.suite a pn) Wn (b₀ :: suite) ms)
    (hs : X.stack = X.env :: X.outer := by rfl) (hf : X.env.frame = some X.env.locals := by rfl) (hg : Gl X x := by rfl) (hdb : (x == ("__debug__" : Str)) = false := by decide) :
    SS G X W (.Try body [.ExceptHandler (some (.Name x np)) none (b₀ :: suite) pos'] [] [] pos) (mTryOn c mb ms) := by
  refine ⟨_, ps_try_only (tb := tBody G mb) (ts := tSuite G c none fun _ => ms) hs hf ⟨hg, hdb, .inl hmg⟩ tk (fun W' pn xe t po => sb_body (hb W' pn xe t po)) (fun a oe cls d pn hz hf => suite_pss hz hf fun a oe cls d pn k _ _ _ => xb_of (hsu a _)), ?_⟩
  intro σ H al e h fl h' D hr er hm q
  unfold mTryOn at hm
  split at hm
  · rename_i c' k e1 h1 eb
    split at hm
    · rename_i hc
      subst hc
      split at hm
      · rename_i fl2 h2 es
        cases ho : onFl fl2 with
        | none => rw [ho] at hm; cases hm
        | some fl3 =>
          rw [ho] at hm
          cases hm
          refine ⟨al, e, h, _, h1, hr, er, eb, ?_⟩
          intro al1 H1 σ1 x1 hr1 er1 hk hxd
          refine ⟨true, hx, fun _ a na => ⟨al1 k, k, al1, e1, h1, fl2, _, rfl, rfl, hr1, er1, ⟨hk, rfl, fun j z => nomatch z⟩, es, ?_⟩, fun z => nomatch z⟩
          cases fl2 with
          | nx e2 => cases ho; exact fun al2 H2 σ2 x2 hr2 er2 => q al2 H2 _ (x1.trans x2) hr2 er2
          | rt v => cases ho; exact fun al2 H2 u x2 hr2 r2 => q al2 H2 u (x1.trans x2) hr2 r2
          | bk e2 => cases ho; exact fun al2 H2 σ2 x2 hr2 er2 => q al2 H2 _ (x1.trans x2) hr2 er2
          | ct e2 => cases ho; exact fun al2 H2 σ2 x2 hr2 er2 => q al2 H2 _ (x1.trans x2) hr2 er2
          | ex _ _ _ => cases ho
      · cases hm
    · cases hm
  · rename_i no
    refine ⟨al, e, h, fl, h', hr, er, hm, ?_⟩
    cases fl with
    | ex c k e1 => exact absurd hm (no c k e1 h')
    | nx e2 => exact q
    | rt v => exact q
    | bk e2 => exact q
    | ct e2 => exact q
end
end SL
/-! SL21: sorted(..) of data that are alike. -/
namespace SL
open PySem PySem.Spec PySem.SeqAt PySem.W PyProof.Rows L2

/-! ### a sort that the kernel can run -/
section
variable {α : Type} {le : α → α → Bool}
def insB (le : α → α → Bool) (x : α) : List α → List α
  | [] => [x]
  | y :: r => if le x y = true then x :: y :: r else y :: insB le x r
def isortB (le : α → α → Bool) : List α → List α
  | [] => []
  | x :: r => insB le x (isortB le r)
theorem insB_mem {x z : α} : ∀ {l : List α}, z ∈ insB le x l → z = x ∨ z ∈ l
  | [], m => .inl (List.mem_singleton.mp m)
  | y :: r, m => by
    unfold insB at m
    split at m
    · exact List.mem_cons.mp m
    · refine (List.mem_cons.mp m).elim (fun e => .inr (e ▸ List.mem_cons_self ..)) fun m' => ?_
      exact (insB_mem m').imp id (List.mem_cons_of_mem _)
theorem insB_sorted (T : TotalLe le) {x : α} : ∀ {l : List α}, l.Pairwise (fun a b => le a b = true) → (insB le x l).Pairwise fun a b => le a b = true
  | [], _ => List.pairwise_singleton _ _
  | y :: r, p => by
    have ⟨p1, p2⟩ := List.pairwise_cons.mp p
    unfold insB
    split
    · rename_i c
      refine List.pairwise_cons.mpr ⟨fun z m => ?_, p⟩
      exact (List.mem_cons.mp m).elim (fun e => e ▸ c) fun m' => T.trans _ _ _ c (p1 z m')
    · rename_i c
      refine List.pairwise_cons.mpr ⟨fun z m => ?_, insB_sorted T p2⟩
      exact (insB_mem m).elim (fun e => e ▸ (T.total x y).resolve_left c) (p1 z)
theorem insB_class (T : TotalLe le) {x c : α} : ∀ l : List α, (insB le x l).filter (sameRank le c) = (x :: l).filter (sameRank le c)
  | [] => rfl
  | y :: r => by
    unfold insB
    split
    · rfl
    · rename_i no
      have ih := insB_class T (x := x) (c := c) r
      have apart : ¬ (sameRank le c x = true ∧ sameRank le c y = true) := fun ⟨a, b⟩ => by
        unfold sameRank at a b
        have ⟨_, xc⟩ := (Bool.and_eq_true _ _).mp a
        have ⟨cy, _⟩ := (Bool.and_eq_true _ _).mp b
        exact no (T.trans _ _ _ xc cy)
      simp only [List.filter_cons] at ih ⊢
      rw [ih]
      cases a : sameRank le c x <;> cases b : sameRank le c y <;> first | rfl | exact absurd ⟨a, b⟩ apart
theorem isortB_eq (T : TotalLe le) : ∀ l : List α, isortB le l = l.mergeSort le := fun l => by
  refine sort_unique T ?_ ?_
  · induction l with
    | nil => exact .nil
    | cons x r ih => exact insB_sorted T ih
  · intro c
    induction l with
    | nil => rfl
    | cons x r ih =>
      show (insB le x (isortB le r)).filter _ = _
      rw [insB_class T, List.filter_cons, List.filter_cons, ih]
end

/-! ### the order of data -/
def leD (a b : PyData) : Bool := !PyProof.Rows.lexLt itemOrd (keyToks b) (keyToks a)
def le2 {α : Type} (a b : α × PyData) : Bool := leD a.2 b.2
theorem le2_total {α : Type} : TotalLe (le2 (α := α)) := sortLe_total (listOrd itemOrd) false fun p : α × PyData => keyToks p.2
/-- the items, sorted by the data that stand beside them -/
def sortD {α : Type} (xs : List α) (ds : List PyData) : List α := (isortB le2 (xs.zip ds)).map Prod.fst
theorem sortD_each {α β : Type} {R : α → β → Prop} {xs : List α} {ys : List β} {ds : List PyData} (l : xs.length = ds.length) (h : EachIs R xs ys) : EachIs R (sortD xs ds) (sortD ys ds) := by
  have z : ∀ {xs : List α} {ys : List β} {ds : List PyData}, EachIs R xs ys → EachIs (fun (p : α × PyData) (q : β × PyData) => R p.1 q.1 ∧ p.2 = q.2) (xs.zip ds) (ys.zip ds) := by
    intro xs ys ds h
    induction h generalizing ds with
    | nil => exact .nil
    | cons a _ ih =>
      cases ds with
      | nil => exact .nil
      | cons d ds => exact .cons ⟨a, rfl⟩ ih
  have f : ∀ {ps : List (α × PyData)} {qs : List (β × PyData)}, EachIs (fun (p : α × PyData) (q : β × PyData) => R p.1 q.1 ∧ p.2 = q.2) ps qs → EachIs R (ps.map Prod.fst) (qs.map Prod.fst) := by
    intro ps qs h
    induction h with
    | nil => exact .nil
    | cons a _ ih => exact .cons a.1 ih
  unfold sortD
  rw [isortB_eq le2_total, isortB_eq le2_total]
  have e := z (ds := ds) h
  refine f (sort_each e fun p hp q hq => ?_)
  have a := (e.zip p hp).2
  have b := (e.zip q hq).2
  unfold le2
  rw [a, b]
theorem each_reads {h : Heap} : ∀ {vs : List Value} {ds : List PyData} {as : List Addr}, ReadsAll h vs ds as → EachIs (fun v d => ∃ as, Reads h v d as) vs ds
  | _, _, _, .nil => .nil
  | _, _, _, .cons a b => .cons ⟨_, a⟩ (each_reads b)
theorem each_vals : ∀ {xs : List V} {vs : List Value}, EachIs (fun v x => RelV x v) vs xs → Vals xs vs
  | _, _, .nil => .nil
  | _, _, .cons a b => .cons a (each_vals b)
theorem vals_each : ∀ {xs : List V} {vs : List Value}, Vals xs vs → EachIs (fun v x => RelV x v) vs xs
  | _, _, .nil => .nil
  | _, _, .cons a b => .cons a (vals_each b)

section
variable {X : Cx}
/-- list.sort on a new list of data -/
theorem sort_run {pins : List (Addr × Obj)} {σ : L2.St} {H : Hp} {s : Shared} {A : Around} {vs : List Value} {xs : List V} {ds : List PyData} {a : Addr} {h1 : Heap} {n tk : Nat} {P : PySem.Fin → Shared → Prop} {E : Value → Shared → Prop} (I : Inv X pins σ H s) (rv : Vals xs vs) (rd : DpAll X.K H xs ds)
    (al : AllAlike ds) (so : Sortable ds) (room : ∀ d, d ∈ ds → A.units + d.depth < cLine) (few : vs.length ≤ sizeLine) (ha : h1.get? a = some (seqObj "list" vs.toArray n)) (up : ∀ b o, s.heap.get? b = some o → b ≠ a ∧ h1.get? b = some o)
    (h : ∀ out : List Value, Vals (sortD xs ds) out → out.length ≤ sizeLine → P (.done (.ret .none)) { s with heap := sortedHeap h1 a vs out.toArray, toks := tk }) : wpAny (model X.prog X.w) A (Builtin.«list.sort» ⟨[.ref a], []⟩) P E { s with heap := h1, toks := tk } := by
  obtain ⟨as, rs⟩ := Dp.readsAll I ds xs vs rd rv
  have each := (each_reads rs).mono fun v d ⟨as, r⟩ => (⟨as, Reads.keeps (fun b o z => sortingHeap_old (vs := vs) (up b o z).1 (up b o z).2) r⟩ : ∃ as, Reads (sortingHeap h1 a vs) v d as)
  have l1 := each.length
  have l2 := rv.length
  have S : SortsAt X.prog X.w A { s with heap := sortingHeap h1 a vs, toks := tk } (dataKind (sortingHeap h1 a vs) ds) vs := SortsAt.data each al so room
  refine list_sort_vals (s := { s with heap := h1, toks := tk }) ha S few ?_
  have keyed : EachIs (fun v (b : V × PyData) => (dataKind (sortingHeap h1 a vs) ds).keyOf v = some (keyToks b.2)) vs (xs.zip ds) := by
    have mem : EachIs (fun v d => d ∈ ds ∧ ∃ as, Reads (sortingHeap h1 a vs) v d as) vs ds := EachIs.of_zip l1 fun p m => ⟨(List.of_mem_zip m).2, each.zip p m⟩
    have z2 : ∀ {us : List Value} {es : List PyData} {xs : List V}, xs.length = es.length → EachIs (fun v d => d ∈ ds ∧ ∃ as, Reads (sortingHeap h1 a vs) v d as) us es → EachIs (fun v (b : V × PyData) => (dataKind (sortingHeap h1 a vs) ds).keyOf v = some (keyToks b.2)) us (xs.zip es) := by
      intro us es xs l e
      induction e generalizing xs with
      | nil => rw [List.zip_nil_right]; exact .nil
      | cons m _ ih =>
        cases xs with
        | nil => cases l
        | cons x xs =>
          obtain ⟨md, as, r⟩ := m
          exact .cons (dataKind_some al md r) (ih (by simpa using l))
    exact z2 (by rw [l2, l1]) mem
  have rel : EachIs (fun v (b : V × PyData) => RelV b.1 v) vs (xs.zip ds) := by
    have z2 : ∀ {us : List Value} {ys : List V} {es : List PyData}, ys.length = es.length → EachIs (fun v x => RelV x v) us ys → EachIs (fun v (b : V × PyData) => RelV b.1 v) us (ys.zip es) := by
      intro us ys es l e
      induction e generalizing es with
      | nil => exact .nil
      | cons m _ ih =>
        cases es with
        | nil => cases l
        | cons d es => exact .cons m (ih (by simpa using l))
    exact z2 (by rw [l2, l1]) (vals_each rv)
  have out := sortVals_each (κ := dataKind (sortingHeap h1 a vs) ds) (rev := false) (fun b : V × PyData => keyToks b.2) rel keyed
  refine h _ ?_ (by rw [sortVals_length false rfl]; exact few)
  unfold sortD
  rw [isortB_eq le2_total]
  have f : ∀ {us : List Value} {bs : List (V × PyData)}, EachIs (fun v (b : V × PyData) => RelV b.1 v) us bs → Vals (bs.map Prod.fst) us := by
    intro us bs h
    induction h with
    | nil => exact .nil
    | cons m _ ih => exact .cons m ih
  exact f out

def sortableB (ds : List PyData) : Bool := (ds.all fun d => ds.all fun e => alike d e) && ((ds.all fun d => decide (d.depth ≤ 60)) && ((ds.all fun d => match d with | .tuple (_ :: _) => true | _ => false) || ds.all fun d => match d with | .tuple _ => false | .none => false | _ => true))
theorem sortableB_ok {ds : List PyData} (h : sortableB ds = true) : AllAlike ds ∧ Sortable ds ∧ ∀ d, d ∈ ds → d.depth ≤ 60 := by
  unfold sortableB at h
  obtain ⟨a, b⟩ := (Bool.and_eq_true _ _).mp h
  obtain ⟨b, c⟩ := (Bool.and_eq_true _ _).mp b
  refine ⟨fun d m e m' => List.all_eq_true.mp (List.all_eq_true.mp a d m) e m', ?_, fun d m => of_decide_eq_true (List.all_eq_true.mp b d m)⟩
  rcases (Bool.or_eq_true _ _).mp c with c | c
  · refine .inl fun d m => ?_
    have z := List.all_eq_true.mp c d m
    split at z
    · exact ⟨_, _, rfl⟩
    · cases z
  · refine .inr fun d m => ?_
    have z := List.all_eq_true.mp c d m
    split at z
    · cases z
    · cases z
    · rename_i n1 n2
      exact ⟨n2, n1⟩
/-- sorted(a list) -/
def rSortL (K : PySem.W.Frag) (u : Nat) : List V → Hp → VK → Prop := fun vs H Q => ∃ (a : Addr) (xs : List V) (ds : List PyData), vs = [.ref a] ∧ SqL K H a xs ∧ DpAll K H xs ds ∧ AllAlike ds ∧ Sortable ds ∧ (∀ d, d ∈ ds → u + 8 + d.depth < cLine) ∧ ∀ p, H p = none → Q (.ref p) (upd H p (.lst (sortD xs ds)))
theorem sorted_list_run : CallR X (.builtin "sorted") (rSortL X.K X.A.units) := by
  intro pins s σ H vs us Q I r want
  obtain ⟨a, xs, ds, rfl, sq, rd, al, so, room, want⟩ := want
  obtain ⟨its, rv, at_, few⟩ := I.list sq
  match us, r with
  | [u], .cons ru .nil =>
    have is : u = .ref a := ru
    subst is
    have few' : its.length ≤ sizeLine := rv.length ▸ few
    refine sorted_of_sort at_.isList few' (args_sorted1 _) (fun _ => args_list_sort _) fun E' => ?_
    refine sort_run (tk := s.toks) I rv rd al so (fun d m => ?_) few' (copyHeap_at s.heap its) (fun b o z => ⟨Nat.ne_of_lt (Nat.lt_succ_of_lt (Heap.lt_size z)), copyHeap_old z⟩) fun out ro fo => ⟨rfl, ?_⟩
    · have := room d m
      show X.A.units + 1 + 1 + d.depth < cLine
      omega
    · obtain ⟨n, there⟩ := sortedHeap_at (out := out.toArray) (copyHeap_at s.heap its)
      have free := I.hok.fresh (Nat.le_succ s.heap.objs.size)
      refine ⟨.ref (s.heap.objs.size + 1), _, I.laid (t' := s.toks) (a := s.heap.objs.size + 1) (o := .lst (sortD xs ds)) (fun b o z => ?_) (Nat.le_succ _) ⟨ro.length ▸ fo, out, n, ro, there⟩, rfl, want _ free⟩
      have lt := Heap.lt_size z
      rw [sortedHeap_old (Nat.ne_of_lt (Nat.lt_succ_of_lt lt)) (Heap.lt_size (copyHeap_old z))]
      exact copyHeap_old z

def kD : Key → PyData
  | .inl i => .int i
  | .inr x => .str x
def kDs (ks : List Key) : PyData := .tuple (ks.map kD)
theorem kD_dp {K : PySem.W.Frag} {H : Hp} : ∀ ks : List Key, DpAll K H (ks.map kV) (ks.map kD)
  | [] => .nil
  | .inl _ :: ks => .cons (.int _) (kD_dp ks)
  | .inr _ :: ks => .cons (.str _) (kD_dp ks)
theorem isKeys_dp {K : PySem.W.Frag} {H : Hp} {kvs : List (List Key × V)} {bs : List Addr} (h : IsKeys H kvs bs) : DpAll K H (bs.map V.ref) (kvs.map fun p => kDs p.1) := by
  unfold IsKeys at h
  induction h with
  | nil => exact .nil
  | cons a _ ih => exact .cons (.tup (.inl (.inl a)) (kD_dp _)) ih
/-- sorted(a dict whose keys are tuples) -/
def rSortT (u : Nat) : List V → Hp → VK → Prop := fun vs H Q => ∃ (a : Addr) (kvs : List (List Key × V)), vs = [.ref a] ∧ Rd H a (.dT kvs) ∧ AllAlike (kvs.map fun p => kDs p.1) ∧ Sortable (kvs.map fun p => kDs p.1) ∧ (∀ d, d ∈ (kvs.map fun p => kDs p.1) → u + 8 + d.depth < cLine) ∧
  ∀ p bs, IsKeys H kvs bs → H p = none → Q (.ref p) (upd H p (.lst (sortD (bs.map V.ref) (kvs.map fun p => kDs p.1))))
theorem sorted_keys_run (hc : X.calm = true) : CallR X (.builtin "sorted") (rSortT X.A.units) := by
  intro pins s σ H vs us Q I r want
  obtain ⟨a, kvs, rfl, rd, al, so, room, want⟩ := want
  match us, r with
  | [u], .cons ru .nil =>
    have is : u = .ref a := ru
    subst is
    have ⟨few, notSys, ks, each, o, es, ep, there, exact_, data, ents, _⟩ := (rd.ok I.hok : ObjOk X.prog X.w H s.heap a (.dT kvs))
    have many : es.size = ks.length := size_of_entries ents
    have many2 : kvs.length = ks.length := Paired.length each
    apply Calls.call_function_entry kind_sorted plain_sorted entry_sorted (args_sorted1 _)
    unfold Builtin.«sorted»
    refine wpAny_bind (m := checkCount "sorted" 1 1 _) (wpAny_pure (wpAny_bind (kdu_collect (A := X.A.in1) (kdl_raw notSys exact_ data) (I.ok.hd hc) there (by omega) fun h1 tk acc up got => ?_)))
    have len : acc.toList.length = ks.length := by rw [Array.length_toList, got.1, many]
    have items : acc.toList = (ks.map fun x => x.2.1).map Value.ref := by
      refine List.ext_getElem (by rw [len, List.length_map, List.length_map]) fun j h1 h2 => ?_
      obtain ⟨en, e1, e2⟩ := got.2 j acc.toList[j] (by rw [← Array.getElem?_toList]; exact List.getElem?_eq_getElem h1)
      have e3 := entry_at ents j
      rw [e1] at e3
      rw [e2, List.getElem_map, List.getElem_map]
      have e4 : ks[j]? = some ks[j] := List.getElem?_eq_getElem (len ▸ h1)
      rw [e4] at e3
      rw [Option.some.inj e3]
      rfl
    have I1 : Inv X pins σ H { s with heap := h1, toks := tk } := I.kept up
    have keys := isKeys_of each
    have rv : Vals ((ks.map fun x => x.2.1).map V.ref) acc.toList := by rw [items]; exact vals_refs _
    have few' : acc.toList.length ≤ sizeLine := by omega
    refine wpAny_bind (wpAny_newList ?_ few')
    have new : (h1.push (seqObj "list" acc.toList.toArray 0)).get? h1.objs.size = some (seqObj "list" acc.toList.toArray 0) := Heap.get?_push_size _ rfl
    refine wpAny_bind (wpAny_holding (wpAny_call_entry slot_list_sort ⟨_, new, rfl⟩ entry_list_sort (sort_run (tk := tk) I1 rv (isKeys_dp keys) al so (fun d m => ?_) few' new (fun b o z => ⟨Nat.ne_of_lt (Heap.lt_size z), Heap.get?_push_of_some _ z⟩) fun out ro fo => ⟨_, rfl, ?_⟩) (args_list_sort _)))
    · have := room d m
      show X.A.units + 1 + 1 + d.depth < cLine
      omega
    · obtain ⟨n, at_⟩ := sortedHeap_at (out := out.toArray) new
      have free := I1.hok.fresh (Nat.le_refl h1.objs.size)
      refine wpAny_pure ⟨_, rfl, .ref h1.objs.size, _, I1.laid (t' := tk) (a := h1.objs.size) (o := .lst (sortD ((ks.map fun x => x.2.1).map V.ref) (kvs.map fun p => kDs p.1))) (fun b o z => ?_) (Nat.le_refl _) ⟨ro.length ▸ fo, out, n, ro, at_⟩, rfl, want _ _ keys free⟩
      have lt : b < h1.objs.size := Heap.lt_size z
      rw [sortedHeap_old (Nat.ne_of_lt lt) (Nat.lt_trans lt (Heap.lt_size new))]
      exact Heap.get?_push_of_some _ z
end
section
variable {G : Gx} {X : Cx} {W : WX} {pos : Pos}
def tupKs (kvs : List (List Key × AV)) : List AV := kvs.map fun p => .tup (p.1.map kA)
def fSorted : List AV → List AO → Option (AV × List AO) := fun xs h => match xs with
  | [.ref i] => match h[i]? with
    | some (.lst ys) => match toD0s (rfD 12 h) ys with
      | some ds => if sortableB ds = true then some (.ref h.length, h ++ [.lst (sortD ys ds)]) else none
      | none => none
    | some (.dtp kvs) => if sortableB (kvs.map fun p => kDs p.1) = true then some (.ref h.length, h ++ [.lst (sortD (tupKs kvs) (kvs.map fun p => kDs p.1))]) else none
    | some (.ldt kvs) => if sortableB (kvs.map fun p => kDs p.1) = true then some (.ref h.length, h ++ [.lst (sortD (tupKs kvs) (kvs.map fun p => kDs p.1))]) else none
    | _ => none
  | _ => none
def rSorted (K : PySem.W.Frag) (u : Nat) : List V → Hp → VK → Prop := fun vs H Q => rSortL K u vs H Q ∨ rSortT u vs H Q
theorem ras_each {n : Nat} {al : Nat → Addr} {H : Hp} : ∀ {xs : List AV} {vs : List V}, RAs G n al H xs vs → EachIs (RA G n al H) xs vs
  | _, _, .nil => .nil
  | _, _, .cons a b => .cons a (ras_each b)
theorem each_ras {n : Nat} {al : Nat → Addr} {H : Hp} : ∀ {xs : List AV} {vs : List V}, EachIs (RA G n al H) xs vs → RAs G n al H xs vs
  | _, _, .nil => .nil
  | _, _, .cons a b => .cons a (each_ras b)
theorem toD0s_len {rf : Nat → Option PyData} : ∀ {xs : List AV} {ds : List PyData}, toD0s rf xs = some ds → xs.length = ds.length
  | [], ds, e => by cases e; rfl
  | x :: xs, ds, e => by
    unfold toD0s at e
    split at e
    · rename_i d r e1 e2
      cases e
      rw [List.length_cons, List.length_cons, toD0s_len e2]
    · cases e
theorem kA_ras {n : Nat} {al : Nat → Addr} {H : Hp} : ∀ ks : List Key, RAs G n al H (ks.map kA) (ks.map kV)
  | [] => .nil
  | .inl _ :: ks => .cons .int (kA_ras ks)
  | .inr _ :: ks => .cons .str (kA_ras ks)
theorem keysA_ras {n : Nat} {al : Nat → Addr} {H : Hp} (hz : G.fz = false) : ∀ {kvs : List (List Key × AV)} {ws : List (List Key × V)} {bs : List Addr}, RF G n al H kvs ws → IsKeys H ws bs → RAs G n al H (tupKs kvs) (bs.map V.ref)
  | [], [], [], _, _ => .nil
  | p :: kvs, q :: ws, b :: bs, r, k => by
    unfold IsKeys at k
    cases k with
    | cons k1 k2 =>
      obtain ⟨e, _, t⟩ := r
      refine .cons (.tup (.inl ⟨hz, k1⟩) ?_) (keysA_ras hz t k2)
      rw [← e]
      exact kA_ras _
theorem rf_keys {n : Nat} {al : Nat → Addr} {H : Hp} : ∀ {kvs : List (List Key × AV)} {ws : List (List Key × V)}, RF G n al H kvs ws → (kvs.map fun p => kDs p.1) = ws.map fun p => kDs p.1
  | [], [], _ => rfl
  | p :: kvs, q :: ws, r => by
    obtain ⟨e, _, t⟩ := r
    rw [List.map_cons, List.map_cons, rf_keys t, e]
theorem snd_sorted {u : Nat} (hz : G.fz = false) (hu : u + 70 < cLine) : SndC G (rSorted G.K u) fSorted := by
  intro H al h xs us v h' Q hr rs e q
  unfold fSorted at e
  have deep : ∀ {ds : List PyData}, (∀ d, d ∈ ds → d.depth ≤ 60) → ∀ d, d ∈ ds → u + 8 + d.depth < cLine := fun s d m => by have := s d m; omega
  have keyed : ∀ {kvs : List (List Key × AV)} {ws : List (List Key × V)} {i : Nat}, Rd H (al i) (.dT ws) → RF G h.length al H kvs ws → sortableB (kvs.map fun p => kDs p.1) = true → FwV G h.length al H (.ref h.length) (h ++ [.lst (sortD (tupKs kvs) (kvs.map fun p => kDs p.1))]) Q → rSortT u [.ref (al i)] H Q := by
    intro kvs ws i rd rf b q
    obtain ⟨s1, s2, s3⟩ := sortableB_ok b
    rw [rf_keys rf] at s1 s2 s3 q
    refine ⟨al i, ws, rfl, rd, s1, s2, deep s3, fun p bs ks hp => ?_⟩
    refine FwV.newL .refl hr hp ?_ q
    exact each_ras (sortD_each (by rw [tupKs, List.length_map, List.length_map]; exact rf.length) (ras_each (keysA_ras hz rf ks)))
  split at e
  · rename_i i
    obtain ⟨u', rfl, r⟩ := one_of rs
    rw [refAt r]
    split at e
    · rename_i ys hi
      obtain ⟨vs, e1, r1⟩ := lstAt hr hi
      split at e
      · rename_i ds ed
        split at e
        · rename_i b
          cases e
          obtain ⟨s1, s2, s3⟩ := sortableB_ok b
          refine .inl ⟨al i, vs, ds, rfl, SqL.of e1, dps_of (rfD_ok hr 12) ys vs ds r1 ed, s1, s2, deep s3, fun p hp => ?_⟩
          exact FwV.newL .refl hr hp (each_ras (sortD_each (toD0s_len ed) (ras_each r1))) q
        · cases e
      · cases e
    · rename_i kvs hi
      split at e
      · rename_i b
        cases e
        obtain ⟨ws, e1, rf⟩ := (hr.ob i _ hi : ∃ ws, H (al i) = some (.dT ws) ∧ RF G h.length al H kvs ws)
        exact .inr (keyed (.inl e1) rf b q)
      · cases e
    · rename_i kvs hi
      split at e
      · rename_i b
        cases e
        obtain ⟨od, ws, e1, rf⟩ := (hr.ob i _ hi : ∃ od ws, H (al i) = some (.frz od (.dT ws)) ∧ RF G h.length al H kvs ws)
        exact .inr (keyed (.inr ⟨od, e1⟩) rf b q)
      · cases e
    · cases e
  · cases e
theorem se_sorted {e : Expr} {ma : AEnv → AM (List AV)} {p pos : Pos} (hz : G.fz = false) (hK : X.K = G.K) (hc : X.calm = true) (hu : X.A.units + 70 < cLine) (hm : X.mg "sorted" = none) (ha : SA G X W [e] ma) (hg : Gl X "sorted" := by rfl) (he : starEach [e] X.env = (false, eval e X.env) :: starEach [] X.env := by rfl)
    (hpl : (backTo pos (starEach [] X.env)).any (·.1) = false := by rfl) : SE G X W (.Call (.Name "sorted" p) [e] [] pos) (mC1 fSorted ma) :=
  se_callB (r := rSorted G.K X.A.units) (fun pins s σ H vs us Q I r w => w.elim (fun w => sorted_list_run pins s σ H vs us Q I r (hK ▸ w)) fun w => sorted_keys_run hc pins s σ H vs us Q I r w) (snd_sorted hz hu) hm (by decide +kernel) ha hg (by decide) (by decide) he hpl
end
end SL
/-! SL22: dict comprehensions whose keys are tuples. -/
namespace L2
open PySem PySem.Spec PyProof.Rows
/-- d[k] = v, k a tuple -/
theorem dictSet_T {X : Cx} {pins : List (Addr × Obj)} {σ : St} {H : Hp} {s : Shared} {E : Value → Shared → Prop} {D a : Addr} {kvs : List (List Key × V)} {k : List Key} {z : V} {u : Value} {Q : Unit → Shared → Prop} (hu : X.A.units < cLine) (I : Inv X pins σ H s)
    (hD : H D = some (.dT kvs)) (ha : H a = some (.tup (k.map kV))) (few : kvs.length < sizeLine) (rz : RelV z u) (h : ∀ s', Inv X pins σ (upd H D (.dT (putK kvs k z))) s' → Q () s') : wpAny (model X.prog X.w) X.A (dictSet D (.ref a) u) Q E s := by
  have ⟨_, _, xs, rel, made⟩ := dt_of I.hok hD
  have many : kvs.length = xs.length := Paired.length rel
  refine wpAny_dictSet_heap (knd := tupleKind (mixKind X.prog X.w)) (k := k) hu (key_of I.hok ha) made (fun g made2 same => ?_) (by omega)
  have one : KT H [(k, z)] [(k, a, u)] := .cons ⟨rfl, ha, rz⟩ .nil
  have le := length_putK kvs k z
  exact h _ (I.overT hD (by omega) (one.merge rel) same made2)

section
variable {B : Cx} {tg kx vx iter : Expr} {ifs : List Expr} {g : TG} {tt : TT} {tk tv : TE} {J : It} {fp : List Addr} {it D : Addr} {tn : Nat → Heap → Prop}
/-- the block's state between two turns -/
structure Between (B : Cx) (fp : List Addr) (tn : Nat → Heap → Prop) (τ : St) (i : Nat) (H : Hp) (s : Shared) : Prop where
  inv : Inv B [] τ H s
  at_ : tn i s.heap
  free : ∀ b ∈ fp, H b = none
theorem Between.fpOk {τ : St} {i : Nat} {H : Hp} {s : Shared} (b : Between B fp tn τ i H s) (hex : B.ex = fp) (hpn : B.pn = []) : ∀ c ∈ fp, FpOk B [] H c := fun c m => by
  have m' : c ∈ B.ex := hex ▸ m
  have ⟨e1, e2⟩ := b.inv.ok.exf c m'
  exact ⟨b.free c m, e1, b.inv.ok.exfs c m', .inl m', e2, fun p hp => by rw [hpn] at hp; cases hp⟩
theorem one_turn {τ : St} {vs : List Nat} {i : Nat} {H : Hp} {s : Shared} {Nx : Hp → Prop} {R : Shared → Prop} (hu : B.A.units < cLine) (hc : B.calm = true) (hex : B.ex = fp) (hpn : B.pn = []) (hxe : B.xe = fun _ _ => False) (T : Turn B.prog B.w B.K tg J fp it tn) (pg : PG B tg g) (pt : PTs B ifs tt) (pk : PE B kx tk) (pv : PE B vx tv)
    (b : Between B fp tn τ i H s) (go : J.go i H) (hw : wipe τ vs = τ)
    (step : ∀ x H', J.yld i H x H' → g x τ H' fun σ2 H2 => wipe σ2 vs = τ ∧ tt σ2 H2 fun b H3 =>
      if b = true then tk σ2 H3 fun y H4 => tv σ2 H4 fun z H5 => ∃ kvs k a, y = .ref a ∧ H5 a = some (.tup (k.map kV)) ∧ H5 D = some (.dT kvs) ∧ kvs.length < sizeLine ∧ Nx (upd H5 D (.dT (putK kvs k z))) else Nx H3)
    (fin : ∀ H' s', Between B fp tn τ (i + 1) H' s' → Nx H' → R s') {Z : Option Value → Shared → Prop} {E1 E2 E3 E4 E5 E6 E7 : Value → Shared → Prop}
    (wrap : ∀ v s', wpAny (model B.prog B.w) B.A (letOwnedTupleGo tg (.ref it) v) (fun _ s₁ => wpAny (model B.prog B.w) B.A (assign tg B.env v) (fun _ s₂ =>
          wpAny (model B.prog B.w) B.A (forIn ifs true fun c r => if r = true then do let ok ← isTrue c B.env (eval c B.env); pure (ForInStep.yield ok) else pure (ForInStep.yield r)) (fun ok s₃ =>
            if ok = true then wpAny (model B.prog B.w) B.A (eval kx B.env) (fun kv s₄ => wpAny (model B.prog B.w) B.A (eval vx B.env) (fun vv s₅ => wpAny (model B.prog B.w) B.A (dictSet D kv vv) (fun _ s₆ => R s₆) E7 s₅) E6 s₄) E5 s₃
            else R s₃) E4 s₂) E3 s₁) E2 s' → Z (some v) s') :
    wpAny (model B.prog B.w) B.A (pyNext (.ref it)) Z E1 s := by
  have noX : ∀ {α : Type} {t : Sem α} {P P' : α → Shared → Prop} {E : Value → Shared → Prop} {s : Shared}, wpAny (model B.prog B.w) B.A t P B.xe s → (∀ a s, P a s → P' a s) → wpAny (model B.prog B.w) B.A t P' E s := fun h k => thnF (hxe ▸ h) k
  have next := T.item B rfl rfl rfl hc i [] s τ H (fun _ _ => False) b.inv (b.fpOk hex hpn) b.at_ go
  refine thnF next ?_
  rintro r s6 ⟨u, rfl, own⟩
  refine wrap u s6 (thnF own ?_)
  rintro _ s7 ⟨x, H7, I7, r7, y7, at7, free7⟩
  have there := T.obj _ _ at7
  have held := I7.pinned (Between.fpOk ⟨I7, at7, free7⟩ hex hpn) there
  refine noX (pg.run _ s7 τ H7 x u _ held r7 (step x H7 y7)) ?_
  rintro _ s8 ⟨σ8, H8, I8, wiped, q8⟩
  have ended : ∀ {s' : Shared} {H' : Hp}, Inv B ([] ++ pinsAt fp s7.heap) σ8 H' s' → Nx H' → R s' := by
    intro s' H' I' nx
    have stay : ∀ c ∈ fp, ∀ o, s7.heap.get? c = some o → s'.heap.get? c = some o ∧ H' c = none := fun c m o e =>
      have ⟨p1, p2, _⟩ := I'.pin (c, o) (List.mem_append_right _ (List.mem_append_right _ (mem_pinsAt m e)))
      ⟨p1, p2⟩
    have len : τ.length = σ8.length := by rw [← wiped, wipe_length]
    have less : ∀ (j : Nat) (v : V), τ[j]? = some (some v) → σ8[j]? = some (some v) := fun j v e => by
      rw [← wiped] at e
      exact (wipe_some e).1
    refine fin H' s' ⟨(I'.unpinned (pins := [])).weak len less, T.keep _ _ _ at7 fun c m o e => (stay c m o e).1, fun c m => ?_⟩ nx
    obtain ⟨o, e, _⟩ := there c m
    exact (stay c m o e).2
  refine noX (pt.run _ s8 σ8 H8 _ I8 q8) ?_
  rintro ok s9 ⟨H9, I9, q9⟩
  cases ok with
  | false =>
    rw [if_neg (by decide)] at q9 ⊢
    exact ended I9 q9
  | true =>
    rw [if_pos rfl] at q9 ⊢
    refine noX (pk.run _ s9 σ8 H9 _ I9 q9) ?_
    rintro kv s10 ⟨_, H10, I10, rk, q10⟩
    refine noX (pv.run _ s10 σ8 H10 _ I10 q10) ?_
    rintro vv s11 ⟨z, H11, I11, rz, kvs, k, a, rfl, ha, hD, few, nx⟩
    have is : kv = .ref a := rk
    subst is
    exact dictSet_T hu I11 hD ha few rz fun s12 I12 => ended I12 nx
end
/-- {k: v for target in iter if ..}, keys tuples: D the new dict -/
def tDcT (wi : TI) (g : TG) (tt : TT) (tk tv : TE) (vs : List Nat) : TE := fun σ H Q => wi σ H fun J H1 => ∀ D, H1 D = none → ∃ V : Nat → Nat → Hp → Prop, (∃ m, V 0 m (upd H1 D (.dT []))) ∧
  ∀ i m H, V i m H → (J.stop i H ∧ Q (.ref D) H) ∨ (J.go i H ∧ ∃ Nx : Hp → Prop, (∀ H', Nx H' → ∃ m', m' < m ∧ V (i + 1) m' H') ∧ ∀ x H', J.yld i H x H' → g x (wipe σ vs) H' fun σ2 H2 => wipe σ2 vs = wipe σ vs ∧ tt σ2 H2 fun b H3 =>
    if b = true then tk σ2 H3 fun y H4 => tv σ2 H4 fun z H5 => ∃ kvs k a, y = .ref a ∧ H5 a = some (.tup (k.map kV)) ∧ H5 D = some (.dT kvs) ∧ kvs.length < sizeLine ∧ Nx (upd H5 D (.dT (putK kvs k z))) else Nx H3)
section
variable {X : Cx} {pins : List (Addr × Obj)} {σ : St} {Q : VK} {kx vx tg iter : Expr} {ifs : List Expr} {scope : Scope} {pos : Pos} {g : TG} {tt : TT} {tk tv : TE} {J : It} {fp : List Addr} {it D C : Addr} {tn : Nat → Heap → Prop} {vs : List Nat}
theorem block_runs {cl : List (Str × Addr)} {use : Option (Value → Sem Unit)} {Qf : Value → Shared → Prop} {s3 s4 : Shared} {H3 : Hp} {V : Nat → Nat → Hp → Prop} {m0 : Nat} (hu : X.A.units < cLine) (hc : X.calm = true) (I3 : Inv X pins σ H3 s3) (hC : C = s3.heap.objs.size) (f3 : ∀ b ∈ fp, FpOk X pins H3 b) (T : Turn X.prog X.w X.K tg J fp it tn)
    (inside : Inv (SL.bk X scope s3 H3 C cl fp) [] (wipe σ vs) H3 s4) (at4 : tn 0 s4.heap) (pg : PG (SL.bk X scope s3 H3 C cl fp) tg g) (pt : PTs (SL.bk X scope s3 H3 C cl fp) ifs tt) (pk : PE (SL.bk X scope s3 H3 C cl fp) kx tk) (pv : PE (SL.bk X scope s3 H3 C cl fp) vx tv) (twice : wipe (wipe σ vs) vs = wipe σ vs)
    (ends : ∀ s' names H', Inv X pins σ H' s' → Q (.ref D) H' → s'.heap.Ns C names → FpOk X pins H' C → compPost (model X.prog X.w) X.A X.xe use Qf (.ref D) C (.ok .next) s')
    (v0 : V 0 m0 H3) (turn : ∀ i m H, V i m H → (J.stop i H ∧ Q (.ref D) H) ∨ (J.go i H ∧ ∃ Nx : Hp → Prop, (∀ H', Nx H' → ∃ m', m' < m ∧ V (i + 1) m' H') ∧ ∀ x H', J.yld i H x H' → g x (wipe σ vs) H' fun σ2 H2 => wipe σ2 vs = wipe σ vs ∧ tt σ2 H2 fun b H3 =>
      if b = true then tk σ2 H3 fun y H4 => tv σ2 H4 fun z H5 => ∃ kvs k a, y = .ref a ∧ H5 a = some (.tup (k.map kV)) ∧ H5 D = some (.dT kvs) ∧ kvs.length < sizeLine ∧ Nx (upd H5 D (.dT (putK kvs k z))) else Nx H3)) :
    codeAny (model X.prog X.w) X.A (.compLoop (.DictComp kx vx [⟨tg, iter, ifs, 0⟩] scope pos) 0 (.ref it) (.ref D) (compEnvC scope cl C X.env)) (compPost (model X.prog X.w) X.A X.xe use Qf (.ref D) C) s4 := by
  refine compLoop_anyD (fun n s' => ∃ i H', Between (SL.bk X scope s3 H3 C cl fp) fp tn (wipe σ vs) i H' s' ∧ V i n H') ?_ m0 ⟨0, H3, ⟨inside, at4, fun b m => (f3 b m).1⟩, v0⟩
  rintro n s5 ⟨i, H5, b, v5⟩
  rcases turn i n H5 v5 with ⟨stop, done_⟩ | ⟨go, Nx, less, step⟩
  · have over := T.done (SL.bk X scope s3 H3 C cl fp) rfl rfl rfl hc i [] s5 _ H5 (fun _ _ => False) b.inv (b.fpOk rfl rfl) b.at_ stop
    refine thnF over ?_
    rintro r s6 ⟨rfl, I6⟩
    have back : Inv X pins σ H5 s6 := I3.call' (ch := fp) I6.os I6.base I6.hok I6.bare fun b m => by
      have ⟨_, h1, h2, h3, h4, h5⟩ := f3 b m
      exact ⟨h3, h1, h4, h5⟩
    obtain ⟨names, ns, _⟩ := I6.loc
    have gone : H5 C = none := I6.free
    exact ends s6 names H5 back done_ ns (I3.fpOk (Nat.le_of_eq hC.symm) gone)
  · exact one_turn (B := SL.bk X scope s3 H3 C cl fp) hu hc rfl rfl rfl T pg pt pk pv b go twice step (fun H' s' b' nx => let ⟨m', lt, v'⟩ := less H' nx; ⟨m', lt, i + 1, H', b', v'⟩) fun v s' w => w
end
section
variable {X : Cx} {kx vx tg iter : Expr} {ifs : List Expr} {scope : Scope} {own : List (Str × Nat)} {pos : Pos} {wi : TI} {g : TG} {tt : TT} {tk tv : TE}
theorem dcT_runs {pins : List (Addr × Obj)} {s : Shared} {σ : St} {H : Hp} {Q : VK} {pos' : Pos} {use : Option (Value → Sem Unit)} {Qf : Value → Shared → Prop} (I : Inv X pins σ H s) (hu : X.A.units < cLine) (hc : X.calm = true) (hN : X.N.Nodup) (hi : PI X tg iter wi) (ok : BlkOk X.N X.env.scope scope own)
    (hg : ∀ s H C cl fp, PG (SL.bk X scope s H C cl fp) tg g) (ht : ∀ s H C cl fp, PTs (SL.bk X scope s H C cl fp) ifs tt) (hk : ∀ s H C cl fp, PE (SL.bk X scope s H C cl fp) kx tk) (hv : ∀ s H C cl fp, PE (SL.bk X scope s H C cl fp) vx tv) (hs : ∀ x, foldedSetIterable iter X.env x = pure x) (twice : ∀ τ : St, wipe (wipe τ (own.map (·.2))) (own.map (·.2)) = wipe τ (own.map (·.2)))
    (want : tDcT wi g tt tk tv (own.map (·.2)) σ H Q) (ends : ∀ D C s' names H', Inv X pins σ H' s' → Q (.ref D) H' → s'.heap.Ns C names → FpOk X pins H' C → compPost (model X.prog X.w) X.A X.xe use Qf (.ref D) C (.ok .next) s') : wpAny (model X.prog X.w) X.A (comprehension (.DictComp kx vx [⟨tg, iter, ifs, 0⟩] scope pos) scope X.env pos' newDict false (eval iter X.env) use) Qf X.xe s := by
  have open_ : ∀ y ∈ scope.names, y.2 = .free → ∃ c, X.env.cells.lookup y.1 = some c := fun y hy e => (ok.free y hy e).elim (fun k => I.ok.has _ (.inl k)) fun k => I.ok.has _ (.inr k)
  have starts := hi.run pins s σ H _ I want
  refine wpAny_comprehension_free (use := use) rfl hs (closure_ok open_) ok.kind (fun y hy e => (ok.uniq y hy).trans (congrArg some e)) (thn starts fun xv s1 hx => thn hx ?_)
  rintro itv s2 ⟨it, fp, tn, J, H2, rfl, I2, T, at2, f2, q⟩
  refine wpAny_newObj_type ?_
  refine newEnv_comp ?_
  have room := Nat.le_refl s2.heap.objs.size
  have freeD := I2.hok.fresh room
  obtain ⟨V, ⟨m0, v0⟩, turn⟩ := q _ freeD
  have I3 := I2.laid (o := .dT []) (t' := s2.toks) (fun _ _ => Heap.get?_push_of_some _) room (dt_empty s2.heap I2.big)
  have f3 : ∀ b ∈ fp, FpOk X pins (upd H2 s2.heap.objs.size (.dT [])) b ∧ b < (s2.heap.push { cls := .type "dict", data := .dict #[] }).objs.size := fun b m => by
    obtain ⟨o, e, _⟩ := T.obj _ _ at2 b m
    have lt : b < s2.heap.objs.size := Heap.lt_size e
    have ⟨n0, rest⟩ := f2 b m
    exact ⟨⟨(upd_ne (Nat.ne_of_lt lt)).trans n0, rest⟩, by rw [Heap.size_push]; exact Nat.lt_succ_of_lt lt⟩
  have at3 : tn 0 (s2.heap.push { cls := .type "dict", data := .dict #[] }) := T.keep _ _ _ at2 fun b _ o e => Heap.get?_push_of_some _ e
  have inside := block_start I3 ok hN f3
  have run := block_runs (kx := kx) (vx := vx) (iter := iter) (pos := pos) (use := use) (Qf := Qf) hu hc I3 rfl (fun b m => (f3 b m).1) T inside (T.keep _ _ _ at3 fun b _ o e => pushCells_keeps _ _ _ _ (Heap.get?_push_of_some _ e)) (hg _ _ _ _ _) (ht _ _ _ _ _) (hk _ _ _ _ _) (hv _ _ _ _ _) (twice σ) (fun s' names H' => ends _ _ s' names H') v0 turn
  exact codeAny_compStart_dict run (T.self X.A 0 _ _ _ (T.keep _ _ _ at3 fun b _ o e => pushCells_keeps _ _ _ _ (Heap.get?_push_of_some _ e)) run)
theorem pe_dcT (hu : X.A.units < cLine) (hc : X.calm = true) (hN : X.N.Nodup) (hi : PI X tg iter wi) (ok : BlkOk X.N X.env.scope scope own)
    (hg : ∀ s H C cl fp, PG (SL.bk X scope s H C cl fp) tg g) (ht : ∀ s H C cl fp, PTs (SL.bk X scope s H C cl fp) ifs tt) (hk : ∀ s H C cl fp, PE (SL.bk X scope s H C cl fp) kx tk) (hv : ∀ s H C cl fp, PE (SL.bk X scope s H C cl fp) vx tv) (hs : ∀ x, foldedSetIterable iter X.env x = pure x) (twice : ∀ τ : St, wipe (wipe τ (own.map (·.2))) (own.map (·.2)) = wipe τ (own.map (·.2))) :
    PE X (.DictComp kx vx [⟨tg, iter, ifs, 0⟩] scope pos) (tDcT wi g tt tk tv (own.map (·.2))) := by
  constructor
  intro pins s σ H Q I want
  rw [arm_eval_DictComp]
  refine dcT_runs I hu hc hN hi ok hg ht hk hv hs twice want ?_
  rintro D C s' names H' back done_ ns ⟨f0, f1, f2, f3', f4, f5⟩
  exact ⟨names, ns, fun h' sb => ⟨.ref D, H', back.turned (t' := s'.toks) (fun b o hb e => (sb.2 b hb).trans e) f0 f1 f3' f4 f5, rfl, done_⟩⟩
/-- the new dict goes to a name ahead of the block's end -/
theorem use_name {pins : List (Addr × Obj)} {σ : St} {Dn : Ends} {i : Nat} {y : Str} {py : Pos} (hN : X.N.Nodup) (hy : X.N[i]? = some y) (hyl : X.env.scope.names.lookup y = some .local) {D C : Addr} {s' : Shared} {names : Str → Option Value} {H' : Hp} (I : Inv X pins σ H' s') (q : gName i (.ref D) σ H' Dn.nx) (ns : s'.heap.Ns C names) (f : FpOk X pins H' C) :
    compPost (model X.prog X.w) X.A X.xe (some (assign (.Name y py) X.env)) (fun _ s' => SP X pins Dn .next s') (.ref D) C (.ok .next) s' := by
  have ⟨f0, f1, f2, f3, f4, f5⟩ := f
  have stored : ∀ s2, Inv X pins (σ.set i (some (.ref D))) H' s2 → (∃ a, Heap.SameBut a s'.heap s2.heap ∧ (a = X.env.locals ∨ X.env.cells.lookup y = some a)) → ∃ names, s2.heap.Ns C names ∧ ∀ h', Heap.SameBut C s2.heap h' → SP X pins Dn .next { s2 with heap := h' } := by
    rintro s2 J ⟨a, sb, at_⟩
    have apart : C ≠ a := at_.elim (fun z => z ▸ f1) fun z e => f4 y a z e.symm
    exact ⟨names, ns.sameBut sb apart, fun h3 sb3 => ⟨_, H', J.turned (t' := s2.toks) (fun b o ne e => (sb3.2 b ne).trans e) f0 f1 f3 f4 f5, q⟩⟩
  exact wpAny_assign_Name (store_ok2 (v := V.ref D) I hN hy (.inl hyl) rfl stored (.inr hyl))
theorem ps_setDcT {i : Nat} {y : Str} {py spos : Pos} (hu : X.A.units < cLine) (hc : X.calm = true) (hN : X.N.Nodup) (hy : X.N[i]? = some y) (hyl : X.env.scope.names.lookup y = some .local) (swap : swapsWith (.DictComp kx vx [⟨tg, iter, ifs, 0⟩] scope pos) (some (.Name y py)) spos.line X.env = pure true) (hi : PI X tg iter wi) (ok : BlkOk X.N X.env.scope scope own)
    (hg : ∀ s H C cl fp, PG (SL.bk X scope s H C cl fp) tg g) (ht : ∀ s H C cl fp, PTs (SL.bk X scope s H C cl fp) ifs tt) (hk : ∀ s H C cl fp, PE (SL.bk X scope s H C cl fp) kx tk) (hv : ∀ s H C cl fp, PE (SL.bk X scope s H C cl fp) vx tv) (hs : ∀ x, foldedSetIterable iter X.env x = pure x) (twice : ∀ τ : St, wipe (wipe τ (own.map (·.2))) (own.map (·.2)) = wipe τ (own.map (·.2))) :
    PS X (.Assign [.Name y py] (.DictComp kx vx [⟨tg, iter, ifs, 0⟩] scope pos) spos) (tAsg (tDcT wi g tt tk tv (own.map (·.2))) (gName i)) := by
  constructor
  intro pins s σ H Dn I want
  rw [exec_Assign_Name_used _ _ _ _ swap]
  refine wpAny_bind ?_
  refine wpAny_standAt (wpAny_bind ?_)
  show wpAny _ X.A (do let _ ← comprehension (.DictComp kx vx [⟨tg, iter, ifs, 0⟩] scope pos) scope X.env (firstIterPos [⟨tg, iter, ifs, 0⟩] pos) newDict false (eval iter X.env) (some (assign (.Name y py) X.env))) _ _ s
  have want' : tDcT wi g tt tk tv (own.map (·.2)) σ H fun x H1 => gName i x σ H1 Dn.nx := want
  refine wpAny_bind (thn (dcT_runs (Qf := fun _ s' => SP X pins Dn .next s') I hu hc hN hi ok hg ht hk hv hs twice want' fun D C s' names H' back q ns f => use_name hN hy hyl back q ns f) fun _ s' done_ => ?_)
  exact wpAny_pure (wpAny_pure done_)
theorem ps_setDcK {i : Nat} {y : Str} {py spos : Pos} (hc : X.calm = true) (hN : X.N.Nodup) (hy : X.N[i]? = some y) (hyl : X.env.scope.names.lookup y = some .local) (swap : swapsWith (.DictComp kx vx [⟨tg, iter, ifs, 0⟩] scope pos) (some (.Name y py)) spos.line X.env = pure true) (hi : PI X tg iter wi) (ok : BlkOk X.N X.env.scope scope own)
    (hg : ∀ s H C cl fp, PG (SL.bk X scope s H C cl fp) tg g) (ht : ∀ s H C cl fp, PTs (SL.bk X scope s H C cl fp) ifs tt) (hk : ∀ s H C cl fp, PE (SL.bk X scope s H C cl fp) kx tk) (hv : ∀ s H C cl fp, PE (SL.bk X scope s H C cl fp) vx tv) (hs : ∀ x, foldedSetIterable iter X.env x = pure x) :
    PS X (.Assign [.Name y py] (.DictComp kx vx [⟨tg, iter, ifs, 0⟩] scope pos) spos) (tAsg (tDc wi g tt tk tv (own.map (·.2))) (gName i)) := by
  constructor
  intro pins s σ H Dn I want
  rw [exec_Assign_Name_used _ _ _ _ swap]
  refine wpAny_bind ?_
  refine wpAny_standAt (wpAny_bind ?_)
  show wpAny _ X.A (do let _ ← comprehension (.DictComp kx vx [⟨tg, iter, ifs, 0⟩] scope pos) scope X.env (firstIterPos [⟨tg, iter, ifs, 0⟩] pos) newDict false (eval iter X.env) (some (assign (.Name y py) X.env))) _ _ s
  have want' : tDc wi g tt tk tv (own.map (·.2)) σ H fun x H1 => gName i x σ H1 Dn.nx := want
  refine wpAny_bind (thn (dc_core (Qf := fun _ s' => SP X pins Dn .next s') hc hN I hi ok hg ht hk hv hs want' fun D C s' names H' back q ns f => use_name hN hy hyl back q ns f) fun _ s' done_ => ?_)
  exact wpAny_pure (wpAny_pure done_)
theorem swap_dc {gs : List Comprehension} {py : Pos} {y : Str} {l : Nat} {env : Env} (hk : env.scope.kind = .function) (hy : env.scope.names.lookup y = some .local) (hl : (py.line == pos.line) = true) (ha : (scope.names.any fun (n, k) => n == y && (k == .local || k == .cell)) = false) :
    swapsWith (.DictComp kx vx gs scope pos) (some (.Name y py)) l env = pure true := by
  have isLoc : env.kindOf y = some .local := hy
  have fn : env.blockKind = .function := by unfold Env.blockKind; rw [hk]; rfl
  unfold swapsWith
  simp only [fn, isLoc, ha, Expr.pos, hl]
  rfl
end
end L2
/-! SL23: dict comprehensions. -/
namespace SL
open PySem PySem.Spec PyProof.Rows L2
section
variable {G : Gx} {X : Cx} {W : WX} {pos : Pos}
/-- what a turn does to the new dict -/
abbrev Fin_ := Hp → Addr → V → V → (Hp → Prop) → Prop
def tDcG (emp : HO) (fin : Fin_) (wi : TI) (g : TG) (tt : TT) (tk tv : TE) (vs : List Nat) : TE := fun σ H Q => wi σ H fun J H1 => ∀ D, H1 D = none → ∃ V : Nat → Nat → Hp → Prop, (∃ m, V 0 m (upd H1 D emp)) ∧
  ∀ i m H, V i m H → (J.stop i H ∧ Q (.ref D) H) ∨ (J.go i H ∧ ∃ Nx : Hp → Prop, (∀ H', Nx H' → ∃ m', m' < m ∧ V (i + 1) m' H') ∧ ∀ x H', J.yld i H x H' → g x (wipe σ vs) H' fun σ2 H2 => wipe σ2 vs = wipe σ vs ∧ tt σ2 H2 fun b H3 =>
    if b = true then tk σ2 H3 fun y H4 => tv σ2 H4 fun z H5 => fin H5 D y z Nx else Nx H3)
def finK : Fin_ := fun H5 D y z Nx => ∃ kvs k, y = kV k ∧ H5 D = some (.dK kvs) ∧ kvs.length < sizeLine ∧ Nx (upd H5 D (.dK (putK kvs k z)))
def finT : Fin_ := fun H5 D y z Nx => ∃ kvs k a, y = .ref a ∧ H5 a = some (.tup (k.map kV)) ∧ H5 D = some (.dT kvs) ∧ kvs.length < sizeLine ∧ Nx (upd H5 D (.dT (putK kvs k z)))
/-- the new dict's kind stays -/
def IsD (tp : Bool) (d : Nat) (h : List AO) : Prop := ∃ o1, h[d]? = some o1 ∧ ((tp = true ∧ ∃ kvs, o1 = AO.dtp kvs) ∨ (tp = false ∧ ∃ kvs, o1 = AO.dct kvs))
def isD (tp : Bool) (d : Nat) (h : List AO) : Bool := match h[d]? with
  | some (.dtp _) => tp
  | some (.dct _) => !tp
  | _ => false
theorem isD_ok {tp : Bool} {d : Nat} {h : List AO} (z : isD tp d h = true) : IsD tp d h := by
  unfold isD at z
  split at z
  · rename_i kvs hi; exact ⟨_, hi, .inl ⟨z, kvs, rfl⟩⟩
  · rename_i kvs hi; exact ⟨_, hi, .inr ⟨by simpa using z, kvs, rfl⟩⟩
  · cases z
def dcL (tp : Bool) (I : AI) (g : AG) (t : AEnv → AM Bool) (ek ev : AE) (d : Nat) (e : AEnv) : Nat → Nat → List AO → Option (List AO)
  | 0, _, _ => none
  | f + 1, i, h => match I.at i h with
    | none => none
    | some none => some h
    | some (some v) => match g v e h with
      | none => none
      | some (e1, h1) => match t e1 h1 with
        | some (.ok false, h2) => dcL tp I g t ek ev d e f (i + 1) h2
        | some (.ok true, h2) => match ek e1 h2 with
          | some (.ok y, h3) => match ev e1 h3 with
            | some (.ok z, h4) => match (if isD tp d h4 = true then dpA y z h4[d]? else none) with
              | some o => dcL tp I g t ek ev d e f (i + 1) (h4.set d o)
              | none => none
            | _ => none
          | _ => none
        | _ => none
def dc0 (tp : Bool) : AO := if tp then .dtp [] else .dct []
def mDc (tp : Bool) (N : Nat) (vs : List Nat) (mi : AEnv → AM AI) (g : AG) (t : AEnv → AM Bool) (ek ev : AE) : AE := fun e h => bnd (mi e h) fun I h1 => match dcL tp I g t ek ev h1.length (awipe e vs) N 0 (h1 ++ [dc0 tp]) with
  | some h2 => some (.ok (.ref h1.length), h2)
  | none => none
/-- how a kind of dict is written -/
structure DcOk (G : Gx) (tp : Bool) (emp : HO) (fin : Fin_) : Prop where
  new : ∀ n al H p, OR G n al (upd H p emp) p (dc0 tp)
  put : ∀ (h : List AO) (al : Nat → Addr) (H : Hp) (i : Nat) (y v : AV) (uy uv : V) (o : AO) (Nx : Hp → Prop), HR G al h H → RA G h.length al H y uy → RA G h.length al H v uv → dpA y v h[i]? = some o → (∃ o1, h[i]? = some o1 ∧ ((tp = true ∧ ∃ kvs, o1 = .dtp kvs) ∨ (tp = false ∧ ∃ kvs, o1 = .dct kvs))) →
    (∀ u, Ext h.length al H h.length al (upd H (al i) u) → HR G al (h.set i o) (upd H (al i) u) → Nx (upd H (al i) u)) → fin H (al i) uy uv Nx
theorem dcOkK : DcOk G false (.dK []) finK := by
  refine ⟨fun n al H p => ⟨[], upd_same, trivial⟩, ?_⟩
  intro h al H i y v uy uv o Nx hr ry rv hd ⟨o1, hi, k⟩ q
  rcases k with ⟨z, _⟩ | ⟨_, kvs, rfl⟩
  · cases z
  · rw [hi] at hd
    unfold dpA at hd
    dsimp only at hd
    split at hd
    · rename_i k ek
      split at hd
      · rename_i few
        cases hd
        obtain ⟨ws, e7, rf⟩ := dctAt hr hi
        have E := ext_put (u := .dK (putK ws k uv)) hr hi rfl
        refine ⟨ws, k, keyA_ok ry ek, e7, by rw [← rf.length, sizeLine_eq]; omega, q _ E (hr.put hi rfl rfl ⟨_, upd_same, RF.mono E (putA_ok rf rv)⟩)⟩
      · cases hd
    · cases hd
theorem dcOkT (hz : G.fz = false) : DcOk G true (.dT []) finT := by
  refine ⟨fun n al H p => ⟨[], upd_same, trivial⟩, ?_⟩
  intro h al H i y v uy uv o Nx hr ry rv hd ⟨o1, hi, k⟩ q
  rcases k with ⟨_, kvs, rfl⟩ | ⟨z, _⟩
  · rw [hi] at hd
    unfold dpA at hd
    dsimp only at hd
    split at hd
    · rename_i k ek
      split at hd
      · rename_i few
        cases hd
        obtain ⟨ws, e7, rf⟩ := (hr.ob i _ hi : ∃ ws, H (al i) = some (.dT ws) ∧ RF G h.length al H kvs ws)
        have E := ext_put (u := .dT (putK ws k uv)) hr hi rfl
        obtain ⟨b, eu, hb⟩ := keyT_ok hz ry ek
        refine ⟨ws, k, b, eu, hb, e7, by rw [← rf.length, sizeLine_eq]; omega, q _ E (hr.put hi rfl rfl ⟨_, upd_same, RF.mono E (putA_ok rf rv)⟩)⟩
      · cases hd
    · cases hd
  · cases z
theorem snd_dc {tp : Bool} {emp : HO} {fin : Fin_} {wi : TI} {mi : AEnv → AM AI} {g : AG} {t : AEnv → AM Bool} {ek ev : AE} {ws vs : List Nat} {lo : Bool} (N : Nat) (dk : DcOk G tp emp fin) (si : SndI G W lo wi mi) (hs : ∀ i, i ∈ ws → i ∈ vs) :
    SndE G W (tDcG emp fin wi (rdG G lo ws g) (rdT G t) (rdE G ek) (rdE G ev) vs) (mDc tp N vs mi g t ek ev) := by
  intro σ H al e h r h' Q hr er hm q
  rcases bnd_some hm with ⟨c, k, e1, rfl⟩ | ⟨I, h1, e1, e2⟩
  · exact si σ H al e h _ _ _ hr er e1 q
  · refine si σ H al e h _ _ _ hr er e1 ?_
    intro al1 H1 J x1 hr1 IR Dl hD
    split at e2
    · rename_i hf ef
      cases e2
      have hlen : (h1 ++ [dc0 tp]).length = h1.length + 1 := by rw [List.length_append, List.length_singleton]
      have xb : Ext h1.length al1 H1 (h1 ++ [dc0 tp]).length (ext1 al1 h1.length Dl) (upd H1 Dl emp) := by rw [hlen]; exact ext_new hD
      have hr0 : HR G (ext1 al1 h1.length Dl) (h1 ++ [dc0 tp]) (upd H1 Dl emp) := hr1.new hD (dk.new _ _ _ _)
      have er0 : ER G (h1 ++ [dc0 tp]).length (ext1 al1 h1.length Dl) (upd H1 Dl emp) (awipe e vs) (wipe σ vs) := (er.mono (x1.trans xb)).wipe vs
      refine ⟨fun i m H2 => ∃ al2 h2, Ext (h1 ++ [dc0 tp]).length (ext1 al1 h1.length Dl) (upd H1 Dl emp) h2.length al2 H2 ∧ HR G al2 h2 H2 ∧ dcL tp I g t ek ev h1.length (awipe e vs) m i h2 = some h', ⟨N, _, _, .refl, hr0, ef⟩, ?_⟩
      rintro i m H2 ⟨al2, h2, x2, hr2, em⟩
      have at_ : ∀ {al3 : Nat → Addr} {H3 : Hp} {h3 : List AO}, Ext (h1 ++ [dc0 tp]).length (ext1 al1 h1.length Dl) (upd H1 Dl emp) h3.length al3 H3 → al3 h1.length = Dl := fun x => (x.al _ (by rw [hlen]; omega)).trans ext1_at
      cases m with
      | zero => cases em
      | succ m =>
        obtain ⟨st, go⟩ := IR.ok al2 h2 H2 (xb.trans x2) hr2 i
        unfold dcL at em
        split at em
        · cases em
        · rename_i z
          cases em
          refine .inl ⟨st z, ?_⟩
          have rr := RA.ref (G := G) (n := h'.length) (al := al2) (H := H2) (i := h1.length) (by have := x2.le; rw [hlen] at this; omega)
          rw [at_ x2] at rr
          exact q al2 H2 _ ((x1.trans xb).trans x2) hr2 rr
        · rename_i v z
          obtain ⟨hg, yl⟩ := go v z
          split at em
          · cases em
          · rename_i e4 h4 ez
            refine .inr ⟨hg, fun H5 => ∃ al5 h5, Ext (h1 ++ [dc0 tp]).length (ext1 al1 h1.length Dl) (upd H1 Dl emp) h5.length al5 H5 ∧ HR G al5 h5 H5 ∧ dcL tp I g t ek ev h1.length (awipe e vs) m (i + 1) h5 = some h', fun H' w => ⟨m, Nat.lt_succ_self m, w⟩, fun x H3 y => ?_⟩
            obtain ⟨x3, hr3, rl⟩ := yl x H3 y
            refine ⟨al2, awipe e vs, h2, v, e4, h4, hr3, er0.mono (x2.trans x3), rl, ez, ?_⟩
            intro al4 H4 σ4 x4 hr4 er4 l4 k4
            refine ⟨(wipe_same l4 k4 hs).trans (wipe_twice σ vs), ?_⟩
            have xx := (x2.trans x3).trans x4
            split at em
            · rename_i h5 et
              refine ⟨al4, e4, h4, _, _, hr4, er4, et, fun al5 H5 x5 hr5 => ?_⟩
              dsimp only
              rw [if_neg (by decide)]
              exact ⟨al5, h5, xx.trans x5, hr5, em⟩
            · rename_i h5 et
              refine ⟨al4, e4, h4, _, _, hr4, er4, et, fun al5 H5 x5 hr5 => ?_⟩
              dsimp only
              rw [if_pos rfl]
              split at em
              · rename_i yv h6 ey
                refine ⟨al5, e4, h5, _, _, hr5, er4.mono x5, ey, fun al6 H6 uy x6 hr6 ry => ?_⟩
                split at em
                · rename_i zv h7 ew
                  refine ⟨al6, e4, h6, _, _, hr6, er4.mono (x5.trans x6), ew, fun al7 H7 uz x7 hr7 rz => ?_⟩
                  split at em
                  · rename_i o eo
                    split at eo
                    · rename_i isd
                      have x8 := ((xx.trans x5).trans x6).trans x7
                      have here := at_ x8
                      have done_ := dk.put h7 al7 H7 h1.length yv zv uy uz o (fun H5 => ∃ al5 h5, Ext (h1 ++ [dc0 tp]).length (ext1 al1 h1.length Dl) (upd H1 Dl emp) h5.length al5 H5 ∧ HR G al5 h5 H5 ∧ dcL tp I g t ek ev h1.length (awipe e vs) m (i + 1) h5 = some h') hr7 (ry.mono x7) rz eo (isD_ok isd)
                        fun u E P => ⟨al7, h7.set h1.length o, by rw [List.length_set]; exact x8.trans E, P, em⟩
                      rw [here] at done_
                      exact done_
                    · cases eo
                  · cases em
                · cases em
              · cases em
            · cases em
    · cases e2
/-- {k: v for ..}, keys tuples or not -/
theorem se_dcT {kx vx tg iter : Expr} {ifs : List Expr} {scope : Scope} {mi : AEnv → AM AI} {g : AG} {t : AEnv → AM Bool} {ek ev : AE} {ws : List Nat} {lo : Bool} (N : Nat) (own : List (Str × Nat)) (hz : G.fz = false) (hu : X.A.units < cLine) (hc : X.calm = true) (hN : X.N.Nodup) (ok : blkC X.N X.env.scope scope own = true) (hi : SI G X W lo tg iter mi)
    (hg : ∀ s H C cl fp, SG G (bk X scope s H C cl fp) lo ws tg g) (ht : ∀ s H C cl fp, STs G (bk X scope s H C cl fp) ifs t) (hk : ∀ s H C cl fp, SE G (bk X scope s H C cl fp) W0 kx ek) (hv : ∀ s H C cl fp, SE G (bk X scope s H C cl fp) W0 vx ev)
    (hw : ws.all (fun i => decide (i ∈ own.map (·.2))) = true := by decide) (hs : ∀ x, foldedSetIterable iter X.env x = pure x := by intro _; rfl) :
    SE G X W (.DictComp kx vx [⟨tg, iter, ifs, 0⟩] scope pos) (mDc true N (own.map (·.2)) mi g t ek ev) := by
  obtain ⟨wi, pi, si⟩ := hi
  refine ⟨tDcG (.dT []) finT wi _ _ _ _ _, pe_dcT hu hc hN pi (blkOk_by ok) (fun s H C cl fp => sg_rd (hg s H C cl fp)) (fun s H C cl fp => ht s H C cl fp) (fun s H C cl fp => se_rd (hk s H C cl fp)) (fun s H C cl fp => se_rd (hv s H C cl fp)) hs fun τ => wipe_twice τ _, snd_dc N (dcOkT hz) si fun i h => ?_⟩
  exact of_decide_eq_true (List.all_eq_true.mp hw i h)
theorem se_dcK {kx vx tg iter : Expr} {ifs : List Expr} {scope : Scope} {mi : AEnv → AM AI} {g : AG} {t : AEnv → AM Bool} {ek ev : AE} {ws : List Nat} {lo : Bool} (N : Nat) (own : List (Str × Nat)) (hc : X.calm = true) (hN : X.N.Nodup) (ok : blkC X.N X.env.scope scope own = true) (hi : SI G X W lo tg iter mi)
    (hg : ∀ s H C cl fp, SG G (bk X scope s H C cl fp) lo ws tg g) (ht : ∀ s H C cl fp, STs G (bk X scope s H C cl fp) ifs t) (hk : ∀ s H C cl fp, SE G (bk X scope s H C cl fp) W0 kx ek) (hv : ∀ s H C cl fp, SE G (bk X scope s H C cl fp) W0 vx ev)
    (hw : ws.all (fun i => decide (i ∈ own.map (·.2))) = true := by decide) (hs : ∀ x, foldedSetIterable iter X.env x = pure x := by intro _; rfl) :
    SE G X W (.DictComp kx vx [⟨tg, iter, ifs, 0⟩] scope pos) (mDc false N (own.map (·.2)) mi g t ek ev) := by
  obtain ⟨wi, pi, si⟩ := hi
  refine ⟨tDcG (.dK []) finK wi _ _ _ _ _, pe_dc hc hN pi (blkOk_by ok) (fun s H C cl fp => sg_rd (hg s H C cl fp)) (fun s H C cl fp => ht s H C cl fp) (fun s H C cl fp => se_rd (hk s H C cl fp)) (fun s H C cl fp => se_rd (hv s H C cl fp)) hs, snd_dc N dcOkK si fun i h => ?_⟩
  exact of_decide_eq_true (List.all_eq_true.mp hw i h)
theorem ss_setDcT (i : Nat) {y : Str} {py spos : Pos} {kx vx tg iter : Expr} {ifs : List Expr} {scope : Scope} {mi : AEnv → AM AI} {g : AG} {t : AEnv → AM Bool} {ek ev : AE} {ws : List Nat} {lo : Bool} (N : Nat) (own : List (Str × Nat)) (hz : G.fz = false) (hu : X.A.units < cLine) (hc : X.calm = true) (hN : X.N.Nodup) (ok : blkC X.N X.env.scope scope own = true) (hi : SI G X W lo tg iter mi)
    (hg : ∀ s H C cl fp, SG G (bk X scope s H C cl fp) lo ws tg g) (ht : ∀ s H C cl fp, STs G (bk X scope s H C cl fp) ifs t) (hk : ∀ s H C cl fp, SE G (bk X scope s H C cl fp) W0 kx ek) (hv : ∀ s H C cl fp, SE G (bk X scope s H C cl fp) W0 vx ev)
    (hkd : X.env.scope.kind = .function := by rfl) (hy : X.N[i]? = some y := by rfl) (hyl : X.env.scope.names.lookup y = some .local := by rfl) (hl : (py.line == pos.line) = true := by rfl) (ha : (scope.names.any fun (n, k) => n == y && (k == .local || k == .cell)) = false := by rfl)
    (hw : ws.all (fun i => decide (i ∈ own.map (·.2))) = true := by decide) (hs : ∀ x, foldedSetIterable iter X.env x = pure x := by intro _; rfl) :
    SS G X W (.Assign [.Name y py] (.DictComp kx vx [⟨tg, iter, ifs, 0⟩] scope pos) spos) (mAsg (mDc true N (own.map (·.2)) mi g t ek ev) (gA i)) := by
  obtain ⟨wi, pi, si⟩ := hi
  refine ⟨_, ps_setDcT hu hc hN hy hyl (swap_dc hkd hyl hl ha) pi (blkOk_by ok) (fun s H C cl fp => sg_rd (hg s H C cl fp)) (fun s H C cl fp => ht s H C cl fp) (fun s H C cl fp => se_rd (hk s H C cl fp)) (fun s H C cl fp => se_rd (hv s H C cl fp)) hs fun τ => wipe_twice τ _, snd_asg (snd_dc (emp := .dT []) (fin := finT) N (dcOkT hz) si fun i h => ?_) snd_gA⟩
  exact of_decide_eq_true (List.all_eq_true.mp hw i h)
theorem ss_setDcK (i : Nat) {y : Str} {py spos : Pos} {kx vx tg iter : Expr} {ifs : List Expr} {scope : Scope} {mi : AEnv → AM AI} {g : AG} {t : AEnv → AM Bool} {ek ev : AE} {ws : List Nat} {lo : Bool} (N : Nat) (own : List (Str × Nat)) (hc : X.calm = true) (hN : X.N.Nodup) (ok : blkC X.N X.env.scope scope own = true) (hi : SI G X W lo tg iter mi)
    (hg : ∀ s H C cl fp, SG G (bk X scope s H C cl fp) lo ws tg g) (ht : ∀ s H C cl fp, STs G (bk X scope s H C cl fp) ifs t) (hk : ∀ s H C cl fp, SE G (bk X scope s H C cl fp) W0 kx ek) (hv : ∀ s H C cl fp, SE G (bk X scope s H C cl fp) W0 vx ev)
    (hkd : X.env.scope.kind = .function := by rfl) (hy : X.N[i]? = some y := by rfl) (hyl : X.env.scope.names.lookup y = some .local := by rfl) (hl : (py.line == pos.line) = true := by rfl) (ha : (scope.names.any fun (n, k) => n == y && (k == .local || k == .cell)) = false := by rfl)
    (hw : ws.all (fun i => decide (i ∈ own.map (·.2))) = true := by decide) (hs : ∀ x, foldedSetIterable iter X.env x = pure x := by intro _; rfl) :
    SS G X W (.Assign [.Name y py] (.DictComp kx vx [⟨tg, iter, ifs, 0⟩] scope pos) spos) (mAsg (mDc false N (own.map (·.2)) mi g t ek ev) (gA i)) := by
  obtain ⟨wi, pi, si⟩ := hi
  refine ⟨_, ps_setDcK hc hN hy hyl (swap_dc hkd hyl hl ha) pi (blkOk_by ok) (fun s H C cl fp => sg_rd (hg s H C cl fp)) (fun s H C cl fp => ht s H C cl fp) (fun s H C cl fp => se_rd (hk s H C cl fp)) (fun s H C cl fp => se_rd (hv s H C cl fp)) hs, snd_asg (snd_dc (emp := .dK []) (fin := finK) N dcOkK si fun i h => ?_) snd_gA⟩
  exact of_decide_eq_true (List.all_eq_true.mp hw i h)
end
end SL
/-! SL24: new instances made with keywords; methods that stand in no instance. -/
namespace SL
open PySem PySem.Spec PyProof.Rows L2
section
variable {G : Gx} {X : Cx} {W : WX} {k np n1 : Nat} {f C : Addr} {fd : FuncData} {ps ks : List Str} {sp : Sp} {m : List AV → AM AV} {x : Str} {p pos : Pos} {e : Expr} {es : List Expr}
theorem run_makeKG {pins : List (Addr × Obj)} {σ : L2.St} {H : Hp} {s : Shared} {Q : VK} {E : XK} {g : List Value → List Value → List Value} {gV : List V → List V → List V} {us ws : List Value} {vs zs : List V} (M : Mk X.K C f) (F : FnG X.prog X.w X.K X.mg X.base k f fd ps sp) (hr : Room (k + 1) X.A) (hgu : X.A.guards = some [])
    (hb : KBn X.K fd ps (n1 + 1) ks g gV) (hx : PassesAt (L2.CX X.prog X.w) X σ E) (I : Inv X pins σ H s) (same : Vals vs us) (kws : Vals zs ws) (l1 : vs.length = n1) (l2 : zs.length = ks.length)
    (h : ∀ o d, H o = none → H d = none → d ≠ o → sp (gV (.ref o :: vs) zs) (upd (upd H d (.own o)) o (.ins C d [])) (fun v H2 => v = .non ∧ Q (.ref o) H2) E) : wpAny (model X.prog X.w) X.A (call (.ref C) us (ks.zip ws)) (EP X pins σ Q) X.xe s := by
  generalize sz : s.heap.objs.size = d
  have want := h (d + 1) d (I.hok.fresh (by omega)) (I.hok.fresh (by omega)) (Nat.ne_of_lt (Nat.lt_succ_self d))
  have made := Inv.made (C := C) I
  rw [sz] at made
  have all := hb.rel (show Vals (V.ref (d + 1) :: vs) (Value.ref (d + 1) :: us) from .cons rfl same) kws
  have n2 : (Value.ref (d + 1) :: us).length = n1 + 1 := by rw [List.length_cons, ← same.length, l1]
  apply wpAny_call
  apply make_map (f := f) I.kIn M.makes M.init (beq_iff_eq.mp M.fn)
  rw [sz]
  apply codeAny_mono (F.run _ X.stack _ _ ⟨Value.ref (d + 1) :: us, ks.zip ws⟩ _ _ _ E (hr.make C us (ks.zip ws)) (make_guards.trans hgu) (made.env0.make C us (ks.zip ws)) (hb.to _ (Value.ref (d + 1) :: us) ws made.kIn n2 (kws.length.symm.trans l2)) all want)
  intro r t ended
  match r, ended with
  | .ok (.ret u), ended =>
    have ⟨v, H2, I2, rv, none_, q⟩ := made.after ended
    cases none_
    exact ⟨rv, ⟨V.ref (d + 1), H2, I2, rfl, q⟩⟩
  | .error er, ended => exact hx pins _ _ er t made ended
  | .ok .next, ended | .ok .brk, ended | .ok .cont, ended => exact ended.elim
def mMakeK (c : Nat) (m : List AV → AM AV) (gA : List AV → List AV → List AV) (ma mk : AEnv → AM (List AV)) : AE := fun e h => bnd (ma e h) fun vs h1 => bnd (mk e h1) fun zs h2 => bnd (m (gA (.ref h2.length :: vs) zs) (h2 ++ [.ins c []])) fun v h3 => match v with
  | .non => some (.ok (.ref h2.length), h3)
  | _ => none
theorem se_makeK {c : Nat} {kws : List Keyword} {g : List Value → List Value → List Value} {gV : List V → List V → List V} {gA : List AV → List AV → List AV} {ma mk : AEnv → AM (List AV)} (hK : X.K = G.K) (M : Mk G.K (G.cl c) f) (F : FnG X.prog X.w X.K X.mg X.base k f fd ps (spG G np m)) (hr : Room (k + 1) X.A) (hgu : X.A.guards = some [])
    (hm : X.mg x = some (.ref (G.cl c))) (hb : KBn X.K fd ps (n1 + 1) ks g gV) (hgA : ∀ n al H vs us zs ws, RAs G n al H vs us → RAs G n al H zs ws → RAs G n al H (gA vs zs) (gV us ws)) (hlg : ∀ vs zs : List AV, vs.length = n1 + 1 → zs.length = ks.length → (gA vs zs).length = np) (tk : Takes X W)
    (hla : ∀ en h vs h', ma en h = some (.ok vs, h') → vs.length = n1) (hlk : ∀ en h vs h', mk en h = some (.ok vs, h') → vs.length = ks.length) (ha : SA G X W (e :: es) ma) (hkw : SK G X W kws mk)
    (hall : (backToKw pos (keywordEach kws X.env)).all (·.1.isSome) = true := by rfl) (hks : (backToKw pos (keywordEach kws X.env)).filterMap (·.1) = ks := by rfl) (hg : Gl X x := by rfl) (hdb : (x == ("__debug__" : Str)) = false := by decide)
    (he : starEach (e :: es) X.env = (false, eval e X.env) :: starEach es X.env := by rfl) (hpl : ((backTo pos (starEach (e :: es) X.env)).any (·.1) || (backToKw pos (keywordEach kws X.env)).any (·.1.isNone)) = false := by rfl) : SE G X W (.Call (.Name x p) (e :: es) kws pos) (mMakeK c m gA ma mk) := by
  obtain ⟨t, pa, sa⟩ := ha
  obtain ⟨t2, pk, sk⟩ := hkw
  have M' : Mk X.K (G.cl c) f := hK ▸ M
  refine ⟨fun σ H Q => t σ H fun vs H1 => t2 σ H1 fun zs H2 => (vs.length = n1 ∧ zs.length = ks.length) ∧ ∀ o d, H2 o = none → H2 d = none → d ≠ o → spG G np m (gV (.ref o :: vs) zs) (upd (upd H2 d (.own o)) o (.ins (G.cl c) d [])) (fun v H3 => v = .non ∧ Q (.ref o) H3) (WE W σ), ?_, ?_⟩
  · constructor
    intro pins s σ H Q I h
    apply wpAny_Call_Name_kw (ld_glob I hg hm _ hdb)
    have each := pa.run pos pins s σ H _ I h
    refine PySem.W.callWith_KW (h₀ := X.base) I.ok.mod.kin M'.kp hall (thn each ?_) hpl he
    rintro us s1 ⟨vs, H1, I1, same, more⟩
    refine thn (pk.run pos pins s1 σ H1 _ I1 more) ?_
    rintro ws s2 ⟨zs, H2, I2, kws, ⟨l1, l2⟩, want⟩
    refine ⟨I2.kIn, ?_⟩
    rw [hks]
    exact run_makeKG M' F hr hgu hb (passAt tk σ) I2 same kws l1 l2 want
  · intro σ H al en h r h' Q hR er em q
    rcases bnd_some em with ⟨cc, kk, e1, rfl⟩ | ⟨vs, h1, e1, e2⟩
    · exact sa σ H al en h _ _ _ hR er e1 q
    · refine sa σ H al en h _ _ _ hR er e1 ?_
      intro al1 H1 us x1 hr1 r1
      rcases bnd_some e2 with ⟨cc, kk, e3, rfl⟩ | ⟨zs, h2, e3, e4⟩
      · exact sk σ H1 al1 en h1 _ _ _ hr1 (er.mono x1) e3 (PoA.after (r := .ex cc kk) x1 q)
      · refine sk σ H1 al1 en h1 _ _ _ hr1 (er.mono x1) e3 ?_
        intro al2 H2 ws x2 hr2 r2
        have l1 := hla _ _ _ _ e1
        have l2 := hlk _ _ _ _ e3
        refine ⟨⟨by rw [← r1.length]; exact l1, by rw [← r2.length]; exact l2⟩, fun o d ho hd ne => ?_⟩
        have xx := x1.trans x2
        have ha : HR G al2 h2 (upd H2 d (.own o)) := hr2.beside hd
        have xa : Ext h2.length al2 H2 h2.length al2 (upd H2 d (.own o)) := ext_beside hd
        have free : upd H2 d (.own o) o = none := (upd_ne (Ne.symm ne)).trans ho
        have hb : HR G (ext1 al2 h2.length o) (h2 ++ [.ins c []]) (upd (upd H2 d (.own o)) o (.ins (G.cl c) d [])) := ha.new free ⟨d, [], upd_same, trivial⟩
        have hlen : (h2 ++ [AO.ins c []]).length = h2.length + 1 := by rw [List.length_append, List.length_singleton]
        have xb : Ext h2.length al2 H2 (h2 ++ [AO.ins c []]).length (ext1 al2 h2.length o) (upd (upd H2 d (.own o)) o (.ins (G.cl c) d [])) := by
          rw [hlen]; exact xa.trans (ext_new free)
        have rx : RA G (h2 ++ [AO.ins c []]).length (ext1 al2 h2.length o) (upd (upd H2 d (.own o)) o (.ins (G.cl c) d [])) (.ref h2.length) (.ref o) := by
          have r0 : RA G (h2 ++ [AO.ins c []]).length (ext1 al2 h2.length o) (upd (upd H2 d (.own o)) o (.ins (G.cl c) d [])) (.ref h2.length) (.ref (ext1 al2 h2.length o h2.length)) := .ref (by rw [hlen]; omega)
          rw [ext1_at] at r0
          exact r0
        have args := hgA _ _ _ _ _ _ _ (RAs.cons rx ((r1.mono x2).mono xb)) (r2.mono xb)
        have many := hlg (.ref h2.length :: vs) zs (by rw [List.length_cons, l1]) l2
        rcases bnd_some e4 with ⟨cc, kk, e5, rfl⟩ | ⟨v, h3, e5, e6⟩
        · exact ⟨_, _, _, .ex cc kk, h', hb, args, many, e5, FwX.after (E := fun cls d H' => W cls d σ H') (xx.trans xb) q⟩
        · refine ⟨_, _, _, .ok v, h3, hb, args, many, e5, ?_⟩
          intro al3 H3 u x3 hr3 r3
          cases v with
          | non =>
            cases e6
            cases r3
            exact ⟨rfl, q al3 H3 _ ((xx.trans xb).trans x3) hr3 (rx.mono x3)⟩
          | _ => cases e6
end
end SL
/-! SL25: small things that gen.py's print names. -/
namespace SL
open PySem PySem.Spec PyProof.Rows L2
section
variable {k : Nat} {A : Around}
theorem hu0 (hr : Room k A) : A.units < cLine := Nat.lt_of_succ_lt (hu1 hr)
theorem hu70 (hr : Room k A) : A.units + 70 < cLine := by have := hr.un; omega
end
/-- the promise of a def that is never come back to -/
theorem fnG_none {P : Program} {w : World} {K : PySem.W.Frag} {mg : Str → Option Value} {base : Heap} {k np : Nat} {f : Addr} {fd : FuncData} {ps : List Str} {G : Gx} : FnG P w K mg base k f fd ps (spG G np fun _ _ => none) := by
  have no : ∀ {vs : List V} {H : Hp} {Q : VK} {E : XK}, ¬ spG G np (fun _ _ => none) vs H Q E := by
    rintro vs H Q E ⟨_, _, _, _, _, _, _, _, z, _⟩
    cases z
  exact ⟨fun _ _ _ _ h => absurd h no, fun _ _ _ _ _ _ _ _ _ _ _ _ _ _ h => absurd h no⟩
end SL
/-! SH7: shift laws of raise and try. -/
namespace SL
open PySem PySem.Spec PyProof.Rows L2
theorem sh_mRaise {c : Nat} {fld : Str} {ma : AE} (ha : ShE ma) : ShS (mRaise c fld ma) := fun p e h r h' q => sh_bndS (ha p e h) (fun v h1 r h' q => by
  cases q
  rw [shH_app, shH_len]
  rfl) q
/-! ### what hangs on the exception's number -/
def KhE (m : Nat → AE) : Prop := ∀ (p : List AO) (k : Nat) (e : AEnv) (h : List AO) (r : Rs AV) (h' : List AO), m k e h = some (r, h') → m (p.length + k) (shE p.length e) (shH p h) = some (shR (shV p.length) p.length r, shH p h')
def KhL (m : Nat → AEnv → AM (List AV)) : Prop := ∀ (p : List AO) (k : Nat) (e : AEnv) (h : List AO) (r : Rs (List AV)) (h' : List AO), m k e h = some (r, h') → m (p.length + k) (shE p.length e) (shH p h) = some (shR (List.map (shV p.length)) p.length r, shH p h')
def KhS (m : Nat → AS) : Prop := ∀ (p : List AO) (k : Nat) (e : AEnv) (h : List AO) (r : Fl) (h' : List AO), m k e h = some (r, h') → m (p.length + k) (shE p.length e) (shH p h) = some (shFl p.length r, shH p h')
theorem kh_of {m : AE} (h : ShE m) : KhE fun _ => m := fun p _ e hh r h' q => h p e hh r h' q
theorem khS_of {m : AS} (h : ShS m) : KhS fun _ => m := fun p _ e hh r h' q => h p e hh r h' q
theorem kh_nil : KhL fun _ => mNil := fun p _ e h r h' q => sh_mNil p e h r h' q
theorem kh_cons {ma : Nat → AE} {mr : Nat → AEnv → AM (List AV)} (ha : KhE ma) (hr : KhL mr) : KhL fun k => mCons (ma k) (mr k) := fun p k e h r h' q => sh_bnd (fb := List.map (shV p.length)) (ha p k e h) (fun x h1 r h' q => sh_bnd (fb := List.map (shV p.length)) (hr p k e h1) (fun y h2 r h' q => by
  cases q; simp [shR]) q) q
theorem kh_tup {ma : Nat → AEnv → AM (List AV)} (ha : KhL ma) : KhE fun k => mTup (ma k) := fun p k e h r h' q => sh_bnd (fb := shV p.length) (ha p k e h) (fun x h1 r h' q => by
  split at q
  · rename_i few
    cases q
    rw [if_pos (by rw [List.length_map]; exact few)]
    simp [shR]
  · cases q) q
theorem kh_lst {ma : Nat → AEnv → AM (List AV)} (ha : KhL ma) : KhE fun k => mLst (ma k) := fun p k e h r h' q => sh_bnd (fb := shV p.length) (ha p k e h) (fun x h1 r h' q => by
  split at q
  · rename_i few
    cases q
    rw [if_pos (by rw [List.length_map]; exact few), shH_app]
    simp [shR, shO]
  · cases q) q
theorem kh_ret {m : Nat → AE} (h : KhE m) : KhS fun k => mRet (m k) := fun p k e hh r h' q => sh_bndS (h p k e hh) (fun v h1 r h' q => by cases q; rfl) q
theorem kh_xf {f : Str} : KhE fun k => mXf k f := fun p k e h r h' q => by
  unfold mXf at q ⊢
  dsimp only at q ⊢
  rw [shH_get]
  split at q
  · rename_i fs hi
    rw [hi]
    split at q
    · rename_i v l
      cases q
      show (match (shP p.length fs).lookup f with | some v => some (Rs.ok v, shH p h) | none => none) = _
      rw [shP_look fs, l]
      rfl
    · cases q
  · cases q
theorem sh_off {s i : Nat} {fl fl' : Fl} (h : offFl i fl = some fl') : offFl i (shFl s fl) = some (shFl s fl') := by
  have none_ : ∀ e : AEnv, (shE s e).set i none = shE s (e.set i none) := fun e => by unfold shE; rw [List.map_set]; rfl
  cases fl <;> cases h <;> simp [offFl, shFl, none_]
theorem sh_on {s : Nat} {fl fl' : Fl} (h : onFl fl = some fl') : onFl (shFl s fl) = some (shFl s fl') := by
  cases fl <;> cases h <;> simp [onFl, shFl]
theorem sh_mTryAs {i c : Nat} {mb : AS} {ms : Nat → AS} (hb : ShS mb) (hs : KhS ms) : ShS (mTryAs i c mb ms) := fun p e h r h' q => by
  have none_ : ∀ e : AEnv, (shE p.length e).set i none = shE p.length (e.set i none) := fun e => by unfold shE; rw [List.map_set]; rfl
  unfold mTryAs at q ⊢
  split at q
  · rename_i c' k e1 h1 eb
    rw [hb p e h _ _ eb]
    split at q
    · rename_i hc
      show (if c' = c ∧ i < (shE p.length e1).length then _ else _) = _
      rw [if_pos (by unfold shE; rw [List.length_map]; exact hc)]
      split at q
      · rename_i fl2 h2 es
        rw [none_, hs p k _ _ _ _ es]
        cases ho : offFl i fl2 with
        | none => rw [ho] at q; exact nomatch q
        | some fl3 =>
          rw [ho] at q
          cases q
          show (offFl i (shFl p.length fl2)).map _ = _
          rw [sh_off ho]
          rfl
      · cases q
    · cases q
  · rename_i no
    rw [hb p e h _ _ q]
    cases r with
    | ex c k e1 => exact absurd q (no c k e1 h')
    | _ => rfl
theorem sh_mTryOn {c : Nat} {mb ms : AS} (hb : ShS mb) (hs : ShS ms) : ShS (mTryOn c mb ms) := fun p e h r h' q => by
  unfold mTryOn at q ⊢
  split at q
  · rename_i c' k e1 h1 eb
    rw [hb p e h _ _ eb]
    split at q
    · rename_i hc
      show (if c' = c then _ else _) = _
      rw [if_pos hc]
      split at q
      · rename_i fl2 h2 es
        rw [hs p _ _ _ _ es]
        cases ho : onFl fl2 with
        | none => rw [ho] at q; exact nomatch q
        | some fl3 =>
          rw [ho] at q
          cases q
          show (onFl (shFl p.length fl2)).map _ = _
          rw [sh_on ho]
          rfl
      · cases q
    · cases q
  · rename_i no
    rw [hb p e h _ _ q]
    cases r with
    | ex c k e1 => exact absurd q (no c k e1 h')
    | _ => rfl
end SL
/-! SH8: shift laws of sorted. -/
namespace SL
open PySem PySem.Spec PySem.W PyProof.Rows L2
theorem each_map {α β : Type} {f : α → β} : ∀ xs : List α, EachIs (fun x y => y = f x) xs (xs.map f)
  | [] => .nil
  | x :: xs => .cons rfl (each_map xs)
theorem map_each {α β : Type} {f : α → β} : ∀ {xs : List α} {ys : List β}, EachIs (fun x y => y = f x) xs ys → ys = xs.map f
  | _, _, .nil => rfl
  | _, _, .cons a b => by rw [a, map_each b]; rfl
theorem sortD_map {α β : Type} {f : α → β} {xs : List α} {ds : List PyData} (l : xs.length = ds.length) : sortD (xs.map f) ds = (sortD xs ds).map f := map_each (sortD_each l (each_map xs))
theorem tupKs_sh {s : Nat} {kvs : List (List Key × AV)} : (tupKs kvs).map (shV s) = tupKs (shP s kvs) := by
  unfold tupKs shP
  simp only [List.map_map]
  apply List.map_congr_left
  intro q _
  show shV s (.tup (q.1.map kA)) = .tup (q.1.map kA)
  rw [shV_tup, shV_kAs]
theorem kDs_sh {s : Nat} {kvs : List (List Key × AV)} : ((shP s kvs).map fun p => kDs p.1) = kvs.map fun p => kDs p.1 := by
  unfold shP
  rw [List.map_map]
  rfl
theorem sh_fSorted : ShFL fSorted := fun p xs h v h' q => by
  unfold fSorted at q
  split at q
  · rename_i i
    have keyed : ∀ {kvs : List (List Key × AV)}, (if sortableB (kvs.map fun p => kDs p.1) = true then some (AV.ref h.length, h ++ [.lst (sortD (tupKs kvs) (kvs.map fun p => kDs p.1))]) else none) = some (v, h') →
        (if sortableB ((shP p.length kvs).map fun p => kDs p.1) = true then some (AV.ref (shH p h).length, shH p h ++ [.lst (sortD (tupKs (shP p.length kvs)) ((shP p.length kvs).map fun p => kDs p.1))]) else none) = some (shV p.length v, shH p h') := by
      intro kvs q
      split at q
      · rename_i b
        cases q
        rw [kDs_sh, if_pos b, ← tupKs_sh, sortD_map (by rw [tupKs, List.length_map, List.length_map])]
        simp only [shH_len, shH_app, shV_ref, shO, List.map_cons, List.map_nil]
      · cases q
    unfold fSorted
    simp only [List.map_cons, List.map_nil, shV_ref, shH_get]
    split at q
    · rename_i ys hi
      rw [hi]
      split at q
      · rename_i ds ed
        split at q
        · rename_i b
          cases q
          simp only [Option.map_some, shO, toD0s_sh (rfD_sh 12), ed, b, if_true, shH_len, shH_app, shV_ref, List.map_cons, List.map_nil, sortD_map (toD0s_len ed)]
        · cases q
      · cases q
    · rename_i kvs hi
      rw [hi]
      exact keyed q
    · rename_i kvs hi
      rw [hi]
      exact keyed q
    · cases q
  · cases q
end SL
/-! SH9: shift law of dict comprehensions. -/
namespace SL
open PySem PySem.Spec PyProof.Rows L2
theorem isD_sh {tp : Bool} {p h : List AO} {d : Nat} : isD tp (p.length + d) (shH p h) = isD tp d h := by
  unfold isD
  rw [shH_get]
  cases h[d]? with
  | none => rfl
  | some o => cases o <;> rfl
theorem sh_dcL {tp : Bool} {I : AI} {g : AG} {t : AEnv → AM Bool} {ek ev : AE} {d : Nat} {e : AEnv} (hg : ShG g) (ht : ShB t) (hk : ShE ek) (hv : ShE ev) : ∀ (f i : Nat) (p h h' : List AO), dcL tp I g t ek ev d e f i h = some h' →
    dcL tp (shI p.length I) g t ek ev (p.length + d) (shE p.length e) f i (shH p h) = some (shH p h')
  | 0, i, p, h, h', q => by cases q
  | f + 1, i, p, h, h', q => by
    unfold dcL at q ⊢
    rw [at_sh]
    cases z : I.at i h with
    | none => rw [z] at q; exact nomatch q
    | some o =>
      rw [z] at q
      cases o with
      | none => cases q; rfl
      | some v =>
        dsimp only [Option.map] at q ⊢
        cases zg : g v e h with
        | none => rw [zg] at q; exact nomatch q
        | some w =>
          obtain ⟨e1, h1⟩ := w
          rw [zg] at q
          rw [hg p v e h _ _ zg]
          dsimp only at q ⊢
          split at q
          · rename_i h2 zt
            rw [ht p e1 h1 _ _ zt]
            exact sh_dcL hg ht hk hv f (i + 1) p h2 h' q
          · rename_i h2 zt
            rw [ht p e1 h1 _ _ zt]
            dsimp only [shR, id]
            split at q
            · rename_i y h3 zk
              rw [hk p e1 h2 _ _ zk]
              dsimp only [shR]
              split at q
              · rename_i w h4 zv
                rw [hv p e1 h3 _ _ zv]
                dsimp only [shR]
                split at q
                · rename_i o eo
                  split at eo
                  · rename_i isd
                    rw [isD_sh, if_pos isd, dpA_sh eo]
                    dsimp only
                    rw [← shH_set]
                    exact sh_dcL hg ht hk hv f (i + 1) p _ h' q
                  · exact nomatch eo
                · exact nomatch q
              · exact nomatch q
            · exact nomatch q
          · exact nomatch q
theorem sh_mDc {tp : Bool} {N : Nat} {vs : List Nat} {mi : AEnv → AM AI} {g : AG} {t : AEnv → AM Bool} {ek ev : AE} (hi : ShIt mi) (hg : ShG g) (ht : ShB t) (hk : ShE ek) (hv : ShE ev) : ShE (mDc tp N vs mi g t ek ev) := fun p e h r h' q => sh_bnd (fb := shV p.length) (hi p e h) (fun I h1 r h' q => by
  cases z : dcL tp I g t ek ev h1.length (awipe e vs) N 0 (h1 ++ [dc0 tp]) with
  | none => rw [z] at q; exact nomatch q
  | some h2 =>
    rw [z] at q
    cases q
    have run := sh_dcL hg ht hk hv N 0 p _ _ z
    rw [shE_wipe, shH_app] at run
    have e2 : List.map (shO p.length) [dc0 tp] = [dc0 tp] := by cases tp <;> rfl
    rw [e2] at run
    rw [shH_len, run]
    simp [shR]) q
end SL
/-! SHA: shift law of instances made with keywords. -/
namespace SL
open PySem PySem.Spec PyProof.Rows L2
theorem sh_mMakeK {c : Nat} {m : List AV → AM AV} {ma mk : AEnv → AM (List AV)} (hm : ShM m) (ha : ShL ma) (hk : ShL mk) : ShE (mMakeK c m (fun vs zs => vs ++ zs) ma mk) := fun p e h r h' q =>
  sh_bnd (fb := shV p.length) (ha p e h) (fun vs h1 r h' q => sh_bnd (fb := shV p.length) (hk p e h1) (fun zs h2 r h' q => sh_bnd (fb := shV p.length) (fa := shV p.length) (m := m (.ref h2.length :: vs ++ zs) (h2 ++ [.ins c []])) (fun r h' z => by
    have y := hm p _ _ r h' z
    rw [shH_app] at y
    simp only [List.map_append, List.map_cons, shV_ref, List.map_nil] at y
    rw [shH_len]
    exact y) (fun v h3 r h' q => by
    cases v with
    | non => cases q; simp [shR]
    | _ => cases q) q) q) q
end SL
/-! EQ1: == and != of dicts, of any keys; != of lists, within one model. -/
namespace EQX
open PySem PySem.Spec PyProof.Rows
open PySem.SeqAt (EqP)
section
variable {prog : Program} {w : World} {A : Around} {E : Value → Shared → Prop} {s : Shared} {a b : Addr} {oa ob : Obj} {es fs : Array DictEntry} {ep eq : Nat} {g : Nat → Bool}
/-- entry i's key is found at j (or nowhere); g i tells whether the two values are equal -/
def FindsAll (prog : Program) (w : World) (A : Around) (s : Shared) (b : Addr) (es fs : Array DictEntry) (g : Nat → Bool) : Prop := ∀ (i : Nat) (hi : i < es.size), ∃ f : Option Nat,
  (∀ (E : Value → Shared → Prop) (Q : Option Nat → Shared → Prop), Q f s → wpAny (model prog w) A (dictFind b es[i].key es[i].hash) Q E s) ∧
  ((f = none ∧ g i = false) ∨ ∃ j, ∃ hj : j < fs.size, f = some j ∧ EqP prog w A s es[i].val fs[j].val (g i))
theorem pairs_ok {nm : String} {Q : Bool → Shared → Prop} (na : (a == sysModules) = false) (nb : (b == sysModules) = false) (ga : s.heap.get? a = some oa) (da : oa.data = .dict es ep) (gb : s.heap.get? b = some ob) (db : ob.data = .dict fs eq)
    (fi : es.size = fs.size → FindsAll prog w A s b es fs g) (h : Q (decide (es.size = fs.size) && (List.range' 0 es.size).all g) s) : wpAny (model prog w) A (Builtin.Dict.samePairs nm a b) Q E s := by
  simp only [Builtin.Dict.samePairs, Builtin.Dict.showsAll, na, nb, Bool.false_eq_true, if_false]
  apply wpAny_bind
  apply wpAny_pure
  apply wpAny_bind
  apply wpAny_pure
  apply wpAny_bind
  apply wpAny_dictEntries ga da
  apply wpAny_bind
  apply wpAny_dictEntries gb db
  by_cases hs : es.size = fs.size
  case neg =>
    have nq : (es.size != fs.size) = true := by simpa using hs
    rw [if_pos nq]
    rw [decide_eq_false hs, Bool.false_and] at h
    exact wpAny_bind (wpAny_rule <| wpAny_pure h)
  have nq : ¬ (es.size != fs.size) = true := by simpa using hs
  rw [if_neg nq]
  rw [decide_eq_true hs, Bool.true_and] at h
  have fi := fi hs
  apply wpAny_bind
  apply wpAny_dictEpoch ga da
  apply wpAny_bind
  simp only [Std.Legacy.Range.forIn_eq_forIn_range', Std.Legacy.Range.size, Nat.sub_zero, Nat.add_sub_cancel, Nat.div_one]
  apply wpAny_forIn_list _ (fun rest r t => t = s ∧ r = (none, ()) ∧ (∃ k, rest = List.range' k (es.size - k) ∧ k ≤ es.size) ∧ Q (rest.all g) s)
  case h => exact ⟨rfl, rfl, ⟨0, rfl, Nat.zero_le _⟩, h⟩
  case turn =>
    rintro k rest r t ⟨rfl, rfl, ⟨k', hk, hle⟩, hq⟩
    have lt : k' < es.size := by
      apply Nat.lt_of_le_of_ne hle
      intro z
      rw [z, Nat.sub_self] at hk
      cases hk
    have st : es.size - k' = es.size - (k' + 1) + 1 := by omega
    rw [st, List.range'_succ] at hk
    injection hk with k1 k2
    subst k1
    rw [List.all_cons] at hq
    obtain ⟨f, ask, hit⟩ := fi k lt
    apply wpAny_bind
    apply wpAny_dictEntries ga da
    rw [Array.getElem?_eq_getElem lt]
    show wpAny _ _ (holding [es[k].key, es[k].val] _ >>= _) _ _ _
    apply wpAny_bind
    apply wpAny_holding
    apply wpAny_bind
    apply ask
    rcases hit with ⟨rfl, gf⟩ | ⟨j, hj, rfl, same⟩
    · rw [gf, Bool.false_and] at hq
      apply wpAny_pure
      exact wpAny_pure <| wpAny_pure hq
    · apply wpAny_bind
      apply wpAny_dictEntries gb db
      rw [Array.getElem?_eq_getElem hj]
      apply wpAny_holding
      apply same
      cases gk : g k with
      | false =>
        rw [gk, Bool.false_and] at hq
        exact wpAny_pure <| wpAny_pure hq
      | true =>
        rw [gk, Bool.true_and] at hq
        change wpAny _ _ (if (!true) = true then _ else _) _ _ _
        rw [if_neg (fun z => nomatch z)]
        apply wpAny_bind
        apply wpAny_dictEpoch ga da
        rw [if_neg (by simp)]
        exact wpAny_pure ⟨rfl, rfl, ⟨k + 1, k2, lt⟩, hq⟩
  case fin =>
    rintro r t ⟨rfl, rfl, ⟨k, hk, hle⟩, hq⟩
    exact wpAny_pure hq
/-- a dict as it stands -/
structure DAt (s : Shared) (a : Addr) (es : Array DictEntry) : Prop where
  no : (a == sysModules) = false
  at_ : ∃ o ep, s.heap.get? a = some o ∧ o.data = .dict es ep
  ty : s.TypeIs (.ref a) "dict"
variable {Q : Value → Shared → Prop}
theorem eq_dicts (x : DAt s a es) (y : DAt s b fs) (hu : A.units < cLine) (fi : es.size = fs.size → FindsAll prog w A.in1 s b es fs g) (h : Q (.bool (decide (es.size = fs.size) && (List.range' 0 es.size).all g)) s) : wpAny (model prog w) A (richCompare .Eq (.ref a) (.ref b)) Q E s := by
  obtain ⟨oa, ep, ga, da⟩ := x.at_
  obtain ⟨ob, eq, gb, db⟩ := y.at_
  apply wpAny_richCompare_same_room (op := .Eq) x.ty y.ty PySem.F.slot_dict_eq _ hu
  apply wpAny_call_entry PySem.F.slot_dict_eq x.ty PySem.F.entry_dict_eq _ (PySem.F.args_dict_eq_2 _ _)
  apply wpAny_bind (m := Builtin.Dict.dictSlotArgs "__eq__" ⟨[.ref a, .ref b], []⟩)
  apply wpAny_bind
  apply wpAny_notOrdered_dict x.ty
  apply wpAny_pure (a := (Value.ref a, Value.ref b))
  apply wpAny_bind
  apply wpAny_isInstance (T := "dict") y.ty PySem.F.sub_dict_dict
  simp only [Bool.false_eq_true, Bool.not_true, if_false]
  apply wpAny_bind
  apply wpAny_pure
  apply wpAny_bind
  apply wpAny_pure
  apply wpAny_bind
  apply pairs_ok x.no y.no ga da gb db fi
  refine wpAny_pure ⟨_, rfl, ?noNI, ?val⟩
  case noNI => exact fun z => nomatch z
  case val => simpa using h
theorem ne_dicts (x : DAt s a es) (y : DAt s b fs) (hu : A.units < cLine) (fi : es.size = fs.size → FindsAll prog w A.in1 s b es fs g) (h : Q (.bool (!(decide (es.size = fs.size) && (List.range' 0 es.size).all g))) s) : wpAny (model prog w) A (richCompare .NotEq (.ref a) (.ref b)) Q E s := by
  obtain ⟨oa, ep, ga, da⟩ := x.at_
  obtain ⟨ob, eq, gb, db⟩ := y.at_
  apply wpAny_richCompare_same_room (op := .NotEq) x.ty y.ty PySem.F.slot_dict_ne _ hu
  apply wpAny_call_entry PySem.F.slot_dict_ne x.ty PySem.F.entry_dict_ne _ (PySem.F.args_dict_ne_2 _ _)
  apply wpAny_bind (m := Builtin.Dict.dictSlotArgs "__ne__" ⟨[.ref a, .ref b], []⟩)
  apply wpAny_bind
  apply wpAny_notOrdered_dict x.ty
  apply wpAny_pure (a := (Value.ref a, Value.ref b))
  apply wpAny_bind
  apply wpAny_isInstance (T := "dict") y.ty PySem.F.sub_dict_dict
  simp only [Bool.false_eq_true, Bool.not_true, if_false]
  apply wpAny_bind
  apply wpAny_pure
  apply wpAny_bind
  apply wpAny_pure
  apply wpAny_bind
  apply pairs_ok x.no y.no ga da gb db fi
  refine wpAny_pure ⟨_, rfl, ?noNI, ?val⟩
  case noNI => exact fun z => nomatch z
  case val => simpa using h
end
end EQX
/-! EQ2: != of lists, within one model. -/
namespace EQX
open PySem PySem.SeqAt
open AutoSeq1 MeetsSeq MeetsSeq2 MeetsSeq3 SeqRoads2
section
variable {w : World} {prog : Program}
/-- a list as it stands -/
def LAt (s : Shared) (a : Addr) (xs : Array Value) (n : Nat) (dc : Option Addr) (sl : Array (Option Value)) : Prop := s.heap.get? a = some { cls := .type "list", dict := dc, data := .seq xs n, slots := sl }
theorem neq_loop (a b : Addr) (xs ys : Array Value) (n m : Nat) (dc de : Option Addr) (sl se : Array (Option Value)) (same : xs.size = ys.size) (g : Nat → Bool) (left : Nat) :
    ∀ at_ : Nat, xs.size - at_ = left → MeetsIn prog w (Builtin.«list.__eq__.loop» ⟨[.ref a, .ref b, rawInt at_, rawInt 3], []⟩)
      (fun A R s => LAt s a xs n dc sl ∧ LAt s b ys m de se ∧ (∀ j (h1 : j < xs.size) (h2 : j < ys.size), EqP prog w A.in1 s xs[j] ys[j] (g j)) ∧ R (.ok (.ret (.bool (!(List.range' at_ left).all g)))) s) := by
  induction left with
  | zero =>
    intro at_ none_left A R ⟨hp, gs, dr, tk, os⟩ ⟨la, lb, _, want⟩
    wp_walk using wpAny_loadPart' la, wpAny_loadPart' lb
    have out1 : xs[((at_ : Nat) : Int).toNat]? = none := by simp; omega
    have out2 : ys[((at_ : Nat) : Int).toNat]? = none := by simp; omega
    rw [out1, out2]
    wp_walk using wpAny_loadPart' la, wpAny_loadPart' lb
    show R (.ok (.ret (.bool (xs.size != ys.size)))) _
    rw [same]
    simpa using want
  | succ left ih =>
    intro at_ some_left A R ⟨hp, gs, dr, tk, os⟩ ⟨la, lb, items, want⟩
    wp_walk using wpAny_loadPart' la, wpAny_loadPart' lb
    have in1 : at_ < xs.size := by omega
    have in2 : at_ < ys.size := by omega
    have get1 : xs[((at_ : Nat) : Int).toNat]? = some xs[at_] := by simp [in1]
    have get2 : ys[((at_ : Nat) : Int).toNat]? = some ys[at_] := by simp [in2]
    have next : ((at_ : Int) + 1) = ((at_ + 1 : Nat) : Int) := by push_cast; rfl
    rw [List.range'_succ, List.all_cons] at want
    rw [get1, get2]
    refine wpAny_bind (items at_ in1 in2 _ _ ?_)
    cases eq : g at_ with
    | true =>
      rw [eq] at want
      wp_walk
      rw [next]
      refine ⟨plainId_quiet plain_eq_loop _, ?_⟩
      exact codeAny_builtin entry_eq_loop (by
        rw [Around.under_plainId plain_eq_loop]
        exact ih (at_ + 1) (by omega) A R _ ⟨la, lb, items, by simpa using want⟩)
    | false =>
      rw [eq] at want
      wp_walk using wpAny_loadPart' la, wpAny_loadPart' lb
      rw [get1, get2]
      wp_walk
      simpa using want
theorem neq_lists (a b : Addr) (xs ys : Array Value) (n m : Nat) (dc de : Option Addr) (sl se : Array (Option Value)) (same : xs.size = ys.size) (g : Nat → Bool) :
    MeetsIn prog w (Builtin.«list.__ne__» ⟨[.ref a, .ref b], []⟩)
      (fun A R s => LAt s a xs n dc sl ∧ LAt s b ys m de se ∧ (∀ j (h1 : j < xs.size) (h2 : j < ys.size), EqP prog w A.in1 s xs[j] ys[j] (g j)) ∧ R (.ok (.ret (.bool (!(List.range' 0 xs.size).all g)))) s) := by
  intro A R ⟨hp, gs, dr, tk, os⟩ ⟨la, lb, items, want⟩
  have sub := AutoSeq1.sub_list_list
  have lens : ¬ (xs.size != ys.size) = true := by simp [same]
  wp_walk using wpAny_loadPart' la, wpAny_loadPart' lb
  refine ⟨plainId_quiet plain_eq_loop _, ?_⟩
  exact codeAny_builtin entry_eq_loop (by
    rw [Around.under_plainId plain_eq_loop]
    exact neq_loop a b xs ys n m dc de sl se same g xs.size 0 (Nat.sub_zero _) A R _ ⟨la, lb, items, want⟩)
theorem ne_lists {A : Around} {s : Shared} {a b : Addr} {xs ys : Array Value} {g : Nat → Bool} (x : s.heap.IsList a xs) (y : s.heap.IsList b ys) (same : xs.size = ys.size) (hu : A.units < cLine)
    (items : ∀ j (h1 : j < xs.size) (h2 : j < ys.size), EqP prog w A.in1 s xs[j] ys[j] (g j)) (E Q : Value → Shared → Prop) (want : Q (.bool (!(List.range' 0 xs.size).all g)) s) : wpAny (model prog w) A (richCompare .NotEq (.ref a) (.ref b)) Q E s := by
  obtain ⟨⟨c1, dc, d1, sl⟩, g1, e1, n, e2⟩ := id x
  obtain ⟨⟨c2, de, d2, se⟩, g2, e3, m, e4⟩ := id y
  cases e1
  cases e2
  cases e3
  cases e4
  have ty1 : s.TypeIs (.ref a) "list" := ⟨_, g1, rfl⟩
  have ty2 : s.TypeIs (.ref b) "list" := ⟨_, g2, rfl⟩
  apply wpAny_richCompare_same_room (op := .NotEq) ty1 ty2 F.slot_list_ne _ hu
  apply call_meetsIn F.slot_list_ne ty1 F.entry_list_ne (F.args_list_ne_2 _ _) (neq_lists a b xs ys n m dc de sl se same g)
  refine ⟨g1, g2, items, ?_, want⟩
  exact fun z => nomatch z
end
end EQX
/-! EQ3: tracked dicts: where keys are found. -/
namespace EQX
open PySem PySem.Spec PyProof.Rows L2
open PySem.SeqAt (EqP)
section
variable {X : Cx} {pins : List (Addr × Obj)} {σ : L2.St} {H : Hp} {s : Shared} {A : Around} {a b : Addr} {g : Nat → Bool}
/-- entry i's value against what the other dict has under its key -/
def HitsV {κ : Type} [DecidableEq κ] (X : Cx) (A : Around) (s : Shared) (ks ls : List (κ × V)) (g : Nat → Bool) : Prop := ∀ (i : Nat) (k : κ) (x : V), ks[i]? = some (k, x) →
  (valV ls k = none ∧ g i = false) ∨ ∃ z, valV ls k = some z ∧ ∀ u w, RelV x u → RelV z w → EqP X.prog X.w A s u w (g i)
theorem pair_at {α β : Type} {R : α → β → Prop} : ∀ {l : List α} {m : List β}, Paired R l m → ∀ (i : Nat) (y : β), m[i]? = some y → ∃ x, l[i]? = some x ∧ R x y
  | _, _, .nil, _, _, e => by cases e
  | _, _, .cons h _, 0, _, e => by cases e; exact ⟨_, rfl, h⟩
  | _, _, .cons _ t, i + 1, y, e => by
    obtain ⟨x, e1, e2⟩ := pair_at t i y (by simpa using e)
    exact ⟨x, by simpa using e1, e2⟩
theorem finds_K {ks ls : List (L2.Key × V)} (I : Inv X pins σ H s) (x : Rd H a (.dK ks)) (y : Rd H b (.dK ls)) :
    ∃ es fs, DAt s a es ∧ DAt s b fs ∧ es.size = ks.length ∧ fs.size = ls.length ∧ ∀ A g, HitsV X A s ks ls g → FindsAll X.prog X.w A s b es fs g := by
  obtain ⟨_, na, vs, r1, d1⟩ := dk_rd I.hok x
  obtain ⟨_, nb, us, r2, d2⟩ := dk_rd I.hok y
  have t1 := d1.typeIs
  have t2 := d2.typeIs
  obtain ⟨oa, es, ep, ga, _, da, ka, pa, _⟩ := d1
  obtain ⟨ob, fs, eq, gb, _, db, kb, pb, _⟩ := d2
  have l1 : es.size = ks.length := by
    rw [r1.length, ← pa.length]
    exact Array.length_toList.symm
  have l2 : fs.size = ls.length := by
    rw [r2.length, ← pb.length]
    exact Array.length_toList.symm
  refine ⟨es, fs, ⟨na, ⟨oa, ep, ga, da⟩, t1⟩, ⟨nb, ⟨ob, eq, gb, db⟩, t2⟩, l1, l2, fun A g hits i hi => ?_⟩
  have iv : i < vs.length := by rw [← r1.length, ← l1]; exact hi
  obtain ⟨⟨k, x'⟩, e1, e2, e3⟩ := pair_at r1 i vs[i] (List.getElem?_eq_getElem iv)
  have e2' : k = vs[i].1 := e2
  have got : vs[i]? = some (k, vs[i].2) := by rw [List.getElem?_eq_getElem iv, e2']
  obtain ⟨isk, val⟩ := pa.get? (e := es[i]) (by rw [Array.getElem?_toList]; exact Array.getElem?_eq_getElem hi) got
  obtain ⟨k', isk', hash⟩ := ka es[i] (Array.getElem_mem hi)
  have ek : k' = k := (mixKind X.prog X.w).inj _ _ _ isk' isk
  rw [ek] at hash
  have look : findBy (mixKind X.prog X.w).is fs k = valueAt us k := by
    rw [← pb.find k]
    simp [findBy, ← Array.find?_toList]
  refine ⟨fs.findIdx? fun e => (mixKind X.prog X.w).is k e.key, fun E Q hq => ?_, ?_⟩
  · rw [hash]
    exact wpAny_dictFind_of isk gb db kb hq
  · have rel := r2.val k
    rcases hits i k x' e1 with ⟨z1, z2⟩ | ⟨z, z1, z2⟩
    · refine .inl ⟨?_, z2⟩
      rw [z1] at rel
      have no := RelO.none_of rel
      rw [← look, findBy_of_findIdx?] at no
      cases q : fs.findIdx? fun e => (mixKind X.prog X.w).is k e.key with
      | none => rfl
      | some j =>
        rw [q] at no
        obtain ⟨hj, _⟩ := Array.findIdx?_eq_some_iff_getElem.mp q
        simp [Array.getElem?_eq_getElem hj] at no
    · rw [z1] at rel
      obtain ⟨u', hu', ru⟩ := RelO.some_of rel
      rw [← look, findBy_of_findIdx?] at hu'
      cases q : fs.findIdx? fun e => (mixKind X.prog X.w).is k e.key with
      | none => rw [q] at hu'; cases hu'
      | some j =>
        rw [q] at hu'
        obtain ⟨hj, _⟩ := Array.findIdx?_eq_some_iff_getElem.mp q
        simp [Array.getElem?_eq_getElem hj] at hu'
        refine .inr ⟨j, hj, rfl, ?_⟩
        rw [hu', val]
        exact z2 _ _ e3 ru
theorem finds_T {ks ls : List (List L2.Key × V)} (I : Inv X pins σ H s) (x : Rd H a (.dT ks)) (y : Rd H b (.dT ls)) :
    ∃ es fs, DAt s a es ∧ DAt s b fs ∧ es.size = ks.length ∧ fs.size = ls.length ∧ ∀ A g, A.units < cLine → HitsV X A s ks ls g → FindsAll X.prog X.w A s b es fs g := by
  obtain ⟨_, na, xs, r1, d1⟩ := dt_rd I.hok x
  obtain ⟨_, nb, ys, r2, d2⟩ := dt_rd I.hok y
  have t1 := d1.typeIs
  have t2 := d2.typeIs
  obtain ⟨oa, es, ep, ga, _, da, ea, ia, _⟩ := d1
  obtain ⟨ob, fs, eq, gb, _, db, eb, ib, nb'⟩ := d2
  have l1 : es.size = ks.length := by
    rw [size_of_entries ea]
    exact (Paired.length r1).symm
  have l2 : fs.size = ls.length := by
    rw [size_of_entries eb]
    exact (Paired.length r2).symm
  refine ⟨es, fs, ⟨na, ⟨oa, ep, ga, da⟩, t1⟩, ⟨nb, ⟨ob, eq, gb, db⟩, t2⟩, l1, l2, fun A g hu hits i hi => ?_⟩
  have ix : i < xs.length := by rw [← size_of_entries ea]; exact hi
  have got := List.getElem?_eq_getElem ix
  obtain ⟨⟨k, x'⟩, e1, e2, _, e3⟩ := pair_at r1 i xs[i] got
  have e2' : k = xs[i].1 := e2
  have ent : es[i] = entryOfKey (tupleKind (mixKind X.prog X.w)) xs[i] := by
    have q := entry_at ea i
    rw [got, Array.getElem?_eq_getElem hi] at q
    exact Option.some.inj q
  have isk := ia xs[i] (List.getElem_mem ix)
  have key : es[i].key = .ref xs[i].2.1 := by rw [ent]; rfl
  have hash : es[i].hash = (tupleKind (mixKind X.prog X.w)).hash k := by rw [ent, e2']; rfl
  have val : es[i].val = xs[i].2.2 := by rw [ent]; rfl
  rw [← e2'] at isk
  have rel := r2.val k
  by_cases there : ∃ (j : Nat) (p : Addr × Value), ys[j]? = some (k, p)
  · obtain ⟨j, p, hj⟩ := there
    have jy : j < ys.length := (List.getElem?_eq_some_iff.mp hj).1
    have jf : j < fs.size := by rw [size_of_entries eb]; exact jy
    refine ⟨some j, fun E Q hq => ?_, .inr ⟨j, jf, rfl, ?_⟩⟩
    · rw [key, hash]
      refine wpAny_dictFind_heap (knd := tupleKind (mixKind X.prog X.w)) hu isk gb db eb ib nb' (fun no => absurd hj (no j p)) fun j' p' hj' => ?_
      rw [idxH_unique nb' hj' hj]
      exact hq
    · rw [atKey_of_get nb' hj] at rel
      have v2 : fs[j].val = p.2 := by
        have q := entry_at eb j
        rw [hj, Array.getElem?_eq_getElem jf] at q
        rw [Option.some.inj q]
        rfl
      rcases hits i k x' e1 with ⟨z1, _⟩ | ⟨z, z1, z2⟩
      · rw [z1] at rel
        exact nomatch RelO.none_of rel
      · rw [z1] at rel
        obtain ⟨u', hu', ru⟩ := RelO.some_of rel
        cases hu'
        rw [val, v2]
        exact z2 _ _ e3 ru
  · have no : ∀ (j : Nat) (p : Addr × Value), ys[j]? ≠ some (k, p) := fun j p e => there ⟨j, p, e⟩
    refine ⟨none, fun E Q hq => ?_, .inl ⟨rfl, ?_⟩⟩
    · rw [key, hash]
      exact wpAny_dictFind_heap (knd := tupleKind (mixKind X.prog X.w)) hu isk gb db eb ib nb' (fun _ => hq) fun j p e => absurd e (no j p)
    · rw [atKey_none_of_get no] at rel
      rcases hits i k x' e1 with ⟨_, z2⟩ | ⟨z, z1, _⟩
      · exact z2
      · rw [z1] at rel
        obtain ⟨_, q, _⟩ := RelO.some_of rel
        cases q
end
end EQX
/-! SM1: == and != of lists and dicts that hold dicts. -/
namespace SL
open PySem PySem.Spec PyProof.Rows L2
open PySem.SeqAt (EqP)
def allE (e : AV → AV → Option Bool) : List AV → List AV → Option Bool
  | [], [] => some true
  | x :: xs, y :: ys => match e x y, allE e xs ys with
    | some b, some c => some (b && c)
    | _, _ => none
  | _, _ => none
def hitsE {κ : Type} [DecidableEq κ] (e : AV → AV → Option Bool) (ls : List (κ × AV)) : List (κ × AV) → Option Bool
  | [] => some true
  | kv :: r => match hitsE e ls r with
    | none => none
    | some c => match valA ls kv.1 with
      | none => some false
      | some y => (e kv.2 y).map fun b => b && c
/-- two lists, two dicts -/
def eqC (e : AV → AV → Option Bool) (h : List AO) (x y : AV) : Option Bool := match x, y with
  | .ref i, .ref j => match h[i]?, h[j]? with
    | some (.lst xs), some (.lst ys) => if xs.length = ys.length then allE e xs ys else some false
    | some (.dct ks), some (.dct ls) => if ks.length = ls.length then hitsE e ls ks else some false
    | some (.dtp ks), some (.dtp ls) => if ks.length = ls.length then hitsE e ls ks else some false
    | _, _ => none
  | _, _ => none
def eqD0 (h : List AO) (x y : AV) : Option Bool := if (flatA x && flatA y) = true then some (eqF x y) else match toD h x, toD h y with
  | some d, some e => if SeqAt.shaped d && SeqAt.shaped e then some (PyData.eqv d e) else none
  | _, _ => none
def sameR : AV → AV → Bool
  | .ref i, .ref j => i == j
  | _, _ => false
def eqI : Nat → List AO → AV → AV → Option Bool
  | 0, h, x, y => eqD0 h x y
  | f + 1, h, x, y => match eqD0 h x y with
    | some b => some b
    | none => if sameR x y = true then some true else eqC (eqI f h) h x y
def cEqC (neg : Bool) : AV → AV → List AO → Option (AV × List AO) := fun x y h => (eqC (eqI 4 h) h x y).map fun b => (.bl (if neg then !b else b), h)
def cEqG (neg : Bool) := orO (cEq neg) (cEqC neg)

theorem allE_g {e : AV → AV → Option Bool} : ∀ {xs ys : List AV} {b : Bool}, allE e xs ys = some b → (∀ (j : Nat) (x y : AV), xs[j]? = some x → ys[j]? = some y → ∃ c, e x y = some c) ∧
    ∀ (k : Nat) (g : Nat → Bool), (∀ (j : Nat) (x y : AV), xs[j]? = some x → ys[j]? = some y → e x y = some (g (k + j))) → (List.range' k xs.length).all g = b
  | [], [], b, q => by
    cases q
    exact ⟨fun j x y e => by simp at e, fun k g _ => rfl⟩
  | x :: xs, y :: ys, b, q => by
    unfold allE at q
    split at q
    · rename_i b1 c1 e1 e2
      cases q
      obtain ⟨i1, i2⟩ := allE_g e2
      refine ⟨fun j x' y' z1 z2 => ?_, fun k g hg => ?_⟩
      · cases j with
        | zero => cases z1; cases z2; exact ⟨_, e1⟩
        | succ j => exact i1 j x' y' (by simpa using z1) (by simpa using z2)
      · rw [List.length_cons, List.range'_succ, List.all_cons]
        have h0 := hg 0 x y rfl rfl
        rw [e1] at h0
        cases h0
        rw [i2 (k + 1) g fun j x' y' z1 z2 => by
          have := hg (j + 1) x' y' (by simpa using z1) (by simpa using z2)
          rw [this]
          congr 2
          omega]
        rfl
    · cases q
  | [], _ :: _, _, q => by cases q
  | _ :: _, [], _, q => by cases q
theorem hitsE_g {κ : Type} [DecidableEq κ] {e : AV → AV → Option Bool} {ls : List (κ × AV)} : ∀ {ks : List (κ × AV)} {b : Bool}, hitsE e ls ks = some b → (∀ (j : Nat) (kv : κ × AV) (y : AV), ks[j]? = some kv → valA ls kv.1 = some y → ∃ c, e kv.2 y = some c) ∧
    ∀ (k : Nat) (g : Nat → Bool), (∀ (j : Nat) (kv : κ × AV), ks[j]? = some kv → (valA ls kv.1 = none → g (k + j) = false) ∧ ∀ y, valA ls kv.1 = some y → e kv.2 y = some (g (k + j))) → (List.range' k ks.length).all g = b
  | [], b, q => by
    cases q
    exact ⟨fun j kv y e => by simp at e, fun k g _ => rfl⟩
  | kv :: r, b, q => by
    unfold hitsE at q
    split at q
    · cases q
    · rename_i c e2
      obtain ⟨i1, i2⟩ := hitsE_g e2
      have tail : ∀ (k : Nat) (g : Nat → Bool), (∀ (j : Nat) (kv' : κ × AV), (kv :: r)[j]? = some kv' → (valA ls kv'.1 = none → g (k + j) = false) ∧ ∀ y, valA ls kv'.1 = some y → e kv'.2 y = some (g (k + j))) → (List.range' (k + 1) r.length).all g = c := fun k g hg =>
        i2 (k + 1) g fun j kv' z => by
          have := hg (j + 1) kv' (by simpa using z)
          rw [show k + 1 + j = k + (j + 1) by omega]
          exact this
      split at q
      · rename_i ev
        cases q
        refine ⟨fun j kv' y z1 z2 => ?_, fun k g hg => ?_⟩
        · cases j with
          | zero => cases z1; rw [ev] at z2; cases z2
          | succ j => exact i1 j kv' y (by simpa using z1) z2
        · rw [List.length_cons, List.range'_succ, List.all_cons, show g k = false from (hg 0 kv rfl).1 ev]
          rfl
      · rename_i y ev
        cases ee : e kv.2 y with
        | none => rw [ee] at q; cases q
        | some b1 =>
          rw [ee] at q
          cases q
          refine ⟨fun j kv' y' z1 z2 => ?_, fun k g hg => ?_⟩
          · cases j with
            | zero => cases z1; rw [ev] at z2; cases z2; exact ⟨_, ee⟩
            | succ j => exact i1 j kv' y' (by simpa using z1) z2
          · rw [List.length_cons, List.range'_succ, List.all_cons, tail k g hg]
            have h0 := (hg 0 kv rfl).2 y ev
            rw [ee] at h0
            cases h0
            rfl
section
variable {G : Gx} {n : Nat} {al : Nat → Addr} {H : Hp}
theorem RF.got {κ : Type} : ∀ {ps : List (κ × AV)} {qs : List (κ × V)}, RF G n al H ps qs → ∀ (i : Nat) (k : κ) (x : V), qs[i]? = some (k, x) → ∃ v, ps[i]? = some (k, v) ∧ RA G n al H v x
  | [], [], _, i, k, x, e => by simp at e
  | (a, v) :: ps, (b, u) :: qs, h, i, k, x, e => by
    obtain ⟨e1, r, t⟩ := h
    have e1' : a = b := e1
    subst e1'
    cases i with
    | zero => cases e; exact ⟨v, rfl, r⟩
    | succ i =>
      obtain ⟨v', z1, z2⟩ := RF.got t i k x (by simpa using e)
      exact ⟨v', by simpa using z1, z2⟩
  | [], _ :: _, h, _, _, _, _ => h.elim
  | _ :: _, [], h, _, _, _, _ => h.elim
end
section
variable {G : Gx} {X : Cx} {pins : List (Addr × Obj)} {σ : L2.St} {H : Hp} {s : Shared} {al : Nat → Addr} {h : List AO} {A : Around}
/-- what e tells is what the program's own == tells -/
def Tells (X : Cx) (G : Gx) (al : Nat → Addr) (h : List AO) (H : Hp) (A : Around) (s : Shared) (e : AV → AV → Option Bool) : Prop :=
  ∀ (x y : AV) (u w : V) (u' w' : Value) (b : Bool), RA G h.length al H x u → RA G h.length al H y w → RelV u u' → RelV w w' → e x y = some b → EqP X.prog X.w A s u' w' b
def Rich (X : Cx) (A : Around) (s : Shared) (u w : Value) (b : Bool) : Prop := (∀ E (Q : Value → Shared → Prop), Q (.bool b) s → wpAny (model X.prog X.w) A (richCompare .Eq u w) Q E s) ∧
  ∀ E (Q : Value → Shared → Prop), Q (.bool (!b)) s → wpAny (model X.prog X.w) A (richCompare .NotEq u w) Q E s
theorem rich_dicts {κ : Type} [DecidableEq κ] {e : AV → AV → Option Bool} {ks ls : List (κ × AV)} {ws us : List (κ × V)} {a c : Addr} {es fs : Array DictEntry} {b : Bool} (te : Tells X G al h H A.in1 s e) (hu : A.units + 1 < cLine) (r1 : RF G h.length al H ks ws) (r2 : RF G h.length al H ls us)
    (x : EQX.DAt s a es) (y : EQX.DAt s c fs) (l1 : es.size = ws.length) (l2 : fs.size = us.length) (fi : ∀ g, EQX.HitsV X A.in1 s ws us g → EQX.FindsAll X.prog X.w A.in1 s c es fs g) (q : (if ks.length = ls.length then hitsE e ls ks else some false) = some b) : Rich X A s (.ref a) (.ref c) b := by
  have n1 := r1.length
  have n2 := r2.length
  have hu' : A.units < cLine := Nat.lt_of_succ_lt hu
  by_cases hl : ks.length = ls.length
  · rw [if_pos hl] at q
    obtain ⟨q1, q2⟩ := hitsE_g q
    let g : Nat → Bool := fun j => match ks[j]? with
      | none => false
      | some kv => match valA ls kv.1 with
        | none => false
        | some z => (e kv.2 z).getD false
    have hits : EQX.HitsV X A.in1 s ws us g := fun i k x' ei => by
      obtain ⟨v, z1, z2⟩ := r1.got i k x' ei
      rcases valA_ok (k := k) r2 with ⟨z3, z4⟩ | ⟨v2, u2, z3, z4, z5⟩
      · refine .inl ⟨z4, ?_⟩
        simp only [g, z1, z3]
      · obtain ⟨c', hc⟩ := q1 i (k, v) v2 z1 z3
        refine .inr ⟨u2, z4, fun u w ru rw => ?_⟩
        have hg : g i = c' := by
          simp only [g, z1, z3]
          rw [hc]
          rfl
        rw [hg]
        exact te v v2 _ _ u w c' z2 z5 ru rw hc
    have all : (List.range' 0 es.size).all g = b := by
      rw [l1, ← n1]
      refine q2 0 g fun j kv z => ⟨fun z2 => ?_, fun y z2 => ?_⟩
      · simp only [Nat.zero_add, g, z, z2]
      · obtain ⟨c', hc⟩ := q1 j kv y z z2
        simp only [Nat.zero_add, g, z, z2, hc]
        rfl
    have lens : decide (es.size = fs.size) = true := decide_eq_true (by omega)
    refine ⟨fun E Q hq => EQX.eq_dicts x y hu' (fun _ => fi g hits) ?_, fun E Q hq => EQX.ne_dicts x y hu' (fun _ => fi g hits) ?_⟩
    · rw [lens, all]; exact hq
    · rw [lens, all]; exact hq
  · rw [if_neg hl] at q
    cases q
    have lens : ¬ es.size = fs.size := by omega
    have lens' : decide (es.size = fs.size) = false := decide_eq_false lens
    refine ⟨fun E Q hq => EQX.eq_dicts (g := fun _ => false) x y hu' (fun z => absurd z lens) ?_, fun E Q hq => EQX.ne_dicts (g := fun _ => false) x y hu' (fun z => absurd z lens) ?_⟩
    · rw [lens', Bool.false_and]; exact hq
    · rw [lens', Bool.false_and]; exact hq
theorem rich_C {e : AV → AV → Option Bool} {x y : AV} {u w : V} {u' w' : Value} {b : Bool} (I : Inv X pins σ H s) (hr : HR G al h H) (te : Tells X G al h H A.in1 s e) (hu : A.units + 1 < cLine) (rx : RA G h.length al H x u) (ry : RA G h.length al H y w) (ru : RelV u u') (rw' : RelV w w')
    (q : eqC e h x y = some b) : Rich X A s u' w' b := by
  unfold eqC at q
  have hu' : A.units < cLine := Nat.lt_of_succ_lt hu
  split at q
  · rename_i i j
    cases refAt rx
    cases refAt ry
    cases ru
    cases rw'
    split at q
    · rename_i xs ys hi hj
      obtain ⟨vs, e1, r1⟩ := lstAt hr hi
      obtain ⟨us, e2, r2⟩ := lstAt hr hj
      obtain ⟨its, k1, p1, _⟩ := I.list (SqL.of e1)
      obtain ⟨jts, k2, p2, _⟩ := I.list (SqL.of e2)
      have n1 := r1.length
      have n2 := r2.length
      have m1 := k1.length
      have m2 := k2.length
      by_cases hl : xs.length = ys.length
      · rw [if_pos hl] at q
        obtain ⟨q1, q2⟩ := allE_g q
        let g : Nat → Bool := fun j => match xs[j]?, ys[j]? with
          | some x, some y => (e x y).getD false
          | _, _ => false
        have sz : its.toArray.size = jts.toArray.size := by rw [List.size_toArray, List.size_toArray]; omega
        have items : ∀ t (h1 : t < its.toArray.size) (h2 : t < jts.toArray.size), EqP X.prog X.w A.in1 s its.toArray[t] jts.toArray[t] (g t) := fun t h1 h2 => by
          have t1 : t < its.length := by simpa using h1
          have t2 : t < jts.length := by simpa using h2
          have g1 : xs[t]? = some xs[t] := List.getElem?_eq_getElem (by omega)
          have g2 : ys[t]? = some ys[t] := List.getElem?_eq_getElem (by omega)
          obtain ⟨v1, a1, b1⟩ := r1.get g1
          obtain ⟨v2, a2, b2⟩ := r2.get g2
          obtain ⟨o1, c1, d1⟩ := k1.get a1
          obtain ⟨o2, c2, d2⟩ := k2.get a2
          rw [List.getElem?_eq_getElem t1] at c1
          rw [List.getElem?_eq_getElem t2] at c2
          obtain ⟨c', hc⟩ := q1 t _ _ g1 g2
          have hg : g t = c' := by
            simp only [g, g1, g2, hc]
            rfl
          rw [hg]
          simp only [List.getElem_toArray]
          cases c1
          cases c2
          exact te _ _ _ _ _ _ c' b1 b2 d1 d2 hc
        have all : (List.range' 0 its.toArray.size).all g = b := by
          rw [show its.toArray.size = xs.length by rw [List.size_toArray]; omega]
          refine q2 0 g fun j x y z1 z2 => ?_
          obtain ⟨c', hc⟩ := q1 j x y z1 z2
          simp only [Nat.zero_add, g, z1, z2, hc]
          rfl
        refine ⟨fun E Q hq => SeqAt.rcP_lists p1.isList p2.isList sz hu' items E Q ?_, fun E Q hq => EQX.ne_lists p1.isList p2.isList sz hu' items E Q ?_⟩
        · rw [List.range_eq_range', all]; exact hq
        · rw [all]; exact hq
      · rw [if_neg hl] at q
        cases q
        have sz : (its.toArray.size != jts.toArray.size) = true := by
          simp only [List.size_toArray, bne_iff_ne]
          omega
        exact ⟨fun E Q hq => SeqAt.RcAt.lists_lengths p1.isList p2.isList sz hu' X.prog X.w E Q hq, fun E Q hq => SeqAt.RcNeAt.lists_lengths p1.isList p2.isList sz hu' X.prog X.w E Q hq⟩
    · rename_i ks ls hi hj
      obtain ⟨ws, e1, r1⟩ := dctAt hr hi
      obtain ⟨us, e2, r2⟩ := dctAt hr hj
      obtain ⟨es, fs, d1, d2, l1, l2, fi⟩ := EQX.finds_K I (.inl e1) (.inl e2)
      exact rich_dicts te hu r1 r2 d1 d2 l1 l2 (fun g => fi A.in1 g) q
    · rename_i ks ls hi hj
      obtain ⟨ws, e1, r1⟩ := (hr.ob i _ hi : ∃ ws, H (al i) = some (.dT ws) ∧ RF G h.length al H ks ws)
      obtain ⟨us, e2, r2⟩ := (hr.ob j _ hj : ∃ ws, H (al j) = some (.dT ws) ∧ RF G h.length al H ls ws)
      obtain ⟨es, fs, d1, d2, l1, l2, fi⟩ := EQX.finds_T I (.inl e1) (.inl e2)
      exact rich_dicts te hu r1 r2 d1 d2 l1 l2 (fun g => fi A.in1 g hu) q
    · cases q
  · cases q
theorem tells_0 (I : Inv X pins σ H s) (hK : X.K = G.K) (hr : HR G al h H) (hu : A.units + 64 < cLine) : Tells X G al h H A s (eqD0 h) := by
  intro x y u w u' w' b rx ry ru rw' q
  unfold eqD0 at q
  split at q
  · rename_i f
    rw [Bool.and_eq_true] at f
    cases q
    rw [← eqF_ok rx ry f.1 f.2]
    exact (eqAt_V ru rw' (flat_ok rx f.1) (flat_ok ry f.2)).eqP
  · split at q
    · rename_i d1 d2 e1 e2
      split at q
      · rename_i hs
        cases q
        rw [Bool.and_eq_true] at hs
        have D1 := toD_ok hr rx e1
        have D2 := toD_ok hr ry e2
        rw [← hK] at D1 D2
        obtain ⟨as, p1⟩ := Dp.reads I d1 u u' D1 ru
        obtain ⟨bs, p2⟩ := Dp.reads I d2 w w' D2 rw'
        exact (SeqAt.eqAt_reads d1 d2 A s u' w' as bs p1 p2 (SeqAt.canLay_of_shaped hs.1) (SeqAt.canLay_of_shaped hs.2) (SeqAt.room_of_shaped hs.1 hu)).eqP
      · cases q
    · cases q
theorem tells_I (I : Inv X pins σ H s) (hK : X.K = G.K) (hr : HR G al h H) : ∀ (f : Nat) (A : Around), A.units + f + 64 < cLine → Tells X G al h H A s (eqI f h)
  | 0, A, hu => tells_0 I hK hr hu
  | f + 1, A, hu => by
    intro x y u w u' w' b rx ry ru rw' q
    unfold eqI at q
    split at q
    · rename_i b' e1
      cases q
      exact tells_0 I hK hr (by omega) x y u w u' w' b rx ry ru rw' e1
    · split at q
      · rename_i hs
        cases q
        unfold sameR at hs
        split at hs
        · rename_i i j hq0
          have ij : i = j := by simpa using hs
          subst ij
          cases refAt rx
          cases refAt ry
          cases ru
          cases rw'
          exact (SeqAt.EqAt.same _).eqP
        · cases hs
      · rename_i hs
        have R := rich_C (A := A) I hr (tells_I I hK hr f A.in1 (by show A.units + 1 + f + 64 < cLine; omega)) (by omega) rx ry ru rw' q
        unfold eqC at q
        split at q
        · rename_i i j hq0
          cases refAt rx
          cases refAt ry
          cases ru
          cases rw'
          refine SeqAt.eqP_refs (fun ea => ?_) R.1
          have go : ∀ {oi oj : AO}, h[i]? = some oi → h[j]? = some oj → oi.trk = true → oj.trk = true → False := fun hi hj ti tj => hs (by
            have := hr.inj i j _ _ hi hj ti tj ea
            simp [sameR, this])
          split at q
          · rename_i hi hj; exact go hi hj rfl rfl
          · rename_i hi hj; exact go hi hj rfl rfl
          · rename_i hi hj; exact go hi hj rfl rfl
          · cases q
        · cases q
end
section
variable {G : Gx} {X : Cx} {k : Nat}
def rEqX (X : Cx) (neg : Bool) : R2 := fun x y H Q => ∃ b, Q (.bl (if neg then !b else b)) H ∧ ∀ pins s σ, Inv X pins σ H s → ∀ u w, RelV x u → RelV y w → Rich X X.A s u w b
theorem op_eqX : OpR X (compareOp .Eq) (rEqX X false) := by
  intro pins s σ H x y v u Q I rx ry ⟨b, q, r⟩
  exact (r pins s σ I v u rx ry).1 _ _ ⟨.bl b, H, I, rfl, q⟩
theorem op_neX : OpR X (compareOp .NotEq) (rEqX X true) := by
  intro pins s σ H x y v u Q I rx ry ⟨b, q, r⟩
  exact (r pins s σ I v u rx ry).2 _ _ ⟨.bl (!b), H, I, rfl, q⟩
theorem snd_eqC {neg : Bool} (hK : X.K = G.K) (hu : X.A.units + 70 < cLine) : SndO G (rEqX X neg) (cEqC neg) := by
  intro H al h x y u w v h' Q hr rx ry e q
  unfold cEqC at e
  cases ee : eqC (eqI 4 h) h x y with
  | none => rw [ee] at e; cases e
  | some b =>
    rw [ee] at e
    cases e
    refine ⟨b, q al H _ .refl hr .bl, fun pins s σ I u' w' ru rw' => ?_⟩
    exact rich_C I hr (tells_I I hK hr 4 X.A.in1 (by show X.A.units + 1 + 4 + 64 < cLine; omega)) (by omega) rx ry ru rw' ee
theorem snd_eqG (hK : X.K = G.K) (hu : X.A.units + 70 < cLine) : SndO G (fun x y H Q => (rEq x y H Q ∨ rEqD G.K x y H Q) ∨ rEqX X false x y H Q) (cEqG false) := snd_eq.or (snd_eqC hK hu)
theorem snd_neG (hK : X.K = G.K) (hu : X.A.units + 70 < cLine) : SndO G (fun x y H Q => (rNe x y H Q ∨ rNeD G.K x y H Q) ∨ rEqX X true x y H Q) (cEqG true) := snd_ne.or (snd_eqC hK hu)
theorem o_eqG (hr : Room k X.A) : OpR X (compareOp .Eq) (fun x y H Q => (rEq x y H Q ∨ rEqD X.K x y H Q) ∨ rEqX X false x y H Q) := (o_eq hr).or op_eqX
theorem o_neG (hr : Room k X.A) : OpR X (compareOp .NotEq) (fun x y H Q => (rNe x y H Q ∨ rNeD X.K x y H Q) ∨ rEqX X true x y H Q) := (o_ne hr).or op_neX
end
end SL
/-! SM2: empty dicts, dict(d), d.pop(k), lists repeated, isinstance of own classes, static methods, attributes as targets. -/
namespace SL
open PySem PySem.Spec PyProof.Rows L2
section
variable {G : Gx} {X : Cx} {W : WX} {pos : Pos}
theorem FwV.newO {al : Nat → Addr} {h : List AO} {H : Hp} {o : AO} {u : HO} {p : Addr} {n0 : Nat} {al0 : Nat → Addr} {H0 : Hp} {Q : VK} (x : Ext n0 al0 H0 h.length al H) (hr : HR G al h H) (hp : H p = none)
    (w : OR G (h.length + 1) (ext1 al h.length p) (upd H p u) p o) (q : FwV G n0 al0 H0 (.ref h.length) (h ++ [o]) Q) : Q (.ref p) (upd H p u) := by
  have hl : (h ++ [o]).length = h.length + 1 := by rw [List.length_append, List.length_singleton]
  have r : RA G (h ++ [o]).length (ext1 al h.length p) (upd H p u) (.ref h.length) (.ref (ext1 al h.length p h.length)) := .ref (by rw [hl]; omega)
  rw [ext1_at] at r
  exact q (ext1 al h.length p) _ _ (x.trans (by rw [hl]; exact ext_new hp)) (hr.new hp w) r
/-- {} -/
def mDnew : AE := fun _ h => some (.ok (.ref h.length), h ++ [.dct []])
theorem se_dnew : SE G X W (.Dict [] [] pos) mDnew := ⟨_, pe_dnewK, by
  intro σ H al e h r h' Q hr er hm q
  cases hm
  exact fun p hp => FwV.newO (o := .dct []) .refl hr hp ⟨[], upd_same, True.intro⟩ q⟩
/-- dict(d) -/
def fDictC : List AV → List AO → Option (AV × List AO) := fun xs h => match xs with
  | [.ref i] => match h[i]? with
    | some (.dct kvs) => some (.ref h.length, h ++ [.dct kvs])
    | some (.ldk kvs) => some (.ref h.length, h ++ [.dct kvs])
    | _ => none
  | _ => none
def rDictC : List V → Hp → VK → Prop := fun xs H Q => ∃ (a : Addr) (kvs : List (L2.Key × V)), xs = [.ref a] ∧ Rd H a (.dK kvs) ∧ ∀ p, H p = none → Q (.ref p) (upd H p (.dK kvs))
theorem snd_dictC : SndC G rDictC fDictC := by
  intro H al h xs us v h' Q hr rs e q
  unfold fDictC at e
  split at e
  · rename_i i
    obtain ⟨u, rfl, ru⟩ := one_of rs
    cases refAt ru
    split at e
    · rename_i kvs hi
      cases e
      obtain ⟨ws, e1, rf⟩ := dctAt hr hi
      exact ⟨al i, ws, rfl, .inl e1, fun p hp => FwV.newO (o := .dct kvs) .refl hr hp ⟨ws, upd_same, rf.mono (ext_new hp)⟩ q⟩
    · rename_i kvs hi
      cases e
      obtain ⟨od, ws, e1, rf⟩ := (hr.ob i _ hi : ∃ od ws, H (al i) = some (.frz od (.dK ws)) ∧ RF G h.length al H kvs ws)
      exact ⟨al i, ws, rfl, .inr ⟨od, e1⟩, fun p hp => FwV.newO (o := .dct kvs) .refl hr hp ⟨ws, upd_same, rf.mono (ext_new hp)⟩ q⟩
    · cases e
  · cases e
theorem se_dictC {e : Expr} {ma : AEnv → AM (List AV)} {p : Pos} (hm : X.mg "dict" = none) (ha : SA G X W [e] ma) (hg : Gl X "dict" := by rfl) (he : starEach [e] X.env = (false, eval e X.env) :: starEach [] X.env := by rfl) (hpl : (backTo pos (starEach [] X.env)).any (·.1) = false := by rfl) :
    SE G X W (.Call (.Name "dict" p) [e] [] pos) (mC1 fDictC ma) := se_callTy (r := rDictC) call_dictD snd_dictC hm (by decide +kernel) ha hg (by decide) (by decide) he hpl
/-- l * k -/
def oRep : AV → AV → List AO → Option (AV × List AO) := fun x y h => match x, y with
  | .ref i, .int k => match h[i]? with
    | some (.lst xs) => if 0 ≤ k ∧ k ≤ 1000 ∧ xs.length ≤ 1000 then some (.ref h.length, h ++ [.lst (List.replicate k.toNat xs).flatten]) else none
    | _ => none
  | _, _ => none
theorem RAs.rep {n : Nat} {al : Nat → Addr} {H : Hp} {xs : List AV} {us : List V} (r : RAs G n al H xs us) : ∀ k : Nat, RAs G n al H (List.replicate k xs).flatten (List.replicate k us).flatten
  | 0 => .nil
  | k + 1 => by
    simp only [List.replicate_succ, List.flatten_cons]
    exact r.append (r.rep k)
theorem snd_rep : SndO G rRep oRep := by
  intro H al h x y u w v h' Q hr rx ry e q
  unfold oRep at e
  split at e
  · rename_i i k
    split at e
    · rename_i xs hi
      split at e
      · rename_i hk
        cases e
        obtain ⟨vs, e1, r1⟩ := lstAt hr hi
        cases ry
        have l1 := r1.length
        refine ⟨al i, k, vs, refAt rx, rfl, e1, by omega, by omega, ?_, fun p hp => FwV.newL .refl hr hp (r1.rep _) q⟩
        have b1 : vs.length ≤ 1000 := by omega
        have b2 : k.toNat ≤ 1000 := by omega
        have b3 := Nat.mul_le_mul b1 b2
        rw [sizeLine_eq]
        omega
      · cases e
    · cases e
  · cases e
def oMulA := orO oMul oRep
theorem se_mulA {a b : Expr} {ma mb : AE} (ha : SE G X W a ma) (hb : SE G X W b mb) : SE G X W (.BinOp a .Mult b pos) (m2 oMulA ma mb) := se_bin (op_mulS.or op_rep) (snd_mul.or snd_rep) ha hb
/-- d.pop(k), k there -/
def dropA {κ : Type} [DecidableEq κ] (kvs : List (κ × AV)) (k : κ) : List (κ × AV) := kvs.filter fun kv => decide (kv.1 ≠ k)
theorem dropA_ok {n : Nat} {al : Nat → Addr} {H : Hp} {κ : Type} [DecidableEq κ] {k : κ} : ∀ {ps : List (κ × AV)} {qs : List (κ × V)}, RF G n al H ps qs → RF G n al H (dropA ps k) (L2.dropK qs k)
  | [], [], _ => True.intro
  | (a, v) :: ps, (b, u) :: qs, h => by
    obtain ⟨e, r, t⟩ := h
    have e' : a = b := e
    subst e'
    have t' := dropA_ok (k := k) t
    unfold dropA L2.dropK at t' ⊢
    simp only [List.filter_cons]
    by_cases c : a ≠ k
    · rw [if_pos (decide_eq_true c), if_pos (decide_eq_true c)]
      exact ⟨rfl, r, t'⟩
    · rw [if_neg (fun z => c (of_decide_eq_true z)), if_neg (fun z => c (of_decide_eq_true z))]
      exact t'
  | [], _ :: _, h => h.elim
  | _ :: _, [], h => h.elim
def isDc (h : List AO) : AV → Bool
  | .ref i => match h[i]? with
    | some (.dct _) => true
    | _ => false
  | _ => false
def fDpop (x y : AV) (h : List AO) : Option (AV × List AO) := match x with
  | .ref i => match h[i]?, keyA y with
    | some (.dct kvs), some k => match valA kvs k with
      | some v => some (v, h.set i (.dct (dropA kvs k)))
      | none => none
    | _, _ => none
  | _ => none
def mDpop (mo mk : AE) : AE := fun e h => bnd (mo e h) fun x h1 => if isDc h1 x = true then bnd (mk e h1) fun y h2 => match fDpop x y h2 with
  | some (v, h3) => some (.ok v, h3)
  | none => none
  else none
theorem se_dpop {o k : Expr} {mo mk : AE} {apos cpos : Pos} (ho : SE G X W o mo) (hk : SE G X W k mk) (m : M1 X o "pop" apos k cpos := by exact ⟨rfl, rfl, rfl, rfl⟩) : SE G X W (.Call (.Attribute o "pop" apos) [k] [] cpos) (mDpop mo mk) := by
  obtain ⟨to, po, so⟩ := ho
  obtain ⟨tk, pk, sk⟩ := hk
  refine ⟨_, pe_dpop1 po pk m, ?_⟩
  intro σ H al e h r h' Q hr er hm q
  rcases bnd_some hm with ⟨cc, kk, e1, rfl⟩ | ⟨x, h1, e1, e2⟩
  · exact so σ H al e h _ _ _ hr er e1 q
  · refine so σ H al e h _ _ _ hr er e1 ?_
    intro al1 H1 u x1 hr1 r1
    split at e2
    · rename_i hd
      unfold isDc at hd
      split at hd
      · rename_i i
        split at hd
        · rename_i kvs0 hi0
          obtain ⟨ws0, e0, _⟩ := dctAt hr1 hi0
          refine ⟨al1 i, refAt r1, .inl ⟨ws0, .inl e0⟩, ?_⟩
          rcases bnd_some e2 with ⟨cc, kk, e3, rfl⟩ | ⟨y, h2, e3, e4⟩
          · exact sk σ H1 al1 e h1 _ _ _ hr1 (er.mono x1) e3 (PoE.after (r := .ex cc kk) (Q := fun _ _ => True) x1 q)
          · refine sk σ H1 al1 e h1 _ _ _ hr1 (er.mono x1) e3 ?_
            intro al2 H2 w x2 hr2 r2
            split at e4
            · rename_i v h3 e5
              cases e4
              unfold fDpop at e5
              dsimp only at e5
              split at e5
              · rename_i kvs key hi ek
                split at e5
                · rename_i v' ev
                  cases e5
                  obtain ⟨ws, e6, rf⟩ := dctAt hr2 hi
                  have ew := keyA_ok r2 ek
                  rcases valA_ok (k := key) rf with ⟨z, _⟩ | ⟨v2, u2, z1, z2, z3⟩
                  · rw [ev] at z; cases z
                  · rw [ev] at z1
                    cases z1
                    have E := ext_put (u := .dK (L2.dropK ws key)) hr2 hi rfl
                    have ai : al2 i = al1 i := by
                      have lt : i < h1.length := (List.getElem?_eq_some_iff.mp hi0).1
                      exact x2.al i lt
                    rw [ai] at e6
                    refine ⟨ws, key, u2, e6, ew, z2, ?_⟩
                    rw [← ai]
                    refine q al2 _ u2 ?_ (hr2.put hi rfl rfl ⟨_, upd_same, RF.mono E (dropA_ok rf)⟩) ?_
                    · rw [List.length_set]; exact (x1.trans x2).trans E
                    · rw [List.length_set]; exact z3.mono E
                · cases e5
              · cases e5
            · cases e4
        · cases hd
      · cases hd
    · cases e2
/-- isinstance(e, C), e of C -/
def oIsC (c : Nat) : AV → List AO → Option (AV × List AO) := fun x h => match x with
  | .ref i => match h[i]? with
    | some (.ins d _) => if d = c then some (.bl true, h) else none
    | _ => none
  | _ => none
theorem se_isC {c : Nat} {e : Expr} {x : Str} {me : AE} {p p2 : Pos} (hK : X.K = G.K) (hm : X.mg "isinstance" = none) (hmC : X.mg x = some (.ref (G.cl c))) (ic : C8.InsC G.K (G.cl c)) (he : SE G X W e me) (hg : Gl X "isinstance" := by rfl) (hgC : Gl X x := by rfl) (hd : (x == ("__debug__" : Str)) = false := by decide)
    (hst : starEach [e, .Name x p2] X.env = (false, eval e X.env) :: starEach [.Name x p2] X.env := by rfl) (hst2 : starEach [.Name x p2] X.env = (false, eval (.Name x p2) X.env) :: starEach [] X.env := by rfl) (hpl : (backTo pos (starEach [.Name x p2] X.env)).any (·.1) = false := by rfl) :
    SE G X W (.Call (.Name "isinstance" p) [e, .Name x p2] [] pos) (m1 (oIsC c) me) := by
  obtain ⟨t, pe, s⟩ := he
  refine ⟨_, pe_callB (C8.call_isC (hK ▸ ic)) hg hm (by decide +kernel) (pa_cons pe (pa_cons (pe_glob (v := .ref (G.cl c)) hgC hmC rfl hd) pa_nil hst2) hst) (by decide) (by decide) hst hpl, ?_⟩
  intro σ H al en h r h' Q hr er hm q
  rcases bnd_some hm with ⟨cc, k, e1, rfl⟩ | ⟨y, h1, e1, e2⟩
  · exact s σ H al en h _ _ _ hr er e1 q
  · refine s σ H al en h _ _ _ hr er e1 ?_
    intro al1 H1 u x1 hr1 r1
    unfold oIsC at e2
    cases y with
    | ref i =>
      dsimp only at e2
      split at e2
      · rename_i v3 h3 e3
        cases e2
        split at e3
        · rename_i d fs hi
          split at e3
          · rename_i hd
            cases e3
            subst hd
            obtain ⟨dx, gs, e4, _⟩ := insAt hr1 hi
            exact ⟨al1 i, dx, gs, by rw [refAt r1], e4, q al1 H1 _ x1 hr1 .bl⟩
          · cases e3
        · cases e3
      · cases e2
    | _ => cases e2
/-! ### C.f(..), f a static method -/
section
variable {k np : Nat} {f C pr : Addr} {fd : FuncData} {ps : List Str} {sp : Sp} {m : List AV → AM AV} {dvs : List V} {davs : List AV} {ds : List Value} {x nm : Str} {p apos : Pos} {e : Expr} {es : List Expr}
/-- C.nm is a static method: its record at pr, its def at f -/
structure StM (Z : PySem.W.Frag) (C : Addr) (nm : Str) (pr f : Addr) : Prop where
  rd : ∃ mc, PySem.W.readsIn Z C mc = true ∧ PySem.W.findCls Z (.ref C) mc nm = some (.get (.builtin "staticmethod.__get__") (.ref pr) .none (.ref C))
  ga : PySem.W.specialIn Z (.ref C) "__getattribute__" = some (some (.builtin "type.__getattribute__"))
  rc : ∃ rest, PySem.W.recIn Z pr "staticmethod" = some (.ref f :: rest)
  kp : PySem.W.keepIn Z (.ref f) = true
theorem getst_ok {pins : List (Addr × Obj)} {σ : L2.St} {H : Hp} {s : Shared} {A : Around} {E : Value → Shared → Prop} {pl : Sem Bool} {Q : Value × List Value → Shared → Prop} (I : Inv X pins σ H s) (S : StM X.K C nm pr f) (h : ∀ s', Inv X pins σ H s' → Q (.ref f, []) s') :
    wpAny (model X.prog X.w) A (getMethod (.ref C) nm pl) Q E s := by
  obtain ⟨mc, r1, r2⟩ := S.rd
  obtain ⟨rest, r3⟩ := S.rc
  apply PySem.W.method_cls I.kIn S.ga
  apply PySem.W.cls_bind I.kIn r1 r2
  apply wpAny_call
  apply PySem.W.sm_get (s := { s with toks := s.toks + 1 }) I.kIn r3
  exact PySem.W.handed_on rfl (h _ (I.tok _))
theorem pe_st {pl : Sem Bool} {t : TA} {E : L2.St → XK} (hg : Gl X x) (hmC : X.mg x = some (.ref C)) (hd : (x == ("__debug__" : Str)) = false) (S : StM X.K C nm pr f) (F : FnG X.prog X.w X.K X.mg X.base k f fd ps sp) (hr : Room k X.A) (hgu : X.A.guards = some []) (hb : Binds X.K fd ps ds) (hdv : Vals dvs ds) (hx : ∀ σ, PassesAt (L2.CX X.prog X.w) X σ (E σ)) (ha : PA X (e :: es) t)
    (hst : starEach (e :: es) X.env = (false, eval e X.env) :: starEach es X.env := by rfl) (hpl : (backTo pos (starEach es X.env)).any (·.1) = false := by rfl)
    (ht : eval (.Call (.Attribute (.Name x p) nm apos) (e :: es) [] pos) X.env = (do
      let ov ← eval (.Name x p) X.env
      standAt apos.atName
      let (f, first) ← holding [ov] (getMethod ov nm pl)
      callWith pos f first (backTo pos (starEach (e :: es) X.env)) (backToKw pos (keywordEach [] X.env))) := by rfl) :
    PE X (.Call (.Attribute (.Name x p) nm apos) (e :: es) [] pos) (fun σ H Q => t σ H fun vs H1 => sp (vs ++ dvs) H1 Q (E σ)) := by
  constructor
  intro pins s σ H Q I h
  have pc : PE X (.Name x p) (tC (.ref C)) := pe_glob hg hmC rfl hd
  apply PySem.W.methodCall_KW (pl := pl) _ ht
  apply thn (pc.run pins s σ H (fun v H' => v = .ref C ∧ H' = H) I ⟨rfl, rfl⟩)
  rintro u s1 ⟨v, H1, I1, ru, rfl, rfl⟩
  cases (show u = Value.ref C from ru)
  apply getst_ok I1 S
  intro s2 I2
  apply PySem.W.callWith_K (first := []) (h₀ := X.base) I2.ok.mod.kin S.kp _ hst hpl
  apply thn (ha.run pos pins s2 σ _ _ I2 h)
  rintro us s3 ⟨vs, H3, I3, r3, q3⟩
  exact ⟨I3.kIn, run_fnG (us := us) (vs := vs) F hr hgu hb hdv (hx σ) I3 r3 q3⟩
theorem pe_st0 {pl : Sem Bool} {E : L2.St → XK} (hg : Gl X x) (hmC : X.mg x = some (.ref C)) (hd : (x == ("__debug__" : Str)) = false) (S : StM X.K C nm pr f) (F : FnG X.prog X.w X.K X.mg X.base k f fd ps sp) (hr : Room k X.A) (hgu : X.A.guards = some []) (hb : Binds X.K fd ps ds) (hdv : Vals dvs ds) (hx : ∀ σ, PassesAt (L2.CX X.prog X.w) X σ (E σ))
    (ht : eval (.Call (.Attribute (.Name x p) nm apos) [] [] pos) X.env = (do
      let ov ← eval (.Name x p) X.env
      standAt apos.atName
      let fw ← holding [ov] (getMethod ov nm pl)
      callWith pos fw.1 fw.2 (backTo pos (starEach [] X.env)) (backToKw pos (keywordEach [] X.env))) := by rfl) :
    PE X (.Call (.Attribute (.Name x p) nm apos) [] [] pos) (fun σ H Q => tNil σ H fun vs H1 => sp (vs ++ dvs) H1 Q (E σ)) := by
  constructor
  intro pins s σ H Q I h
  have pc : PE X (.Name x p) (tC (.ref C)) := pe_glob hg hmC rfl hd
  apply PySem.W.methodCall_KW (pl := pl) _ ht
  apply thn (pc.run pins s σ H (fun v H' => v = .ref C ∧ H' = H) I ⟨rfl, rfl⟩)
  rintro u s1 ⟨v, H1, I1, ru, rfl, rfl⟩
  cases (show u = Value.ref C from ru)
  apply getst_ok I1 S
  intro s2 I2
  apply PySem.W.callWith_K0 (first := []) I2.kIn S.kp
  exact run_fnG (us := []) (vs := []) F hr hgu hb hdv (hx σ) I2 .nil h
end
end
end SL
/-! SM3: f(), C.f(), len(o) by an own __len__, == and != by an own __eq__, attributes as targets. -/
namespace OWX
open PySem PySem.Spec PyProof.Rows
section
variable {prog : Program} {w : World} {A : Around} {E : Value → Shared → Prop} {s : Shared} {K : PySem.W.Frag} {x y C f : Addr} {ox oy : Obj} {od oe : Option Obj}
/-- x.__ne__, object's, bound -/
theorem bound_ne {M : Model} {args : List Value} {Q : Option Value → Shared → Prop} (X : K.In s.heap) (I : PySem.W.InstAt s.heap x ox C od) (hs : PySem.W.findIn K (.ref C) "__ne__" = some (some (.builtin "object.__ne__")))
    (h : wpAny M A (call (.builtin "object.__ne__") (.ref x :: args)) (fun v => Q (some v)) E s) : wpAny M A (callSpecialIfBound? (.ref x) "__ne__" args) Q E s := by
  unfold callSpecialIfBound? bindSpecialIfBound?
  have fin : wpAny M A (call (.builtin "object.__ne__") ([.ref x] ++ args) >>= fun v => pure (some v)) Q E s := by
    apply wpAny_bind
    apply wpAny_mono h
    · exact fun v t q => wpAny_pure q
    · exact fun _ _ q => q
  apply wpAny_holding
  apply wpAny_bind
  apply wpAny_bind
  apply wpAny_bind
  apply I.type.here
  apply (PySem.W.looks_findIn X hs).here
  apply wpAny_bind
  apply wpAny_askSetting
  apply wpAny_ite
  have bnd := F.cmp_object.ne.bind (.ref x)
  split
  · apply wpAny_bind
    apply wpAny_of_eq bnd
    apply wpAny_pure
    exact fin
  · apply wpAny_tryCatch
    apply wpAny_bind
    apply wpAny_of_eq bnd
    apply wpAny_pure
    exact fin
/-- what object.__ne__ does where the class has an own __eq__ -/
theorem body_ne {Q : Fin → Shared → Prop} (X : K.In s.heap) (I : PySem.W.InstAt s.heap x ox C od) (hs : PySem.W.findIn K (.ref C) "__eq__" = some (some (.ref f))) (hf : PySem.W.isFn K (.ref f) = true) (hu : A.units < cLine)
    (h : wpAny (model prog w) A (call (.ref f) [.ref x, .ref y]) (fun v t => ∃ b, v = .bool b ∧ Q (.done (.ret (.bool (!b)))) t) E s) : wpAny (model prog w) A (Builtin.«object.__ne__» ⟨[.ref x, .ref y], []⟩) Q E s := by
  delta Builtin.«object.__ne__»
  repeat (first
    | (with_reducible refine wpAny_cRoomFor hu ?_)
    | (refine wpAny_bind (m := callSpecialIfBound? (.ref x) (Str.ofString "__eq__") [.ref y]) (PySem.W.ifBound_K X I hs hf (wpAny_mono h (fun v t q => ?back) fun _ _ e => e))
       obtain ⟨b, rfl, q⟩ := q
       repeat (first | exact q | exact wpAny_pure q | exact wpAny_truthy_bool q | (refine wpAny_bind (m := truthy (.bool _)) (wpAny_truthy_bool ?_)) | wp_step))
    | wp_step)
theorem ne_own {Q : Value → Shared → Prop} (hu : A.units + 1 < cLine) (X : K.In s.heap) (I : PySem.W.InstAt s.heap x ox C od) (J : PySem.W.InstAt s.heap y oy C oe) (hn : PySem.W.findIn K (.ref C) "__ne__" = some (some (.builtin "object.__ne__"))) (hm : PySem.W.mroIn K C (.type "object") = some true)
    (hs : PySem.W.findIn K (.ref C) "__eq__" = some (some (.ref f))) (hf : PySem.W.isFn K (.ref f) = true)
    (h : wpAny (model prog w) A.in1 (call (.ref f) [.ref x, .ref y]) (fun v t => ∃ b, v = .bool b ∧ Q (.bool (!b)) t) E s) : wpAny (model prog w) A (richCompare .NotEq (.ref x) (.ref y)) Q E s := by
  have one : wpAny (model prog w) A (tryCompare (.ref x) "__ne__" (.ref y)) (fun r t => ∃ v, r = some v ∧ Q v t) E s := by
    unfold tryCompare
    apply wpAny_bind
    apply bound_ne X I hn
    apply wpAny_call
    apply codeAny_call_builtin F.cmp_object.ne.plain F.cmpEntry_ne
    apply PySem.W.check_slot F.cmpKind_ne F.cmpSplit_ne (I.type.andThen (PySem.W.looks_mroIn X hm)) (F.cmpArgs_ne _ _)
    apply body_ne (A := A.in1) X I hs hf hu
    apply wpAny_mono h
    · rintro v t ⟨b, rfl, q⟩
      exact ⟨b, rfl, wpAny_pure ⟨_, rfl, q⟩⟩
    · exact fun _ _ e => e
  have room : A.units < cLine := by omega
  have sameT : (Value.ref C != Value.ref C) = false := by simp
  unfold richCompare
  simp only [oneThing_ref]
  apply wpAny_holding
  apply wpAny_bind
  apply wpAny_cRoomFor room
  rw [cmpInfo_NotEq]
  dsimp only
  apply wpAny_bind
  apply I.type.here
  apply wpAny_bind
  apply J.type.here
  rw [sameT]
  simp only [if_false, Bool.false_eq_true]
  apply wpAny_bind
  apply wpAny_pure
  simp only [if_false, Bool.false_eq_true]
  apply wpAny_bind
  apply wpAny_mono one
  · rintro r t ⟨v, rfl, q⟩
    exact wpAny_pure q
  · exact fun _ _ e => e
end
end OWX
namespace SL
open PySem PySem.Spec PyProof.Rows L2
section
variable {G : Gx} {X : Cx} {W : WX} {pos : Pos} {k np : Nat} {f C pr : Addr} {fd : FuncData} {ps : List Str} {sp : Sp} {m : List AV → AM AV} {dvs : List V} {davs : List AV} {ds : List Value} {x nm : Str} {p apos : Pos} {e : Expr} {es : List Expr} {c : Nat}
/-- f() -/
theorem se_call0 (F : FnG X.prog X.w X.K X.mg X.base k f fd ps (spG G np m)) (hr : Room k X.A) (hgu : X.A.guards = some []) (hm : X.mg x = some (.ref f)) (hk : PySem.W.keepIn X.K (.ref f) = true) (hb : Binds X.K fd ps ds) (hd : Vals dvs ds) (hda : ∀ n al H, RAs G n al H davs dvs) (tk : Takes X W)
    (hna : davs.length = np) (hg : Gl X x := by rfl) (hdb : (x == ("__debug__" : Str)) = false := by decide) : SE G X W (.Call (.Name x p) [] [] pos) (mCall m davs mNil) := by
  refine ⟨fun σ H Q => tNil σ H fun vs H1 => spG G np m (vs ++ dvs) H1 Q (WE W σ), ⟨fun pins s σ H Q I h => ?_⟩, ?_⟩
  · apply wpAny_Call_Name_kw (ld_glob I hg hm _ hdb)
    apply PySem.W.callWith_K0 (first := []) I.kIn hk
    exact run_fnG (us := []) (vs := []) F hr hgu hb hd (passAt tk σ) I .nil h
  · intro σ H al en h r h' Q hR er em q
    exact spG_in (avs := davs) hna .refl hR (hda _ _ _) em q
theorem se_st (hmC : X.mg x = some (.ref C)) (S : StM X.K C nm pr f) (F : FnG X.prog X.w X.K X.mg X.base k f fd ps (spG G np m)) (hr : Room k X.A) (hgu : X.A.guards = some []) (hb : Binds X.K fd ps ds) (hd : Vals dvs ds) (hda : ∀ n al H, RAs G n al H davs dvs) (tk : Takes X W)
    {ma : AEnv → AM (List AV)} {pl : Sem Bool} (hna : (e :: es).length + davs.length = np) (hla : ∀ en h vs h', ma en h = some (.ok vs, h') → vs.length = (e :: es).length) (ha : SA G X W (e :: es) ma) (hg : Gl X x := by rfl) (hdb : (x == ("__debug__" : Str)) = false := by decide)
    (hst : starEach (e :: es) X.env = (false, eval e X.env) :: starEach es X.env := by rfl) (hpl : (backTo pos (starEach es X.env)).any (·.1) = false := by rfl)
    (ht : eval (.Call (.Attribute (.Name x p) nm apos) (e :: es) [] pos) X.env = (do
      let ov ← eval (.Name x p) X.env
      standAt apos.atName
      let (f, first) ← holding [ov] (getMethod ov nm pl)
      callWith pos f first (backTo pos (starEach (e :: es) X.env)) (backToKw pos (keywordEach [] X.env))) := by rfl) : SE G X W (.Call (.Attribute (.Name x p) nm apos) (e :: es) [] pos) (mCall m davs ma) := by
  obtain ⟨t, pa, sa⟩ := ha
  refine ⟨_, pe_st (pl := pl) hg hmC hdb S F hr hgu hb hd (fun σ => passAt tk σ) pa hst hpl ht, ?_⟩
  intro σ H al en h r h' Q hR er em q
  rcases bnd_some em with ⟨c, kk, e1, rfl⟩ | ⟨vs, h1, e1, e2⟩
  · exact sa σ H al en h _ _ _ hR er e1 q
  · refine sa σ H al en h _ _ _ hR er e1 fun al1 H1 us x1 hr1 r1 => ?_
    exact spG_in (by rw [List.length_append, hla _ _ _ _ e1]; exact hna) x1 hr1 (r1.append (hda _ _ _)) e2 q
theorem se_st0 (hmC : X.mg x = some (.ref C)) (S : StM X.K C nm pr f) (F : FnG X.prog X.w X.K X.mg X.base k f fd ps (spG G np m)) (hr : Room k X.A) (hgu : X.A.guards = some []) (hb : Binds X.K fd ps ds) (hd : Vals dvs ds) (hda : ∀ n al H, RAs G n al H davs dvs) (tk : Takes X W) {pl : Sem Bool}
    (hna : davs.length = np) (hg : Gl X x := by rfl) (hdb : (x == ("__debug__" : Str)) = false := by decide)
    (ht : eval (.Call (.Attribute (.Name x p) nm apos) [] [] pos) X.env = (do
      let ov ← eval (.Name x p) X.env
      standAt apos.atName
      let fw ← holding [ov] (getMethod ov nm pl)
      callWith pos fw.1 fw.2 (backTo pos (starEach [] X.env)) (backToKw pos (keywordEach [] X.env))) := by rfl) : SE G X W (.Call (.Attribute (.Name x p) nm apos) [] [] pos) (mCall m davs mNil) := by
  refine ⟨_, pe_st0 (pl := pl) hg hmC hdb S F hr hgu hb hd (fun σ => passAt tk σ) ht, ?_⟩
  intro σ H al en h r h' Q hR er em q
  exact spG_in (avs := davs) hna .refl hR (hda _ _ _) em q
/-! ### own methods that the interpreter calls; none of them raises -/
theorem run_quiet {pins : List (Addr × Obj)} {σ : L2.St} {H : Hp} {s : Shared} {us : List Value} {vs : List V} {Q : VK} {R : Value → Shared → Prop} (I : Inv X pins σ H s) (F : FnG X.prog X.w X.K X.mg X.base k f fd ps sp) (hr : Room (k + 1) X.A) (hgu : X.A.guards = some []) (hb : Binds X.K fd ps [])
    (hl : us.length = ps.length) (r : Vals vs us) (q : sp vs H Q fun _ _ _ => False) : wpAny (model X.prog X.w) X.A.in1 (call (.ref f) us) (EP X pins σ Q) R s := by
  have bd := hb s us I.kIn (by simpa using hl)
  rw [List.append_nil] at bd
  apply wpAny_call
  apply codeAny_mono (F.run X.A.in1 X.stack s H ⟨us, []⟩ us vs Q (fun _ _ _ => False) hr.in1 (in1_guards.trans hgu) I.env0.in1 bd r q)
  intro ans t hq
  match ans, hq with
  | .error er, hq =>
    have ⟨_, _, _, _, _, _, _, _, _, _, _, _, no⟩ := (show L2.CX X.prog X.w X.stack H s (fun _ _ _ => False) er t from hq)
    exact no.elim
  | .ok (.ret u), hq => exact I.after hq
  | .ok .next, hq => exact hq.elim
  | .ok .brk, hq => exact hq.elim
  | .ok .cont, hq => exact hq.elim
/-- len(o) -/
def rLenO (C : Addr) (sp : Sp) : List V → Hp → VK → Prop := fun xs H Q => ∃ a dx fs, xs = [.ref a] ∧ H a = some (.ins C dx fs) ∧ sp [.ref a] H (fun v H' => ∃ n : Int, v = .int n ∧ 0 ≤ n ∧ n < 2 ^ 63 ∧ Q (.int n) H') fun _ _ _ => False
theorem call_lenO (F : FnG X.prog X.w X.K X.mg X.base k f fd ps sp) (hr : Room (k + 1) X.A) (hgu : X.A.guards = some []) (hb : Binds X.K fd ps []) (hp : ps.length = 1) (hs : PySem.W.findIn X.K (.ref C) "__len__" = some (some (.ref f))) (hf : PySem.W.isFn X.K (.ref f) = true) : CallR X (.builtin "len") (rLenO C sp) := by
  intro pins s σ H xs us Q I r ⟨a, dx, fs, ex, ea, q⟩
  subst ex
  obtain ⟨u, eu, rx⟩ := vals1 r
  subst eu
  obtain rfl : u = Value.ref a := rx
  have ⟨_, O, _⟩ := ins_get I.hok ea
  have ⟨_, J, _⟩ := O.look
  have ⟨_, fr⟩ := I.fr
  apply PySem.W.len_K fr I.ok.mod.kin J hs hf
  apply wpAny_mono (run_quiet (us := [.ref a]) I F hr hgu hb hp.symm r q)
  · rintro v t ⟨z, H1, I1, rz, n, rfl, n0, n1, q1⟩
    obtain ⟨tk, rfl⟩ := (show ∃ tk, v = Value.int n tk from rz)
    exact ⟨⟨n0, n1⟩, .int n, H1, I1.tok _, ⟨_, rfl⟩, q1⟩
  · exact fun _ _ e => e
def fLenO (c : Nat) (m : List AV → AM AV) : List AV → List AO → Option (AV × List AO) := fun xs h => match xs with
  | [.ref i] => match h[i]? with
    | some (.ins d _) => if d = c then match m [.ref i] h with
      | some (.ok (.int n), h1) => if 0 ≤ n ∧ n < 2 ^ 63 then some (.int n, h1) else none
      | _ => none
      else none
    | _ => none
  | _ => none
theorem snd_lenO : SndC G (rLenO (G.cl c) (spG G 1 m)) (fLenO c m) := by
  intro H al h xs us v h' Q hr rs e q
  unfold fLenO at e
  split at e
  · rename_i i
    obtain ⟨u, rfl, ru⟩ := one_of rs
    split at e
    · rename_i d fs hi
      split at e
      · rename_i hd
        subst hd
        split at e
        · rename_i n h1 em
          split at e
          · rename_i hn
            cases e
            obtain ⟨dx, gs, e4, _⟩ := insAt hr hi
            refine ⟨al i, dx, gs, by rw [refAt ru], e4, al, h, [.ref i], .ok (.int n), h', hr, .cons (by have := ru; rw [refAt ru] at this; exact this) .nil, rfl, em, ?_⟩
            intro al' H' u' x hr' r'
            cases r'
            exact ⟨n, rfl, hn.1, hn.2, q al' H' _ x hr' .int⟩
          · cases e
        · cases e
      · cases e
    · cases e
  · cases e
theorem se_lenO {a : Expr} {ma : AEnv → AM (List AV)} (F : FnG X.prog X.w X.K X.mg X.base k f fd ps (spG G 1 m)) (hr : Room (k + 1) X.A) (hgu : X.A.guards = some []) (hb : Binds X.K fd ps []) (hs : PySem.W.findIn X.K (.ref (G.cl c)) "__len__" = some (some (.ref f))) (hf : PySem.W.isFn X.K (.ref f) = true) (hp : ps.length = 1) (hm : X.mg "len" = none) (ha : SA G X W [a] ma)
    (hg : Gl X "len" := by rfl) (he : starEach [a] X.env = (false, eval a X.env) :: starEach [] X.env := by rfl) (hpl : (backTo pos (starEach [] X.env)).any (·.1) = false := by rfl) : SE G X W (.Call (.Name "len" p) [a] [] pos) (mC1 (fLenO c m) ma) :=
  se_callB (call_lenO F hr hgu hb hp hs hf) snd_lenO hm boot_len ha hg (by decide) (by decide) he hpl
/-- o == o', o != o' -/
def rOwn (C : Addr) (sp : Sp) (neg : Bool) : R2 := fun x y H Q => ∃ a b dx dy fs gs, x = .ref a ∧ y = .ref b ∧ H a = some (.ins C dx fs) ∧ H b = some (.ins C dy gs) ∧ sp [x, y] H (fun v H' => ∃ t, v = .bl t ∧ Q (.bl (if neg then !t else t)) H') fun _ _ _ => False
structure OwnEq (Z : PySem.W.Frag) (C f : Addr) : Prop where
  eq : PySem.W.findIn Z (.ref C) "__eq__" = some (some (.ref f))
  fn : PySem.W.isFn Z (.ref f) = true
  ne : PySem.W.findIn Z (.ref C) "__ne__" = some (some (.builtin "object.__ne__"))
  mr : PySem.W.mroIn Z C (.type "object") = some true
theorem op_own (O : OwnEq X.K C f) (F : FnG X.prog X.w X.K X.mg X.base k f fd ps sp) (hr : Room (k + 1) X.A) (hgu : X.A.guards = some []) (hb : Binds X.K fd ps []) (hp : ps.length = 2) : OpR X (compareOp .Eq) (rOwn C sp false) := by
  intro pins s σ H x y v u Q I rx ry ⟨a, b, dx, dy, fs, gs, ex, ey, ea, eb, q⟩
  subst ex ey
  have rs : Vals [V.ref a, V.ref b] [v, u] := .cons rx (.cons ry .nil)
  cases (show v = .ref a from rx)
  cases (show u = .ref b from ry)
  have ⟨_, P, _⟩ := ins_get I.hok ea
  have ⟨_, J, _⟩ := P.look
  have ⟨_, P', _⟩ := ins_get I.hok eb
  have ⟨_, J', _⟩ := P'.look
  have ⟨_, fr⟩ := I.fr
  have sm : PySem.W.notFirst X.K C (.ref C) = true := by simp [PySem.W.notFirst]
  apply PySem.W.cmp_K (op := .Eq) (tb := .ref C) (hu0 hr) fr I.ok.mod.kin J J'.type sm O.eq O.fn
  have hr' : Room k X.A := hr.mono (Nat.le_succ _)
  have no : PassesAt (L2.CX X.prog X.w) X σ fun _ _ _ => False := fun pins H s er t _ hq => by
    have ⟨_, _, _, _, _, _, _, _, _, _, _, _, no⟩ := (show L2.CX X.prog X.w X.stack H s (fun _ _ _ => False) er t from hq)
    exact no.elim
  apply wpAny_mono (run_fnG (ds := []) (dvs := []) F hr' hgu hb .nil no I rs q)
  · rintro v t ⟨z, H1, I1, rz, tt, rfl, q1⟩
    obtain rfl : v = Value.bool tt := rz
    exact ⟨.bl tt, H1, I1, rfl, q1⟩
  · exact fun _ _ e => e
theorem op_ownNe (O : OwnEq X.K C f) (F : FnG X.prog X.w X.K X.mg X.base k f fd ps sp) (hr : Room (k + 1) X.A) (hgu : X.A.guards = some []) (hb : Binds X.K fd ps []) (hp : ps.length = 2) : OpR X (compareOp .NotEq) (rOwn C sp true) := by
  intro pins s σ H x y v u Q I rx ry ⟨a, b, dx, dy, fs, gs, ex, ey, ea, eb, q⟩
  subst ex ey
  have rs : Vals [V.ref a, V.ref b] [v, u] := .cons rx (.cons ry .nil)
  cases (show v = .ref a from rx)
  cases (show u = .ref b from ry)
  have ⟨_, P, _⟩ := ins_get I.hok ea
  have ⟨_, J, _⟩ := P.look
  have ⟨_, P', _⟩ := ins_get I.hok eb
  have ⟨_, J', _⟩ := P'.look
  apply OWX.ne_own (hu1 hr) I.kIn J J' O.ne O.mr O.eq O.fn
  apply wpAny_mono (run_quiet (us := [.ref a, .ref b]) I F hr hgu hb hp.symm rs q)
  · rintro v t ⟨z, H1, I1, rz, tt, rfl, q1⟩
    obtain rfl : v = Value.bool tt := rz
    exact ⟨tt, rfl, .bl (!tt), H1, I1, rfl, q1⟩
  · exact fun _ _ e => e
def oOwn (c : Nat) (m : List AV → AM AV) (neg : Bool) : AV → AV → List AO → Option (AV × List AO) := fun x y h => match x, y with
  | .ref i, .ref j => match h[i]?, h[j]? with
    | some (.ins d _), some (.ins d2 _) => if d = c ∧ d2 = c then match m [.ref i, .ref j] h with
      | some (.ok (.bl b), h1) => some (.bl (if neg then !b else b), h1)
      | _ => none
      else none
    | _, _ => none
  | _, _ => none
theorem snd_own {neg : Bool} : SndO G (rOwn (G.cl c) (spG G 2 m) neg) (oOwn c m neg) := by
  intro H al h x y u w v h' Q hr rx ry e q
  unfold oOwn at e
  split at e
  · rename_i i j
    split at e
    · rename_i d fs d2 gs hi hj
      split at e
      · rename_i hd
        obtain ⟨rfl, rfl⟩ := hd
        split at e
        · rename_i b h1 em
          cases e
          obtain ⟨dx, fs', e1, _⟩ := insAt hr hi
          obtain ⟨dy, gs', e2, _⟩ := insAt hr hj
          refine ⟨al i, al j, dx, dy, fs', gs', refAt rx, refAt ry, e1, e2, al, h, [.ref i, .ref j], .ok (.bl b), h', hr, .cons rx (.cons ry .nil), rfl, em, ?_⟩
          intro al' H' u' x' hr' r'
          cases r'
          exact ⟨b, rfl, q al' H' _ x' hr' .bl⟩
        · cases e
      · cases e
    · cases e
  · cases e
end
end SL
/-! SM4: list(d.items()), dict(pairs), the keys tuples; attributes as targets. -/
namespace DPX
open PySem PySem.Spec PyProof.Rows L2
/-- a new list of new tuples -/
def rowsAt (H : Hp) (l : Addr) (ts : List Addr) (rows : List (List V)) : Hp := fun b => if b = l then some (.lst (ts.map V.ref)) else match (ts.zip rows).lookup b with
  | some r => some (.tup r)
  | none => H b
theorem zip_off {β : Type} {b : Addr} : ∀ (ts : List Addr) (rs : List β), b ∉ ts → (ts.zip rs).lookup b = none
  | [], _, _ => rfl
  | _ :: _, [], _ => rfl
  | t :: ts, r :: rs, h => by
    rw [List.zip_cons_cons, List.lookup_cons]
    have ne : (b == t) = false := beq_eq_false_iff_ne.mpr fun z => h (by rw [z]; exact List.mem_cons_self)
    rw [ne]
    exact zip_off ts rs fun z => h (List.mem_cons_of_mem _ z)
theorem zip_on {β : Type} : ∀ (ts : List Addr) (rs : List β) (j : Nat) (t : Addr) (r : β), ts.Nodup → ts[j]? = some t → rs[j]? = some r → (ts.zip rs).lookup t = some r
  | [], _, j, _, _, _, e, _ => by simp at e
  | _ :: _, [], j, _, _, _, _, e => by simp at e
  | t0 :: ts, r0 :: rs, 0, t, r, _, e1, e2 => by
    cases e1
    cases e2
    rw [List.zip_cons_cons, List.lookup_cons, beq_self_eq_true]
  | t0 :: ts, r0 :: rs, j + 1, t, r, nd, e1, e2 => by
    have nd' := List.nodup_cons.mp nd
    have e1' : ts[j]? = some t := by simpa using e1
    rw [List.zip_cons_cons, List.lookup_cons]
    have ne : (t == t0) = false := beq_eq_false_iff_ne.mpr fun z => nd'.1 (by rw [← z]; exact List.mem_of_getElem? e1')
    rw [ne]
    exact zip_on ts rs j t r nd'.2 e1' (by simpa using e2)
theorem zip_at {β : Type} {b : Addr} {r : β} : ∀ (ts : List Addr) (rs : List β), (ts.zip rs).lookup b = some r → ∃ j : Nat, ts[j]? = some b ∧ rs[j]? = some r
  | [], _, e => by cases e
  | _ :: _, [], e => by cases e
  | t :: ts, r0 :: rs, e => by
    rw [List.zip_cons_cons, List.lookup_cons] at e
    by_cases c : b = t
    · subst c
      rw [beq_self_eq_true] at e
      cases e
      exact ⟨0, rfl, rfl⟩
    · rw [beq_eq_false_iff_ne.mpr c] at e
      obtain ⟨j, e1, e2⟩ := zip_at ts rs e
      exact ⟨j + 1, by simpa using e1, by simpa using e2⟩
theorem ref_vals : ∀ ts : List Addr, Vals (ts.map V.ref) (ts.map Value.ref)
  | [] => .nil
  | _ :: r => .cons rfl (ref_vals r)
section
variable {X : Cx}
theorem call_listV (hcm : X.calm = true) : CallR X (.type "list") (fun xs H Q => ∃ (p a : Addr) (kvs : List (List L2.Key × V)), xs = [.ref p] ∧ H p = some (L2.DX.itemsO p a) ∧ H a = some (.dT kvs) ∧
    ∀ (H' : Hp) (l : Addr) (ts : List Addr), (∀ b o, H b = some o → H' b = some o) → H l = none → H' l = some (.lst (ts.map V.ref)) → Paired (fun (t : Addr) (q : List L2.Key × V) => ∃ b, H b = some (.tup (q.1.map kV)) ∧ H' t = some (.tup [.ref b, q.2])) ts kvs → Q (.ref l) H') := by
  intro pins s σ H xs us Q I r ⟨p, a, kvs, ex, hp, ha, want⟩
  subst ex
  obtain ⟨u, eu, ru⟩ := vals1 r
  subst eu
  cases (show u = .ref p from ru)
  have ⟨few, notSys, ys, kt, d⟩ := dt_of I.hok ha
  obtain ⟨o, es, ep, ho, exact_, hd, he, _, _⟩ := d
  have view : s.heap.IsItemsView p a := (I.hok p _ hp).1
  have n1 : es.size = ys.length := size_of_entries he
  have n2 : kvs.length = ys.length := Paired.length kt
  apply PySem.W.dil_call (I.ok.hd hcm) view ⟨o, ho, exact_, hd⟩ (by omega)
  intro h' tk acc c as keep list_ n3 G refs
  let rows : List (List V) := (kvs.zip ys).map fun z => [V.ref z.2.2.1, z.1.2]
  have rowLen : rows.length = as.length := by
    simp only [rows, List.length_map, List.length_zip]
    omega
  have nd : as.Nodup := List.Pairwise.imp (fun {a b} (z : a < b) => Nat.ne_of_lt z) G.rise
  have offL : s.heap.objs.size ∉ as := fun z => Nat.lt_irrefl _ (G.above _ z)
  have newA : ∀ t ∈ as, H t = none := fun t ht => I.hok.fresh (Nat.le_of_lt (G.above t ht))
  have newL : H s.heap.objs.size = none := I.hok.fresh (Nat.le_refl _)
  have atL : rowsAt H s.heap.objs.size as rows s.heap.objs.size = some (.lst (as.map V.ref)) := if_pos rfl
  have atT : ∀ (j : Nat) (t : Addr) (r : List V), as[j]? = some t → rows[j]? = some r → rowsAt H s.heap.objs.size as rows t = some (.tup r) := fun j t r e1 e2 => by
    have ne : t ≠ s.heap.objs.size := fun z => offL (by rw [← z]; exact List.mem_of_getElem? e1)
    unfold rowsAt
    rw [if_neg ne, zip_on as rows j t r nd e1 e2]
  have atO : ∀ b, b ≠ s.heap.objs.size → b ∉ as → rowsAt H s.heap.objs.size as rows b = H b := fun b h1 h2 => by
    unfold rowsAt
    rw [if_neg h1, zip_off as rows h2]
  have old : ∀ b w, H b = some w → rowsAt H s.heap.objs.size as rows b = some w := fun b w e => by
    rw [atO b (fun z => by rw [z, newL] at e; cases e) fun z => by rw [newA b z] at e; cases e]
    exact e
  have rowAt : ∀ (j : Nat) (r : List V), rows[j]? = some r → ∃ (q : List L2.Key × V) (y : List L2.Key × Addr × Value), kvs[j]? = some q ∧ ys[j]? = some y ∧ r = [.ref y.2.1, q.2] ∧ q.1 = y.1 ∧ H y.2.1 = some (.tup (q.1.map kV)) ∧ RelV q.2 y.2.2 := fun j r e => by
    simp only [rows, List.getElem?_map, Option.map_eq_some_iff] at e
    obtain ⟨⟨q, y⟩, e1, e2⟩ := e
    obtain ⟨z1, z2⟩ := List.getElem?_zip_eq_some.mp e1
    obtain ⟨q', z3, z4, z5, z6⟩ := EQX.pair_at kt j y z2
    rw [z1] at z3
    cases z3
    exact ⟨q, y, z1, z2, e2.symm, z4, z5, z6⟩
  refine ⟨.ref s.heap.objs.size, rowsAt H s.heap.objs.size as rows, ?inv, rfl, want _ _ as old newL atL ?prs⟩
  case prs =>
    have go : ∀ (l1 : List Addr) (l2 : List (List L2.Key × V)), l1.length = l2.length → (∀ (j : Nat) (t : Addr) (q : List L2.Key × V), l1[j]? = some t → l2[j]? = some q → ∃ b, H b = some (.tup (q.1.map kV)) ∧ rowsAt H s.heap.objs.size as rows t = some (.tup [.ref b, q.2])) →
        Paired (fun (t : Addr) (q : List L2.Key × V) => ∃ b, H b = some (.tup (q.1.map kV)) ∧ rowsAt H s.heap.objs.size as rows t = some (.tup [.ref b, q.2])) l1 l2 := by
      intro l1
      induction l1 with
      | nil => intro l2 hl _; cases l2 with
        | nil => exact .nil
        | cons _ _ => cases hl
      | cons t l1 ih => intro l2 hl f; cases l2 with
        | nil => cases hl
        | cons q l2 => exact .cons (f 0 t q rfl rfl) (ih l2 (Nat.succ.inj hl) fun j t q e1 e2 => f (j + 1) t q (by simpa using e1) (by simpa using e2))
    refine go as kvs (by omega) fun j t q e1 e2 => ?_
    have lj : j < rows.length := by rw [rowLen]; exact (List.getElem?_eq_some_iff.mp e1).1
    obtain ⟨q', y, z1, z2, z3, z4, z5, z6⟩ := rowAt j _ (List.getElem?_eq_getElem lj)
    rw [e2] at z1
    cases z1
    exact ⟨y.2.1, z5, atT j t _ e1 (by rw [List.getElem?_eq_getElem lj, z3])⟩
  case inv =>
    refine I.call' (ch := []) rfl ?un ?ok I.bare (fun b z => by simp at z)
    · constructor
      · exact fun b o e _ _ _ => keep b o e
      · exact fun b o e _ _ _ => ⟨o.slots, keep b o e⟩
      · intro b o e n _
        have lt := Heap.lt_size e
        rw [atO b (Nat.ne_of_lt lt) fun z => absurd (G.above b z) (Nat.lt_asymm lt)]
        exact n
      · exact fun b o e _ => ⟨o, keep b o e⟩
      · exact fun b _ e => old b _ e
      · exact fun b _ _ e => old b _ e
      · exact fun b _ e => ⟨#[], by rw [old b _ e]; simp⟩
    · intro b w e
      by_cases c1 : b = s.heap.objs.size
      · subst c1
        rw [atL] at e
        cases e
        refine ⟨by rw [List.length_map]; omega, acc.toList, c, by rw [refs]; exact ref_vals as, ?_⟩
        rw [Array.toArray_toList]
        exact list_
      · by_cases c2 : b ∈ as
        · obtain ⟨j, ej⟩ := List.mem_iff_getElem?.mp c2
          have lj : j < rows.length := by rw [rowLen]; exact (List.getElem?_eq_some_iff.mp ej).1
          have er := List.getElem?_eq_getElem lj
          rw [atT j b _ ej er] at e
          cases e
          obtain ⟨q', y, z1, z2, z3, z4, z5, z6⟩ := rowAt j _ er
          obtain ⟨hj, e3⟩ := G.pairs j b ej
          have ent : es[j] = entryOfKey (tupleKind (mixKind X.prog X.w)) y := by
            have q := entry_at he j
            rw [z2, Array.getElem?_eq_getElem hj] at q
            exact Option.some.inj q
          rw [z3]
          refine ⟨by show 2 ≤ sizeLine; decide, [es[j].key, es[j].val], .cons (by rw [ent]; rfl) (.cons (by rw [ent]; exact z6) .nil), ⟨_, e3, rfl, _, rfl⟩⟩
        · rw [atO b c1 c2] at e
          exact (I.hok b w e).stay (fun d v _ y => keep d v y) (fun d y => old d _ y) fun d xs y => old d _ y
/-- what the pairs are -/
theorem pairs_are {pins : List (Addr × Obj)} {σ : L2.St} {H : Hp} {s : Shared} (I : Inv X pins σ H s) : ∀ {ts : List Addr} {kvs : List (List L2.Key × V)}, Paired (fun (t : Addr) (q : List L2.Key × V) => ∃ b, H b = some (.tup (q.1.map kV)) ∧ SqT X.K H t [.ref b, q.2]) ts kvs →
    ∃ ps : List (List L2.Key × Addr × Value), KT H kvs ps ∧ ps.length = ts.length ∧ ∀ (j : Nat) (x : List L2.Key × Addr × Value), ps[j]? = some x → ∃ t, ts[j]? = some t ∧ PairAt s.heap t (.ref x.2.1) x.2.2
  | _, _, .nil => ⟨[], .nil, rfl, fun j x e => by simp at e⟩
  | _, _, .cons (a := t) (b := q) h tl => by
    obtain ⟨ps, kt, n, f⟩ := pairs_are I tl
    obtain ⟨b, hb, ht⟩ := h
    obtain ⟨its, rv, it, _⟩ := I.tuple ht
    have ⟨u, y, ei, ru, ry⟩ := vals2 rv
    subst ei
    cases (show u = .ref b from ru)
    refine ⟨(q.1, b, y) :: ps, .cons ⟨rfl, hb, ry⟩ kt, by rw [List.length_cons, List.length_cons, n], fun j x e => ?_⟩
    cases j with
    | zero =>
      cases e
      obtain ⟨o, ho, hc, m, hd⟩ := it
      exact ⟨t, rfl, .inl ⟨o, ho, hc, m, hd⟩⟩
    | succ j =>
      obtain ⟨t', e1, e2⟩ := f j x (by simpa using e)
      exact ⟨t', by simpa using e1, e2⟩
theorem call_dictPT (hcm : X.calm = true) (hu : X.A.units + 3 < cLine) : CallR X (.type "dict") (fun xs H Q => ∃ (l : Addr) (ts : List Addr) (kvs : List (List L2.Key × V)), xs = [.ref l] ∧ SqL X.K H l (ts.map V.ref) ∧ Paired (fun (t : Addr) (q : List L2.Key × V) => ∃ b, H b = some (.tup (q.1.map kV)) ∧ SqT X.K H t [.ref b, q.2]) ts kvs ∧
    ∀ p, H p = none → Q (.ref p) (upd H p (.dT (mergeKT [] kvs)))) := by
  intro pins s σ H xs us Q I r ⟨l, ts, kvs, ex, sq, prs, want⟩
  subst ex
  obtain ⟨u, eu, ru⟩ := vals1 r
  subst eu
  cases (show u = .ref l from ru)
  obtain ⟨its, rv, plain, few⟩ := I.list sq
  have eits : its = ts.map Value.ref := refs_at rv
  subst eits
  rw [List.length_map] at few
  obtain ⟨ps, kt, n, f⟩ := pairs_are I prs
  have nk : kvs.length = ps.length := Paired.length kt
  let vs : List (Value × Value) := ps.map fun x => (Value.ref x.2.1, x.2.2)
  have nv : vs.length = ps.length := List.length_map _
  obtain ⟨o, m, ho, hc, hdn, hdt⟩ := plain
  have isKey : ∀ x ∈ ps, (tupleKind (mixKind X.prog X.w)).is s.heap x.1 x.2.1 := fun x hx => by
    obtain ⟨j, ej⟩ := List.mem_iff_getElem?.mp hx
    obtain ⟨q, _, z1, z2, _⟩ := EQX.pair_at kt j x ej
    rw [← z1]
    exact key_of I.hok z2
  refine PySem.call_dict_pairsH (knd := tupleKind (mixKind X.prog X.w)) (ps := ps) (PairArg.list l (ts.map Value.ref).toArray (fun j => (ts[j]?).getD 0) vs) (I.ok.hd hcm) ?room ⟨⟨o, m, ho, hc, hdn, hdt⟩, ?items⟩ ?have_ ?stay ?size ?fin
  case room => show X.A.units + 1 + 1 < cLine; omega
  case items =>
    refine ⟨by simp [nv, n], fun j k v e => ?_⟩
    simp only [vs, List.getElem?_map, Option.map_eq_some_iff] at e
    obtain ⟨x, e1, e2⟩ := e
    cases e2
    obtain ⟨t, e3, e4⟩ := f j x e1
    exact ⟨by simp [e3], by show PairAt s.heap ((ts[j]?).getD 0) _ _; rw [e3]; exact e4⟩
  case have_ =>
    refine ⟨nv.symm, fun i key v e => ?_⟩
    simp only [PairRel, vs, List.getElem?_map, Option.map_eq_some_iff] at e
    obtain ⟨x, e1, e2⟩ := e
    cases e2
    exact ⟨x.1, x.2.1, e1, rfl⟩
  case stay =>
    intro h' keep x hx
    obtain ⟨o', its', m', g1, g2⟩ := isKey x hx
    exact ⟨o', its', m', keep _ _ (Nat.ne_of_lt (Heap.lt_size g1)) (fun z => nomatch z) g1, g2⟩
  case size => omega
  case fin =>
    intro h' tk made keep
    obtain ⟨o', es, ep, g1, g2, g3, g4, _, g6⟩ := made
    have keep' : ∀ b u, s.heap.get? b = some u → h'.get? b = some u := fun b u e => keep b u (fun z => nomatch z) e
    have newL : H s.heap.objs.size = none := I.hok.fresh (Nat.le_refl _)
    have le := length_mergeKT kvs []
    refine ⟨.ref s.heap.objs.size, upd H s.heap.objs.size (.dT (mergeKT [] kvs)), I.laid (t' := tk) keep' (Nat.le_refl _) ?_, rfl, want _ newL⟩
    refine (show ObjOk X.prog X.w _ _ _ (.dT (mergeKT [] kvs)) from ⟨?_, beq_eq_false_iff_ne.mpr (Nat.ne_of_gt I.big), storedAllH [] ps, ?_, o', es, ep, g1, g2, g3, g4, g6⟩)
    · rw [List.length_nil] at le
      omega
    · exact KT.keeps (KT.merge kt .nil) fun b xs e => by rw [upd_ne (ne_of_none e newL)]; exact e
end
end DPX
/-! SM5: list(d.items()), dict(pairs), attributes as targets: in the layer. -/
namespace SL
open PySem PySem.Spec PyProof.Rows L2
section
variable {G : Gx} {X : Cx} {W : WX} {pos : Pos} {n : Nat} {al : Nat → Addr} {H H' : Hp} {h : List AO}
theorem ext_grow (k : ∀ b o, H b = some o → H' b = some o) : Ext n al H n al H' := ⟨Nat.le_refl _, fun _ _ => rfl, fun b xs q => k b _ q, fun b o u q => k b _ q⟩
theorem HR.grow (hr : HR G al h H) (k : ∀ b o, H b = some o → H' b = some o) : HR G al h H' := ⟨fun i o hi => (hr.ob i o hi).mono (ext_grow k) fun u e => k _ u e, hr.inj⟩
/-- list(d.items()) -/
def itA (kv : List L2.Key × AV) : AV := .tup [.tup (kv.1.map kA), kv.2]
def mListIt (mo : AE) : AE := fun e h => bnd (mo e h) fun x h1 => match x with
  | .ref i => match h1[i]? with
    | some (.dtp kvs) => if kvs.length ≤ 1000000 then some (.ok (.ref h1.length), h1 ++ [.lst (kvs.map itA)]) else none
    | _ => none
  | _ => none
theorem itA_ok (hz : G.fz = false) {H0 : Hp} (k : ∀ b o, H0 b = some o → H b = some o) : ∀ {ts : List Addr} {kvs : List (List L2.Key × AV)} {ws : List (List L2.Key × V)}, RF G n al H kvs ws → Paired (fun (t : Addr) (q : List L2.Key × V) => ∃ b, H0 b = some (.tup (q.1.map kV)) ∧ H t = some (.tup [.ref b, q.2])) ts ws →
    RAs G n al H (kvs.map itA) (ts.map V.ref)
  | [], [], [], _, _ => .nil
  | t :: ts, (key, v) :: kvs, (key', w) :: ws, r, p => by
    obtain ⟨e, rv, rt⟩ := r
    have e' : key = key' := e
    subst e'
    cases p with
    | cons hd tl =>
      obtain ⟨b, hb, ht⟩ := hd
      refine .cons (.tup (.inl ⟨hz, ht⟩) (.cons (.tup (.inl ⟨hz, k _ _ hb⟩) (kAs_ok key)) (.cons rv .nil))) (itA_ok hz k rt tl)
  | [], _ :: _, [], r, _ => r.elim
  | [], [], _ :: _, r, _ => r.elim
  | [], _ :: _, _ :: _, _, p => nomatch p
  | _ :: _, [], [], _, p => nomatch p
  | _ :: _, _ :: _, [], r, _ => r.elim
  | _ :: _, [], _ :: _, r, _ => r.elim
theorem se_listIt {e : Expr} {me : AE} {p apos cpos : Pos} (hz : G.fz = false) (hcm : X.calm = true) (hm : X.mg "list" = none) (he : SE G X W e me) (hg : Gl X "list" := by rfl) (hb : attributeBase e "items" X.env (eval e X.env) = eval e X.env := by rfl) (hln : (apos.endLine == cpos.line) = true := by rfl)
    (hs : starEach [.Call (.Attribute e "items" apos) [] [] cpos] X.env = (false, eval (.Call (.Attribute e "items" apos) [] [] cpos) X.env) :: starEach [] X.env := by rfl) (hpl : (backTo pos (starEach [] X.env)).any (·.1) = false := by rfl) :
    SE G X W (.Call (.Name "list" p) [.Call (.Attribute e "items" apos) [] [] cpos] [] pos) (mListIt me) := by
  obtain ⟨t, pe, s⟩ := he
  refine ⟨_, pe_callTy (DPX.call_listV hcm) hg hm (by decide +kernel) (pa_cons (pe_bm0 (T := "dict") PySem.F.plainAttrs_dict PySem.F.slot_dict_items PySem.F.type_dict_items L2.DX.mt_itemsT pe hb hln) pa_nil hs) (by decide) (by decide) hs hpl, ?_⟩
  intro σ H al en h r h' Q hr er hm q
  rcases bnd_some hm with ⟨cc, k, e1, rfl⟩ | ⟨y, h1, e1, e2⟩
  · exact s σ H al en h _ _ _ hr er e1 q
  · refine s σ H al en h _ _ _ hr er e1 ?_
    intro al1 H1 u x1 hr1 r1
    split at e2
    · rename_i i
      split at e2
      · rename_i kvs hi
        split at e2
        · cases e2
          obtain ⟨ws, e4, rf⟩ := (hr1.ob i _ hi : ∃ ws, H1 (al1 i) = some (.dT ws) ∧ RF G h1.length al1 H1 kvs ws)
          cases refAt r1
          refine ⟨.inr (.inr (.inl ⟨rfl, .inr ⟨ws, e4⟩⟩)), al1 i, ws, rfl, rfl, e4, fun pv hpv => ?_⟩
          have e5 : upd H1 pv (L2.DX.itemsO pv (al1 i)) (al1 i) = some (.dT ws) := by
            rw [upd_ne (ne_of_none e4 hpv)]
            exact e4
          refine ⟨pv, al1 i, ws, rfl, upd_same, e5, fun H2 l ts keep hl hlst prs => ?_⟩
          let H3 : Hp := fun b => if b = l then none else H2 b
          have k3 : ∀ b o, upd H1 pv (L2.DX.itemsO pv (al1 i)) b = some o → H3 b = some o := fun b o eb => by
            have ne : b ≠ l := fun z => by rw [z, hl] at eb; cases eb
            show (if b = l then none else H2 b) = some o
            rw [if_neg ne]
            exact keep b o eb
          have at3 : H3 l = none := if_pos rfl
          have same : upd H3 l (.lst (ts.map V.ref)) = H2 := by
            funext b
            by_cases c : b = l
            · subst c
              rw [upd_same, hlst]
            · rw [upd_ne c]
              exact if_neg c
          have hr2 := hr1.beside (u := L2.DX.itemsO pv (al1 i)) hpv
          have hr3 := hr2.grow k3
          have x3 : Ext h1.length al1 H1 h1.length al1 H3 := (ext_beside hpv).trans (ext_grow k3)
          have := FwV.newO (o := .lst (kvs.map itA)) (u := .lst (ts.map V.ref)) (x1.trans x3) hr3 at3 ⟨_, upd_same, ?_⟩ q
          · rw [same] at this
            exact this
          · rw [same]
            refine itA_ok hz keep (rf.mono (x3.trans ?_)) prs
            rw [← same]
            exact ext_new at3
        · cases e2
      · cases e2
    · cases e2
/-- dict(pairs), the keys tuples -/
def pairsA : List AV → Option (List (List L2.Key × AV))
  | [] => some []
  | .tup [k, v] :: r => match keyT k, pairsA r with
    | some ks, some rs => some ((ks, v) :: rs)
    | _, _ => none
  | _ => none
theorem pairsA_ok (hz : G.fz = false) : ∀ {xs : List AV} {us : List V} {kvs : List (List L2.Key × AV)}, RAs G n al H xs us → pairsA xs = some kvs → ∃ (ts : List Addr) (ws : List (List L2.Key × V)), us = ts.map V.ref ∧ RF G n al H kvs ws ∧
    Paired (fun (t : Addr) (q : List L2.Key × V) => ∃ b, H b = some (.tup (q.1.map kV)) ∧ SqT G.K H t [.ref b, q.2]) ts ws
  | [], _, _, r, e => by
    cases r
    cases e
    exact ⟨[], [], rfl, True.intro, .nil⟩
  | x :: xs, us, kvs, r, e => by
    cases r with
    | cons r0 rs =>
      unfold pairsA at e
      split at e
      · rename_i hh; cases hh
      · rename_i k v r' hh
        cases hh
        split at e
        · rename_i ks rs' e1 e2
          cases e
          obtain ⟨ts, ws, rfl, rf, pr⟩ := pairsA_ok hz rs e2
          obtain ⟨t, vs, rfl, ta, rv⟩ := tupAt r0
          cases rv with
          | cons ra rb =>
            cases rb with
            | cons rb rc =>
              cases rc
              obtain ⟨b, rfl, hb⟩ := keyT_ok hz ra e1
              exact ⟨t :: ts, (ks, _) :: ws, rfl, ⟨rfl, rb, rf⟩, .cons ⟨b, hb, ta.sq⟩ pr⟩
        · cases e
      · cases e
def fDictPT : List AV → List AO → Option (AV × List AO) := fun xs h => match xs with
  | [.ref i] => match h[i]? with
    | some (.lst (y :: ys)) => match pairsA (y :: ys) with
      | some kvs => some (.ref h.length, h ++ [.dtp (mergeAT [] kvs)])
      | none => none
    | _ => none
  | _ => none
def rDictPT (K : PySem.W.Frag) : List V → Hp → VK → Prop := fun xs H Q => ∃ (l : Addr) (ts : List Addr) (kvs : List (List L2.Key × V)), xs = [.ref l] ∧ SqL K H l (ts.map V.ref) ∧ Paired (fun (t : Addr) (q : List L2.Key × V) => ∃ b, H b = some (.tup (q.1.map kV)) ∧ SqT K H t [.ref b, q.2]) ts kvs ∧
    ∀ p, H p = none → Q (.ref p) (upd H p (.dT (mergeKT [] kvs)))
theorem snd_dictPT (hz : G.fz = false) : SndC G (rDictPT G.K) fDictPT := by
  intro H al h xs us v h' Q hr rs e q
  unfold fDictPT at e
  split at e
  · rename_i i
    obtain ⟨u, rfl, ru⟩ := one_of rs
    cases refAt ru
    split at e
    · rename_i y ys hi
      split at e
      · rename_i kvs ek
        cases e
        obtain ⟨vs, e1, r1⟩ := lstAt hr hi
        obtain ⟨ts, ws, rfl, rf, pr⟩ := pairsA_ok hz r1 ek
        exact ⟨al i, ts, ws, rfl, SqL.of e1, pr, fun p hp => FwV.newO (o := .dtp (mergeAT [] kvs)) .refl hr hp ⟨_, upd_same, mergeAT_ok (rf.mono (ext_new hp)) True.intro⟩ q⟩
      · cases e
    · cases e
  · cases e
/-- .. or a dict's copy -/
def fDict1 : List AV → List AO → Option (AV × List AO) := fun xs h => match xs with
  | [.ref i] => match h[i]? with
    | some (.lst _) => fDictPT xs h
    | _ => fDictC xs h
  | _ => none
theorem snd_dict1 (hz : G.fz = false) : SndC G (fun xs H Q => rDictC xs H Q ∨ rDictPT G.K xs H Q) fDict1 := by
  intro H al h xs us v h' Q hr rs e q
  unfold fDict1 at e
  split at e
  · split at e
    · exact .inr (snd_dictPT hz H al h _ us v h' Q hr rs e q)
    · exact .inl (snd_dictC H al h _ us v h' Q hr rs e q)
  · cases e
theorem se_dict1 {e : Expr} {ma : AEnv → AM (List AV)} {p : Pos} (hz : G.fz = false) (hK : X.K = G.K) (hcm : X.calm = true) (hu : X.A.units + 3 < cLine) (hm : X.mg "dict" = none) (ha : SA G X W [e] ma) (hg : Gl X "dict" := by rfl) (he : starEach [e] X.env = (false, eval e X.env) :: starEach [] X.env := by rfl) (hpl : (backTo pos (starEach [] X.env)).any (·.1) = false := by rfl) :
    SE G X W (.Call (.Name "dict" p) [e] [] pos) (mC1 fDict1 ma) :=
  se_callTy (r := fun xs H Q => rDictC xs H Q ∨ rDictPT G.K xs H Q) (CallR.or call_dictD (hK ▸ DPX.call_dictPT hcm hu)) (snd_dict1 hz) hm (by decide +kernel) ha hg (by decide) (by decide) he hpl
/-! ### o.f = .. within a target -/
def gFldT (K : PySem.W.Frag) (ta : TE) (f : Str) : TG := fun v σ H Q => ta σ H fun x H1 => ∃ a C dx fs, x = .ref a ∧ H1 a = some (.ins C dx fs) ∧ Cls K C ∧ NoAttr K C f ∧ fs.length < 1000 ∧ Q σ (upd H1 a (.ins C dx (putF f v fs)))
theorem pg_fld {o : Expr} {f : Str} {ta : TE} (ho : PE X o ta)
    (as_ : ∀ v, assign (.Attribute o f pos) X.env v = (do
      let to_ ← holding [v] (eval o X.env)
      standAt pos.atName
      holding [v, to_] (setAttr to_ f v)
      release [v, to_] []) := by intro _; rfl) : PG X (.Attribute o f pos) (gFldT X.K ta f) := by
  constructor
  intro pins s σ H v u Q I rv want
  rw [as_]
  apply wpAny_bind
  apply wpAny_holding
  apply thn (ho.run pins s σ H _ I want)
  rintro ov s1 ⟨x, H1, I1, rx, a, C, dx, fs, rfl, ea, cl, no, few, q⟩
  cases (show ov = .ref a from rx)
  apply wpAny_bind
  apply wpAny_standAt
  apply wpAny_bind
  apply wpAny_holding
  apply setattr_ok I1 ea cl no few rv
  intro s2 I2
  exact wpAny_release ⟨σ, _, I2, q⟩
def gFld (c : Nat) (f : Str) (mo : AE) : AG := fun v e h => match mo e h with
  | some (.ok (.ref i), h1) => match h1[i]? with
    | some (.ins d fs) => if d = c ∧ fs.length < 100 then some (e, h1.set i (.ins d (putFA f v fs))) else none
    | _ => none
  | _ => none
theorem sg_fld {c : Nat} {o : Expr} {f : Str} {mo : AE} (hK : X.K = G.K) (hc : Cls G.K (G.cl c)) (hn : NoAttr G.K (G.cl c) f) (ho : SE G X W o mo)
    (as_ : ∀ v, assign (.Attribute o f pos) X.env v = (do
      let to_ ← holding [v] (eval o X.env)
      standAt pos.atName
      holding [v, to_] (setAttr to_ f v)
      release [v, to_] []) := by intro _; rfl) : SG G X false [] (.Attribute o f pos) (gFld c f mo) := by
  obtain ⟨t, p, s⟩ := ho
  refine ⟨_, pg_fld p as_, ?_⟩
  intro σ H al e h v u e' h' Q hr er rl hm q
  rcases rl with rl | ⟨z, _⟩
  · unfold gFld at hm
    split at hm
    · rename_i i h1 em
      split at hm
      · rename_i d fs hi
        split at hm
        · rename_i hd
          obtain ⟨rfl, few⟩ := hd
          cases hm
          refine s σ H al e h _ _ _ hr er em ?_
          intro al1 H1 ux x1 hr1 r1
          obtain ⟨dx, gs, e5, rf⟩ := insAt hr1 hi
          have E := ext_put (u := .ins (G.cl d) dx (putF f u gs)) hr1 hi rfl
          refine ⟨al1 i, G.cl d, dx, gs, refAt r1, e5, hK ▸ hc, hK ▸ hn, by rw [← rf.length]; omega, ?_⟩
          refine q al1 _ σ ?_ (hr1.put hi rfl rfl ?_) ?_ rfl fun _ _ => rfl
          · rw [List.length_set]; exact x1.trans E
          · exact ⟨dx, _, upd_same, putFA_ok ((rl.mono x1).mono E) (RF.mono E rf)⟩
          · rw [List.length_set]; exact er.mono (x1.trans E)
        · cases hm
      · cases hm
    · cases hm
  · cases z
end
end SL
/-! SM6: a, b = a list. -/
namespace SL
open PySem PySem.Spec PyProof.Rows L2
section
variable {G : Gx} {X : Cx} {pos : Pos}
def gUnA (gs : AGs) : AG := fun v e h => match v with
  | .ref i => match h[i]? with
    | some (.lst xs) => gs xs e h
    | _ => none
  | _ => none
theorem sg_unl {es : List Expr} {kk : Nat} {ws : List Nat} {gs : AGs} {m : Nat} (hK : X.K = G.K) (hc : X.calm = true) (hl : ∀ vs e h r, gs vs e h = some r → vs.length = m) (h : SGs G X ws es gs)
    (hn : (assignEach es X.env).length = m := by rfl) (hst : (assignEach es X.env).findIdx? (·.1) = none := by rfl) : SG G X false ws (.Tuple es kk pos) (gUnA gs) := by
  obtain ⟨_, p, s⟩ := h
  refine ⟨_, pg_unl hc p hn hst, ?_⟩
  intro σ H al e h v u e' h' Q hr er r hm q
  rcases r with r | ⟨z, _⟩
  · unfold gUnA at hm
    split at hm
    · rename_i i
      split at hm
      · rename_i xs hi
        obtain ⟨vs, e1, rs⟩ := lstAt hr hi
        have lx := hl _ _ _ _ hm
        exact ⟨al i, vs, refAt r, SqL.of e1, by rw [← rs.length]; exact lx, s σ H al e h _ _ _ _ _ hr er rs hm q⟩
      · cases hm
    · cases hm
  · cases z
variable {W : WX}
theorem st_din {a b : Expr} {ma mb : AE} (hz : G.fz = false) (hu : X.A.units + 1 < cLine) (ha : SE G X W a ma) (hb : SE G X W b mb) (hm : behindInMarks .In b = false := by rfl) : ST G X W (.Compare a [.In] [b] pos) (mB (m2 (oDin false) ma mb)) := by
  obtain ⟨ta, pa, sa⟩ := ha
  obtain ⟨tb, pb, sb⟩ := hb
  exact ⟨_, pt_cmp (pc_din hu pa pb) hm, snd_test (snd_2 sa sb (snd_din (neg := false) hz))⟩
theorem st_dnotin {a b : Expr} {ma mb : AE} (hz : G.fz = false) (hu : X.A.units + 1 < cLine) (ha : SE G X W a ma) (hb : SE G X W b mb) (hm : behindInMarks .NotIn b = false := by rfl) : ST G X W (.Compare a [.NotIn] [b] pos) (mB (m2 (oDin true) ma mb)) := by
  obtain ⟨ta, pa, sa⟩ := ha
  obtain ⟨tb, pb, sb⟩ := hb
  exact ⟨_, pt_cmp (pc_dnotin hu pa pb) hm, snd_test (snd_2 sa sb (snd_din (neg := true) hz))⟩
theorem hu3 {k : Nat} {A : Around} (hr : Room k A) : A.units + 3 < cLine := by
  have := hu70 hr
  omega
end
end SL
/-! SN1: the shift laws of SM1 .. SM5. -/
namespace SL
open PySem PySem.Spec PyProof.Rows L2
section
variable {p h : List AO} {i c : Nat} {x y : AV} {xs : List AV}
theorem nn_cEq {n : Bool} (p : List AO) (x y : AV) (h : List AO) (e : cEq n x y h = none) : cEq n (shV p.length x) (shV p.length y) (shH p h) = none := by
  unfold cEq at e ⊢
  rw [eqA_sh]
  cases z : eqA h x y with
  | none => rfl
  | some b => rw [z] at e; cases e
def MonE (p h : List AO) (e e' : AV → AV → Option Bool) : Prop := ∀ x y b, e x y = some b → e' (shV p.length x) (shV p.length y) = some b
theorem allE_sh {e e' : AV → AV → Option Bool} (m : MonE p h e e') : ∀ {xs ys : List AV} {b : Bool}, allE e xs ys = some b → allE e' (xs.map (shV p.length)) (ys.map (shV p.length)) = some b
  | [], [], b, q => q
  | x :: xs, y :: ys, b, q => by
    unfold allE at q
    split at q
    · rename_i b1 c1 e1 e2
      cases q
      rw [List.map_cons, List.map_cons, allE, m _ _ _ e1, allE_sh m e2]
    · cases q
  | [], _ :: _, _, q => by cases q
  | _ :: _, [], _, q => by cases q
theorem hitsE_sh {κ : Type} [DecidableEq κ] {e e' : AV → AV → Option Bool} (m : MonE p h e e') {ls : List (κ × AV)} : ∀ {ks : List (κ × AV)} {b : Bool}, hitsE e ls ks = some b → hitsE e' (shP p.length ls) (shP p.length ks) = some b
  | [], b, q => q
  | (k, v) :: r, b, q => by
    unfold hitsE at q
    split at q
    · cases q
    · rename_i c e2
      show hitsE e' (shP p.length ls) ((k, shV p.length v) :: shP p.length r) = some b
      unfold hitsE
      rw [hitsE_sh m e2]
      dsimp only
      rw [shP_val]
      split at q
      · rename_i ev
        rw [ev]
        exact q
      · rename_i z ev
        rw [ev]
        dsimp only [Option.map_some]
        cases ee : e v z with
        | none => rw [ee] at q; cases q
        | some b1 =>
          rw [ee] at q
          cases q
          rw [m _ _ _ ee]
          rfl
theorem eqC_sh {e e' : AV → AV → Option Bool} (m : MonE p h e e') {b : Bool} (q : eqC e h x y = some b) : eqC e' (shH p h) (shV p.length x) (shV p.length y) = some b := by
  unfold eqC at q
  split at q
  · rename_i i j
    rw [shV_ref, shV_ref]
    unfold eqC
    dsimp only
    rw [shH_get, shH_get]
    split at q
    · rename_i hi hj
      rw [hi, hj]
      dsimp only [Option.map, shO]
      simp only [List.length_map]
      split at q
      · rename_i hl
        rw [if_pos hl]
        exact allE_sh m q
      · rename_i hl
        rw [if_neg hl]
        exact q
    · rename_i hi hj
      rw [hi, hj]
      dsimp only [Option.map, shO]
      simp only [shP_len]
      split at q
      · rename_i hl
        rw [if_pos hl]
        exact hitsE_sh m q
      · rename_i hl
        rw [if_neg hl]
        exact q
    · rename_i hi hj
      rw [hi, hj]
      dsimp only [Option.map, shO]
      simp only [shP_len]
      split at q
      · rename_i hl
        rw [if_pos hl]
        exact hitsE_sh m q
      · rename_i hl
        rw [if_neg hl]
        exact q
    · cases q
  · cases q
theorem eqD0_sh : eqD0 (shH p h) (shV p.length x) (shV p.length y) = eqD0 h x y := by
  unfold eqD0
  rw [flat_sh, flat_sh, eqF_sh, toD_sh, toD_sh]
theorem sameR_sh {s : Nat} : sameR (shV s x) (shV s y) = sameR x y := by
  cases x <;> cases y <;> first | (simp [sameR]; done) | skip
  rename_i i j
  rw [shV_ref, shV_ref]
  show (s + i == s + j) = (i == j)
  by_cases z : i = j
  · subst z; rw [beq_self_eq_true, beq_self_eq_true]
  · rw [beq_eq_false_iff_ne.mpr z, beq_eq_false_iff_ne.mpr (by omega)]
theorem eqI_sh : ∀ (f : Nat), MonE p h (eqI f h) (eqI f (shH p h))
  | 0 => fun x y b q => by
    show eqD0 (shH p h) _ _ = some b
    rw [eqD0_sh]
    exact q
  | f + 1 => fun x y b q => by
    unfold eqI at q ⊢
    rw [eqD0_sh, sameR_sh]
    cases e1 : eqD0 h x y with
    | some b' =>
      rw [e1] at q
      exact q
    | none =>
      rw [e1] at q
      dsimp only at q ⊢
      split at q
      · rename_i hs
        rw [if_pos hs]
        exact q
      · rename_i hs
        rw [if_neg hs]
        exact eqC_sh (eqI_sh f) q
theorem sh_cEqC {n : Bool} : Sh2 (cEqC n) := fun p x y h v h' q => by
  unfold cEqC at q ⊢
  cases z : eqC (eqI 4 h) h x y with
  | none => rw [z] at q; cases q
  | some b =>
    rw [z] at q
    cases q
    rw [eqC_sh (eqI_sh 4) z, shV_bl]
    rfl
theorem sh_cEqG {n : Bool} : Sh2 (cEqG n) := sh_or sh_cEq sh_cEqC nn_cEq
theorem sh_mDnew : ShE mDnew := fun p e h r h' q => by
  cases q
  unfold mDnew
  rw [shH_app, shH_len]
  simp [shR, shO, shP]
theorem sh_fDictC : ShFL fDictC := fun p xs h v h' q => by
  unfold fDictC at q
  split at q
  · rename_i i
    rw [List.map_cons, List.map_nil, shV_ref]
    unfold fDictC
    dsimp only
    rw [shH_get]
    split at q
    · rename_i kvs hi
      cases q
      rw [hi, shH_app, shH_len]
      simp [shO]
    · rename_i kvs hi
      cases q
      rw [hi, shH_app, shH_len]
      simp [shO]
    · cases q
  · cases q
theorem pairsA_sh {s : Nat} : ∀ {xs : List AV} {kvs : List (List L2.Key × AV)}, pairsA xs = some kvs → pairsA (xs.map (shV s)) = some (shP s kvs)
  | [], kvs, q => by cases q; rfl
  | x :: xs, kvs, q => by
    unfold pairsA at q
    split at q
    · rename_i z; cases z
    · rename_i k v r z
      cases z
      split at q
      · rename_i ks rs e1 e2
        cases q
        rw [List.map_cons, shV_tup, List.map_cons, List.map_cons, List.map_nil, pairsA, keyT_sh e1, pairsA_sh e2]
        rfl
      · cases q
    · cases q
theorem mergeAT_sh {s : Nat} : ∀ (more acc : List (List L2.Key × AV)), shP s (mergeAT acc more) = mergeAT (shP s acc) (shP s more)
  | [], acc => rfl
  | (k, v) :: more, acc => by
    show shP s (mergeAT (putA acc k v) more) = mergeAT (putA (shP s acc) k (shV s v)) (shP s more)
    rw [mergeAT_sh more, shP_put]
theorem sh_fDictPT : ShFL fDictPT := fun p xs h v h' q => by
  unfold fDictPT at q
  split at q
  · rename_i i
    rw [List.map_cons, List.map_nil, shV_ref]
    unfold fDictPT
    dsimp only
    rw [shH_get]
    split at q
    · rename_i y ys hi
      split at q
      · rename_i kvs ek
        cases q
        rw [hi, shH_app, shH_len]
        dsimp only [Option.map, shO]
        rw [List.map_cons]
        dsimp only
        rw [← List.map_cons, pairsA_sh ek]
        simp only [shV_ref, List.map_cons, List.map_nil, shO, mergeAT_sh]
        rfl
      · cases q
    · cases q
  · cases q
theorem sh_fDict1 : ShFL fDict1 := fun p xs h v h' q => by
  unfold fDict1 at q
  split at q
  · rename_i i
    rw [List.map_cons, List.map_nil, shV_ref]
    unfold fDict1
    dsimp only
    rw [shH_get]
    split at q
    · rename_i ys hi
      rw [hi]
      dsimp only [Option.map, shO]
      have := sh_fDictPT p _ h v h' q
      rw [List.map_cons, List.map_nil, shV_ref] at this
      exact this
    · rename_i no
      have this := sh_fDictC p _ h v h' q
      rw [List.map_cons, List.map_nil, shV_ref] at this
      cases z : h[i]? with
      | none => exact this
      | some o =>
        cases o with
        | lst ys => exact absurd z (no ys)
        | _ => exact this
  · cases q
theorem rep_sh {s : Nat} : ∀ k : Nat, ((List.replicate k xs).flatten).map (shV s) = (List.replicate k (xs.map (shV s))).flatten
  | 0 => rfl
  | k + 1 => by
    simp only [List.replicate_succ, List.flatten_cons]
    rw [List.map_append, rep_sh k]
theorem sh_oRep : Sh2 oRep := fun p x y h v h' q => by
  unfold oRep at q
  split at q
  · rename_i i k
    rw [shV_ref, shV_int]
    unfold oRep
    dsimp only
    rw [shH_get]
    split at q
    · rename_i xs hi
      rw [hi]
      dsimp only [Option.map, shO]
      split at q
      · rename_i hk
        cases q
        rw [if_pos (by rw [List.length_map]; exact hk), shH_app, shH_len]
        simp only [shV_ref, List.map_cons, List.map_nil, shO, rep_sh]
      · cases q
    · cases q
  · cases q
theorem sh_oMulA : Sh2 oMulA := sh_or sh_oMul sh_oRep nn_fI
theorem shP_drop {κ : Type} [DecidableEq κ] {s : Nat} {k : κ} : ∀ ps : List (κ × AV), shP s (dropA ps k) = dropA (shP s ps) k
  | [] => rfl
  | (a, v) :: ps => by
    have ih := shP_drop (s := s) (k := k) ps
    unfold shP dropA at ih ⊢
    simp only [List.map_cons, List.filter_cons]
    by_cases z : decide (a ≠ k) = true
    · rw [if_pos z, if_pos z, List.map_cons, ih]
    · rw [if_neg z, if_neg z, ih]
theorem isDc_sh : isDc (shH p h) (shV p.length x) = isDc h x := by
  cases x with
  | ref k =>
    rw [shV_ref]
    show (match (shH p h)[p.length + k]? with | some (.dct _) => true | _ => false) = (match h[k]? with | some (.dct _) => true | _ => false)
    rw [shH_get]
    cases h[k]? with
    | none => rfl
    | some o => cases o <;> rfl
  | tup xs => rw [shV_tup]; rfl
  | ktp xs => rw [shV_ktp]; rfl
  | _ => simp [isDc]
theorem sh_mDpop {mo mk : AE} (ho : ShE mo) (hk : ShE mk) : ShE (mDpop mo mk) := fun p e h r h' q => sh_bnd (fb := shV p.length) (ho p e h) (fun x h1 r h' q => by
  rw [isDc_sh]
  split at q
  · rename_i hd
    rw [if_pos hd]
    refine sh_bnd (fb := shV p.length) (hk p e h1) (fun y h2 r h' q => ?_) q
    split at q
    · rename_i v h3 e5
      cases q
      unfold fDpop at e5
      cases x with
      | ref i =>
        dsimp only at e5
        rw [shV_ref]
        unfold fDpop
        dsimp only
        rw [shH_get]
        split at e5
        · rename_i kvs key hi ek
          rw [hi, keyA_sh ek]
          dsimp only [Option.map, shO]
          rw [shP_val]
          split at e5
          · rename_i v' ev
            cases e5
            rw [ev, shH_set]
            dsimp only [Option.map]
            rw [← shP_drop]
            rfl
          · cases e5
        · cases e5
      | _ => cases e5
    · cases q
  · cases q) q
theorem sh_oIsC : Sh1 (oIsC c) := fun p x h v h' q => by
  cases x with
  | ref i =>
    rw [shV_ref]
    unfold oIsC at q ⊢
    dsimp only at q ⊢
    rw [shH_get]
    split at q
    · rename_i d fs hi
      rw [hi]
      dsimp only [Option.map, shO]
      split at q
      · rename_i hd
        cases q
        rw [if_pos hd, shV_bl]
      · cases q
    · cases q
  | _ => cases q
theorem sh_fLenO {m : List AV → AM AV} (hm : ShM m) : ShFL (fLenO c m) := fun p xs h v h' q => by
  unfold fLenO at q
  split at q
  · rename_i i
    rw [List.map_cons, List.map_nil, shV_ref]
    unfold fLenO
    dsimp only
    rw [shH_get]
    split at q
    · rename_i d fs hi
      rw [hi]
      dsimp only [Option.map, shO]
      split at q
      · rename_i hd
        rw [if_pos hd]
        split at q
        · rename_i n h1 em
          have := hm p [.ref i] h _ _ em
          rw [List.map_cons, List.map_nil, shV_ref] at this
          rw [this]
          dsimp only [shR]
          rw [shV_int]
          dsimp only
          split at q
          · rename_i hn
            cases q
            rw [if_pos hn, shV_int]
          · cases q
        · cases q
      · cases q
    · cases q
  · cases q
theorem sh_oOwn {m : List AV → AM AV} {n : Bool} (hm : ShM m) : Sh2 (oOwn c m n) := fun p x y h v h' q => by
  unfold oOwn at q
  split at q
  · rename_i i j
    rw [shV_ref, shV_ref]
    unfold oOwn
    dsimp only
    rw [shH_get, shH_get]
    split at q
    · rename_i d fs d2 gs hi hj
      rw [hi, hj]
      dsimp only [Option.map, shO]
      split at q
      · rename_i hd
        rw [if_pos hd]
        split at q
        · rename_i b h1 em
          have := hm p [.ref i, .ref j] h _ _ em
          rw [List.map_cons, List.map_cons, List.map_nil, shV_ref, shV_ref] at this
          rw [this]
          dsimp only [shR]
          rw [shV_bl]
          dsimp only
          cases q
          rw [shV_bl]
        · cases q
      · cases q
    · cases q
  · cases q
theorem sh_mListIt {mo : AE} (ho : ShE mo) : ShE (mListIt mo) := fun p e h r h' q => sh_bnd (fb := shV p.length) (ho p e h) (fun x h1 r h' q => by
  cases x with
  | ref i =>
    rw [shV_ref]
    dsimp only at q ⊢
    rw [shH_get]
    split at q
    · rename_i kvs hi
      rw [hi]
      dsimp only [Option.map, shO]
      rw [shP_len]
      split at q
      · rename_i hl
        cases q
        have its : (kvs.map itA).map (shV p.length) = (shP p.length kvs).map itA := by
          unfold shP
          simp only [List.map_map]
          apply List.map_congr_left
          intro kv _
          show shV p.length (.tup [.tup (kv.1.map kA), kv.2]) = .tup [.tup (kv.1.map kA), shV p.length kv.2]
          rw [shV_tup, List.map_cons, List.map_cons, List.map_nil, shV_tup, shV_kAs]
        rw [if_pos hl, shH_app, shH_len]
        simp only [shR, shV_ref, List.map_cons, List.map_nil, shO, its]
      · cases q
    · cases q
  | _ => cases q) q
theorem sh_gFld {f : Str} {mo : AE} (ho : ShE mo) : ShG (gFld c f mo) := fun p v e h e' h' q => by
  unfold gFld at q
  split at q
  · rename_i i h1 em
    have := ho p e h _ _ em
    unfold gFld
    rw [this]
    dsimp only [shR]
    rw [shV_ref]
    dsimp only
    rw [shH_get]
    split at q
    · rename_i d fs hi
      rw [hi]
      dsimp only [Option.map, shO]
      rw [shP_len]
      split at q
      · rename_i hd
        cases q
        rw [if_pos hd, shH_set]
        dsimp only [shO]
        rw [shP_putF]
      · cases q
    · cases q
  · cases q
end
end SL
/-! SN2: shift law of SM6. -/
namespace SL
open PySem PySem.Spec PyProof.Rows L2
theorem sh_gUnA {gs : AGs} (hs : ShGs gs) : ShG (gUnA gs) := fun p v e h e' h' q => by
  unfold gUnA at q
  split at q
  · rename_i i
    rw [shV_ref]
    unfold gUnA
    dsimp only
    rw [shH_get]
    split at q
    · rename_i xs hi
      rw [hi]
      exact hs p xs e h _ _ q
    · cases q
  · cases q
end SL
/-! ST1: texts. repr, str, int of a text, f-strings, join, split, text * int, l[i] = v, calls with keywords alone. -/
namespace SL
open PySem PySem.Spec PyProof.Rows L2
section
variable {G : Gx} {X : Cx} {W : WX} {pos apos cpos p : Pos} {e o : Expr} {mo : AE} {ma : AEnv → AM (List AV)}

/-! ### repr of a list or a tuple -/
def rRepr (K : PySem.W.Frag) : List V → Hp → VK → Prop := fun xs H Q => ∃ a d, xs = [.ref a] ∧ Dp K H (.ref a) d ∧ d.showable = true ∧ d.hasDict = false ∧ d.depth ≤ 20 ∧ d.shown.length ≤ sizeLine ∧ Q (.str d.shown) H
theorem call_reprDp (hu : X.A.units + 64 < cLine) (hgu : X.A.guards = some []) : CallR X (.builtin "repr") (rRepr X.K) := by
  intro pn s σ H xs us Q I r h
  obtain ⟨a, d, rfl, dp, h1, h2, h3, h4, q⟩ := h
  obtain ⟨u, rfl, rv⟩ := vals1 r
  obtain rfl : u = Value.ref a := rv
  obtain ⟨as, rd⟩ := Dp.reads I d _ _ dp rfl
  refine repr_of_reads' rd h1 (fun z => by rw [h2] at z; cases z) hgu (by omega) (fun _ _ e => e) ?_ h4
  intro h' u tk kp
  exact ⟨.str _, H, I.kept (t' := tk) kp, ⟨_, rfl⟩, q⟩
def isRf : AV → Bool
  | .ref _ => true
  | .tup _ => true
  | _ => false
def shOk (d : PyData) : Bool := d.showable && !d.hasDict && decide (d.depth ≤ 20) && decide (d.shown.length ≤ 1000000)
def fRepr : List AV → List AO → Option (AV × List AO) := fun xs h => match xs with
  | [x] => if isRf x = true then match toD h x with
    | some d => if shOk d = true then some (.str d.shown, h) else none
    | none => none
    else none
  | _ => none
theorem snd_repr : SndC G (rRepr G.K) fRepr := by
  intro H al h xs us v h' Q hr rs e q
  unfold fRepr at e
  split at e
  · rename_i x
    split at e
    · rename_i hx
      split at e
      · rename_i d hd
        split at e
        · rename_i ok
          cases e
          obtain ⟨u, rfl, r⟩ := one_of rs
          have dp := toD_ok hr r hd
          unfold shOk at ok
          rw [Bool.and_eq_true, Bool.and_eq_true, Bool.and_eq_true] at ok
          obtain ⟨⟨⟨o1, o2⟩, o3⟩, o4⟩ := ok
          have o2' : d.hasDict = false := by cases z : d.hasDict with
            | false => rfl
            | true => rw [z] at o2; cases o2
          have fin : ∀ a, u = .ref a → rRepr G.K [u] H Q := fun a z => by
            subst z
            exact ⟨a, d, rfl, dp, o1, o2', of_decide_eq_true o3, by rw [sizeLine_eq]; have := of_decide_eq_true o4; omega, q al H _ .refl hr .str⟩
          cases x with
          | ref i => exact fin _ (refAt r)
          | tup ys =>
            obtain ⟨a, vs, ha, _⟩ := tupAt r
            exact fin a ha
          | _ => cases hx
        · cases e
      · cases e
    · cases e
  · cases e
theorem se_repr (hK : X.K = G.K) (hu : X.A.units + 64 < cLine) (hgu : X.A.guards = some []) (hm : X.mg "repr" = none) (ha : SA G X W [e] ma) (hg : Gl X "repr" := by rfl) (he : starEach [e] X.env = (false, eval e X.env) :: starEach [] X.env := by rfl)
    (hpl : (backTo pos (starEach [] X.env)).any (·.1) = false := by rfl) : SE G X W (.Call (.Name "repr" p) [e] [] pos) (mC1 fRepr ma) :=
  se_callB (r := rRepr G.K) (hK ▸ call_reprDp hu hgu) snd_repr hm (by decide +kernel) ha hg (by decide) (by decide) he hpl

/-! ### str(x), int(text) -/
theorem CallR.or' {f : Value} {r1 r2 : List V → Hp → VK → Prop} (h1 : CallR X f r1) (h2 : CallR X f r2) : CallR X f (fun xs H Q => r1 xs H Q ∨ r2 xs H Q) := by
  intro pn s σ H xs us Q I r h
  rcases h with h | h
  · exact h1 pn s σ H xs us Q I r h
  · exact h2 pn s σ H xs us Q I r h
def rStr1 : List V → Hp → VK → Prop := fun xs H Q => (∃ i, xs = [.int i] ∧ i.natAbs.log2 < 1920 ∧ Q (.str (toString i)) H) ∨ ∃ a, xs = [.str a] ∧ Q (.str a) H
def txI (i : Int) : Str := toString i
def fStr1 : List AV → List AO → Option (AV × List AO) := fun xs h => match xs with
  | [.int i] => if i.natAbs.log2 < 1900 then some (.str (txI i), h) else none
  | [.str a] => some (.str a, h)
  | _ => none
theorem snd_str1 : SndC G rStr1 fStr1 := by
  intro H al h xs us v h' Q hr rs e q
  unfold fStr1 at e
  split at e
  · split at e
    · rename_i hz
      cases e
      obtain ⟨u, rfl, r⟩ := one_of rs
      cases r
      exact .inl ⟨_, rfl, by omega, q al H _ .refl hr .str⟩
    · cases e
  · cases e
    obtain ⟨u, rfl, r⟩ := one_of rs
    cases r
    exact .inr ⟨_, rfl, q al H _ .refl hr .str⟩
  · cases e
theorem se_str1 (hm : X.mg "str" = none) (ha : SA G X W [e] ma) (hg : Gl X "str" := by rfl) (he : starEach [e] X.env = (false, eval e X.env) :: starEach [] X.env := by rfl)
    (hpl : (backTo pos (starEach [] X.env)).any (·.1) = false := by rfl) : SE G X W (.Call (.Name "str" p) [e] [] pos) (mC1 fStr1 ma) :=
  se_callTy (r := rStr1) (CallR.or' call_str_int SkE.call_str_str) snd_str1 hm (by decide +kernel) ha hg (by decide) (by decide) he hpl
def rIntA : List V → Hp → VK → Prop := fun xs H Q => rInt1 xs H Q ∨ ∃ a n, xs = [.str a] ∧ PySem.intText? a = some n ∧ a.length ≤ 640 ∧ Q (.int n) H
def fIntA : List AV → List AO → Option (AV × List AO) := fun xs h => match xs with
  | [.int i] => some (.int i, h)
  | [.str a] => if a.length ≤ 640 then match PySem.intText? a with
    | some n => some (.int n, h)
    | none => none
    else none
  | _ => none
theorem snd_intA : SndC G rIntA fIntA := by
  intro H al h xs us v h' Q hr rs e q
  unfold fIntA at e
  split at e
  · cases e
    obtain ⟨u, rfl, r⟩ := one_of rs
    cases r
    exact .inl (.inl ⟨_, rfl, q al H _ .refl hr .int⟩)
  · split at e
    · rename_i hz
      split at e
      · rename_i n hn
        cases e
        obtain ⟨u, rfl, r⟩ := one_of rs
        cases r
        exact .inr ⟨_, n, rfl, hn, hz, q al H _ .refl hr .int⟩
      · cases e
    · cases e
  · cases e
theorem se_intA (hm : X.mg "int" = none) (ha : SA G X W [e] ma) (hg : Gl X "int" := by rfl) (he : starEach [e] X.env = (false, eval e X.env) :: starEach [] X.env := by rfl)
    (hpl : (backTo pos (starEach [] X.env)).any (·.1) = false := by rfl) : SE G X W (.Call (.Name "int" p) [e] [] pos) (mC1 fIntA ma) :=
  se_callTy (r := rIntA) (CallR.or' call_int1 call_int_str) snd_intA hm (by decide +kernel) ha hg (by decide) (by decide) he hpl

/-! ### f'..' -/
def oFmt : AV → List AO → Option (AV × List AO) := fun x h => match x with
  | .str y => if y.length ≤ 1000000 then some (.str y, h) else none
  | .int i => if i.natAbs.log2 < 1900 then some (.str (txI i), h) else none
  | _ => none
theorem se_fmt {m : AE} (he : SE G X W e m) : SE G X W (.FormattedValue e (-1) none pos) (m1 oFmt m) := by
  obtain ⟨t, p, s⟩ := he
  refine ⟨_, pe_fmt p, ?_⟩
  intro σ H al e h r h' Q hr er hm q
  rcases bnd_some hm with ⟨c, k, e1, rfl⟩ | ⟨x, h1, e1, e2⟩
  · exact s σ H al e h _ _ _ hr er e1 q
  · refine s σ H al e h _ _ _ hr er e1 ?_
    intro al1 H1 u x1 hr1 r1
    unfold oFmt at e2
    cases x with
    | str y =>
      dsimp only at e2
      split at e2
      · rename_i v h2 e3
        split at e3
        · rename_i hz
          cases e3; cases e2; cases r1
          exact .inl ⟨y, rfl, by rw [sizeLine_eq]; omega, q al1 H1 _ x1 hr1 .str⟩
        · cases e3
      · cases e2
    | int i =>
      dsimp only at e2
      split at e2
      · rename_i v h2 e3
        split at e3
        · rename_i hz
          cases e3; cases e2; cases r1
          exact .inr ⟨i, rfl, by omega, q al1 H1 _ x1 hr1 .str⟩
        · cases e3
      · cases e2
    | _ => cases e2
def mJs : List AE → Str → AE
  | [], acc => fun _ h => some (.ok (.str acc), h)
  | m :: ms, acc => fun e h => bnd (m e h) fun x h1 => match x with
    | .str y => if (acc ++ y).length ≤ 1000000 then mJs ms (acc ++ y) e h1 else none
    | _ => none
def mJoined (ms : List AE) : AE := mJs ms Str.empty
inductive SJ (G : Gx) (X : Cx) (W : WX) : List Expr → List AE → Prop where
  | nil : SJ G X W [] []
  | cons {e : Expr} {m : AE} {es : List Expr} {ms : List AE} (h : SE G X W e m) (r : SJ G X W es ms) : SJ G X W (e :: es) (m :: ms)
theorem sj_pj {es : List Expr} {ms : List AE} (h : SJ G X W es ms) : ∃ ts, PJ X es ts ∧ ∀ (acc : Str) (σ : L2.St) (H : Hp) (al : Nat → Addr) (e : AEnv) (h : List AO) (r : Rs AV) (h' : List AO) (Q : VK), HR G al h H → ER G h.length al H e σ → mJs ms acc e h = some (r, h') → PoE G W h.length al H σ r h' Q → tJs ts acc σ H fun out H1 => Q (.str out) H1 := by
  induction h with
  | nil => exact ⟨[], .nil, fun acc σ H al e h r h' Q hr er hm q => by cases hm; exact q al H _ .refl hr .str⟩
  | @cons e m es ms he _ ih =>
    obtain ⟨t, p, s⟩ := he
    obtain ⟨ts, ps, ss⟩ := ih
    refine ⟨t :: ts, .cons p ps, fun acc σ H al en h r h' Q hr er hm q => ?_⟩
    rcases bnd_some hm with ⟨c, k, e1, rfl⟩ | ⟨x, h1, e1, e2⟩
    · exact s σ H al en h _ _ _ hr er e1 q
    · refine s σ H al en h _ _ _ hr er e1 ?_
      intro al1 H1 u x1 hr1 r1
      cases x with
      | str y =>
        dsimp only at e2
        split at e2
        · rename_i hz
          cases r1
          exact ⟨y, rfl, by rw [sizeLine_eq]; omega, ss (acc ++ y) σ H1 al1 en h1 r h' Q hr1 (er.mono x1) e2 (PoE.after x1 q)⟩
        · cases e2
      | _ => cases e2
theorem se_joined {v1 v2 : Expr} {rest : List Expr} {ms : List AE} (h : SJ G X W (v1 :: v2 :: rest) ms) : SE G X W (.JoinedStr (v1 :: v2 :: rest) pos) (mJoined ms) := by
  obtain ⟨ts, p, s⟩ := sj_pj h
  exact ⟨_, pe_joined p, fun σ H al e h r h' Q hr er hm q => s Str.empty σ H al e h r h' Q hr er hm q⟩

/-! ### sep.join(texts), text.split(sep) -/
def fJoin : AV → List AV → List AO → Option (AV × List AO) := fun x vs h => match x, vs with
  | .str a, [y] => match itemsA h y with
    | some ys => match strsA ys with
      | some zs => if (zs.map (·.length)).sum + zs.length * a.length ≤ 1000000 then some (.str (Txt.join a zs), h) else none
      | none => none
    | none => none
  | _, _ => none
theorem snd_join : SndM G (fun x xs H Q => ∃ a p, ∃ ys : List Str, x = .str a ∧ xs = [.ref p] ∧ (SqL G.K H p (ys.map V.str) ∨ SqT G.K H p (ys.map V.str)) ∧ (ys.map (·.length)).sum + ys.length * a.length ≤ 16777216 ∧ Q (.str (Txt.join a ys)) H) fJoin := by
  intro H al h x xs u us v h' Q hr rx rs e q
  unfold fJoin at e
  split at e
  · rename_i a y
    split at e
    · rename_i ys hy
      split at e
      · rename_i zs hz
        split at e
        · rename_i hl
          cases e
          cases rx
          obtain ⟨w, rfl, r⟩ := one_of rs
          obtain ⟨p, vs, rfl, sq, rs', _⟩ := items_ok hr r hy
          have q2 := strsA_eq hz
          subst q2
          have q3 := strs_ok rs'
          subst q3
          exact ⟨a, p, zs, rfl, rfl, sq, by omega, q al H _ .refl hr .str⟩
        · cases e
      · cases e
    · cases e
  · cases e
theorem se_join (hK : X.K = G.K) (ho : SE G X W o mo) (ha : SA G X W [e] ma) (hbase : attributeBase o "join" X.env (eval o X.env) = eval o X.env := by rfl)
    (hfew : fewSh X [e] cpos = true := by rfl) (hline : (apos.endLine == cpos.line) = true := by rfl) (hst : starEach [e] X.env = (false, eval e X.env) :: starEach [] X.env := by rfl) (hplain : (backTo cpos (starEach [] X.env)).any (·.1) = false := by rfl) :
    SE G X W (.Call (.Attribute o "join" apos) [e] [] cpos) (mBM .str fJoin mo ma) := se_bm (T := .str) hK (.inl rfl) PySem.F.plainAttrs_str PySem.F.slot_str_join PySem.F.type_str_join (hK ▸ mt_join) snd_join ho ha hbase hfew hline hst hplain
def fSplit : AV → List AV → List AO → Option (AV × List AO) := fun x vs h => match x, vs with
  | .str a, [.str b] => if (b.length == 0) = false ∧ a.length ≤ 1000000 then some (.ref h.length, h ++ [.lst ((Txt.split a b).map .str)]) else none
  | _, _ => none
theorem strs_ra {n : Nat} {al : Nat → Addr} {H : Hp} : ∀ ys : List Str, RAs G n al H (ys.map AV.str) (ys.map V.str)
  | [] => .nil
  | _ :: ys => .cons .str (strs_ra ys)
theorem snd_split : SndM G (fun x xs H Q => ∃ a b, x = .str a ∧ xs = [.str b] ∧ (b.length == 0) = false ∧ a.length + 2 ≤ sizeLine ∧ rNewStrs (Txt.split a b) H Q) fSplit := by
  intro H al h x xs u us v h' Q hr rx rs e q
  unfold fSplit at e
  split at e
  · rename_i a b
    split at e
    · rename_i hl
      cases e
      cases rx
      obtain ⟨w, rfl, r⟩ := one_of rs
      cases r
      exact ⟨a, b, rfl, rfl, hl.1, by rw [sizeLine_eq]; have := hl.2; omega, fun p hp => FwV.newL .refl hr hp (strs_ra _) q⟩
    · cases e
  · cases e
theorem se_split (hK : X.K = G.K) (ho : SE G X W o mo) (ha : SA G X W [e] ma) (hbase : attributeBase o "split" X.env (eval o X.env) = eval o X.env := by rfl)
    (hfew : fewSh X [e] cpos = true := by rfl) (hline : (apos.endLine == cpos.line) = true := by rfl) (hst : starEach [e] X.env = (false, eval e X.env) :: starEach [] X.env := by rfl) (hplain : (backTo cpos (starEach [] X.env)).any (·.1) = false := by rfl) :
    SE G X W (.Call (.Attribute o "split" apos) [e] [] cpos) (mBM .str fSplit mo ma) := se_bm (T := .str) hK (.inl rfl) PySem.F.plainAttrs_str PySem.F.slot_str_split PySem.F.type_str_split mt_split snd_split ho ha hbase hfew hline hst hplain

/-! ### text * int -/
def rMulS : R2 := fun x y H Q => ∃ a k, x = .str a ∧ y = .int k ∧ 0 ≤ k ∧ k ≤ 1000 ∧ a.length ≤ 1000 ∧ Q (.str (Txt.mul a k)) H
theorem op_mulT : OpR X (binaryOp .Mult) rMulS := by
  intro pn s σ H x y v u Q I rx ry h
  obtain ⟨a, k, rfl, rfl, h0, h1, h2, q⟩ := h
  obtain ⟨t, rfl⟩ := rx
  obtain ⟨t2, rfl⟩ := ry
  refine PySem.SB.mul ⟨?_, fun a1 _ z => ?_, fun _ _ => ?_⟩ fun t' k' => ⟨.str _, H, I.tok _, ⟨_, rfl⟩, q⟩
  · simp; omega
  · have d1 : (1000 : Int) ≤ (2 ^ 63 - 1) / k := by
      rw [Int.le_ediv_iff_mul_le (by omega)]
      omega
    omega
  · unfold PySem.Builtin.Str.tooLong
    have b2 : k.toNat ≤ 1000 := by omega
    have b3 := Nat.mul_le_mul h2 b2
    rw [decide_eq_false_iff_not]
    rw [sizeLine_eq]
    omega
def oRepS : AV → AV → List AO → Option (AV × List AO) := fun x y h => match x, y with
  | .str a, .int k => if 0 ≤ k ∧ k ≤ 1000 ∧ a.length ≤ 1000 then some (.str (Txt.mul a k), h) else none
  | _, _ => none
theorem snd_repS : SndO G rMulS oRepS := by
  intro H al h x y u w v h' Q hr rx ry e q
  unfold oRepS at e
  split at e
  · rename_i a k
    split at e
    · rename_i hk
      cases e
      cases rx; cases ry
      exact ⟨a, k, rfl, rfl, hk.1, hk.2.1, hk.2.2, q al H _ .refl hr .str⟩
    · cases e
  · cases e
theorem se_mulS {a b : Expr} {ma mb : AE} (ha : SE G X W a ma) (hb : SE G X W b mb) : SE G X W (.BinOp a .Mult b pos) (m2 oRepS ma mb) := se_bin op_mulT snd_repS ha hb

/-! ### l[i] = v -/
def gSub1 (mo mi : AE) : AG := fun v e h => match mo e h with
  | some (.ok (.ref i), h1) => match mi e h1 with
    | some (.ok (.int k), h2) => match h2[i]? with
      | some (.lst xs) => match ixN xs.length k with
        | some j => some (e, h2.set i (.lst (xs.set j v)))
        | none => none
      | _ => none
    | _ => none
  | _ => none
theorem sg_sub {i : Expr} {mi : AE} (ho : SE G X W o mo) (hi : SE G X W i mi)
    (as_ : ∀ w, assign (.Subscript o i pos) X.env w = (do
      let c ← holding [w] (eval o X.env)
      let n ← holding [w, c] (eval i X.env)
      standAt pos
      holding [w, c, n] (setItem c n w)
      release [w, c, n] []) := by intro _; rfl) : SG G X false [] (.Subscript o i pos) (gSub1 mo mi) := by
  obtain ⟨t, p, s⟩ := ho
  obtain ⟨t2, p2, s2⟩ := hi
  refine ⟨_, pg_sub p p2 set_list as_, ?_⟩
  intro σ H al e h v u e' h' Q hr er rl hm q
  rcases rl with rl | ⟨z, _⟩
  · unfold gSub1 at hm
    split at hm
    · rename_i i h1 em
      split at hm
      · rename_i k h2 em2
        split at hm
        · rename_i xs hx
          split at hm
          · rename_i j hj
            cases hm
            refine s σ H al e h _ _ _ hr er em ?_
            intro al1 H1 ux x1 hr1 r1
            refine s2 σ H1 al1 e h1 _ _ _ hr1 (er.mono x1) em2 ?_
            intro al2 H2 uk x2 hr2 r2
            cases r2
            obtain ⟨vs, e5, rs⟩ := lstAt hr2 hx
            have x12 := x1.trans x2
            have E := ext_put (u := .lst (vs.set j u)) hr2 hx rfl
            refine ⟨al2 i, vs, k, j, refAt (r1.mono x2), rfl, e5, by rw [← rs.length]; exact hj, ?_⟩
            refine q al2 _ σ ?_ (hr2.put hx rfl rfl ⟨_, upd_same, ?_⟩) ?_ rfl fun _ _ => rfl
            · rw [List.length_set]; exact x12.trans E
            · exact (rs.set j (rl.mono x12)).mono E
            · rw [List.length_set]; exact er.mono (x12.trans E)
          · cases hm
        · cases hm
      · cases hm
    · cases hm
  · cases z

/-! ### f(k = v, ..) -/
section
variable {k np : Nat} {f : Addr} {fd : FuncData} {ps : List Str} {m : List AV → AM AV} {x : Str}
theorem se_callK0 {ks : List Str} {kws : List Keyword} {g : List Value → List Value → List Value} {gV : List V → List V → List V} {gA : List AV → List AV → List AV} {mk : AEnv → AM (List AV)} (F : FnG X.prog X.w X.K X.mg X.base k f fd ps (spG G np m)) (hr : Room k X.A) (hgu : X.A.guards = some []) (hm : X.mg x = some (.ref f)) (hk : PySem.W.keepIn X.K (.ref f) = true)
    (hb : KBn X.K fd ps 0 ks g gV) (hgA : ∀ n al H vs us zs ws, RAs G n al H vs us → RAs G n al H zs ws → RAs G n al H (gA vs zs) (gV us ws)) (hlg : ∀ vs zs : List AV, vs.length = 0 → zs.length = ks.length → (gA vs zs).length = np) (tk : Takes X W)
    (hlk : ∀ en h vs h', mk en h = some (.ok vs, h') → vs.length = ks.length) (hkw : SK G X W kws mk)
    (hall : (backToKw pos (keywordEach kws X.env)).all (·.1.isSome) = true := by rfl) (hks : (backToKw pos (keywordEach kws X.env)).filterMap (·.1) = ks := by rfl)
    (hg : Gl X x := by rfl) (hdb : (x == ("__debug__" : Str)) = false := by decide)
    (hpl : ((backTo pos (starEach [] X.env)).any (·.1) || (backToKw pos (keywordEach kws X.env)).any (·.1.isNone)) = false := by rfl) : SE G X W (.Call (.Name x p) [] kws pos) (mCallK m gA mNil mk) := by
  obtain ⟨t2, pk, sk⟩ := hkw
  refine ⟨fun σ H Q => t2 σ H fun zs H2 => zs.length = ks.length ∧ spG G np m (gV [] zs) H2 Q (WE W σ), ?_, ?_⟩
  · refine ⟨fun pins s σ H Q I h => ?_⟩
    apply wpAny_Call_Name_kw (ld_glob I hg hm _ hdb)
    refine PySem.W.callWith_KW0 (h₀ := X.base) I.ok.mod.kin hk hall (thn (pk.run pos pins s σ H _ I h) fun ws s2 ⟨zs, H2, I2, rz, l2, q2⟩ => ⟨I2.kIn, ?_⟩) hpl
    rw [hks]
    exact run_fnKG (us := []) (vs := []) F hr hgu hb (passAt tk σ) I2 .nil rz rfl (by rw [← rz.length]; exact l2) q2
  · intro σ H al en h r h' Q hR er em q
    have em' : bnd (mk en h) (fun zs h2 => m (gA [] zs) h2) = some (r, h') := em
    rcases bnd_some em' with ⟨c, kk, e1, rfl⟩ | ⟨zs, h1, e1, e2⟩
    · exact sk σ H al en h _ _ _ hR er e1 q
    · refine sk σ H al en h _ _ _ hR er e1 ?_
      intro al1 H1 ws x1 hr1 r1
      refine ⟨by rw [← r1.length]; exact hlk _ _ _ _ e1, ?_⟩
      exact spG_in (hlg [] zs rfl (hlk _ _ _ _ e1)) x1 hr1 (hgA _ _ _ _ _ _ _ .nil r1) e2 q
end

/-! ### the suite of a clause: x = .. -/
variable {k : Nat} {d a : Addr} {i : Option Nat}
theorem xb_set (j : Nat) {x : Str} {ex : Expr} {m : AE} {pos' : Pos} (hij : ∀ z, i = some z → z ≠ j) (hN : X.N.Nodup) (he : XE G X k d i a ex m) (hi : X.N[j]? = some x := by rfl) (hx : Loc X.env.scope x := by first | exact Or.inl rfl | exact Or.inr rfl) (hs : swapsWith ex (some (.Name x pos')) pos.line X.env = pure false := by rfl)
    (hf : X.fn x = true ∨ X.env.scope.names.lookup x = some .local := by first | exact .inl rfl | exact .inr rfl | assumption) : XB G X k d i a [.Assign [.Name x pos'] ex pos] (mAsg m (gA j)) := by
  obtain ⟨t, p, s⟩ := he
  refine ⟨_, pss_one (ps_set hN hi hx p hs hf), ?_⟩
  intro σ H al e h fl h' D hr er hd hm q
  rcases bndS_some hm with ⟨c, k', e1, rfl⟩ | ⟨v, h1, e1, e2⟩
  · exact s σ H al e h _ _ _ hr er hd e1 (PoS.exE er q)
  · cases e2
    exact s σ H al e h _ _ _ hr er hd e1 fun al1 H1 u x1 hr1 r1 => q al1 H1 _ x1 hr1 ((er.mono x1).set r1)
end
end SL
/-! PT1: plain laws: what a heap keeps; comprehensions and walks with pure elements; texts of digits; splitting. -/
namespace SL
open PySem PySem.Spec PyProof.Rows L2

/-! ### simp laws -/
section
variable {h : List AO} {e : AEnv} {ms : List AE} {m : AE} {acc y z : Str} {i : Int}
@[simp] theorem tyA_str : tyA .str h (.str z) = true := (rfl)
def jsK (ms : List AE) (acc : Str) (e : AEnv) (o : OV AV) : OV AV := bnd o fun x h1 => match x with
  | .str y => if (acc ++ y).length ≤ 1000000 then mJs ms (acc ++ y) e h1 else none
  | _ => none
@[simp] theorem e_mJoined : mJoined ms e h = mJs ms Str.empty e h := (rfl)
@[simp] theorem mJs_nil : mJs [] acc e h = some (.ok (.str acc), h) := (rfl)
@[simp] theorem mJs_cons : mJs (m :: ms) acc e h = jsK ms acc e (m e h) := (rfl)
@[simp] theorem jsK_str : jsK ms acc e (some (.ok (.str y), h)) = if (acc ++ y).length ≤ 1000000 then mJs ms (acc ++ y) e h else none := (rfl)
@[simp] theorem oFmt_str : oFmt (.str y) h = if y.length ≤ 1000000 then some (.str y, h) else none := (rfl)
@[simp] theorem oFmt_int : oFmt (.int i) h = if i.natAbs.log2 < 1900 then some (.str (txI i), h) else none := (rfl)
@[simp] theorem fStr1_int : fStr1 [.int i] h = if i.natAbs.log2 < 1900 then some (.str (txI i), h) else none := (rfl)
theorem add_str {a b : Str} (q : a.length + b.length ≤ 1000000) : oAddA (.str a) (.str b) h = some (.str (a ++ b), h) := by
  have e : oAddS (.str a) (.str b) h = some (.str (a ++ b), h) := if_pos q
  have e0 : oAdd0 (.str a) (.str b) h = none := rfl
  simp only [oAddA, oAdd, orO, e, e0]
@[simp] theorem fStr1_str : fStr1 [.str y] h = some (.str y, h) := (rfl)
end

section
variable {h : List AO} {e : AEnv} {b : AS} {ma : AE} {c k i cH : Nat} {fld : Str} {v : AV}
def raK (c : Nat) (fld : Str) (e : AEnv) (o : OV AV) : OS := bndS o e fun v h1 => some (.ex c h1.length e, h1 ++ [.xd [(fld, v)]])
@[simp] theorem e_mRaise : mRaise c fld ma e h = raK c fld e (ma e h) := (rfl)
@[simp] theorem raK_ok : raK c fld e (some (.ok v, h)) = some (.ex c h.length e, h ++ [.xd [(fld, v)]]) := (rfl)
@[simp] theorem dropK_ex' : dropK e (some (.ex c k, h)) = some (.ex c k e, h) := (rfl)
def tryF (i : Nat) (o : OS) : OS := match o with
  | some (fl, h2) => (offFl i fl).map fun fl => (fl, h2)
  | none => none
def tryK (i cH : Nat) (ms : Nat → AS) (o : OS) : OS := match o with
  | some (.ex c k e1, h1) => if c = cH ∧ i < e1.length then tryF i (ms k (e1.set i none) h1) else none
  | r => r
@[simp] theorem e_mTryAs {ms : Nat → AS} : mTryAs i cH b ms e h = tryK i cH ms (b e h) := by
  unfold mTryAs tryK tryF
  rfl
@[simp] theorem tryK_nx {ms : Nat → AS} : tryK i cH ms (some (.nx e, h)) = some (.nx e, h) := (rfl)
@[simp] theorem tryK_ex {ms : Nat → AS} : tryK i cH ms (some (.ex c k e, h)) = if c = cH ∧ i < e.length then tryF i (ms k (e.set i none) h) else none := (rfl)
@[simp] theorem tryF_nx : tryF i (some (.nx e, h)) = some (.nx (e.set i none), h) := (rfl)
def xfK (f : Str) (h : List AO) (o : Option AO) : OV AV := match o with
  | some (.xd fs) => match fs.lookup f with
    | some v => some (.ok v, h)
    | none => none
  | _ => none
@[simp] theorem e_mXf : mXf k fld e h = xfK fld h h[k]? := by
  unfold mXf xfK
  rfl
@[simp] theorem xfK_one : xfK fld h (some (.xd [(fld, v)])) = some (.ok v, h) := by
  unfold xfK
  simp [List.lookup]
end

/-! ### what is kept -/
def Kq (h h' : List AO) : Prop := ∀ (i : Nat) (o : AO), h[i]? = some o → h'[i]? = some o
section
variable {h h' h'' g : List AO} {d t : Nat} {o : AO}
theorem Kq.refl : Kq h h := fun _ _ q => q
theorem Kq.trans (a : Kq h h') (b : Kq h' h'') : Kq h h'' := fun i o q => b i o (a i o q)
theorem Kq.app : Kq h (h ++ g) := fun _ _ q => get_app q g
theorem Kq.set (a : Kq h h') (hd : h.length ≤ d) : Kq h (h'.set d o) := fun i x q => by
  have : i < h.length := lt_of_at q
  rw [set_ne (by omega)]
  exact a i x q
theorem Kq.le (a : Kq h h') : h.length ≤ h'.length := by
  rcases Nat.lt_or_ge h'.length h.length with c | c
  · have z : h[h'.length]? = some h[h'.length] := List.getElem?_eq_getElem c
    have := lt_of_at (a _ _ z)
    omega
  · exact c
/-- all but cell t is kept -/
structure Kp (t : Nat) (h h' : List AO) : Prop where
  le : h.length ≤ h'.length
  at_ : ∀ (i : Nat) (o : AO), i ≠ t → h[i]? = some o → h'[i]? = some o
theorem Kp.refl : Kp t h h := ⟨Nat.le_refl _, fun _ _ _ q => q⟩
theorem Kp.trans (a : Kp t h h') (b : Kp t h' h'') : Kp t h h'' := ⟨Nat.le_trans a.le b.le, fun i o n q => b.at_ i o n (a.at_ i o n q)⟩
theorem Kp.of (a : Kq h h') : Kp t h h' := ⟨a.le, fun i o _ q => a i o q⟩
theorem Kp.setT (a : Kp t h h') : Kp t h (h'.set t o) := ⟨by rw [List.length_set]; exact a.le, fun i x n q => by rw [set_ne (Ne.symm n)]; exact a.at_ i x n q⟩
theorem Kp.setN (a : Kp t h h') (hd : h.length ≤ d) : Kp t h (h'.set d o) := ⟨by rw [List.length_set]; exact a.le, fun i x n q => by
  have : i < h.length := lt_of_at q
  rw [set_ne (by omega)]
  exact a.at_ i x n q⟩
theorem Kp.app : Kp t h (h ++ g) := .of .app
end

/-! ### comprehensions -/
section
variable {I : AI} {g : AG} {b : AS} {t : EB} {el : AE} {e : AEnv} {h : List AO} {d f i j n : Nat}
theorem lcL_inv (Iv : Nat → List AV → List AO → Prop) (n : Nat) (hn : n ≤ 99999) (hl : ∀ i acc h, Iv i acc h → acc.length ≤ i) (hstop : ∀ acc h, Iv n acc h → I.at n h = some none)
    (hstep : ∀ i acc h, i < n → Iv i acc h → ∃ v e1 h1, I.at i h = some (some v) ∧ g v e h = some (e1, h1) ∧
      ((∃ h2, t e1 h1 = some (.ok false, h2) ∧ Iv (i + 1) acc h2) ∨
        ∃ h2 y h3, t e1 h1 = some (.ok true, h2) ∧ el e1 h2 = some (.ok y, h3) ∧ h3[d]? = some (.lst acc) ∧ Iv (i + 1) (acc ++ [y]) (h3.set d (.lst (acc ++ [y]))))) :
    ∀ (k i f : Nat) (acc : List AV) (h : List AO), i + k = n → k < f → Iv i acc h → ∃ acc' h', lcL I g t el d e f i h = some h' ∧ Iv n acc' h'
  | 0, i, f + 1, acc, h, hk, hf, h0 => by
    have : i = n := by omega
    subst this
    exact ⟨acc, h, by rw [lcL_st, hstop acc h h0]; rfl, h0⟩
  | k + 1, i, f + 1, acc, h, hk, hf, h0 => by
    obtain ⟨v, e1, h1, q1, q2, q3⟩ := hstep i acc h (by omega) h0
    rcases q3 with ⟨h2, q3, q4⟩ | ⟨h2, y, h3, q3, q4, q5, q6⟩
    · obtain ⟨acc', h', r1, r2⟩ := lcL_inv Iv n hn hl hstop hstep k (i + 1) f acc h2 (by omega) (by omega) q4
      exact ⟨acc', h', by rw [lcL_st, q1, lcA_it, q2, lcB_some, q3, lcD_f]; exact r1, r2⟩
    · have few := hl i acc h h0
      obtain ⟨acc', h', r1, r2⟩ := lcL_inv Iv n hn hl hstop hstep k (i + 1) f (acc ++ [y]) _ (by omega) (by omega) q6
      exact ⟨acc', h', by rw [lcL_st, q1, lcA_it, q2, lcB_some, q3, lcD_t, q4, lcE_ok, q5, lcF_lst, if_pos (by omega)]; exact r1, r2⟩
  | _, _, 0, _, _, _, hf, _ => by omega
section
variable {α : Type} {ls : List α} {inj fn : α → AV} {h0 : List AO}
theorem lc_mapA (hel : ∀ x ∈ ls, ∀ h, el (e.set j (some (inj x))) h = some (.ok (fn x), h)) (hI : ∀ i h, Kq h0 h → I.at i h = some (ls.map inj)[i]?) :
    ∀ (ys pre : List α) (f : Nat), ls = pre ++ ys → ls.length < 100000 → ys.length < f → lcL I (gA j) mYes el h0.length e f pre.length (h0 ++ [.lst (pre.map fn)]) = some (h0 ++ [.lst (ls.map fn)])
  | [], pre, f + 1, hx, hf, _ => by
    subst hx
    rw [lcL_st, hI _ _ .app]
    simp
  | y :: ys, pre, f + 1, hx, few, hf => by
    have at_ : (ls.map inj)[pre.length]? = some (inj y) := by rw [hx]; simp
    have ih := lc_mapA hel hI ys (pre ++ [y]) f (by rw [hx]; simp) few (by simp at hf; omega)
    have len : pre.length < 100000 := by rw [hx] at few; simp at few; omega
    rw [lcL_st, hI _ _ .app, at_, lcA_it]
    show lcB I (gA j) mYes el h0.length e f pre.length (some (e.set j (some (inj y)), h0 ++ [.lst (pre.map fn)])) = _
    rw [lcB_some, e_mYes, lcD_t, hel y (by rw [hx]; simp), lcE_ok]
    have gd : (h0 ++ [AO.lst (pre.map fn)])[h0.length]? = some (.lst (pre.map fn)) := by simp
    rw [gd, lcF_lst, if_pos (by simpa using len)]
    have st : (h0 ++ [AO.lst (pre.map fn)]).set h0.length (.lst (pre.map fn ++ [fn y])) = h0 ++ [.lst ((pre ++ [y]).map fn)] := by simp
    rw [st]
    simpa using ih
  | [], _, 0, _, _, hf => by omega
  | _ :: _, _, 0, _, _, hf => by omega
/-- [fn(x) for x in ls], nothing new in the heap but the list -/
theorem lc_map (hel : ∀ x ∈ ls, ∀ h, el (e.set j (some (inj x))) h = some (.ok (fn x), h)) (hI : ∀ i h, Kq h0 h → I.at i h = some (ls.map inj)[i]?) (few : ls.length < 100000) :
    lcL I (gA j) mYes el h0.length e 100000 0 (h0 ++ [.lst []]) = some (h0 ++ [.lst (ls.map fn)]) := lc_mapA hel hI ls [] 100000 rfl few few
theorem lc_filtA {p : α → Bool} (hel : ∀ x ∈ ls, ∀ h, el (e.set j (some (inj x))) h = some (.ok (fn x), h)) (ht : ∀ x ∈ ls, ∀ h, t (e.set j (some (inj x))) h = some (.ok (p x), h)) (hI : ∀ i h, Kq h0 h → I.at i h = some (ls.map inj)[i]?) :
    ∀ (ys pre : List α) (f : Nat), ls = pre ++ ys → ls.length < 100000 → ys.length < f → lcL I (gA j) t el h0.length e f pre.length (h0 ++ [.lst ((pre.filter p).map fn)]) = some (h0 ++ [.lst ((ls.filter p).map fn)])
  | [], pre, f + 1, hx, hf, _ => by
    subst hx
    rw [lcL_st, hI _ _ .app]
    simp
  | y :: ys, pre, f + 1, hx, few, hf => by
    have at_ : (ls.map inj)[pre.length]? = some (inj y) := by rw [hx]; simp
    have ih := lc_filtA hel ht hI ys (pre ++ [y]) f (by rw [hx]; simp) few (by simp at hf; omega)
    have len : (pre.filter p).length < 100000 := by
      have := List.length_filter_le p pre
      rw [hx] at few; simp at few; omega
    rw [lcL_st, hI _ _ .app, at_, lcA_it]
    show lcB I (gA j) t el h0.length e f pre.length (some (e.set j (some (inj y)), h0 ++ [.lst ((pre.filter p).map fn)])) = _
    rw [lcB_some, ht y (by rw [hx]; simp)]
    cases c : p y with
    | false =>
      rw [lcD_f]
      simpa [c] using ih
    | true =>
      rw [lcD_t, hel y (by rw [hx]; simp), lcE_ok]
      have gd : (h0 ++ [AO.lst ((pre.filter p).map fn)])[h0.length]? = some (.lst ((pre.filter p).map fn)) := by simp
      rw [gd, lcF_lst, if_pos (by simpa using len)]
      have st : (h0 ++ [AO.lst ((pre.filter p).map fn)]).set h0.length (.lst ((pre.filter p).map fn ++ [fn y])) = h0 ++ [.lst (((pre ++ [y]).filter p).map fn)] := by simp [c]
      rw [st]
      simpa using ih
  | [], _, 0, _, _, hf => by omega
  | _ :: _, _, 0, _, _, hf => by omega
/-- [fn(x) for x in ls if p(x)] -/
theorem lc_filt {p : α → Bool} (hel : ∀ x ∈ ls, ∀ h, el (e.set j (some (inj x))) h = some (.ok (fn x), h)) (ht : ∀ x ∈ ls, ∀ h, t (e.set j (some (inj x))) h = some (.ok (p x), h)) (hI : ∀ i h, Kq h0 h → I.at i h = some (ls.map inj)[i]?) (few : ls.length < 100000) :
    lcL I (gA j) t el h0.length e 100000 0 (h0 ++ [.lst []]) = some (h0 ++ [.lst ((ls.filter p).map fn)]) := lc_filtA hel ht hI ls [] 100000 rfl few few
theorem at_srcL {r : Nat} {xs : List AV} (q : h0[r]? = some (.lst xs)) : ∀ i h, Kq h0 h → AI.at (.src (.lst r)) i h = some xs[i]? := fun i h k => by
  rw [at_lst, k _ _ q]
  rfl
theorem at_srcT {xs : List AV} : ∀ i h, Kq h0 h → AI.at (.src (.tup xs)) i h = some xs[i]? := fun i h k => rfl
theorem at_strM {z : Str} : ∀ i h, Kq h0 h → AI.at (.str z) i h = some ((z.cps.toList.map fun c => AV.str ⟨#[c]⟩)[i]?) := fun i h k => by
  show some ((z.cps[i]?).map fun c => AV.str ⟨#[c]⟩) = _
  simp
/-- for x in ls: l.append(fn(x)) -/
theorem for_mapA (hb : ∀ x ∈ ls, ∀ acc, acc.length < ls.length → b (e.set j (some (inj x))) (h0 ++ [.lst acc]) = some (.nx (e.set j (some (inj x))), h0 ++ [.lst (acc ++ [fn x])])) (hI : ∀ i h, Kq h0 h → I.at i h = some (ls.map inj)[i]?) :
    ∀ (ys pre : List α) (f : Nat) (y0 : Option AV) (e0 : AEnv), (e0 = e ∨ e0 = e.set j y0) → ls = pre ++ ys → ys.length < f → ∃ e', forL I (gA j) b f pre.length e0 (h0 ++ [.lst (pre.map fn)]) = some (.nx e', h0 ++ [.lst (ls.map fn)]) ∧ (e' = e ∨ ∃ y, e' = e.set j y)
  | [], pre, f + 1, y0, e0, he, hx, _ => by
    subst hx
    refine ⟨e0, ?_, he.imp _root_.id fun z => ⟨y0, z⟩⟩
    rw [forL_st, hI _ _ .app]
    simp
  | y :: ys, pre, f + 1, y0, e0, he, hx, hf => by
    have at_ : (ls.map inj)[pre.length]? = some (inj y) := by rw [hx]; simp
    have es : e0.set j (some (inj y)) = e.set j (some (inj y)) := by
      rcases he with rfl | rfl
      · rfl
      · rw [List.set_set]
    obtain ⟨e', r1, r2⟩ := for_mapA hb hI ys (pre ++ [y]) f (some (inj y)) (e0.set j (some (inj y))) (.inr es) (by rw [hx]; simp) (by simp at hf; omega)
    refine ⟨e', ?_, r2⟩
    rw [forL_st, hI _ _ .app, at_, frC_it]
    show frB I (gA j) b f pre.length (some (e0.set j (some (inj y)), h0 ++ [.lst (pre.map fn)])) = _
    rw [frB_some, es, hb y (by rw [hx]; simp) _ (by rw [hx]; simp), frA_nx, ← es]
    have st : h0 ++ [AO.lst (pre.map fn ++ [fn y])] = h0 ++ [.lst ((pre ++ [y]).map fn)] := by simp
    rw [st]
    simpa using r1
  | [], _, 0, _, _, _, _, hf => by omega
  | _ :: _, _, 0, _, _, _, _, hf => by omega
theorem for_map (hb : ∀ x ∈ ls, ∀ acc, acc.length < ls.length → b (e.set j (some (inj x))) (h0 ++ [.lst acc]) = some (.nx (e.set j (some (inj x))), h0 ++ [.lst (acc ++ [fn x])])) (hI : ∀ i h, Kq h0 h → I.at i h = some (ls.map inj)[i]?) (few : ls.length < 100000) :
    ∃ e', forL I (gA j) b 100000 0 e (h0 ++ [.lst []]) = some (.nx e', h0 ++ [.lst (ls.map fn)]) ∧ (e' = e ∨ ∃ y, e' = e.set j y) := for_mapA hb hI ls [] 100000 none e (.inl rfl) rfl few
end
end

theorem at_enm {h : List AO} {k i : Nat} {xs : List AV} (q : h[k]? = some (.lst xs)) : AI.at (.enm (.lst k)) i h = some ((xs[i]?).map fun x => .tup [.int (i : Nat), x]) := by
  simp [AI.at, Src.items, q]
def iEnK (o : OV (List AV)) : OV AI := bnd o fun vs h1 => match vs with
  | [x] => match toSrc h1 x with
    | some s => some (.ok (.enm s), h1)
    | none => none
  | _ => none
def enK (k : Nat) (h : List AO) (o : Option (List AV)) : OV AI := match o with
  | some _ => some (.ok (.enm (.lst k)), h)
  | none => none
section
variable {h : List AO} {e : AEnv}
@[simp] theorem e_iEn {ma : EL} : iEn ma e h = iEnK (ma e h) := by
  unfold iEn iEnK
  rfl
@[simp] theorem iEnK_ref {k : Nat} : iEnK (some (.ok [.ref k], h)) = enK k h (lstK h[k]?) := by
  cases q : h[k]? with
  | none => simp [iEnK, bnd, toSrc, Src.items, lstK, enK, q]
  | some o => cases o <;> simp [iEnK, bnd, toSrc, Src.items, lstK, enK, q]
@[simp] theorem enK_some {k : Nat} {xs : List AV} : enK k h (some xs) = some (.ok (.enm (.lst k)), h) := (rfl)
end

/-! ### digits -/
open TL
def dg (c : Nat) : Bool := decide (48 ≤ c ∧ c ≤ 57)
def allD (l : List Nat) : Bool := l.all dg
def isDig (l : List Nat) : Bool := !l.isEmpty && (allD l && (decide (l = [48]) || decide (l.head? ≠ some 48)))
theorem digits_tl : (Str.ofString "0123456789").cps.toList = [48, 49, 50, 51, 52, 53, 54, 55, 56, 57] := by decide +kernel
theorem digits_mem (c : Nat) : decide (c ∈ (Str.ofString "0123456789").cps.toList) = dg c := by
  unfold dg
  rw [digits_tl, decide_eq_decide]
  simp only [List.mem_cons, List.not_mem_nil, or_false]
  omega
theorem blsA_map {α : Type} (f : α → Bool) : ∀ l : List α, blsA (l.map fun c => .bl (f c)) = some (l.map f)
  | [] => rfl
  | c :: l => by
    show (blsA (l.map fun c => .bl (f c))).map (fun bs => f c :: bs) = _
    rw [blsA_map f l]
    rfl
theorem bsK_dg {l : List Nat} {h : List AO} : bsK (fun bs => bs.all _root_.id) h (some (l.map fun c => .bl (dg c))) = some (.bl (allD l), h) := by
  rw [bsK_some (blsA_map dg l)]
  unfold allD
  rw [List.all_map]
  rfl
theorem strsA_map : ∀ l : List Str, strsA (l.map AV.str) = some l
  | [] => rfl
  | c :: l => by
    show (strsA (l.map AV.str)).map (fun bs => c :: bs) = _
    rw [strsA_map l]
    rfl
theorem numL_head : ∀ n : Nat, 0 < n → (numL n).head? ≠ some 48 := by
  intro n
  induction n using Nat.strongRecOn
  case ind n ih =>
    intro hp
    by_cases h : n < 10
    · rw [numL_lt h]
      simp
      omega
    · rw [numL_step (by omega)]
      have := ih (n / 10) (by omega) (by omega)
      have ne := numL_ne (n / 10)
      cases q : numL (n / 10) with
      | nil => exact absurd q ne
      | cons c r => rw [q] at this; simpa using this
theorem isDig_num (n : Nat) : isDig (numL n) = true := by
  unfold isDig
  have ne := numL_ne n
  have ds := numL_digits n
  unfold allD dg
  simp only [Bool.and_eq_true, Bool.or_eq_true, decide_eq_true_eq, Bool.not_eq_true', List.isEmpty_eq_false_iff, List.all_eq_true]
  refine ⟨ne, fun c hc => ds c hc, ?_⟩
  by_cases h : n = 0
  · subst h; exact .inl (numL_lt (by decide))
  · exact .inr (numL_head n (by omega))
theorem isDig_val {x : Str} (h : isDig (tl x) = true) (hl : x.length ≤ 60) : PySem.intText? x = some ((NumText.digitsVal (tl x) : Nat) : Int) := by
  unfold isDig allD dg at h
  simp only [Bool.and_eq_true, Bool.not_eq_true', List.isEmpty_eq_false_iff, List.all_eq_true, decide_eq_true_eq] at h
  exact PySem.intText_digits (fun c hc => h.2.1 c hc) h.1 (by omega)

/-! ### splitting -/
theorem spl_ne (S : List Nat) : ∀ (k : Nat) (acc l : List Nat), spl S k acc l ≠ []
  | k, acc, [] => by rw [spl_nil]; simp
  | 0, acc, c :: r => by
    by_cases h : pre S (c :: r) = true
    · rw [spl_hit h]; simp
    · rw [spl_miss (by simpa using h)]; exact spl_ne S 0 _ r
  | k + 1, acc, c :: r => spl_ne S k acc r
theorem spl_le (S : List Nat) : ∀ (k : Nat) (acc l : List Nat), ∀ p ∈ spl S k acc l, p.length ≤ acc.length + l.length
  | k, acc, [], p, hp => by rw [spl_nil] at hp; simp at hp; subst hp; simp
  | 0, acc, c :: r, p, hp => by
    by_cases h : pre S (c :: r) = true
    · rw [spl_hit h] at hp
      rcases List.mem_cons.mp hp with eq0 | hp
      · subst eq0; simp
      · have := spl_le S _ [] r p hp
        simp at this ⊢
        omega
    · rw [spl_miss (by simpa using h)] at hp
      have := spl_le S 0 _ r p hp
      simp at this ⊢
      omega
  | k + 1, acc, c :: r, p, hp => by
    have := spl_le S k acc r p hp
    simp at this ⊢
    omega
theorem spl_mem (S : List Nat) : ∀ (k : Nat) (acc l : List Nat), ∀ p ∈ spl S k acc l, ∀ c ∈ p, c ∈ acc ∨ c ∈ l
  | k, acc, [], p, hp => by
    rw [spl_nil] at hp
    have e := List.mem_singleton.mp hp
    subst e
    exact fun c hc => .inl hc
  | 0, acc, a :: r, p, hp => by
    intro c hc
    by_cases h : pre S (a :: r) = true
    · rw [spl_hit h] at hp
      rcases List.mem_cons.mp hp with eq0 | hp
      · subst eq0; exact .inl hc
      · rcases spl_mem S _ [] r p hp c hc with z | z
        · cases z
        · exact .inr (List.mem_cons_of_mem _ z)
    · rw [spl_miss (by simpa using h)] at hp
      rcases spl_mem S 0 _ r p hp c hc with z | z
      · rcases List.mem_append.mp z with z | z
        · exact .inl z
        · rw [List.mem_singleton.mp z]; exact .inr (List.mem_cons_self ..)
      · exact .inr (List.mem_cons_of_mem _ z)
  | k + 1, acc, a :: r, p, hp => fun c hc => (spl_mem S k acc r p hp c hc).imp _root_.id fun z => List.mem_cons_of_mem _ z
theorem spl_cnt (S : List Nat) : ∀ (k : Nat) (acc l : List Nat), (spl S k acc l).length ≤ l.length + 1
  | k, acc, [] => by rw [spl_nil]; simp
  | 0, acc, c :: r => by
    by_cases h : pre S (c :: r) = true
    · rw [spl_hit h]
      have := spl_cnt S (S.length - 1) [] r
      simp at this ⊢
      omega
    · rw [spl_miss (by simpa using h)]
      have := spl_cnt S 0 (acc ++ [c]) r
      simp at this ⊢
      omega
  | k + 1, acc, c :: r => by
    have := spl_cnt S k acc r
    simp at this ⊢
    show (spl S k acc r).length ≤ _
    omega
section
variable {x y : Str}
theorem split_tl (hy : tl y ≠ []) (hk : y.cps.all (· < 256) = true) : (Txt.split x y).map tl = spl (tl y) 0 [] (tl x) := split_spl x y hy (kind_ok hk)
theorem split_ne (hy : tl y ≠ []) (hk : y.cps.all (· < 256) = true) : Txt.split x y ≠ [] := fun z => by
  have := split_tl (x := x) hy hk
  rw [z] at this
  exact spl_ne _ _ _ _ this.symm
theorem split_le (hy : tl y ≠ []) (hk : y.cps.all (· < 256) = true) : ∀ p ∈ Txt.split x y, p.length ≤ x.length := fun p hp => by
  have := spl_le (tl y) 0 [] (tl x) (tl p) (by rw [← split_tl hy hk]; exact List.mem_map_of_mem hp)
  rw [len_tl, len_tl]
  simpa using this
theorem split_mem (hy : tl y ≠ []) (hk : y.cps.all (· < 256) = true) : ∀ p ∈ Txt.split x y, ∀ c ∈ tl p, c ∈ tl x := fun p hp c hc => by
  rcases spl_mem (tl y) 0 [] (tl x) (tl p) (by rw [← split_tl hy hk]; exact List.mem_map_of_mem hp) c hc with z | z
  · cases z
  · exact z
theorem split_cnt (hy : tl y ≠ []) (hk : y.cps.all (· < 256) = true) : (Txt.split x y).length ≤ x.length + 1 := by
  have := spl_cnt (tl y) 0 [] (tl x)
  rw [← split_tl hy hk, List.length_map] at this
  rw [len_tl]
  exact this
end
/-! ### texts of few and plain signs -/
theorem len_app (a b : Str) : (a ++ b).length = a.length + b.length := by rw [len_tl, tl_append, List.length_append, ← len_tl, ← len_tl]
structure Fine (n : Nat) (z : Str) : Prop where
  le : z.length ≤ n
  ok : ∀ c ∈ tl z, c < 1114112
section
variable {x y z : Str} {m n : Nat}
theorem Fine.mono (h : Fine m z) (q : m ≤ n) : Fine n z := ⟨Nat.le_trans h.le q, h.ok⟩
theorem Fine.app (a : Fine m x) (b : Fine n y) : Fine (m + n) (x ++ y) := ⟨by rw [len_app]; have := a.le; have := b.le; omega, fun c hc => by
  rw [tl_append] at hc
  exact (List.mem_append.mp hc).elim (a.ok c) (b.ok c)⟩
theorem Fine.cut (a : Fine m x) (lo hi : Option Int) : Fine m (cutS x lo hi) := ⟨Nat.le_trans (cutS_length _ _ _) a.le, fun c hc => a.ok c (List.mem_of_mem_drop (List.mem_of_mem_take hc))⟩
theorem Fine.split (a : Fine m x) (hy : tl y ≠ []) (hk : y.cps.all (· < 256) = true) : ∀ p ∈ Txt.split x y, Fine m p := fun p hp => ⟨Nat.le_trans (split_le hy hk p hp) a.le, fun c hc => a.ok c (split_mem hy hk p hp c hc)⟩
def fineB (n : Nat) (z : Str) : Bool := decide (z.length ≤ n) && (tl z).all fun c => decide (c < 1114112)
theorem Fine.of (h : fineB n z = true) : Fine n z := by
  unfold fineB at h
  rw [Bool.and_eq_true, List.all_eq_true] at h
  exact ⟨of_decide_eq_true h.1, fun c hc => of_decide_eq_true (h.2 c hc)⟩
theorem Fine.join (hs : Fine m y) : ∀ {ls : List Str}, (∀ p ∈ ls, Fine n p) → Fine (ls.length * (n + m)) (Txt.join y ls)
  | [], _ => by rw [join_eq]; exact ⟨Nat.zero_le _, fun c hc => by cases hc⟩
  | [a], q => by
    rw [join_eq]
    exact (q a (by simp)).mono (by simp)
  | a :: b :: r, q => by
    have ih := Fine.join hs (ls := b :: r) fun p hp => q p (List.mem_cons_of_mem _ hp)
    rw [join_eq] at ih ⊢
    have ha := (q a (by simp)).app hs
    exact (ha.app ih).mono (by simp only [List.length_cons, Nat.add_mul]; omega)
end
section
variable {h : List AO} {l k : Nat}
theorem toD0s_strs {rf : Nat → Option PyData} : ∀ xs : List Str, toD0s rf (xs.map AV.str) = some (xs.map PyData.str)
  | [] => rfl
  | x :: xs => by
    rw [List.map_cons, List.map_cons, toD0s, toD0s_strs xs]
    simp [toD0]
theorem lay_strs : ∀ {xs : List Str}, (∀ x ∈ xs, PyData.strOk x = true) → PyData.canLayAll0 (xs.map PyData.str) = true
  | [], _ => by
    unfold PyData.canLayAll0
    rfl
  | x :: xs, q => by
    have ih := lay_strs (xs := xs) fun p hp => q p (List.mem_cons_of_mem _ hp)
    have h1 := q x (by simp)
    simp [PyData.canLayAll0, PyData.canLay0, ih, h1]
theorem deep_strs : ∀ xs : List Str, PyData.depthAll (xs.map PyData.str) = 0
  | [] => by
    unfold PyData.depthAll
    rfl
  | x :: xs => by simp [PyData.depthAll, PyData.depth, deep_strs xs]
theorem shaped_strs {xs : List Str} (q : ∀ x ∈ xs, PyData.strOk x = true) : SeqAt.shaped (.list (xs.map PyData.str)) = true := by
  simp [SeqAt.shaped, PyData.canLay0, PyData.depth, lay_strs q, deep_strs]
theorem ne_nil_strs {xs : List Str} (q : ∀ x ∈ xs, PyData.strOk x = true) (eL : h[l]? = some (.lst (xs.map AV.str))) (eN : h[k]? = some (.lst [])) : cEq true (.ref l) (.ref k) h = some (.bl (!xs.isEmpty), h) := by
  have d1 : toD h (.ref l) = some (.list (xs.map PyData.str)) := by
    rw [toD_ref, rfD_st, eL]
    show (toD0s _ (xs.map AV.str)).map _ = _
    rw [toD0s_strs]
    rfl
  have d2 : toD h (.ref k) = some (.list []) := by
    rw [toD_ref, rfD_st, eN]
    rfl
  have s2 : SeqAt.shaped (.list []) = true := shaped_strs (xs := []) fun _ z => by cases z
  have en : PyData.eqv (.list (xs.map PyData.str)) (.list []) = xs.isEmpty := by cases xs <;> simp [PyData.eqv, PyData.eqvAll]
  unfold cEq eqA
  rw [d1, d2]
  simp only [eqS, shaped_strs q, s2, en, Bool.and_self, if_true, Option.map_some]
theorem dq_nil_strs {xs : List Str} (q : ∀ x ∈ xs, PyData.strOk x = true) (eL : h[l]? = some (.lst (xs.map AV.str))) (eN : h[k]? = some (.lst [])) : dqK (rfD 12 h l) (rfD 12 h k) = some xs.isEmpty := by
  have d1 : rfD 12 h l = some (.list (xs.map PyData.str)) := by
    rw [rfD_st, eL]
    show (toD0s _ (xs.map AV.str)).map _ = _
    rw [toD0s_strs]
    rfl
  have d2 : rfD 12 h k = some (.list []) := by
    rw [rfD_st, eN]
    rfl
  have s2 : SeqAt.shaped (.list []) = true := shaped_strs (xs := []) fun _ z => by cases z
  have en : PyData.eqv (.list (xs.map PyData.str)) (.list []) = xs.isEmpty := by cases xs <;> simp [PyData.eqv, PyData.eqvAll]
  rw [d1, d2, dqK_some (shaped_strs q) s2, en]
theorem fine_strOk {n : Nat} {z : Str} (a : Fine n z) : PyData.strOk z = true := by
  unfold PyData.strOk
  rw [← Array.all_toList]
  rw [List.all_eq_true]
  exact fun c hc => decide_eq_true (a.ok c hc)
end
end SL
namespace K83
open PySem PySem.Spec PyProof.Rows L2 SL
def top (i : Nat) : Stmt := PySem.Challenge.pw_warmsteps_k83_texts_that_are_no_weavings.main.body.getD i (.Pass ⟨0, 0, 0, 0⟩)
abbrev s_law_tape : Stmt := top 10
abbrev s_law_pick : Stmt := top 11
abbrev s_law_one_of : Stmt := top 12
abbrev s_law_line_near : Stmt := top 14
abbrev s_law_bent : Stmt := top 15
abbrev s_law_is_line : Stmt := top 13
abbrev s_is_digits : Stmt := top 6
abbrev s_read_event : Stmt := top 7
abbrev s_read_weaving : Stmt := top 8
abbrev s_law_refused : Stmt := top 16
abbrev s_law : Stmt := top 17
abbrev s_BadText_init : Stmt := inClass (top 2) 0
theorem sc_law_tape : FnScope ["script", "start", "mixed", "cell", "digits", "names"] ["script", "start"] (defScope s_law_tape) := ⟨rfl, rfl, rfl, by decide +kernel, rfl, by decide +kernel, by decide +kernel⟩
theorem sc_law_pick : FnScope ["tape", "many", "found", "once"] ["tape", "many"] (defScope s_law_pick) := ⟨rfl, rfl, rfl, by decide +kernel, rfl, by decide +kernel, by decide +kernel⟩
theorem sc_law_one_of : FnScope ["tape", "items"] ["tape", "items"] (defScope s_law_one_of) := ⟨rfl, rfl, rfl, by decide +kernel, rfl, by decide +kernel, by decide +kernel⟩
theorem sc_law_line_near : FnScope ["tape", "some", "odd"] ["tape"] (defScope s_law_line_near) := ⟨rfl, rfl, rfl, by decide +kernel, rfl, by decide +kernel, by decide +kernel⟩
theorem sc_law_bent : FnScope ["tape", "line", "at", "sign"] ["tape", "line"] (defScope s_law_bent) := ⟨rfl, rfl, rfl, by decide +kernel, rfl, by decide +kernel, by decide +kernel⟩
theorem sc_law_is_line : FnScope ["line", "words", "sign"] ["line"] (defScope s_law_is_line) := ⟨rfl, rfl, rfl, by decide +kernel, rfl, by decide +kernel, by decide +kernel⟩
theorem sc_is_digits : FnScope ["text", "sign"] ["text"] (defScope s_is_digits) := ⟨rfl, rfl, rfl, by decide +kernel, rfl, by decide +kernel, by decide +kernel⟩
theorem sc_read_event : FnScope ["line", "parts"] ["line"] (defScope s_read_event) := ⟨rfl, rfl, rfl, by decide +kernel, rfl, by decide +kernel, by decide +kernel⟩
theorem sc_read_weaving : FnScope ["text", "found", "number", "line", "event"] ["text"] (defScope s_read_weaving) := ⟨rfl, rfl, rfl, by decide +kernel, rfl, by decide +kernel, by decide +kernel⟩
theorem sc_law_refused : FnScope ["text", "found", "e"] ["text"] (defScope s_law_refused) := ⟨rfl, rfl, rfl, by decide +kernel, rfl, by decide +kernel, by decide +kernel⟩
theorem sc_law : FnScope ["script", "start", "tape", "look", "lines", "turn", "at", "text", "rows", "wrong", "k", "value"] ["script"] (defScope s_law) := ⟨rfl, rfl, rfl, by decide +kernel, rfl, by decide +kernel, by decide +kernel⟩
def lb_law_tape_0 : AS :=
  mAsg (m2 oAddA (m2 oMod (mC1 fInt1 (mCons (m2 oPow (m2 oAddA (m2 oAddA (m2 oMul (mVar 2) (mC (.int 30013))) (m2 oMul (mVar 3) (mVar 3))) (mC (.int 11))) (mC (.int 2))) (mNil))) (mC (.int 2147483563))) (mC (.int 2))) (gA 2)
theorem ulb_law_tape_0 {e : AEnv} {h : List AO} : lb_law_tape_0 e h = (
  mAsg (m2 oAddA (m2 oMod (mC1 fInt1 (mCons (m2 oPow (m2 oAddA (m2 oAddA (m2 oMul (mVar 2) (mC (.int 30013))) (m2 oMul (mVar 3) (mVar 3))) (mC (.int 11))) (mC (.int 2))) (mNil))) (mC (.int 2147483563))) (mC (.int 2))) (gA 2)) e h := (rfl)
def b_law_tape : AS :=
  mSeq (mAsg (m2 oAddA (mC (.int 89)) (m2 oMul (mVar 1) (mC (.int 37)))) (gA 2)) (mSeq (mFor 100000 (iSq (mVar 0)) (gA 3) (lb_law_tape_0)) (mSeq (mAsg (mIf (mAnd (mB (m2 cLt (mVar 1) (mC1 fLen (mCons (mVar 0) (mNil))))) (mB (m2 cGe (m2 oIx (mVar 0) (mVar 1)) (m2 oPow (mC (.int 10)) (mC (.int 18)))))) (m2 oSub (m2 oIx (mVar 0) (mVar 1)) (m2 oPow (mC (.int 10)) (mC (.int 18)))) (mC (.int 0))) (gA 4)) (mSeq (mAsg (m2 oIx (mLst (mCons (mTup (mCons (mC (.str "x")) (mCons (mC (.str "y")) (mCons (mC (.str "a")) (mCons (mC (.str "b")) (mNil)))))) (mCons (mTup (mCons (mC (.str "name")) (mCons (mC (.str "zz")) (mCons (mC (.str "middle")) (mCons (mC (.str "tell")) (mNil)))))) (mCons (mTup (mCons (mC (.str "add")) (mCons (mC (.str "look")) (mCons (mC (.str "jump")) (mCons (mC (.str "az")) (mNil)))))) (mNil))))) (m2 oMod (mC1 fInt1 (mCons (mVar 2) (mNil))) (mC (.int 3)))) (gA 5)) (mRet (mDisp (mPr (mC (.str "digits")) (mVar 4) (mPr (mC (.str "mixed")) (mVar 2) (mPr (mC (.str "names")) (mVar 5) (fun _ h => some (.ok [], h))))))))))
def m_law_tape : List AV → AM AV := mFn 6 b_law_tape
theorem u_law_tape {a : List AV} {h : List AO} : m_law_tape a h = SL.fnK ((
  mSeq (mAsg (m2 oAddA (mC (.int 89)) (m2 oMul (mVar 1) (mC (.int 37)))) (gA 2)) (mSeq (mFor 100000 (iSq (mVar 0)) (gA 3) (lb_law_tape_0)) (mSeq (mAsg (mIf (mAnd (mB (m2 cLt (mVar 1) (mC1 fLen (mCons (mVar 0) (mNil))))) (mB (m2 cGe (m2 oIx (mVar 0) (mVar 1)) (m2 oPow (mC (.int 10)) (mC (.int 18)))))) (m2 oSub (m2 oIx (mVar 0) (mVar 1)) (m2 oPow (mC (.int 10)) (mC (.int 18)))) (mC (.int 0))) (gA 4)) (mSeq (mAsg (m2 oIx (mLst (mCons (mTup (mCons (mC (.str "x")) (mCons (mC (.str "y")) (mCons (mC (.str "a")) (mCons (mC (.str "b")) (mNil)))))) (mCons (mTup (mCons (mC (.str "name")) (mCons (mC (.str "zz")) (mCons (mC (.str "middle")) (mCons (mC (.str "tell")) (mNil)))))) (mCons (mTup (mCons (mC (.str "add")) (mCons (mC (.str "look")) (mCons (mC (.str "jump")) (mCons (mC (.str "az")) (mNil)))))) (mNil))))) (m2 oMod (mC1 fInt1 (mCons (mVar 2) (mNil))) (mC (.int 3)))) (gA 5)) (mRet (mDisp (mPr (mC (.str "digits")) (mVar 4) (mPr (mC (.str "mixed")) (mVar 2) (mPr (mC (.str "names")) (mVar 5) (fun _ h => some (.ok [], h))))))))))) (a.map some ++ List.replicate (6 - a.length) none) h) := (rfl)
def b_law_pick : AS :=
  mSeq (mIfS (mB (m2 cGe (m2 oDget (mVar 0) (mC (.str "digits"))) (mVar 1))) (mSeq (mAsg (m2 oMod (mC1 fInt1 (mCons (m2 oDget (mVar 0) (mC (.str "digits"))) (mNil))) (mVar 1)) (gA 2)) (mSeq (mDput (mVar 0) (mC (.str "digits")) (m2 oFdiv (m2 oDget (mVar 0) (mC (.str "digits"))) (mVar 1))) (mRet (mVar 2)))) (mNx)) (mSeq (mDput (mVar 0) (mC (.str "mixed")) (m2 oMod (mC1 fInt1 (mCons (m2 oAddA (m2 oMul (m2 oDget (mVar 0) (mC (.str "mixed"))) (mC (.int 40014))) (mC (.int 1017))) (mNil))) (mC (.int 2147483563)))) (mSeq (mAsg (m2 oMod (mC1 fInt1 (mCons (m2 oPow (m2 oDget (mVar 0) (mC (.str "mixed"))) (mC (.int 2))) (mNil))) (mC (.int 2147483399))) (gA 3)) (mRet (m2 oMod (mC1 fInt1 (mCons (m2 oFdiv (m2 oMod (mC1 fInt1 (mCons (m2 oPow (mVar 3) (mC (.int 3))) (mNil))) (mC (.int 998244353))) (mC (.int 7))) (mNil))) (mVar 1)))))
def m_law_pick : List AV → AM AV := mFn 4 b_law_pick
theorem u_law_pick {a : List AV} {h : List AO} : m_law_pick a h = SL.fnK ((
  mSeq (mIfS (mB (m2 cGe (m2 oDget (mVar 0) (mC (.str "digits"))) (mVar 1))) (mSeq (mAsg (m2 oMod (mC1 fInt1 (mCons (m2 oDget (mVar 0) (mC (.str "digits"))) (mNil))) (mVar 1)) (gA 2)) (mSeq (mDput (mVar 0) (mC (.str "digits")) (m2 oFdiv (m2 oDget (mVar 0) (mC (.str "digits"))) (mVar 1))) (mRet (mVar 2)))) (mNx)) (mSeq (mDput (mVar 0) (mC (.str "mixed")) (m2 oMod (mC1 fInt1 (mCons (m2 oAddA (m2 oMul (m2 oDget (mVar 0) (mC (.str "mixed"))) (mC (.int 40014))) (mC (.int 1017))) (mNil))) (mC (.int 2147483563)))) (mSeq (mAsg (m2 oMod (mC1 fInt1 (mCons (m2 oPow (m2 oDget (mVar 0) (mC (.str "mixed"))) (mC (.int 2))) (mNil))) (mC (.int 2147483399))) (gA 3)) (mRet (m2 oMod (mC1 fInt1 (mCons (m2 oFdiv (m2 oMod (mC1 fInt1 (mCons (m2 oPow (mVar 3) (mC (.int 3))) (mNil))) (mC (.int 998244353))) (mC (.int 7))) (mNil))) (mVar 1)))))) (a.map some ++ List.replicate (4 - a.length) none) h) := (rfl)
def b_law_one_of : AS :=
  mRet (m2 oIx (mVar 1) (mCall m_law_pick [] (mCons (mVar 0) (mCons (mC1 fLen (mCons (mVar 1) (mNil))) (mNil)))))
def m_law_one_of : List AV → AM AV := mFn 2 b_law_one_of
theorem u_law_one_of {a : List AV} {h : List AO} : m_law_one_of a h = SL.fnK ((
  mRet (m2 oIx (mVar 1) (mCall m_law_pick [] (mCons (mVar 0) (mCons (mC1 fLen (mCons (mVar 1) (mNil))) (mNil)))))) (a.map some ++ List.replicate (2 - a.length) none) h) := (rfl)
def b_law_line_near : AS :=
  mSeq (mAsg (mLst (mCons (mC (.str "0")) (mCons (mC (.str "7")) (mCons (mC (.str "12 comes 1 1")) (mCons (mC (.str "0 comes 2 0")) (mCons (mC (.str "3 comes 1 3")) (mCons (m2 oRepS (mC (.str "9")) (mC (.int 60))) (mCons (m2 oAddA (m2 oAddA (mC (.str "1")) (m2 oRepS (mC (.str "0")) (mC (.int 59)))) (mC (.str " comes 1 2"))) (mNil))))))))) (gA 1)) (mSeq (mAsg (mLst (mCons (mC (.str "")) (mCons (mC (.str "00")) (mCons (mC (.str "01")) (mCons (mC (.str "-1")) (mCons (mC (.str "1 ")) (mCons (mC (.str " 1")) (mCons (mC (.str "1 comes")) (mCons (mC (.str "1 comes 1")) (mCons (mC (.str "1 comes 3 1")) (mCons (mC (.str "1 comes 1 4")) (mCons (mC (.str "1 comes 0 1")) (mCons (mC (.str "1 Comes 1 1")) (mNil)))))))))))))) (gA 2)) (mSeq (mAsg (m2 oAddA (mVar 2) (mLst (mCons (mC (.str "1 comes 1 1 1")) (mCons (mC (.str "1  comes 1 1")) (mCons (mC (.str "a")) (mCons (mC (.str "1 goes 1 1")) (mCons (mC (.str "1 comes 01 1")) (mCons (mC (.str "1 comes 1 01")) (mCons (m2 oRepS (mC (.str "9")) (mC (.int 61))) (mCons (mC (.str "1\t")) (mCons (mC (.str "1 comes 1 -1")) (mCons (mC (.str "1_0")) (mNil))))))))))))) (gA 2)) (mRet (mCall m_law_one_of [] (mCons (mVar 0) (mCons (mCall m_law_one_of [] (mCons (mVar 0) (mCons (mLst (mCons (mVar 1) (mCons (mVar 1) (mCons (mVar 2) (mNil))))) (mNil)))) (mNil)))))))
def m_law_line_near : List AV → AM AV := mFn 3 b_law_line_near
theorem u_law_line_near {a : List AV} {h : List AO} : m_law_line_near a h = SL.fnK ((
  mSeq (mAsg (mLst (mCons (mC (.str "0")) (mCons (mC (.str "7")) (mCons (mC (.str "12 comes 1 1")) (mCons (mC (.str "0 comes 2 0")) (mCons (mC (.str "3 comes 1 3")) (mCons (m2 oRepS (mC (.str "9")) (mC (.int 60))) (mCons (m2 oAddA (m2 oAddA (mC (.str "1")) (m2 oRepS (mC (.str "0")) (mC (.int 59)))) (mC (.str " comes 1 2"))) (mNil))))))))) (gA 1)) (mSeq (mAsg (mLst (mCons (mC (.str "")) (mCons (mC (.str "00")) (mCons (mC (.str "01")) (mCons (mC (.str "-1")) (mCons (mC (.str "1 ")) (mCons (mC (.str " 1")) (mCons (mC (.str "1 comes")) (mCons (mC (.str "1 comes 1")) (mCons (mC (.str "1 comes 3 1")) (mCons (mC (.str "1 comes 1 4")) (mCons (mC (.str "1 comes 0 1")) (mCons (mC (.str "1 Comes 1 1")) (mNil)))))))))))))) (gA 2)) (mSeq (mAsg (m2 oAddA (mVar 2) (mLst (mCons (mC (.str "1 comes 1 1 1")) (mCons (mC (.str "1  comes 1 1")) (mCons (mC (.str "a")) (mCons (mC (.str "1 goes 1 1")) (mCons (mC (.str "1 comes 01 1")) (mCons (mC (.str "1 comes 1 01")) (mCons (m2 oRepS (mC (.str "9")) (mC (.int 61))) (mCons (mC (.str "1\t")) (mCons (mC (.str "1 comes 1 -1")) (mCons (mC (.str "1_0")) (mNil))))))))))))) (gA 2)) (mRet (mCall m_law_one_of [] (mCons (mVar 0) (mCons (mCall m_law_one_of [] (mCons (mVar 0) (mCons (mLst (mCons (mVar 1) (mCons (mVar 1) (mCons (mVar 2) (mNil))))) (mNil)))) (mNil)))))))) (a.map some ++ List.replicate (3 - a.length) none) h) := (rfl)
def b_law_bent : AS :=
  mSeq (mPar 2 3 (mCons (mCall m_law_pick [] (mCons (mVar 0) (mCons (m2 oAddA (mC1 fLen (mCons (mVar 1) (mNil))) (mC (.int 1))) (mNil)))) (mCons (mCall m_law_one_of [] (mCons (mVar 0) (mCons (mLst (mCons (mC (.str " ")) (mCons (mC (.str "0")) (mCons (mC (.str "1")) (mCons (mC (.str "4")) (mCons (mC (.str "a")) (mCons (mC (.str "-")) (mCons (mC (.str "\t")) (mCons (mC (.str "_")) (mCons (mC (.str ".")) (mNil))))))))))) (mNil)))) (mNil)))) (mRet (m2 oAddA (m2 oAddA (m3s oSlT (mVar 1) mPn (mPs (mVar 2))) (mCall m_law_one_of [] (mCons (mVar 0) (mCons (mLst (mCons (mVar 3) (mCons (mC (.str "")) (mCons (mVar 3) (mNil))))) (mNil))))) (m3s oSlT (mVar 1) (mPs (m2 oAddA (mVar 2) (mCall m_law_pick [] (mCons (mVar 0) (mCons (mC (.int 2)) (mNil)))))) mPn)))
def m_law_bent : List AV → AM AV := mFn 4 b_law_bent
theorem u_law_bent {a : List AV} {h : List AO} : m_law_bent a h = SL.fnK ((
  mSeq (mPar 2 3 (mCons (mCall m_law_pick [] (mCons (mVar 0) (mCons (m2 oAddA (mC1 fLen (mCons (mVar 1) (mNil))) (mC (.int 1))) (mNil)))) (mCons (mCall m_law_one_of [] (mCons (mVar 0) (mCons (mLst (mCons (mC (.str " ")) (mCons (mC (.str "0")) (mCons (mC (.str "1")) (mCons (mC (.str "4")) (mCons (mC (.str "a")) (mCons (mC (.str "-")) (mCons (mC (.str "\t")) (mCons (mC (.str "_")) (mCons (mC (.str ".")) (mNil))))))))))) (mNil)))) (mNil)))) (mRet (m2 oAddA (m2 oAddA (m3s oSlT (mVar 1) mPn (mPs (mVar 2))) (mCall m_law_one_of [] (mCons (mVar 0) (mCons (mLst (mCons (mVar 3) (mCons (mC (.str "")) (mCons (mVar 3) (mNil))))) (mNil))))) (m3s oSlT (mVar 1) (mPs (m2 oAddA (mVar 2) (mCall m_law_pick [] (mCons (mVar 0) (mCons (mC (.int 2)) (mNil)))))) mPn)))) (a.map some ++ List.replicate (4 - a.length) none) h) := (rfl)
def le_law_is_line_0 : AE :=
  mVar 2
theorem ule_law_is_line_0 {e : AEnv} {h : List AO} : le_law_is_line_0 e h = (
  mVar 2) e h := (rfl)
def b_law_is_line : AS :=
  mSeq (mAsg (mBM .str fSplit (mVar 0) (mCons (mC (.str " ")) (mNil))) (gA 1)) (mSeq (mIfS (mOr (mB (m2 (cEq false) (m2 oIx (mVar 1) (mC (.int 0))) (mC (.str "")))) (mOr (mB (m2 (cEq true) (mLc 100000 [2] (iSq (m2 oIx (mVar 1) (mC (.int 0)))) (gA 2) (mB (m2 (cIn true) (mVar 2) (mC (.str "0123456789")))) (le_law_is_line_0)) (mLst (mNil)))) (mB (m2 cGt (mC1 fLen (mCons (m2 oIx (mVar 1) (mC (.int 0))) (mNil))) (mC (.int 60)))))) (mRet (mC (.bl false))) (mNx)) (mSeq (mIfS (mAnd (mB (m2 (cEq false) (m2 oIx (m2 oIx (mVar 1) (mC (.int 0))) (mC (.int 0))) (mC (.str "0")))) (mB (m2 (cEq true) (m2 oIx (mVar 1) (mC (.int 0))) (mC (.str "0"))))) (mRet (mC (.bl false))) (mNx)) (mSeq (mIfS (mB (m2 (cEq false) (mC1 fLen (mCons (mVar 1) (mNil))) (mC (.int 1)))) (mRet (mC (.bl true))) (mNx)) (mRet (mAndV (m2 (cEq false) (mC1 fLen (mCons (mVar 1) (mNil))) (mC (.int 4))) (mAndV (m2 (cEq false) (m2 oIx (mVar 1) (mC (.int 1))) (mC (.str "comes"))) (mAndV (m2 (cIn false) (m2 oIx (mVar 1) (mC (.int 2))) (mTup (mCons (mC (.str "1")) (mCons (mC (.str "2")) (mNil))))) (m2 (cIn false) (m2 oIx (mVar 1) (mC (.int 3))) (mTup (mCons (mC (.str "0")) (mCons (mC (.str "1")) (mCons (mC (.str "2")) (mCons (mC (.str "3")) (mNil))))))))))))))
def m_law_is_line : List AV → AM AV := mFn 3 b_law_is_line
theorem u_law_is_line {a : List AV} {h : List AO} : m_law_is_line a h = SL.fnK ((
  mSeq (mAsg (mBM .str fSplit (mVar 0) (mCons (mC (.str " ")) (mNil))) (gA 1)) (mSeq (mIfS (mOr (mB (m2 (cEq false) (m2 oIx (mVar 1) (mC (.int 0))) (mC (.str "")))) (mOr (mB (m2 (cEq true) (mLc 100000 [2] (iSq (m2 oIx (mVar 1) (mC (.int 0)))) (gA 2) (mB (m2 (cIn true) (mVar 2) (mC (.str "0123456789")))) (le_law_is_line_0)) (mLst (mNil)))) (mB (m2 cGt (mC1 fLen (mCons (m2 oIx (mVar 1) (mC (.int 0))) (mNil))) (mC (.int 60)))))) (mRet (mC (.bl false))) (mNx)) (mSeq (mIfS (mAnd (mB (m2 (cEq false) (m2 oIx (m2 oIx (mVar 1) (mC (.int 0))) (mC (.int 0))) (mC (.str "0")))) (mB (m2 (cEq true) (m2 oIx (mVar 1) (mC (.int 0))) (mC (.str "0"))))) (mRet (mC (.bl false))) (mNx)) (mSeq (mIfS (mB (m2 (cEq false) (mC1 fLen (mCons (mVar 1) (mNil))) (mC (.int 1)))) (mRet (mC (.bl true))) (mNx)) (mRet (mAndV (m2 (cEq false) (mC1 fLen (mCons (mVar 1) (mNil))) (mC (.int 4))) (mAndV (m2 (cEq false) (m2 oIx (mVar 1) (mC (.int 1))) (mC (.str "comes"))) (mAndV (m2 (cIn false) (m2 oIx (mVar 1) (mC (.int 2))) (mTup (mCons (mC (.str "1")) (mCons (mC (.str "2")) (mNil))))) (m2 (cIn false) (m2 oIx (mVar 1) (mC (.int 3))) (mTup (mCons (mC (.str "0")) (mCons (mC (.str "1")) (mCons (mC (.str "2")) (mCons (mC (.str "3")) (mNil))))))))))))))) (a.map some ++ List.replicate (3 - a.length) none) h) := (rfl)
def le_is_digits_0 : AE :=
  m2 (cIn false) (mVar 1) (mC (.str "0123456789"))
theorem ule_is_digits_0 {e : AEnv} {h : List AO} : le_is_digits_0 e h = (
  m2 (cIn false) (mVar 1) (mC (.str "0123456789"))) e h := (rfl)
def b_is_digits : AS :=
  mRet (mAndV (m2 (cEq true) (mVar 0) (mC (.str ""))) (mAndV (mC1 fAll (mCons (mLc 100000 [1] (iSq (mVar 0)) (gA 1) mYes (le_is_digits_0)) (mNil))) (mOrV (m2 (cEq false) (mVar 0) (mC (.str "0"))) (m2 (cEq true) (m2 oIx (mVar 0) (mC (.int 0))) (mC (.str "0"))))))
def m_is_digits : List AV → AM AV := mFn 2 b_is_digits
theorem u_is_digits {a : List AV} {h : List AO} : m_is_digits a h = SL.fnK ((
  mRet (mAndV (m2 (cEq true) (mVar 0) (mC (.str ""))) (mAndV (mC1 fAll (mCons (mLc 100000 [1] (iSq (mVar 0)) (gA 1) mYes (le_is_digits_0)) (mNil))) (mOrV (m2 (cEq false) (mVar 0) (mC (.str "0"))) (m2 (cEq true) (m2 oIx (mVar 0) (mC (.int 0))) (mC (.str "0"))))))) (a.map some ++ List.replicate (2 - a.length) none) h) := (rfl)
def b_read_event : AS :=
  mSeq (mAsg (mBM .str fSplit (mVar 0) (mCons (mC (.str " ")) (mNil))) (gA 1)) (mSeq (mIfS (mOr (mNot (mB (mCall m_is_digits [] (mCons (m2 oIx (mVar 1) (mC (.int 0))) (mNil))))) (mB (m2 cGt (mC1 fLen (mCons (m2 oIx (mVar 1) (mC (.int 0))) (mNil))) (mC (.int 60))))) (mRet (mC .non)) (mNx)) (mSeq (mIfS (mB (m2 (cEq false) (mC1 fLen (mCons (mVar 1) (mNil))) (mC (.int 1)))) (mRet (mTup (mCons (mC1 fIntA (mCons (m2 oIx (mVar 1) (mC (.int 0))) (mNil))) (mNil)))) (mNx)) (mSeq (mIfS (mOr (mB (m2 (cEq true) (mC1 fLen (mCons (mVar 1) (mNil))) (mC (.int 4)))) (mOr (mB (m2 (cEq true) (m2 oIx (mVar 1) (mC (.int 1))) (mC (.str "comes")))) (mOr (mB (m2 (cIn true) (m2 oIx (mVar 1) (mC (.int 2))) (mC (.ktp [(.str "1"), (.str "2")])))) (mB (m2 (cIn true) (m2 oIx (mVar 1) (mC (.int 3))) (mTup (mCons (mC (.str "0")) (mCons (mC (.str "1")) (mCons (mC (.str "2")) (mCons (mC (.str "3")) (mNil))))))))))) (mRet (mC .non)) (mNx)) (mRet (mTup (mCons (mC1 fIntA (mCons (m2 oIx (mVar 1) (mC (.int 0))) (mNil))) (mCons (mC1 fIntA (mCons (m2 oIx (mVar 1) (mC (.int 2))) (mNil))) (mCons (mC1 fIntA (mCons (m2 oIx (mVar 1) (mC (.int 3))) (mNil))) (mNil)))))))))
def m_read_event : List AV → AM AV := mFn 2 b_read_event
theorem u_read_event {a : List AV} {h : List AO} : m_read_event a h = SL.fnK ((
  mSeq (mAsg (mBM .str fSplit (mVar 0) (mCons (mC (.str " ")) (mNil))) (gA 1)) (mSeq (mIfS (mOr (mNot (mB (mCall m_is_digits [] (mCons (m2 oIx (mVar 1) (mC (.int 0))) (mNil))))) (mB (m2 cGt (mC1 fLen (mCons (m2 oIx (mVar 1) (mC (.int 0))) (mNil))) (mC (.int 60))))) (mRet (mC .non)) (mNx)) (mSeq (mIfS (mB (m2 (cEq false) (mC1 fLen (mCons (mVar 1) (mNil))) (mC (.int 1)))) (mRet (mTup (mCons (mC1 fIntA (mCons (m2 oIx (mVar 1) (mC (.int 0))) (mNil))) (mNil)))) (mNx)) (mSeq (mIfS (mOr (mB (m2 (cEq true) (mC1 fLen (mCons (mVar 1) (mNil))) (mC (.int 4)))) (mOr (mB (m2 (cEq true) (m2 oIx (mVar 1) (mC (.int 1))) (mC (.str "comes")))) (mOr (mB (m2 (cIn true) (m2 oIx (mVar 1) (mC (.int 2))) (mC (.ktp [(.str "1"), (.str "2")])))) (mB (m2 (cIn true) (m2 oIx (mVar 1) (mC (.int 3))) (mTup (mCons (mC (.str "0")) (mCons (mC (.str "1")) (mCons (mC (.str "2")) (mCons (mC (.str "3")) (mNil))))))))))) (mRet (mC .non)) (mNx)) (mRet (mTup (mCons (mC1 fIntA (mCons (m2 oIx (mVar 1) (mC (.int 0))) (mNil))) (mCons (mC1 fIntA (mCons (m2 oIx (mVar 1) (mC (.int 2))) (mNil))) (mCons (mC1 fIntA (mCons (m2 oIx (mVar 1) (mC (.int 3))) (mNil))) (mNil)))))))))) (a.map some ++ List.replicate (2 - a.length) none) h) := (rfl)
def lb_read_weaving_0 : AS :=
  mSeq (mAsg (mCall m_read_event [] (mCons (mVar 3) (mNil))) (gA 4)) (mSeq (mIfS (mB (m2 (cIsN false) (mVar 4) (mC .non))) (mRaise 1 "line" (m2 oAddA (mVar 2) (mC (.int 1)))) (mNx)) (mDrop (mBM .lst fAppend (mVar 1) (mCons (mVar 4) (mNil)))))
theorem ulb_read_weaving_0 {e : AEnv} {h : List AO} : lb_read_weaving_0 e h = (
  mSeq (mAsg (mCall m_read_event [] (mCons (mVar 3) (mNil))) (gA 4)) (mSeq (mIfS (mB (m2 (cIsN false) (mVar 4) (mC .non))) (mRaise 1 "line" (m2 oAddA (mVar 2) (mC (.int 1)))) (mNx)) (mDrop (mBM .lst fAppend (mVar 1) (mCons (mVar 4) (mNil)))))) e h := (rfl)
def b_read_weaving : AS :=
  mSeq (mIfS (mNot (mB (m1 (oIsi [.str]) (mVar 0)))) (mRaise 1 "line" (mC (.int 1))) (mNx)) (mSeq (mAsg (mLst (mNil)) (gA 1)) (mSeq (mFor 100000 (iEn (mCons (mIf (mB (m2 (cEq true) (mVar 0) (mC (.str "")))) (mBM .str fSplit (mVar 0) (mCons (mC (.str "\n")) (mNil))) (mLst (mNil))) (mNil))) (gTupA (gsCons (gA 2) (gsCons (gA 3) gsNil))) (lb_read_weaving_0)) (mRet (mVar 1))))
def m_read_weaving : List AV → AM AV := mFn 5 b_read_weaving
theorem u_read_weaving {a : List AV} {h : List AO} : m_read_weaving a h = SL.fnK ((
  mSeq (mIfS (mNot (mB (m1 (oIsi [.str]) (mVar 0)))) (mRaise 1 "line" (mC (.int 1))) (mNx)) (mSeq (mAsg (mLst (mNil)) (gA 1)) (mSeq (mFor 100000 (iEn (mCons (mIf (mB (m2 (cEq true) (mVar 0) (mC (.str "")))) (mBM .str fSplit (mVar 0) (mCons (mC (.str "\n")) (mNil))) (mLst (mNil))) (mNil))) (gTupA (gsCons (gA 2) (gsCons (gA 3) gsNil))) (lb_read_weaving_0)) (mRet (mVar 1))))) (a.map some ++ List.replicate (5 - a.length) none) h) := (rfl)
def b_law_refused : AS :=
  mSeq (mAsg (mLst (mNil)) (gA 1)) (mSeq (mTryAs 2 1 (mDrop (mCall m_read_weaving [] (mCons (mVar 0) (mNil)))) (fun k => mAsg (mLst (mCons (mXf k "line") (mNil))) (gA 1))) (mRet (mVar 1)))
def m_law_refused : List AV → AM AV := mFn 3 b_law_refused
theorem u_law_refused {a : List AV} {h : List AO} : m_law_refused a h = SL.fnK ((
  mSeq (mAsg (mLst (mNil)) (gA 1)) (mSeq (mTryAs 2 1 (mDrop (mCall m_read_weaving [] (mCons (mVar 0) (mNil)))) (fun k => mAsg (mLst (mCons (mXf k "line") (mNil))) (gA 1))) (mRet (mVar 1)))) (a.map some ++ List.replicate (3 - a.length) none) h) := (rfl)
def le_law_0 : AE :=
  mCall m_law_line_near [] (mCons (mVar 2) (mNil))
theorem ule_law_0 {e : AEnv} {h : List AO} : le_law_0 e h = (
  mCall m_law_line_near [] (mCons (mVar 2) (mNil))) e h := (rfl)
def le_law_1 : AE :=
  m2 oAddA (mVar 10) (mC (.int 1))
theorem ule_law_1 {e : AEnv} {h : List AO} : le_law_1 e h = (
  m2 oAddA (mVar 10) (mC (.int 1))) e h := (rfl)
def lb_law_2 : AS :=
  mSeq (mAsg (mLc 100000 [5] (iR1 (mCons (m2 oAddA (mC (.int 1)) (mCall m_law_pick [] (mCons (mVar 2) (mCons (mC (.int 6)) (mNil))))) (mNil))) (gA 5) mYes (le_law_0)) (gA 4)) (mSeq (mAsg (mCall m_law_pick [] (mCons (mVar 2) (mCons (mC1 fLen (mCons (mVar 4) (mNil))) (mNil)))) (gA 6)) (mSeq (mAsg (mIf (mB (m2 (cEq false) (mCall m_law_pick [] (mCons (mVar 2) (mCons (mC (.int 2)) (mNil)))) (mC (.int 0)))) (mCall m_law_bent [] (mCons (mVar 2) (mCons (m2 oIx (mVar 4) (mVar 6)) (mNil)))) (m2 oIx (mVar 4) (mVar 6))) (gSub1 (mVar 4) (mVar 6))) (mSeq (mAsg (m2 oAddA (mBM .str fJoin (mC (.str "\n")) (mCons (mVar 4) (mNil))) (mCall m_law_one_of [] (mCons (mVar 2) (mCons (mLst (mCons (mC (.str "")) (mCons (mC (.str "")) (mCons (mC (.str "")) (mCons (mC (.str "\n")) (mNil)))))) (mNil))))) (gA 7)) (mSeq (mAsg (mIf (mB (m2 (cEq true) (mVar 7) (mC (.str "")))) (mBM .str fSplit (mVar 7) (mCons (mC (.str "\n")) (mNil))) (mLst (mNil))) (gA 8)) (mSeq (mAsg (mLc 100000 [10] (iR1 (mCons (mC1 fLen (mCons (mVar 8) (mNil))) (mNil))) (gA 10) (mNot (mB (mCall m_law_is_line [] (mCons (m2 oIx (mVar 8) (mVar 10)) (mNil))))) (le_law_1)) (gA 9)) (mIfS (mB (m2 (cEq true) (mC1 fRepr (mCons (mCall m_law_refused [] (mCons (mVar 7) (mNil))) (mNil))) (mC1 fRepr (mCons (m3s oSlT (mVar 9) mPn (mPs (mC (.int 1)))) (mNil))))) (mRet (mC (.bl false))) (mNx)))))))
theorem ulb_law_2 {e : AEnv} {h : List AO} : lb_law_2 e h = (
  mSeq (mAsg (mLc 100000 [5] (iR1 (mCons (m2 oAddA (mC (.int 1)) (mCall m_law_pick [] (mCons (mVar 2) (mCons (mC (.int 6)) (mNil))))) (mNil))) (gA 5) mYes (le_law_0)) (gA 4)) (mSeq (mAsg (mCall m_law_pick [] (mCons (mVar 2) (mCons (mC1 fLen (mCons (mVar 4) (mNil))) (mNil)))) (gA 6)) (mSeq (mAsg (mIf (mB (m2 (cEq false) (mCall m_law_pick [] (mCons (mVar 2) (mCons (mC (.int 2)) (mNil)))) (mC (.int 0)))) (mCall m_law_bent [] (mCons (mVar 2) (mCons (m2 oIx (mVar 4) (mVar 6)) (mNil)))) (m2 oIx (mVar 4) (mVar 6))) (gSub1 (mVar 4) (mVar 6))) (mSeq (mAsg (m2 oAddA (mBM .str fJoin (mC (.str "\n")) (mCons (mVar 4) (mNil))) (mCall m_law_one_of [] (mCons (mVar 2) (mCons (mLst (mCons (mC (.str "")) (mCons (mC (.str "")) (mCons (mC (.str "")) (mCons (mC (.str "\n")) (mNil)))))) (mNil))))) (gA 7)) (mSeq (mAsg (mIf (mB (m2 (cEq true) (mVar 7) (mC (.str "")))) (mBM .str fSplit (mVar 7) (mCons (mC (.str "\n")) (mNil))) (mLst (mNil))) (gA 8)) (mSeq (mAsg (mLc 100000 [10] (iR1 (mCons (mC1 fLen (mCons (mVar 8) (mNil))) (mNil))) (gA 10) (mNot (mB (mCall m_law_is_line [] (mCons (m2 oIx (mVar 8) (mVar 10)) (mNil))))) (le_law_1)) (gA 9)) (mIfS (mB (m2 (cEq true) (mC1 fRepr (mCons (mCall m_law_refused [] (mCons (mVar 7) (mNil))) (mNil))) (mC1 fRepr (mCons (m3s oSlT (mVar 9) mPn (mPs (mC (.int 1)))) (mNil))))) (mRet (mC (.bl false))) (mNx)))))))) e h := (rfl)
def lb_law_3 : AS :=
  mIfS (mB (m2 (cEq true) (mCall m_law_refused [] (mCons (mVar 11) (mNil))) (mLst (mCons (mC (.int 1)) (mNil))))) (mRet (mC (.bl false))) (mNx)
theorem ulb_law_3 {e : AEnv} {h : List AO} : lb_law_3 e h = (
  mIfS (mB (m2 (cEq true) (mCall m_law_refused [] (mCons (mVar 11) (mNil))) (mLst (mCons (mC (.int 1)) (mNil))))) (mRet (mC (.bl false))) (mNx)) e h := (rfl)
def lb_law_4 : AS :=
  mSeq (mAsg (mCall m_law_tape [] (mCons (mVar 0) (mCons (mVar 1) (mNil)))) (gA 2)) (mSeq (mFor 100000 (iR1 (mCons (mC (.int 8)) (mNil))) (gA 3) (lb_law_2)) (mFor 100000 (iSq (mLst (mCons (mC .non) (mCons (mC (.int 0)) (mCons (mC (.bl true)) (mCons (mLst (mCons (mC (.str "0")) (mNil))) (mCons (mTup (mCons (mC (.int 0)) (mNil))) (mCons (mDnew) (mNil))))))))) (gA 11) (lb_law_3)))
theorem ulb_law_4 {e : AEnv} {h : List AO} : lb_law_4 e h = (
  mSeq (mAsg (mCall m_law_tape [] (mCons (mVar 0) (mCons (mVar 1) (mNil)))) (gA 2)) (mSeq (mFor 100000 (iR1 (mCons (mC (.int 8)) (mNil))) (gA 3) (lb_law_2)) (mFor 100000 (iSq (mLst (mCons (mC .non) (mCons (mC (.int 0)) (mCons (mC (.bl true)) (mCons (mLst (mCons (mC (.str "0")) (mNil))) (mCons (mTup (mCons (mC (.int 0)) (mNil))) (mCons (mDnew) (mNil))))))))) (gA 11) (lb_law_3)))) e h := (rfl)
def b_law : AS :=
  mSeq (mFor 100000 (iR1 (mCons (mC1 fMax2 (mCons (mC (.int 1)) (mCons (mC1 fMin2 (mCons (mC (.int 3)) (mCons (mC1 fLen (mCons (mVar 0) (mNil))) (mNil)))) (mNil)))) (mNil))) (gA 1) (lb_law_4)) (mRet (mC (.bl true)))
def m_law : List AV → AM AV := mFn 12 b_law
theorem u_law {a : List AV} {h : List AO} : m_law a h = SL.fnK ((
  mSeq (mFor 100000 (iR1 (mCons (mC1 fMax2 (mCons (mC (.int 1)) (mCons (mC1 fMin2 (mCons (mC (.int 3)) (mCons (mC1 fLen (mCons (mVar 0) (mNil))) (mNil)))) (mNil)))) (mNil))) (gA 1) (lb_law_4)) (mRet (mC (.bl true)))) (a.map some ++ List.replicate (12 - a.length) none) h) := (rfl)
/-- what stands behind the top -/
structure Txt (P : Program) (K : PySem.W.Frag) (mg : Str → Option Value) where
  C1 : Addr
  I1 : Addr
  g1 : mg "BadText" = some (.ref C1)
  S1 : SupC P K C1 I1 "line" "line"
  x1 : XfC K C1
  e1 : PySem.W.exmOne K (.ref C1) (.ref C1) = some true
  z_super : mg "super" = none
  a_law_tape : Addr
  d_law_tape : FuncData
  F_law_tape : FunD K "_law_tape" "_law_tape" (defArgs s_law_tape) (defBody s_law_tape) (defScope s_law_tape) [] [] a_law_tape d_law_tape
  g_law_tape : mg "_law_tape" = some (.ref a_law_tape)
  b_law_tape : Binds K d_law_tape ["script", "start"] []
  a_law_pick : Addr
  d_law_pick : FuncData
  F_law_pick : FunD K "_law_pick" "_law_pick" (defArgs s_law_pick) (defBody s_law_pick) (defScope s_law_pick) [] [] a_law_pick d_law_pick
  g_law_pick : mg "_law_pick" = some (.ref a_law_pick)
  b_law_pick : Binds K d_law_pick ["tape", "many"] []
  a_law_one_of : Addr
  d_law_one_of : FuncData
  F_law_one_of : FunD K "_law_one_of" "_law_one_of" (defArgs s_law_one_of) (defBody s_law_one_of) (defScope s_law_one_of) [] [] a_law_one_of d_law_one_of
  g_law_one_of : mg "_law_one_of" = some (.ref a_law_one_of)
  b_law_one_of : Binds K d_law_one_of ["tape", "items"] []
  a_law_line_near : Addr
  d_law_line_near : FuncData
  F_law_line_near : FunD K "_law_line_near" "_law_line_near" (defArgs s_law_line_near) (defBody s_law_line_near) (defScope s_law_line_near) [] [] a_law_line_near d_law_line_near
  g_law_line_near : mg "_law_line_near" = some (.ref a_law_line_near)
  b_law_line_near : Binds K d_law_line_near ["tape"] []
  a_law_bent : Addr
  d_law_bent : FuncData
  F_law_bent : FunD K "_law_bent" "_law_bent" (defArgs s_law_bent) (defBody s_law_bent) (defScope s_law_bent) [] [] a_law_bent d_law_bent
  g_law_bent : mg "_law_bent" = some (.ref a_law_bent)
  b_law_bent : Binds K d_law_bent ["tape", "line"] []
  a_law_is_line : Addr
  d_law_is_line : FuncData
  F_law_is_line : FunD K "_law_is_line" "_law_is_line" (defArgs s_law_is_line) (defBody s_law_is_line) (defScope s_law_is_line) [] [] a_law_is_line d_law_is_line
  g_law_is_line : mg "_law_is_line" = some (.ref a_law_is_line)
  b_law_is_line : Binds K d_law_is_line ["line"] []
  a_is_digits : Addr
  d_is_digits : FuncData
  F_is_digits : FunD K "is_digits" "is_digits" (defArgs s_is_digits) (defBody s_is_digits) (defScope s_is_digits) [] [] a_is_digits d_is_digits
  g_is_digits : mg "is_digits" = some (.ref a_is_digits)
  b_is_digits : Binds K d_is_digits ["text"] []
  a_read_event : Addr
  d_read_event : FuncData
  F_read_event : FunD K "read_event" "read_event" (defArgs s_read_event) (defBody s_read_event) (defScope s_read_event) [] [] a_read_event d_read_event
  g_read_event : mg "read_event" = some (.ref a_read_event)
  b_read_event : Binds K d_read_event ["line"] []
  a_read_weaving : Addr
  d_read_weaving : FuncData
  F_read_weaving : FunD K "read_weaving" "read_weaving" (defArgs s_read_weaving) (defBody s_read_weaving) (defScope s_read_weaving) [] [] a_read_weaving d_read_weaving
  g_read_weaving : mg "read_weaving" = some (.ref a_read_weaving)
  b_read_weaving : Binds K d_read_weaving ["text"] []
  a_law_refused : Addr
  d_law_refused : FuncData
  F_law_refused : FunD K "_law_refused" "_law_refused" (defArgs s_law_refused) (defBody s_law_refused) (defScope s_law_refused) [] [] a_law_refused d_law_refused
  g_law_refused : mg "_law_refused" = some (.ref a_law_refused)
  b_law_refused : Binds K d_law_refused ["text"] []
  a_law : Addr
  d_law : FuncData
  F_law : FunD K "law" "law" (defArgs s_law) (defBody s_law) (defScope s_law) [] [] a_law d_law
  b_law : Binds K d_law ["script"] []
  a_CELLS : Addr
  c_CELLS : mg "CELLS" = some (.ref a_CELLS)
  t_CELLS : KTup K a_CELLS [(.str "1"), (.str "2")]
  u_DIGITS : Value
  c_DIGITS : mg "DIGITS" = some u_DIGITS
  r_DIGITS : RelV (.str "0123456789") u_DIGITS
  z_range : mg "range" = none
  z_max : mg "max" = none
  z_min : mg "min" = none
  z_len : mg "len" = none
  z_repr : mg "repr" = none
  z_int : mg "int" = none
  z_isinstance : mg "isinstance" = none
  z_str : mg "str" = none
  z_enumerate : mg "enumerate" = none
  z_all : mg "all" = none
abbrev gx {P : Program} {K : PySem.W.Frag} {mg : Str → Option Value} (T : Txt P K mg) : Gx := ⟨K, fun c => if c = 1 then T.C1 else 0, false⟩
section
variable {P : Program} {w : World} {K : PySem.W.Frag} {mg : Str → Option Value} {base : Heap}
theorem ok_law_tape (T : Txt P K mg) : FnG P w K mg base 1 T.a_law_tape T.d_law_tape ["script", "start"] (spG (gx T) 2 m_law_tape) :=
  okG T.F_law_tape sc_law_tape rfl fun cdv A outer s H E hr hgu => sb_cons (ss_set 2 sc_law_tape.nd (se_addT rfl rfl (se_int) (se_mul (se_var 1) (se_int))))
  (sb_cons (ss_for 100000 own_cx rfl (si_seq rfl (se_var 0)) (sg_name 3 sc_law_tape.nd) (sb_one (ss_set 2 sc_law_tape.nd (se_addT rfl rfl (se_mod (se_int1 T.z_int (sa_cons (se_pow (se_addT rfl rfl (se_addT rfl rfl (se_mul (se_var 2) (se_int)) (se_mul (se_var 3) (se_var 3))) (se_int)) (se_int)) (sa_nil))) (se_int)) (se_int)))))
  (sb_cons (ss_set 4 sc_law_tape.nd (se_if (st_w (sw_and (st_cmp opr_lt snd_B (se_var 1) (se_len rfl T.z_len (sa_cons (se_var 0) (sa_nil))) (by rfl)) (sw_and1 (st_cmp op_ge snd_cI (se_ix rfl (se_var 0) (se_var 1)) (se_pow (se_int) (se_int)) (by rfl))))) (se_sub (se_ix rfl (se_var 0) (se_var 1)) (se_pow (se_int) (se_int))) (se_int)))
  (sb_cons (ss_set 5 sc_law_tape.nd (se_ix rfl (se_lst (sa_cons (se_tup rfl (sa_cons (se_str) (sa_cons (se_str) (sa_cons (se_str) (sa_cons (se_str) (sa_nil)))))) (sa_cons (se_tup rfl (sa_cons (se_str) (sa_cons (se_str) (sa_cons (se_str) (sa_cons (se_str) (sa_nil)))))) (sa_cons (se_tup rfl (sa_cons (se_str) (sa_cons (se_str) (sa_cons (se_str) (sa_cons (se_str) (sa_nil)))))) (sa_nil))))) (se_mod (se_int1 T.z_int (sa_cons (se_var 2) (sa_nil))) (se_int))))
  (sb_one (ss_ret (se_disp (sps_cons (se_str) (se_var 4) (sps_cons (se_str) (se_var 2) (sps_cons (se_str) (se_var 5) sps_nil)))))))))
theorem ok_law_pick (T : Txt P K mg) : FnG P w K mg base 1 T.a_law_pick T.d_law_pick ["tape", "many"] (spG (gx T) 2 m_law_pick) :=
  okG T.F_law_pick sc_law_pick rfl fun cdv A outer s H E hr hgu => sb_cons (ss_if (st_cmp op_ge snd_cI (se_dget (hu1 hr) (se_var 0) (se_str)) (se_var 1) (by rfl)) (sb_cons (ss_set 2 sc_law_pick.nd (se_mod (se_int1 T.z_int (sa_cons (se_dget (hu1 hr) (se_var 0) (se_str)) (sa_nil))) (se_var 1)))
  (sb_cons (ss_dput (hu1 hr) (se_var 0) (se_str) (se_fdiv (se_dget (hu1 hr) (se_var 0) (se_str)) (se_var 1)))
  (sb_one (ss_ret (se_var 2))))) (sb_nil))
  (sb_cons (ss_dput (hu1 hr) (se_var 0) (se_str) (se_mod (se_int1 T.z_int (sa_cons (se_addT rfl rfl (se_mul (se_dget (hu1 hr) (se_var 0) (se_str)) (se_int)) (se_int)) (sa_nil))) (se_int)))
  (sb_cons (ss_set 3 sc_law_pick.nd (se_mod (se_int1 T.z_int (sa_cons (se_pow (se_dget (hu1 hr) (se_var 0) (se_str)) (se_int)) (sa_nil))) (se_int)))
  (sb_one (ss_ret (se_mod (se_int1 T.z_int (sa_cons (se_fdiv (se_mod (se_int1 T.z_int (sa_cons (se_pow (se_var 3) (se_int)) (sa_nil))) (se_int)) (se_int)) (sa_nil))) (se_var 1))))))
theorem ok_law_one_of (T : Txt P K mg) : FnG P w K mg base 2 T.a_law_one_of T.d_law_one_of ["tape", "items"] (spG (gx T) 2 m_law_one_of) :=
  okG T.F_law_one_of sc_law_one_of rfl fun cdv A outer s H E hr hgu => sb_one (ss_ret (se_ix rfl (se_var 1) (se_call ((ok_law_pick T).mono (by decide)) hr hgu T.g_law_pick T.F_law_pick.kp T.b_law_pick .nil (fun _ _ _ => .nil) tk_cx rfl (len_cons (len_cons (fun _ _ _ _ z => len_nil z))) (sa_cons (se_var 0) (sa_cons (se_len rfl T.z_len (sa_cons (se_var 1) (sa_nil))) (sa_nil))))))
theorem ok_law_line_near (T : Txt P K mg) : FnG P w K mg base 3 T.a_law_line_near T.d_law_line_near ["tape"] (spG (gx T) 1 m_law_line_near) :=
  okG T.F_law_line_near sc_law_line_near rfl fun cdv A outer s H E hr hgu => sb_cons (ss_set 1 sc_law_line_near.nd (se_lst (sa_cons (se_str) (sa_cons (se_str) (sa_cons (se_str) (sa_cons (se_str) (sa_cons (se_str) (sa_cons (se_mulS (se_str) (se_int)) (sa_cons (se_addT rfl rfl (se_addT rfl rfl (se_str) (se_mulS (se_str) (se_int))) (se_str)) (sa_nil))))))))))
  (sb_cons (ss_set 2 sc_law_line_near.nd (se_lst (sa_cons (se_str) (sa_cons (se_str) (sa_cons (se_str) (sa_cons (se_str) (sa_cons (se_str) (sa_cons (se_str) (sa_cons (se_str) (sa_cons (se_str) (sa_cons (se_str) (sa_cons (se_str) (sa_cons (se_str) (sa_cons (se_str) (sa_nil)))))))))))))))
  (sb_cons (ss_set 2 sc_law_line_near.nd (se_addT rfl rfl (se_var 2) (se_lst (sa_cons (se_str) (sa_cons (se_str) (sa_cons (se_str) (sa_cons (se_str) (sa_cons (se_str) (sa_cons (se_str) (sa_cons (se_mulS (se_str) (se_int)) (sa_cons (se_str) (sa_cons (se_str) (sa_cons (se_str) (sa_nil))))))))))))))
  (sb_one (ss_ret (se_call ((ok_law_one_of T).mono (by decide)) hr hgu T.g_law_one_of T.F_law_one_of.kp T.b_law_one_of .nil (fun _ _ _ => .nil) tk_cx rfl (len_cons (len_cons (fun _ _ _ _ z => len_nil z))) (sa_cons (se_var 0) (sa_cons (se_call ((ok_law_one_of T).mono (by decide)) hr hgu T.g_law_one_of T.F_law_one_of.kp T.b_law_one_of .nil (fun _ _ _ => .nil) tk_cx rfl (len_cons (len_cons (fun _ _ _ _ z => len_nil z))) (sa_cons (se_var 0) (sa_cons (se_lst (sa_cons (se_var 1) (sa_cons (se_var 1) (sa_cons (se_var 2) (sa_nil))))) (sa_nil)))) (sa_nil))))))))
theorem ok_law_bent (T : Txt P K mg) : FnG P w K mg base 3 T.a_law_bent T.d_law_bent ["tape", "line"] (spG (gx T) 2 m_law_bent) :=
  okG T.F_law_bent sc_law_bent rfl fun cdv A outer s H E hr hgu => sb_cons (ss_par 2 3 rfl sc_law_bent.nd (sa_cons (se_call ((ok_law_pick T).mono (by decide)) hr hgu T.g_law_pick T.F_law_pick.kp T.b_law_pick .nil (fun _ _ _ => .nil) tk_cx rfl (len_cons (len_cons (fun _ _ _ _ z => len_nil z))) (sa_cons (se_var 0) (sa_cons (se_addT rfl rfl (se_len rfl T.z_len (sa_cons (se_var 1) (sa_nil))) (se_int)) (sa_nil)))) (sa_cons (se_call ((ok_law_one_of T).mono (by decide)) hr hgu T.g_law_one_of T.F_law_one_of.kp T.b_law_one_of .nil (fun _ _ _ => .nil) tk_cx rfl (len_cons (len_cons (fun _ _ _ _ z => len_nil z))) (sa_cons (se_var 0) (sa_cons (se_lst (sa_cons (se_str) (sa_cons (se_str) (sa_cons (se_str) (sa_cons (se_str) (sa_cons (se_str) (sa_cons (se_str) (sa_cons (se_str) (sa_cons (se_str) (sa_cons (se_str) (sa_nil))))))))))) (sa_nil)))) (sa_nil))))
  (sb_one (ss_ret (se_addT rfl rfl (se_addT rfl rfl (se_sliceT rfl rfl (se_var 1) sp_none (sp_some (se_var 2))) (se_call ((ok_law_one_of T).mono (by decide)) hr hgu T.g_law_one_of T.F_law_one_of.kp T.b_law_one_of .nil (fun _ _ _ => .nil) tk_cx rfl (len_cons (len_cons (fun _ _ _ _ z => len_nil z))) (sa_cons (se_var 0) (sa_cons (se_lst (sa_cons (se_var 3) (sa_cons (se_str) (sa_cons (se_var 3) (sa_nil))))) (sa_nil))))) (se_sliceT rfl rfl (se_var 1) (sp_some (se_addT rfl rfl (se_var 2) (se_call ((ok_law_pick T).mono (by decide)) hr hgu T.g_law_pick T.F_law_pick.kp T.b_law_pick .nil (fun _ _ _ => .nil) tk_cx rfl (len_cons (len_cons (fun _ _ _ _ z => len_nil z))) (sa_cons (se_var 0) (sa_cons (se_int) (sa_nil)))))) sp_none))))
theorem ok_law_is_line (T : Txt P K mg) : FnG P w K mg base 1 T.a_law_is_line T.d_law_is_line ["line"] (spG (gx T) 1 m_law_is_line) :=
  okG T.F_law_is_line sc_law_is_line rfl fun cdv A outer s H E hr hgu => sb_cons (ss_set 1 sc_law_is_line.nd (se_split rfl (se_var 0) (sa_cons (se_str) (sa_nil))))
  (sb_cons (ss_if (st_w (sw_or (st_cmp (o_eq hr) snd_eq (se_ix rfl (se_var 1) (se_int)) (se_str) (by rfl)) (sw_or (st_cmp (o_ne hr) snd_ne (se_lc 100000 [("sign", 2)] rfl sc_law_is_line.nd (by rfl) (si_seq rfl (se_ix rfl (se_var 1) (se_int))) (fun _ _ _ _ _ => sg_name 2 sc_law_is_line.nd) (fun _ _ _ _ _ => (sts_one (st_cmp (opr_notIn (hu65 hr)) snd_in (se_var 2) (se_str) (by rfl)))) (fun _ _ _ _ _ => se_var 2)) (se_lst (sa_nil)) (by rfl)) (sw_or1 (st_cmp op_gt snd_cI (se_len rfl T.z_len (sa_cons (se_ix rfl (se_var 1) (se_int)) (sa_nil))) (se_int) (by rfl)))))) (sb_one (ss_ret (se_bl))) (sb_nil))
  (sb_cons (ss_if (st_w (sw_and (st_cmp (o_eq hr) snd_eq (se_ix rfl (se_ix rfl (se_var 1) (se_int)) (se_int)) (se_str) (by rfl)) (sw_and1 (st_cmp (o_ne hr) snd_ne (se_ix rfl (se_var 1) (se_int)) (se_str) (by rfl))))) (sb_one (ss_ret (se_bl))) (sb_nil))
  (sb_cons (ss_if (st_cmp (o_eq hr) snd_eq (se_len rfl T.z_len (sa_cons (se_var 1) (sa_nil))) (se_int) (by rfl)) (sb_one (ss_ret (se_bl))) (sb_nil))
  (sb_one (ss_ret (se_and (se_cmp (o_eq hr) snd_eq (se_len rfl T.z_len (sa_cons (se_var 1) (sa_nil))) (se_int) (by rfl)) (se_and (se_cmp (o_eq hr) snd_eq (se_ix rfl (se_var 1) (se_int)) (se_str) (by rfl)) (se_and (se_cmp (opr_in (hu65 hr)) snd_in (se_ix rfl (se_var 1) (se_int)) (se_tup rfl (sa_cons (se_str) (sa_cons (se_str) (sa_nil)))) (by rfl)) (se_one (se_cmp (opr_in (hu65 hr)) snd_in (se_ix rfl (se_var 1) (se_int)) (se_tup rfl (sa_cons (se_str) (sa_cons (se_str) (sa_cons (se_str) (sa_cons (se_str) (sa_nil)))))) (by rfl)))))))))))
theorem ok_is_digits (T : Txt P K mg) : FnG P w K mg base 1 T.a_is_digits T.d_is_digits ["text"] (spG (gx T) 1 m_is_digits) :=
  okG T.F_is_digits sc_is_digits rfl fun cdv A outer s H E hr hgu => sb_one (ss_ret (se_and (se_cmp (o_ne hr) snd_ne (se_var 0) (se_str) (by rfl)) (se_and (se_all rfl rfl T.z_all (sa_cons (se_lc 100000 [("sign", 1)] rfl sc_is_digits.nd (by rfl) (si_seq rfl (se_var 0)) (fun _ _ _ _ _ => sg_name 1 sc_is_digits.nd) (fun _ _ _ _ _ => sts_nil) (fun _ _ _ _ _ => se_cmp (opr_in (hu65 hr)) snd_in (se_var 1) (se_glob T.c_DIGITS (w := (.str "0123456789")) (T.r_DIGITS) (fun _ _ _ => .str)) (by rfl))) (sa_nil))) (se_one (se_or (se_cmp (o_eq hr) snd_eq (se_var 0) (se_str) (by rfl)) (se_one (se_cmp (o_ne hr) snd_ne (se_ix rfl (se_var 0) (se_int)) (se_str) (by rfl))))))))
theorem ok_read_event (T : Txt P K mg) : FnG P w K mg base 2 T.a_read_event T.d_read_event ["line"] (spG (gx T) 1 m_read_event) :=
  okG T.F_read_event sc_read_event rfl fun cdv A outer s H E hr hgu => sb_cons (ss_set 1 sc_read_event.nd (se_split rfl (se_var 0) (sa_cons (se_str) (sa_nil))))
  (sb_cons (ss_if (st_w (sw_or (st_not (st_val (se_call ((ok_is_digits T).mono (by decide)) hr hgu T.g_is_digits T.F_is_digits.kp T.b_is_digits .nil (fun _ _ _ => .nil) tk_cx rfl (len_cons (fun _ _ _ _ z => len_nil z)) (sa_cons (se_ix rfl (se_var 1) (se_int)) (sa_nil))))) (sw_or1 (st_cmp op_gt snd_cI (se_len rfl T.z_len (sa_cons (se_ix rfl (se_var 1) (se_int)) (sa_nil))) (se_int) (by rfl))))) (sb_one (ss_ret (se_non))) (sb_nil))
  (sb_cons (ss_if (st_cmp (o_eq hr) snd_eq (se_len rfl T.z_len (sa_cons (se_var 1) (sa_nil))) (se_int) (by rfl)) (sb_one (ss_ret (se_tup rfl (sa_cons (se_intA T.z_int (sa_cons (se_ix rfl (se_var 1) (se_int)) (sa_nil))) (sa_nil))))) (sb_nil))
  (sb_cons (ss_if (st_w (sw_or (st_cmp (o_ne hr) snd_ne (se_len rfl T.z_len (sa_cons (se_var 1) (sa_nil))) (se_int) (by rfl)) (sw_or (st_cmp (o_ne hr) snd_ne (se_ix rfl (se_var 1) (se_int)) (se_str) (by rfl)) (sw_or (st_cmp (opr_notIn (hu65 hr)) snd_in (se_ix rfl (se_var 1) (se_int)) (se_glob T.c_CELLS (w := .ref T.a_CELLS) rfl (fun _ _ _ => .ktp T.t_CELLS (.cons .str (.cons .str .nil)))) (by rfl)) (sw_or1 (st_cmp (opr_notIn (hu65 hr)) snd_in (se_ix rfl (se_var 1) (se_int)) (se_tup rfl (sa_cons (se_str) (sa_cons (se_str) (sa_cons (se_str) (sa_cons (se_str) (sa_nil)))))) (by rfl))))))) (sb_one (ss_ret (se_non))) (sb_nil))
  (sb_one (ss_ret (se_tup rfl (sa_cons (se_intA T.z_int (sa_cons (se_ix rfl (se_var 1) (se_int)) (sa_nil))) (sa_cons (se_intA T.z_int (sa_cons (se_ix rfl (se_var 1) (se_int)) (sa_nil))) (sa_cons (se_intA T.z_int (sa_cons (se_ix rfl (se_var 1) (se_int)) (sa_nil))) (sa_nil))))))))))
theorem ok_read_weaving (T : Txt P K mg) : FnG P w K mg base 3 T.a_read_weaving T.d_read_weaving ["text"] (spG (gx T) 1 m_read_weaving) :=
  okG T.F_read_weaving sc_read_weaving rfl fun cdv A outer s H E hr hgu => sb_cons (ss_if (st_not (st_val (se_isi (T := .str) rfl T.z_isinstance T.z_str (by decide +kernel) (se_var 0)))) (sb_one (ss_raise (c := 1) T.S1 T.z_super tk_cx (hr.mono (by decide)) T.g1 (se_int))) (sb_nil))
  (sb_cons (ss_set 1 sc_read_weaving.nd (se_lst (sa_nil)))
  (sb_cons (ss_for 100000 own_cx rfl (si_enum rfl T.z_enumerate (sa_cons (se_if (st_cmp (o_ne hr) snd_ne (se_var 0) (se_str) (by rfl)) (se_split rfl (se_var 0) (sa_cons (se_str) (sa_nil))) (se_lst (sa_nil))) (sa_nil))) (sg_tup true rfl rfl (gl_cons (gl_cons gl_nil)) (sgs_cons (sg_name 2 sc_read_weaving.nd) (sgs_cons (sg_name 3 sc_read_weaving.nd) sgs_nil))) (sb_cons (ss_set 4 sc_read_weaving.nd (se_call ((ok_read_event T).mono (by decide)) hr hgu T.g_read_event T.F_read_event.kp T.b_read_event .nil (fun _ _ _ => .nil) tk_cx rfl (len_cons (fun _ _ _ _ z => len_nil z)) (sa_cons (se_var 3) (sa_nil))))
  (sb_cons (ss_if (st_cmp op_isN snd_isN (se_var 4) (se_non) (by rfl)) (sb_one (ss_raise (c := 1) T.S1 T.z_super tk_cx (hr.mono (by decide)) T.g1 (se_addT rfl rfl (se_var 2) (se_int)))) (sb_nil))
  (sb_one (ss_expr (se_append rfl (se_var 1) (sa_cons (se_var 4) (sa_nil))))))))
  (sb_one (ss_ret (se_var 1)))))
theorem ok_law_refused (T : Txt P K mg) : FnG P w K mg base 4 T.a_law_refused T.d_law_refused ["text"] (spG (gx T) 1 m_law_refused) :=
  okG T.F_law_refused sc_law_refused rfl fun cdv A outer s H E hr hgu => sb_cons (ss_set 1 sc_law_refused.nd (se_lst (sa_nil)))
  (sb_cons (ss_tryAs 2 1 sc_law_refused.nd T.g1 tk_cx T.e1 (fun W' pn xe tkb pob => sb_one (ss_expr (se_call ((ok_read_weaving T).mono (by decide)) hr hgu T.g_read_weaving T.F_read_weaving.kp T.b_read_weaving .nil (fun _ _ _ => .nil) tkb rfl (len_cons (fun _ _ _ _ z => len_nil z)) (sa_cons (se_var 0) (sa_nil))))) (fun a oe cls d pn k hz hf hcl => xb_set 1 (fun z e => by cases e; decide) sc_law_refused.nd (xe_lst (xa_cons (xe_fld (c := 1) T.x1 T.S1.nofld hz hf hcl) (xa_nil)))))
  (sb_one (ss_ret (se_var 1))))
theorem ok_law (T : Txt P K mg) : FnG P w K mg base 5 T.a_law T.d_law ["script"] (spG (gx T) 1 m_law) :=
  okG T.F_law sc_law rfl fun cdv A outer s H E hr hgu => sb_cons (ss_for 100000 own_cx rfl (si_rng1 T.z_range (sa_cons (se_max2 rfl T.z_max (sa_cons (se_int) (sa_cons (se_min2 rfl T.z_min (sa_cons (se_int) (sa_cons (se_len rfl T.z_len (sa_cons (se_var 0) (sa_nil))) (sa_nil)))) (sa_nil)))) (sa_nil))) (sg_name 1 sc_law.nd) (sb_cons (ss_set 2 sc_law.nd (se_call ((ok_law_tape T).mono (by decide)) hr hgu T.g_law_tape T.F_law_tape.kp T.b_law_tape .nil (fun _ _ _ => .nil) tk_cx rfl (len_cons (len_cons (fun _ _ _ _ z => len_nil z))) (sa_cons (se_var 0) (sa_cons (se_var 1) (sa_nil)))))
  (sb_cons (ss_for 100000 own_cx rfl (si_rng1 T.z_range (sa_cons (se_int) (sa_nil))) (sg_name 3 sc_law.nd) (sb_cons (ss_setLc 4 100000 [("turn", 5)] rfl sc_law.nd (by rfl) (si_rng1 T.z_range (sa_cons (se_addT rfl rfl (se_int) (se_call ((ok_law_pick T).mono (by decide)) hr hgu T.g_law_pick T.F_law_pick.kp T.b_law_pick .nil (fun _ _ _ => .nil) tk_cx rfl (len_cons (len_cons (fun _ _ _ _ z => len_nil z))) (sa_cons (se_var 2) (sa_cons (se_int) (sa_nil))))) (sa_nil))) (fun _ _ _ _ _ => sg_name 5 sc_law.nd) (fun _ _ _ _ _ => sts_nil) (fun _ _ _ _ _ => se_call ((ok_law_line_near T).mono (by decide)) hr hgu T.g_law_line_near T.F_law_line_near.kp T.b_law_line_near .nil (fun _ _ _ => .nil) takes0 rfl (len_cons (fun _ _ _ _ z => len_nil z)) (sa_cons (se_var 2) (sa_nil))))
  (sb_cons (ss_set 6 sc_law.nd (se_call ((ok_law_pick T).mono (by decide)) hr hgu T.g_law_pick T.F_law_pick.kp T.b_law_pick .nil (fun _ _ _ => .nil) tk_cx rfl (len_cons (len_cons (fun _ _ _ _ z => len_nil z))) (sa_cons (se_var 2) (sa_cons (se_len rfl T.z_len (sa_cons (se_var 4) (sa_nil))) (sa_nil)))))
  (sb_cons (ss_asg (se_if (st_cmp (o_eq hr) snd_eq (se_call ((ok_law_pick T).mono (by decide)) hr hgu T.g_law_pick T.F_law_pick.kp T.b_law_pick .nil (fun _ _ _ => .nil) tk_cx rfl (len_cons (len_cons (fun _ _ _ _ z => len_nil z))) (sa_cons (se_var 2) (sa_cons (se_int) (sa_nil)))) (se_int) (by rfl)) (se_call ((ok_law_bent T).mono (by decide)) hr hgu T.g_law_bent T.F_law_bent.kp T.b_law_bent .nil (fun _ _ _ => .nil) tk_cx rfl (len_cons (len_cons (fun _ _ _ _ z => len_nil z))) (sa_cons (se_var 2) (sa_cons (se_ix rfl (se_var 4) (se_var 6)) (sa_nil)))) (se_ix rfl (se_var 4) (se_var 6))) (sg_sub (W := W0) (se_var 4) (se_var 6)))
  (sb_cons (ss_set 7 sc_law.nd (se_addT rfl rfl (se_join rfl (se_str) (sa_cons (se_var 4) (sa_nil))) (se_call ((ok_law_one_of T).mono (by decide)) hr hgu T.g_law_one_of T.F_law_one_of.kp T.b_law_one_of .nil (fun _ _ _ => .nil) tk_cx rfl (len_cons (len_cons (fun _ _ _ _ z => len_nil z))) (sa_cons (se_var 2) (sa_cons (se_lst (sa_cons (se_str) (sa_cons (se_str) (sa_cons (se_str) (sa_cons (se_str) (sa_nil)))))) (sa_nil))))))
  (sb_cons (ss_set 8 sc_law.nd (se_if (st_cmp (o_ne hr) snd_ne (se_var 7) (se_str) (by rfl)) (se_split rfl (se_var 7) (sa_cons (se_str) (sa_nil))) (se_lst (sa_nil))))
  (sb_cons (ss_setLc 9 100000 [("k", 10)] rfl sc_law.nd (by rfl) (si_rng1 T.z_range (sa_cons (se_len rfl T.z_len (sa_cons (se_var 8) (sa_nil))) (sa_nil))) (fun _ _ _ _ _ => sg_name 10 sc_law.nd) (fun _ _ _ _ _ => (sts_one (st_not (st_val (se_call ((ok_law_is_line T).mono (by decide)) hr hgu T.g_law_is_line T.F_law_is_line.kp T.b_law_is_line .nil (fun _ _ _ => .nil) takes0 rfl (len_cons (fun _ _ _ _ z => len_nil z)) (sa_cons (se_ix rfl (se_var 8) (se_var 10)) (sa_nil))))))) (fun _ _ _ _ _ => se_addT rfl rfl (se_var 10) (se_int)))
  (sb_one (ss_if (st_cmp (o_ne hr) snd_ne (se_repr rfl (hu64 hr) hgu T.z_repr (sa_cons (se_call ((ok_law_refused T).mono (by decide)) hr hgu T.g_law_refused T.F_law_refused.kp T.b_law_refused .nil (fun _ _ _ => .nil) tk_cx rfl (len_cons (fun _ _ _ _ z => len_nil z)) (sa_cons (se_var 7) (sa_nil))) (sa_nil))) (se_repr rfl (hu64 hr) hgu T.z_repr (sa_cons (se_sliceT rfl rfl (se_var 9) sp_none (sp_some (se_int))) (sa_nil))) (by rfl)) (sb_one (ss_ret (se_bl))) (sb_nil))))))))))
  (sb_one (ss_for 100000 own_cx rfl (si_seq rfl (se_lst (sa_cons (se_non) (sa_cons (se_int) (sa_cons (se_bl) (sa_cons (se_lst (sa_cons (se_str) (sa_nil))) (sa_cons (se_tup rfl (sa_cons (se_int) (sa_nil))) (sa_cons (se_dnew) (sa_nil))))))))) (sg_name 11 sc_law.nd) (sb_one (ss_if (st_cmp (o_ne hr) snd_ne (se_call ((ok_law_refused T).mono (by decide)) hr hgu T.g_law_refused T.F_law_refused.kp T.b_law_refused .nil (fun _ _ _ => .nil) tk_cx rfl (len_cons (fun _ _ _ _ z => len_nil z)) (sa_cons (se_var 11) (sa_nil))) (se_lst (sa_cons (se_int) (sa_nil))) (by rfl)) (sb_one (ss_ret (se_bl))) (sb_nil))))))))
  (sb_one (ss_ret (se_bl)))
end
theorem all_mk {l : PySem.W.OpenLaw} {w : World} {K : PySem.W.Frag} {h : Heap} {mg : Str → Option Value} {fa : Addr} (X : K.In h) (G : h.Ns mainGlobals mg) (hfa : mg "law" = some (.ref fa))
    {C1 f_law_tape f_law_pick f_law_one_of f_law_line_near f_law_bent f_law_is_line f_is_digits f_read_event f_read_weaving f_law_refused f_law  : Addr}
    {od_law_tape an_law_tape : Option Addr} {sl_law_tape : Array (Option Value)} {oc_law_tape kV_law_tape dc_law_tape pm_law_tape cd_law_tape ct_law_tape : Value}
    {od_law_pick an_law_pick : Option Addr} {sl_law_pick : Array (Option Value)} {oc_law_pick kV_law_pick dc_law_pick pm_law_pick cd_law_pick ct_law_pick : Value}
    {od_law_one_of an_law_one_of : Option Addr} {sl_law_one_of : Array (Option Value)} {oc_law_one_of kV_law_one_of dc_law_one_of pm_law_one_of cd_law_one_of ct_law_one_of : Value}
    {od_law_line_near an_law_line_near : Option Addr} {sl_law_line_near : Array (Option Value)} {oc_law_line_near kV_law_line_near dc_law_line_near pm_law_line_near cd_law_line_near ct_law_line_near : Value}
    {od_law_bent an_law_bent : Option Addr} {sl_law_bent : Array (Option Value)} {oc_law_bent kV_law_bent dc_law_bent pm_law_bent cd_law_bent ct_law_bent : Value}
    {od_law_is_line an_law_is_line : Option Addr} {sl_law_is_line : Array (Option Value)} {oc_law_is_line kV_law_is_line dc_law_is_line pm_law_is_line cd_law_is_line ct_law_is_line : Value}
    {od_is_digits an_is_digits : Option Addr} {sl_is_digits : Array (Option Value)} {oc_is_digits kV_is_digits dc_is_digits pm_is_digits cd_is_digits ct_is_digits : Value}
    {od_read_event an_read_event : Option Addr} {sl_read_event : Array (Option Value)} {oc_read_event kV_read_event dc_read_event pm_read_event cd_read_event ct_read_event : Value}
    {od_read_weaving an_read_weaving : Option Addr} {sl_read_weaving : Array (Option Value)} {oc_read_weaving kV_read_weaving dc_read_weaving pm_read_weaving cd_read_weaving ct_read_weaving : Value}
    {od_law_refused an_law_refused : Option Addr} {sl_law_refused : Array (Option Value)} {oc_law_refused kV_law_refused dc_law_refused pm_law_refused cd_law_refused ct_law_refused : Value}
    {od_law an_law : Option Addr} {sl_law : Array (Option Value)} {oc_law kV_law dc_law pm_law cd_law ct_law : Value}
    (aC1 : PySem.W.nsIn K mainGlobals "BadText" = some (some (.ref C1)))
    (a_law_tape : PySem.W.nsIn K mainGlobals "_law_tape" = some (some (.ref f_law_tape)))
    (l_law_tape : K.lookup f_law_tape = some ⟨oc_law_tape, od_law_tape, .func (PySem.W.fnOf "_law_tape" "_law_tape" (defArgs s_law_tape) (defBody s_law_tape) (defScope s_law_tape) .none kV_law_tape dc_law_tape pm_law_tape an_law_tape cd_law_tape ct_law_tape), sl_law_tape⟩)
    (c_law_tape : PySem.W.codeIn K cd_law_tape "_law_tape" = true)
    (k_law_tape : PySem.W.keepIn K (.ref f_law_tape) = true)
    (a_law_pick : PySem.W.nsIn K mainGlobals "_law_pick" = some (some (.ref f_law_pick)))
    (l_law_pick : K.lookup f_law_pick = some ⟨oc_law_pick, od_law_pick, .func (PySem.W.fnOf "_law_pick" "_law_pick" (defArgs s_law_pick) (defBody s_law_pick) (defScope s_law_pick) .none kV_law_pick dc_law_pick pm_law_pick an_law_pick cd_law_pick ct_law_pick), sl_law_pick⟩)
    (c_law_pick : PySem.W.codeIn K cd_law_pick "_law_pick" = true)
    (k_law_pick : PySem.W.keepIn K (.ref f_law_pick) = true)
    (a_law_one_of : PySem.W.nsIn K mainGlobals "_law_one_of" = some (some (.ref f_law_one_of)))
    (l_law_one_of : K.lookup f_law_one_of = some ⟨oc_law_one_of, od_law_one_of, .func (PySem.W.fnOf "_law_one_of" "_law_one_of" (defArgs s_law_one_of) (defBody s_law_one_of) (defScope s_law_one_of) .none kV_law_one_of dc_law_one_of pm_law_one_of an_law_one_of cd_law_one_of ct_law_one_of), sl_law_one_of⟩)
    (c_law_one_of : PySem.W.codeIn K cd_law_one_of "_law_one_of" = true)
    (k_law_one_of : PySem.W.keepIn K (.ref f_law_one_of) = true)
    (a_law_line_near : PySem.W.nsIn K mainGlobals "_law_line_near" = some (some (.ref f_law_line_near)))
    (l_law_line_near : K.lookup f_law_line_near = some ⟨oc_law_line_near, od_law_line_near, .func (PySem.W.fnOf "_law_line_near" "_law_line_near" (defArgs s_law_line_near) (defBody s_law_line_near) (defScope s_law_line_near) .none kV_law_line_near dc_law_line_near pm_law_line_near an_law_line_near cd_law_line_near ct_law_line_near), sl_law_line_near⟩)
    (c_law_line_near : PySem.W.codeIn K cd_law_line_near "_law_line_near" = true)
    (k_law_line_near : PySem.W.keepIn K (.ref f_law_line_near) = true)
    (a_law_bent : PySem.W.nsIn K mainGlobals "_law_bent" = some (some (.ref f_law_bent)))
    (l_law_bent : K.lookup f_law_bent = some ⟨oc_law_bent, od_law_bent, .func (PySem.W.fnOf "_law_bent" "_law_bent" (defArgs s_law_bent) (defBody s_law_bent) (defScope s_law_bent) .none kV_law_bent dc_law_bent pm_law_bent an_law_bent cd_law_bent ct_law_bent), sl_law_bent⟩)
    (c_law_bent : PySem.W.codeIn K cd_law_bent "_law_bent" = true)
    (k_law_bent : PySem.W.keepIn K (.ref f_law_bent) = true)
    (a_law_is_line : PySem.W.nsIn K mainGlobals "_law_is_line" = some (some (.ref f_law_is_line)))
    (l_law_is_line : K.lookup f_law_is_line = some ⟨oc_law_is_line, od_law_is_line, .func (PySem.W.fnOf "_law_is_line" "_law_is_line" (defArgs s_law_is_line) (defBody s_law_is_line) (defScope s_law_is_line) .none kV_law_is_line dc_law_is_line pm_law_is_line an_law_is_line cd_law_is_line ct_law_is_line), sl_law_is_line⟩)
    (c_law_is_line : PySem.W.codeIn K cd_law_is_line "_law_is_line" = true)
    (k_law_is_line : PySem.W.keepIn K (.ref f_law_is_line) = true)
    (a_is_digits : PySem.W.nsIn K mainGlobals "is_digits" = some (some (.ref f_is_digits)))
    (l_is_digits : K.lookup f_is_digits = some ⟨oc_is_digits, od_is_digits, .func (PySem.W.fnOf "is_digits" "is_digits" (defArgs s_is_digits) (defBody s_is_digits) (defScope s_is_digits) .none kV_is_digits dc_is_digits pm_is_digits an_is_digits cd_is_digits ct_is_digits), sl_is_digits⟩)
    (c_is_digits : PySem.W.codeIn K cd_is_digits "is_digits" = true)
    (k_is_digits : PySem.W.keepIn K (.ref f_is_digits) = true)
    (a_read_event : PySem.W.nsIn K mainGlobals "read_event" = some (some (.ref f_read_event)))
    (l_read_event : K.lookup f_read_event = some ⟨oc_read_event, od_read_event, .func (PySem.W.fnOf "read_event" "read_event" (defArgs s_read_event) (defBody s_read_event) (defScope s_read_event) .none kV_read_event dc_read_event pm_read_event an_read_event cd_read_event ct_read_event), sl_read_event⟩)
    (c_read_event : PySem.W.codeIn K cd_read_event "read_event" = true)
    (k_read_event : PySem.W.keepIn K (.ref f_read_event) = true)
    (a_read_weaving : PySem.W.nsIn K mainGlobals "read_weaving" = some (some (.ref f_read_weaving)))
    (l_read_weaving : K.lookup f_read_weaving = some ⟨oc_read_weaving, od_read_weaving, .func (PySem.W.fnOf "read_weaving" "read_weaving" (defArgs s_read_weaving) (defBody s_read_weaving) (defScope s_read_weaving) .none kV_read_weaving dc_read_weaving pm_read_weaving an_read_weaving cd_read_weaving ct_read_weaving), sl_read_weaving⟩)
    (c_read_weaving : PySem.W.codeIn K cd_read_weaving "read_weaving" = true)
    (k_read_weaving : PySem.W.keepIn K (.ref f_read_weaving) = true)
    (a_law_refused : PySem.W.nsIn K mainGlobals "_law_refused" = some (some (.ref f_law_refused)))
    (l_law_refused : K.lookup f_law_refused = some ⟨oc_law_refused, od_law_refused, .func (PySem.W.fnOf "_law_refused" "_law_refused" (defArgs s_law_refused) (defBody s_law_refused) (defScope s_law_refused) .none kV_law_refused dc_law_refused pm_law_refused an_law_refused cd_law_refused ct_law_refused), sl_law_refused⟩)
    (c_law_refused : PySem.W.codeIn K cd_law_refused "_law_refused" = true)
    (k_law_refused : PySem.W.keepIn K (.ref f_law_refused) = true)
    (a_law : PySem.W.nsIn K mainGlobals "law" = some (some (.ref f_law)))
    (l_law : K.lookup f_law = some ⟨oc_law, od_law, .func (PySem.W.fnOf "law" "law" (defArgs s_law) (defBody s_law) (defScope s_law) .none kV_law dc_law pm_law an_law cd_law ct_law), sl_law⟩)
    (c_law : PySem.W.codeIn K cd_law "law" = true)
    (k_law : PySem.W.keepIn K (.ref f_law) = true)
    {f_BadText_init cda_BadText_init cc_BadText_init N_BadText_init : Addr} {od_BadText_init an_BadText_init d1_BadText_init d2_BadText_init : Option Addr} {sl_BadText_init s1_BadText_init s2_BadText_init : Array (Option Value)} {oc_BadText_init o1_BadText_init o2_BadText_init kV_BadText_init dc_BadText_init pm_BadText_init ct_BadText_init : Value} {vs_BadText_init : Array Value} {fl_BadText_init nm_BadText_init qn_BadText_init : Str} {tf_BadText_init : Tok}
    {bs_BadText_init bm_BadText_init sub_BadText_init : List Value} {sn_BadText_init : List Str} {ab_BadText_init : Bool} {co_BadText_init : Option Bool} {dd_BadText_init : Option Addr} {k0_BadText_init k1_BadText_init k2_BadText_init k3_BadText_init k5_BadText_init : Option Value}
    (a_BadText_init : PySem.W.findIn K (.ref C1) "__init__" = some (some (.ref f_BadText_init)))
    (i_BadText_init : PySem.W.typeIn K (.ref f_BadText_init) = some (.type "function"))
    (l_BadText_init : K.lookup f_BadText_init = some ⟨oc_BadText_init, od_BadText_init, .func (PySem.W.ksFn "__init__" "BadText.__init__" (defArgs s_BadText_init) (defBody s_BadText_init) (defScope s_BadText_init) .none kV_BadText_init dc_BadText_init pm_BadText_init an_BadText_init (.ref cda_BadText_init) ct_BadText_init cc_BadText_init), sl_BadText_init⟩)
    (c_BadText_init : PySem.W.codeIn K (.ref cda_BadText_init) "BadText.__init__" = true)
    (lc_BadText_init : K.lookup cda_BadText_init = some ⟨o1_BadText_init, d1_BadText_init, .fields vs_BadText_init, s1_BadText_init⟩)
    (v2_BadText_init : vs_BadText_init[2]? = some (.str fl_BadText_init tf_BadText_init))
    (mf_BadText_init : ((l.prog.main.file : Str) == fl_BadText_init) = true)
    (cl_BadText_init : K.lookup cc_BadText_init = some ⟨o2_BadText_init, d2_BadText_init, .cell (some (.ref C1)), s2_BadText_init⟩)
    (lC_BadText_init : K.lookup C1 = some (excClassObj nm_BadText_init qn_BadText_init C1 N_BadText_init bs_BadText_init bm_BadText_init true sn_BadText_init sub_BadText_init ab_BadText_init co_BadText_init dd_BadText_init k0_BadText_init k1_BadText_init k2_BadText_init k3_BadText_init k5_BadText_init "ValueError.__new__"))
    (rv_BadText_init : PySem.HandSPX.refsVE bm_BadText_init = true)
    (sa_BadText_init : PySem.W.findIn K (.ref C1) "__setattr__" = some (some (.builtin "object.__setattr__")))
    (sx_BadText_init : PySem.W.subIn K (.ref C1) (.type "BaseException") = some true)
    (ty_BadText_init : PySem.W.typeIn K (.ref C1) = some (.type "type"))
    (kC_BadText_init : PySem.W.keepIn K (.ref C1) = true)
    (su_BadText_init : PySem.W.ks_superIn K C1 C1 "__init__" = some (some (.builtin "ValueError.__init__")))
    (sv_BadText_init : PySem.W.subIn K (.ref C1) (.type "ValueError") = some true)
    (ml_BadText_init : PySem.W.mroIn K C1 (.ref C1) = some true)
    (nf_BadText_init : PySem.W.findIn K (.ref C1) "line" = some none)
    (xa_BadText_init : PySem.W.findIn K (.ref C1) "__getattribute__" = some (some (.builtin "BaseException.__getattribute__")))
    (xg_BadText_init : PySem.W.findIn K (.ref C1) "__getattr__" = some none)
    (xh_BadText_init : PySem.W.hasDictIn K C1 = true)
    (em_BadText_init : PySem.W.exmOne K (.ref C1) (.ref C1) = some true)
    (op_ : PySem.W.nsIn K PySem.cStatics "thirdparty.any" = some none)
    (tp_ : (l.prog.main.scope.names.lookup ("super" : Str)).isSome = false)
    (z_super : PySem.W.nsIn K mainGlobals "super" = some none)
    {aa_CELLS : Addr} {it_CELLS : Array Value} {nn_CELLS : Nat} {ss_CELLS : Array (Option Value)}
    (c_CELLS : PySem.W.nsIn K mainGlobals "CELLS" = some (some (.ref aa_CELLS)))
    (t_CELLS : K.lookup aa_CELLS = some ⟨.type "tuple", none, .seq it_CELLS nn_CELLS, ss_CELLS⟩)
    (v_CELLS : Vals [(.str "1"), (.str "2")] it_CELLS.toList)
    {uu_DIGITS : Value}
    (c_DIGITS : PySem.W.nsIn K mainGlobals "DIGITS" = some (some uu_DIGITS))
    (v_DIGITS : RelV (.str "0123456789") uu_DIGITS)
    (z_range : PySem.W.nsIn K mainGlobals "range" = some none)
    (z_max : PySem.W.nsIn K mainGlobals "max" = some none)
    (z_min : PySem.W.nsIn K mainGlobals "min" = some none)
    (z_len : PySem.W.nsIn K mainGlobals "len" = some none)
    (z_repr : PySem.W.nsIn K mainGlobals "repr" = some none)
    (z_int : PySem.W.nsIn K mainGlobals "int" = some none)
    (z_isinstance : PySem.W.nsIn K mainGlobals "isinstance" = some none)
    (z_str : PySem.W.nsIn K mainGlobals "str" = some none)
    (z_enumerate : PySem.W.nsIn K mainGlobals "enumerate" = some none)
    (z_all : PySem.W.nsIn K mainGlobals "all" = some none)
    : ∃ (fd : FuncData) (cl : Nat → Addr), (∀ (s : Shared) (u : Value), BindsTo s fd ⟨[u], []⟩ [("script", u)]) ∧ ∀ base : Heap, K.In base → base.Ns mainGlobals mg → FnG l.prog w K mg base 5 fa fd ["script"] (spG ⟨K, cl, false⟩ 1 m_law) := by
  have e := hfa.symm.trans (PySem.W.mg_of X G a_law)
  cases e
  have F_law_tape := funD0 l_law_tape c_law_tape k_law_tape
  have b_law_tape := F_law_tape.bindsN (ps := ["script", "start"]) fun _ _ _ _ _ _ us hl => match us, hl with | [_, _], _ => rfl
  have F_law_pick := funD0 l_law_pick c_law_pick k_law_pick
  have b_law_pick := F_law_pick.bindsN (ps := ["tape", "many"]) fun _ _ _ _ _ _ us hl => match us, hl with | [_, _], _ => rfl
  have F_law_one_of := funD0 l_law_one_of c_law_one_of k_law_one_of
  have b_law_one_of := F_law_one_of.bindsN (ps := ["tape", "items"]) fun _ _ _ _ _ _ us hl => match us, hl with | [_, _], _ => rfl
  have F_law_line_near := funD0 l_law_line_near c_law_line_near k_law_line_near
  have b_law_line_near := F_law_line_near.bindsN (ps := ["tape"]) fun _ _ _ _ _ _ us hl => match us, hl with | [_], _ => rfl
  have F_law_bent := funD0 l_law_bent c_law_bent k_law_bent
  have b_law_bent := F_law_bent.bindsN (ps := ["tape", "line"]) fun _ _ _ _ _ _ us hl => match us, hl with | [_, _], _ => rfl
  have F_law_is_line := funD0 l_law_is_line c_law_is_line k_law_is_line
  have b_law_is_line := F_law_is_line.bindsN (ps := ["line"]) fun _ _ _ _ _ _ us hl => match us, hl with | [_], _ => rfl
  have F_is_digits := funD0 l_is_digits c_is_digits k_is_digits
  have b_is_digits := F_is_digits.bindsN (ps := ["text"]) fun _ _ _ _ _ _ us hl => match us, hl with | [_], _ => rfl
  have F_read_event := funD0 l_read_event c_read_event k_read_event
  have b_read_event := F_read_event.bindsN (ps := ["line"]) fun _ _ _ _ _ _ us hl => match us, hl with | [_], _ => rfl
  have F_read_weaving := funD0 l_read_weaving c_read_weaving k_read_weaving
  have b_read_weaving := F_read_weaving.bindsN (ps := ["text"]) fun _ _ _ _ _ _ us hl => match us, hl with | [_], _ => rfl
  have F_law_refused := funD0 l_law_refused c_law_refused k_law_refused
  have b_law_refused := F_law_refused.bindsN (ps := ["text"]) fun _ _ _ _ _ _ us hl => match us, hl with | [_], _ => rfl
  have F_law := funD0 l_law c_law k_law
  have b_law := F_law.bindsN (ps := ["script"]) fun _ _ _ _ _ _ us hl => match us, hl with | [_], _ => rfl
  let T : Txt l.prog K mg := {
    C1 := C1, I1 := f_BadText_init, g1 := PySem.W.mg_of X G aC1
    S1 := ⟨⟨⟨_, _, _, _, _, _, _, _, _, _, _, _, _, _, _, lC_BadText_init, rv_BadText_init⟩, sa_BadText_init, sx_BadText_init, ty_BadText_init, kC_BadText_init⟩, a_BadText_init, i_BadText_init, su_BadText_init, sv_BadText_init, ml_BadText_init, op_, nf_BadText_init, tp_, ⟨_, _, _, _, _, _, _, ⟨_, _, _, l_BadText_init⟩, ⟨_, _, _, _, _, _, _, rfl⟩, c_BadText_init, ⟨_, _, _, _, _, _, lc_BadText_init, v2_BadText_init, mf_BadText_init⟩, ⟨_, _, _, cl_BadText_init⟩, fun _ _ _ => .of_eq rfl, ⟨_, rfl, rfl⟩, ⟨_, _, _, _, _, _, _, _, _, _, _, _, rfl, fun _ _ _ _ => ⟨rfl, rfl, rfl, _, rfl⟩⟩, ⟨rfl, rfl, rfl, rfl, by decide +kernel, rfl, rfl, rfl, by decide, by decide⟩⟩⟩
    x1 := ⟨xa_BadText_init, xg_BadText_init, sx_BadText_init, xh_BadText_init⟩, e1 := em_BadText_init
    z_super := PySem.W.mg_none_of X G z_super
    a_law_tape := _, d_law_tape := _, F_law_tape := F_law_tape
    g_law_tape := PySem.W.mg_of X G a_law_tape
    b_law_tape := b_law_tape
    a_law_pick := _, d_law_pick := _, F_law_pick := F_law_pick
    g_law_pick := PySem.W.mg_of X G a_law_pick
    b_law_pick := b_law_pick
    a_law_one_of := _, d_law_one_of := _, F_law_one_of := F_law_one_of
    g_law_one_of := PySem.W.mg_of X G a_law_one_of
    b_law_one_of := b_law_one_of
    a_law_line_near := _, d_law_line_near := _, F_law_line_near := F_law_line_near
    g_law_line_near := PySem.W.mg_of X G a_law_line_near
    b_law_line_near := b_law_line_near
    a_law_bent := _, d_law_bent := _, F_law_bent := F_law_bent
    g_law_bent := PySem.W.mg_of X G a_law_bent
    b_law_bent := b_law_bent
    a_law_is_line := _, d_law_is_line := _, F_law_is_line := F_law_is_line
    g_law_is_line := PySem.W.mg_of X G a_law_is_line
    b_law_is_line := b_law_is_line
    a_is_digits := _, d_is_digits := _, F_is_digits := F_is_digits
    g_is_digits := PySem.W.mg_of X G a_is_digits
    b_is_digits := b_is_digits
    a_read_event := _, d_read_event := _, F_read_event := F_read_event
    g_read_event := PySem.W.mg_of X G a_read_event
    b_read_event := b_read_event
    a_read_weaving := _, d_read_weaving := _, F_read_weaving := F_read_weaving
    g_read_weaving := PySem.W.mg_of X G a_read_weaving
    b_read_weaving := b_read_weaving
    a_law_refused := _, d_law_refused := _, F_law_refused := F_law_refused
    g_law_refused := PySem.W.mg_of X G a_law_refused
    b_law_refused := b_law_refused
    a_law := _, d_law := _, F_law := F_law
    b_law := b_law
    a_CELLS := _, c_CELLS := PySem.W.mg_of X G c_CELLS, t_CELLS := ktup_of t_CELLS v_CELLS
    u_DIGITS := _, c_DIGITS := PySem.W.mg_of X G c_DIGITS, r_DIGITS := v_DIGITS
    z_range := PySem.W.mg_none_of X G z_range
    z_max := PySem.W.mg_none_of X G z_max
    z_min := PySem.W.mg_none_of X G z_min
    z_len := PySem.W.mg_none_of X G z_len
    z_repr := PySem.W.mg_none_of X G z_repr
    z_int := PySem.W.mg_none_of X G z_int
    z_isinstance := PySem.W.mg_none_of X G z_isinstance
    z_str := PySem.W.mg_none_of X G z_str
    z_enumerate := PySem.W.mg_none_of X G z_enumerate
    z_all := PySem.W.mg_none_of X G z_all
  }
  exact ⟨_, (gx T).cl, fun s v => .of_eq rfl, fun base _ _ => ok_law (base := base) T⟩
end K83
namespace K83
open PySem PySem.Spec PyProof.Rows L2 SL
/-! the tape -/
def tapeD (d m : Int) (nm : AV) : List (Key × AV) := [(.inr "digits", .int d), (.inr "mixed", .int m), (.inr "names", nm)]
section
variable {d m : Int} {nm v : AV}
@[simp] theorem td_d : valA (tapeD d m nm) (.inr ("digits" : Str)) = some (.int d) := (rfl)
@[simp] theorem td_m : valA (tapeD d m nm) (.inr ("mixed" : Str)) = some (.int m) := (rfl)
@[simp] theorem td_n : valA (tapeD d m nm) (.inr ("names" : Str)) = some nm := (rfl)
@[simp] theorem td_pd {k : Int} : putA (tapeD d m nm) (.inr ("digits" : Str)) (.int k) = tapeD k m nm := (rfl)
@[simp] theorem td_pm {k : Int} : putA (tapeD d m nm) (.inr ("mixed" : Str)) (.int k) = tapeD d k nm := (rfl)
@[simp] theorem td_put {k : Key} {j : Nat} {e : AEnv} {h : List AO} : dpO k v j e h (some (.dct (tapeD d m nm))) = some (.nx e, h.set j (.dct (putA (tapeD d m nm) k v))) := dpO_dct (by show 3 < 100000; decide)
end
@[simp] theorem oAddA_int {i j : Int} {h : List AO} : oAddA (.int i) (.int j) h = some (.int (i + j), h) := (rfl)
theorem pick_a {h : List AO} {t : Nat} {d m many : Int} {nm : AV} (e : h[t]? = some (.dct (tapeD d m nm))) (na : many ≠ 0 ∧ many.natAbs < 1073741824) (c : many ≤ d) :
    m_law_pick [.ref t, .int many] h = some (.ok (.int (d.fmod many)), h.set t (.dct (tapeD (d.fdiv many) m nm))) := by
  have e2 := set_at e
  simp [u_law_pick, e, e2, c, oMod_int na.1, oFdiv_int na]
theorem pick_b {h : List AO} {t : Nat} {d m many m1 m2 m3 m4 m5 m6 m7 : Int} {nm : AV} (e : h[t]? = some (.dct (tapeD d m nm))) (c : ¬ many ≤ d)
    (q0 : ∀ h : List AO, oMul (.int m) (.int 40014) h = some (.int m1, h)) (q1 : ∀ h : List AO, oMod (.int (m1 + 1017)) (.int 2147483563) h = some (.int m2, h))
    (q2 : ∀ h : List AO, oPow (.int m2) (.int 2) h = some (.int m3, h)) (q3 : ∀ h : List AO, oMod (.int m3) (.int 2147483399) h = some (.int m4, h))
    (q4 : ∀ h : List AO, oPow (.int m4) (.int 3) h = some (.int m5, h)) (q5 : ∀ h : List AO, oMod (.int m5) (.int 998244353) h = some (.int m6, h))
    (q6 : ∀ h : List AO, oFdiv (.int m6) (.int 7) h = some (.int m7, h)) (nz : many ≠ 0) :
    m_law_pick [.ref t, .int many] h = some (.ok (.int (m7.fmod many)), h.set t (.dct (tapeD d m2 nm))) := by
  have e2 := set_at e
  simp [u_law_pick, e, e2, c, q0, q1, q2, q3, q4, q5, q6, oMod_int nz]
theorem l40014 : (40014 : Int).natAbs.log2 = 15 := by decide
theorem l30013 : (30013 : Int).natAbs.log2 = 14 := by decide
theorem pick_ok {h : List AO} {t : Nat} {d m many : Int} {nm : AV} (e : h[t]? = some (.dct (tapeD d m nm))) (hd : 0 ≤ d) (hm0 : 0 ≤ m) (hm : m < 2 ^ 32) (hk0 : 0 < many) (hk : many < 1073741824) :
    ∃ r d' m', m_law_pick [.ref t, .int many] h = some (.ok (.int r), h.set t (.dct (tapeD d' m' nm))) ∧ 0 ≤ r ∧ r < many ∧ 0 ≤ d' ∧ 0 ≤ m' ∧ m' < 2 ^ 32 := by
  have nz : many ≠ 0 := by omega
  by_cases c : many ≤ d
  · exact ⟨d.fmod many, d.fdiv many, m, pick_a e ⟨nz, by omega⟩ c, Int.fmod_nonneg_of_pos _ hk0, Int.fmod_lt_of_pos _ hk0, Int.fdiv_nonneg hd (by omega), hm0, hm⟩
  · have b1 := log2_nn hm0 hm (by decide)
    have f1 := Int.fmod_nonneg_of_pos (m * 40014 + 1017) (show (0 : Int) < 2147483563 by decide)
    have f2 := Int.fmod_lt_of_pos (m * 40014 + 1017) (show (0 : Int) < 2147483563 by decide)
    generalize hm1 : (m * 40014 + 1017).fmod 2147483563 = m1 at f1 f2
    have b2 := log2_nn f1 (show m1 < 2 ^ 32 by omega) (by decide)
    have g1 := Int.fmod_nonneg_of_pos (m1 ^ 2) (show (0 : Int) < 2147483399 by decide)
    have g2 := Int.fmod_lt_of_pos (m1 ^ 2) (show (0 : Int) < 2147483399 by decide)
    generalize hm2 : (m1 ^ 2).fmod 2147483399 = m2 at g1 g2
    have b3 := log2_nn g1 (show m2 < 2 ^ 32 by omega) (by decide)
    have l1 := l40014
    have p1 : m.natAbs.log2 + (40014 : Int).natAbs.log2 < 130000000 := by omega
    have p2 : (0 : Int) ≤ 2 ∧ ((m1.natAbs.log2 : Int) + 1) * 2 ≤ 2 ^ 27 := ⟨by decide, by omega⟩
    have p3 : (0 : Int) ≤ 3 ∧ ((m2.natAbs.log2 : Int) + 1) * 3 ≤ 2 ^ 27 := ⟨by decide, by omega⟩
    exact ⟨(((m2 ^ 3).fmod 998244353).fdiv 7).fmod many, d, m1, pick_b (m1 := m * 40014) (m2 := m1) (m3 := m1 ^ 2) (m4 := m2) (m5 := m2 ^ 3) e c (fun h => oMul_int p1) (fun h => by rw [oMod_int (by decide), hm1]) (fun h => oPow_int p2) (fun h => by rw [oMod_int (by decide), hm2]) (fun h => oPow_int p3)
      (fun h => oMod_int (by decide)) (fun h => oFdiv_int (by decide)) nz, Int.fmod_nonneg_of_pos _ hk0, Int.fmod_lt_of_pos _ hk0, hd, f1, by omega⟩
/-- one cell of the script mixed in -/
theorem bits_cell {z : Int} (h : Builtin.Int.intBits z ≤ 1048576) : z.natAbs.log2 ≤ 1048576 := by
  simp only [Builtin.Int.intBits] at h
  split at h
  · rename_i q; rw [eq_of_beq q]; decide
  · omega
theorem mul_log2 (i j : Int) : (i * j).natAbs.log2 ≤ i.natAbs.log2 + j.natAbs.log2 + 1 := by
  rw [Int.natAbs_mul]
  by_cases a : i.natAbs = 0
  · rw [a, Nat.zero_mul]; show Nat.log2 0 ≤ _; rw [Nat.log2_zero]; omega
  · by_cases b : j.natAbs = 0
    · rw [b, Nat.mul_zero]; show Nat.log2 0 ≤ _; rw [Nat.log2_zero]; omega
    · have h1 : i.natAbs < 2 ^ (i.natAbs.log2 + 1) := Nat.lt_log2_self
      have h2 : j.natAbs < 2 ^ (j.natAbs.log2 + 1) := Nat.lt_log2_self
      have h3 : i.natAbs * j.natAbs < 2 ^ (i.natAbs.log2 + 1) * 2 ^ (j.natAbs.log2 + 1) := Nat.mul_lt_mul_of_lt_of_lt h1 h2
      rw [← Nat.pow_add] at h3
      have h4 := log2_lt' h3 (by omega)
      omega
theorem add_log2 (i j : Int) : (i + j).natAbs.log2 ≤ max i.natAbs.log2 j.natAbs.log2 + 1 := by
  have h1 : i.natAbs < 2 ^ (i.natAbs.log2 + 1) := Nat.lt_log2_self
  have h2 : j.natAbs < 2 ^ (j.natAbs.log2 + 1) := Nat.lt_log2_self
  have h3 : (i + j).natAbs ≤ i.natAbs + j.natAbs := Int.natAbs_add_le i j
  have m1 : (2 : Nat) ^ (i.natAbs.log2 + 1) ≤ 2 ^ (max i.natAbs.log2 j.natAbs.log2 + 1) := Nat.pow_le_pow_right (by decide) (by omega)
  have m2 : (2 : Nat) ^ (j.natAbs.log2 + 1) ≤ 2 ^ (max i.natAbs.log2 j.natAbs.log2 + 1) := Nat.pow_le_pow_right (by decide) (by omega)
  have h4 : (i + j).natAbs < 2 ^ (max i.natAbs.log2 j.natAbs.log2 + 1 + 1) := by
    rw [Nat.pow_succ 2 (max i.natAbs.log2 j.natAbs.log2 + 1)]; omega
  have h5 := log2_lt' h4 (by omega)
  omega
theorem cell_ok {m z : Int} (hm0 : 0 ≤ m) (hm : m < 2 ^ 32) (hz : z.natAbs.log2 ≤ 1048576) : m.natAbs.log2 + (30013 : Int).natAbs.log2 < 130000000 ∧ z.natAbs.log2 + z.natAbs.log2 < 130000000 ∧ (0 : Int) ≤ 2 ∧ (((m * 30013 + z * z + 11).natAbs.log2 : Int) + 1) * 2 ≤ 2 ^ 27 := by
  have b1 := log2_nn hm0 hm (by decide)
  have l1 := l30013
  have a1 := mul_log2 m 30013
  have a2 := mul_log2 z z
  have a3 := add_log2 (m * 30013) (z * z)
  have a4 := add_log2 (m * 30013 + z * z) 11
  have l2 : (11 : Int).natAbs.log2 = 3 := by decide
  generalize (m * 30013 + z * z + 11).natAbs.log2 = x at a4 ⊢
  generalize (m * 30013 + z * z).natAbs.log2 = y at a3 a4
  exact ⟨by omega, by omega, by decide, by omega⟩
/-- the names -/
def nms3 : List AV := [.tup [.str "x", .str "y", .str "a", .str "b"], .tup [.str "name", .str "zz", .str "middle", .str "tell"], .tup [.str "add", .str "look", .str "jump", .str "az"]]
abbrev tapeBody : AS := lb_law_tape_0
theorem tapeBody_ok {h : List AO} {m z : Int} {a b c d : Option AV} (hm0 : 0 ≤ m) (hm : m < 2 ^ 32) (hz : z.natAbs.log2 ≤ 1048576) :
    ∃ m', tapeBody [a, b, some (.int m), some (.int z), c, d] h = some (.nx [a, b, some (.int m'), some (.int z), c, d], h) ∧ 0 ≤ m' ∧ m' < 2 ^ 32 := by
  obtain ⟨k1, k2, k3⟩ := cell_ok hm0 hm hz
  have f1 := Int.fmod_nonneg_of_pos ((m * 30013 + z * z + 11) ^ (2 : Int).toNat) (show (0 : Int) < 2147483563 by decide)
  have f2 := Int.fmod_lt_of_pos ((m * 30013 + z * z + 11) ^ (2 : Int).toNat) (show (0 : Int) < 2147483563 by decide)
  have q1 : ∀ h : List AO, oMul (.int m) (.int 30013) h = some (.int (m * 30013), h) := fun h => oMul_int k1
  have q2 : ∀ h : List AO, oMul (.int z) (.int z) h = some (.int (z * z), h) := fun h => oMul_int k2
  have q3 : ∀ h : List AO, oPow (.int (m * 30013 + z * z + 11)) (.int 2) h = some (.int ((m * 30013 + z * z + 11) ^ (2 : Int).toNat), h) := fun h => oPow_int k3
  generalize (m * 30013 + z * z + 11) ^ (2 : Int).toNat = p at f1 f2 q3
  have q4 : ∀ h : List AO, oMod (.int p) (.int 2147483563) h = some (.int (p.fmod 2147483563), h) := fun h => oMod_int (by decide)
  refine ⟨p.fmod 2147483563 + 2, ?_, by omega, by omega⟩
  simp [ulb_law_tape_0, q1, q2, q3, q4]
theorem tapeLoop_ok {h : List AO} {ns : List Int} {s : Nat} {m : Int} {a b c d z : Option AV} (e : h[s]? = some (.rol (ns.map AV.int))) (hb : ∀ z ∈ ns, z.natAbs.log2 ≤ 1048576) (hl : ns.length ≤ 63) (hm0 : 0 ≤ m) (hm : m < 2 ^ 32) :
    ∃ m' z', forL (.src (.lst s)) (gA 3) tapeBody 100000 0 [a, b, some (.int m), z, c, d] h = some (.nx [a, b, some (.int m'), z', c, d], h) ∧ 0 ≤ m' ∧ m' < 2 ^ 32 := by
  obtain ⟨e', h', r1, m', z', rfl, rfl, r2, r3⟩ := forL_inv (I := .src (.lst s)) (g := gA 3) (b := tapeBody) (fun i e2 h2 => ∃ m' z', e2 = [a, b, some (.int m'), z', c, d] ∧ h2 = h ∧ 0 ≤ m' ∧ m' < 2 ^ 32) ns.length
    (fun e2 h2 ⟨m', z', q1, q2, _⟩ => by subst q1 q2; simp [e])
    (fun i e2 h2 hi ⟨m', z', q1, q2, q3, q4⟩ => by
      subst q1 q2
      obtain ⟨m2, r1, r2, r3⟩ := tapeBody_ok (h := h2) (a := a) (b := b) (c := c) (d := d) q3 q4 (hb ns[i] (List.getElem_mem hi))
      exact ⟨.int ns[i], [a, b, some (.int m'), some (.int ns[i]), c, d], h2, _, h2, by simp [e, hi], rfl, r1, m2, _, rfl, rfl, r2, r3⟩)
    ns.length 0 100000 [a, b, some (.int m), z, c, d] h (by omega) (by omega) ⟨m, z, rfl, rfl, hm0, hm⟩
  exact ⟨m', z', r1, r2, r3⟩
theorem td_disp {h : List AO} {x : AO} {d m : Int} {nm : AV} : dispF (h.length + 1) [(.str "digits", .int d), (.str "mixed", .int m), (.str "names", nm)] (h ++ [x, .dct []]) = some (.ok (.ref (h.length + 1)), h ++ [x, .dct (tapeD d m nm)]) := by
  have q2 : (h ++ [x, AO.dct []])[h.length + 1]? = some (.dct []) := by simp
  have q1 : keysA [(.str "digits", .int d), (.str "mixed", .int m), (.str "names", nm)] = some (tapeD d m nm) := rfl
  rw [dispF_ok q1 q2 (by show 3 ≤ 15; decide)]
  have q3 : mergeA [] (tapeD d m nm) = tapeD d m nm := rfl
  rw [q3, set_off]
  rfl
theorem nms_ok {m : Int} : ∃ nm, atI nms3 (m.fmod 3) = some nm ∧ nm ∈ nms3 := by
  have f1 := Int.fmod_nonneg_of_pos m (show (0 : Int) < 3 by decide)
  have f2 := Int.fmod_lt_of_pos m (show (0 : Int) < 3 by decide)
  generalize m.fmod 3 = k at f1 f2
  obtain ⟨j, rfl⟩ := Int.eq_ofNat_of_zero_le f1
  rw [atI_n]
  have hj : j < nms3.length := by show j < 3; omega
  exact ⟨nms3[j], List.getElem?_eq_getElem hj, List.getElem_mem hj⟩
theorem tape_ok {h : List AO} {ns : List Int} {s k : Nat} (e : h[s]? = some (.rol (ns.map AV.int))) (hb : ∀ z ∈ ns, z.natAbs.log2 ≤ 1048576) (hl : ns.length ≤ 63) (hk : k ≤ 3) :
    ∃ d m nm o, m_law_tape [.ref s, .int (k : Int)] h = some (.ok (.ref (h.length + 1)), h ++ [o, .dct (tapeD d m nm)]) ∧ 0 ≤ d ∧ 0 ≤ m ∧ m < 2 ^ 32 ∧ nm ∈ nms3 := by
  have k1 : (k : Int).natAbs.log2 + (37 : Int).natAbs.log2 < 130000000 := by
    have := log2_lt' (n := (k : Int).natAbs) (k := 3) (by omega) (by decide)
    have : (37 : Int).natAbs.log2 = 5 := by decide
    omega
  have q0 : ∀ h : List AO, oMul (.int (k : Int)) (.int 37) h = some (.int (k * 37), h) := fun h => oMul_int k1
  obtain ⟨m, z, r1, r2, r3⟩ := tapeLoop_ok (h := h) (s := s) (m := 89 + (k : Int) * 37) (a := some (.ref s)) (b := some (.int (k : Int))) (c := none) (d := none) (z := none) e hb hl (by omega) (by omega)
  obtain ⟨nm, n1, n2⟩ := nms_ok (m := m)
  have q1 : ∀ h : List AO, oMod (.int m) (.int 3) h = some (.int (m.fmod 3), h) := fun h => oMod_int (by decide)
  have q2 : ∀ h : List AO, oPow (.int 10) (.int 18) h = some (.int 1000000000000000000, h) := fun h => oPow_int (by decide)
  unfold nms3 at n1
  by_cases c : k < ns.length
  · by_cases c2 : 1000000000000000000 ≤ ns[k]
    · refine ⟨ns[k] - 1000000000000000000, m, nm, .lst nms3, ?_, by omega, r2, r3, n2⟩
      simp [u_law_tape, e, q0, r1, q1, q2, n1, c, c2, atI_n, td_disp, nms3]
    · refine ⟨0, m, nm, .lst nms3, ?_, by omega, r2, r3, n2⟩
      simp [u_law_tape, e, q0, r1, q1, q2, n1, c, c2, atI_n, td_disp, nms3]
  · refine ⟨0, m, nm, .lst nms3, ?_, by omega, r2, r3, n2⟩
    simp [u_law_tape, e, q0, r1, q1, q2, n1, c, td_disp, nms3]
end K83
set_option maxHeartbeats 40000000
namespace K83
open PySem PySem.Spec PyProof.Rows L2 SL TL
/-! the tape, kept and read on -/
def TapeAt (t : Nat) (h : List AO) : Prop := ∃ d m nm, h[t]? = some (.dct (tapeD d m nm)) ∧ 0 ≤ d ∧ 0 ≤ m ∧ m < 2 ^ 32
theorem TapeAt.lt {t : Nat} {h : List AO} (q : TapeAt t h) : t < h.length := let ⟨_, _, _, e, _⟩ := q; lt_of_at e
theorem TapeAt.kq {t : Nat} {h h' : List AO} (q : TapeAt t h) (k : Kq h h') : TapeAt t h' := let ⟨d, m, nm, e, r⟩ := q; ⟨d, m, nm, k _ _ e, r⟩
theorem TapeAt.set {t i : Nat} {h : List AO} {o : AO} (q : TapeAt t h) (n : t ≠ i) : TapeAt t (h.set i o) := let ⟨d, m, nm, e, r⟩ := q; ⟨d, m, nm, by rw [set_ne (Ne.symm n)]; exact e, r⟩
theorem pick_k {t : Nat} {h : List AO} (q : TapeAt t h) (many : Int) (h0 : 0 < many) (h1 : many < 1073741824) :
    ∃ r h', m_law_pick [.ref t, .int many] h = some (.ok (.int r), h') ∧ 0 ≤ r ∧ r < many ∧ TapeAt t h' ∧ Kp t h h' := by
  obtain ⟨d, m, nm, e, a, b, c⟩ := q
  obtain ⟨r, d', m', r1, r2, r3, r4, r5, r6⟩ := pick_ok e a b c h0 h1
  exact ⟨r, _, r1, r2, r3, ⟨d', m', nm, set_at e _, r4, r5, r6⟩, Kp.refl.setT⟩
theorem one_of_k {t l : Nat} {h : List AO} {xs : List AV} (q : TapeAt t h) (n : l ≠ t) (e : h[l]? = some (.lst xs)) (h0 : 0 < xs.length) (h1 : xs.length ≤ 1000) :
    ∃ x h', m_law_one_of [.ref t, .ref l] h = some (.ok x, h') ∧ x ∈ xs ∧ TapeAt t h' ∧ Kp t h h' := by
  obtain ⟨r, h', r1, r2, r3, r4, r5⟩ := pick_k q xs.length (by omega) (by omega)
  obtain ⟨j, rfl⟩ := Int.eq_ofNat_of_zero_le r2
  have hj : j < xs.length := by omega
  have e2 := r5.at_ _ _ n e
  refine ⟨xs[j], h', ?_, List.getElem_mem hj, r4, r5⟩
  simp [u_law_one_of, e, r1, e2, hj]
/-! one sign in digits; is_digits -/
theorem is_digits_ok {z : Str} (few : z.length ≤ 90000) (h : List AO) : ∃ g, m_is_digits [.str z] h = some (.ok (.bl (isDig (tl z))), h ++ g) := by
  have lz : (tl z).length ≤ 90000 := by rw [← len_tl]; exact few
  by_cases h0 : z = ""
  · subst h0
    have e : isDig (tl ("" : Str)) = false := by decide +kernel
    rw [e]
    exact ⟨[], by simp [u_is_digits]⟩
  · have lc := lc_map (I := .str z) (e := [some (.str z), none]) (j := 1) (el := le_is_digits_0) (h0 := h) (ls := tl z) (inj := fun c => .str ⟨#[c]⟩) (fn := fun c => .bl (dg c))
      (fun c _ h => by
        show le_is_digits_0 [some (.str z), some (.str ⟨#[c]⟩)] h = _
        rw [ule_is_digits_0]
        show lft (cIn false (.str ⟨#[c]⟩) (.str "0123456789") h) = _
        show lft (some (.bl (decide (c ∈ (Str.ofString "0123456789").cps.toList)), h)) = _
        rw [digits_mem]
        rfl) at_strM (by omega)
    obtain ⟨c0, r0, ez⟩ : ∃ c r, tl z = c :: r := by
      cases q : tl z with
      | nil => exact absurd (ext_tl q) h0
      | cons c r => exact ⟨c, r, rfl⟩
    have ix : ∀ h' : List AO, oIx (.str z) (.int 0) h' = some (.str ⟨#[c0]⟩, h') := fun h' => by
      show (if z.length ≤ 1000000 then (atI (tl z) 0).map fun c => (AV.str ⟨#[c]⟩, h') else none) = _
      rw [if_pos (by omega), ez]
      simp [atI, ixN]
    refine ⟨[.lst ((tl z).map fun c => .bl (dg c))], ?_⟩
    have b1 : (z == ("0" : Str)) = decide (tl z = [48]) := by
      rw [Bool.eq_iff_iff]
      simp only [beq_iff_eq, decide_eq_true_eq]
      exact ⟨fun e => by rw [e]; decide +kernel, fun e => ext_tl (by rw [e]; decide +kernel)⟩
    have b2 : ((⟨#[c0]⟩ : Str) == ("0" : Str)) = decide (c0 = 48) := by
      rw [Bool.eq_iff_iff]
      simp only [beq_iff_eq, decide_eq_true_eq]
      have e48 : tl ("0" : Str) = [48] := by decide +kernel
      exact ⟨fun e => by have := congrArg tl e; rw [e48] at this; exact (List.cons.inj this).1, fun e => ext_tl (by rw [e48, e])⟩
    have b3 : (z == ("" : Str)) = false := beq_eq_false_iff_ne.mpr h0
    have sem : isDig (tl z) = (allD (tl z) && (decide (tl z = [48]) || !decide (c0 = 48))) := by
      unfold isDig
      rw [ez]
      simp
    rw [sem]
    have e1 : awipe [some (.str z), none] [1] = [some (.str z), none] := rfl
    have e2 : ((⟨#[c0]⟩ : Str) = ("0" : Str)) ↔ c0 = 48 := by
      rw [← beq_iff_eq, b2]
      simp
    cases al : allD (tl z) with
    | false => simp [u_is_digits, h0, e1, lc, bsK_dg, al]
    | true =>
      by_cases z1 : z = "0"
      · have z2 : tl z = [48] := by rw [z1]; decide +kernel
        have z3 := eq_true z1
        have z4 : (true && (decide (tl z = [48]) || !decide (c0 = 48))) = true := by rw [z2]; rfl
        rw [z4]
        clear z1 z2 z4
        simp [u_is_digits, h0, e1, lc, bsK_dg, al, z3]
      · have z2 : ¬ tl z = [48] := fun q => z1 (ext_tl (q.trans (by decide +kernel)))
        simp [u_is_digits, h0, e1, lc, bsK_dg, al, z1, z2, ix, e2]
/-! one line -/
theorem tl_sp : tl (" " : Str) = [32] := by decide +kernel
theorem hk_sp : ((" " : Str).cps.all (· < 256)) = true := by decide +kernel
theorem ln_sp : ((" " : Str).length == 0) = false := by decide +kernel
def intv (p : Str) : Int := ((NumText.digitsVal (tl p) : Nat) : Int)
def good : List Str → Bool
  | [p0] => isDig (tl p0) && decide (p0.length ≤ 60)
  | [p0, a, b, c] => (isDig (tl p0) && decide (p0.length ≤ 60)) && (decide (a = "comes") && ((decide (b = "1") || decide (b = "2")) && (decide (c = "0") || decide (c = "1") || decide (c = "2") || decide (c = "3"))))
  | _ => false
def evP : List Str → AV
  | [p0] => .tup [.int (intv p0)]
  | [p0, _, b, c] => .tup [.int (intv p0), .int (intv b), .int (intv c)]
  | _ => .non
def evL (ps : List Str) : AV := if good ps = true then evP ps else .non
theorem int_dig {p : Str} {h : List AO} (d : isDig (tl p) = true) (l : p.length ≤ 60) : fIntA [.str p] h = some (.int (intv p), h) := by
  unfold fIntA
  dsimp only
  rw [if_pos (by omega), isDig_val d l]
  rfl
theorem int_1 {h : List AO} : fIntA [.str "1"] h = some (.int (intv "1"), h) := int_dig (by decide +kernel) (by decide +kernel)
theorem int_2 {h : List AO} : fIntA [.str "2"] h = some (.int (intv "2"), h) := int_dig (by decide +kernel) (by decide +kernel)
theorem int_0 {h : List AO} : fIntA [.str "0"] h = some (.int (intv "0"), h) := int_dig (by decide +kernel) (by decide +kernel)
theorem int_3 {h : List AO} : fIntA [.str "3"] h = some (.int (intv "3"), h) := int_dig (by decide +kernel) (by decide +kernel)
theorem split_sp {z : Str} {h : List AO} (few : z.length ≤ 90000) : fSplit (.str z) [.str " "] h = some (.ref h.length, h ++ [.lst ((Txt.split z " ").map .str)]) := by
  unfold fSplit
  dsimp only
  rw [if_pos ⟨ln_sp, by omega⟩]
theorem beqD {a b : Str} : (a == b) = decide (b = a) := by
  by_cases h : a = b
  · subst h; simp
  · rw [beq_eq_false_iff_ne.mpr h, decide_eq_false (Ne.symm h)]
theorem in_12 {b : Str} {h : List AO} : cIn true (.str b) (.ktp [.str "1", .str "2"]) h = some (.bl (!(decide (b = "1") || decide (b = "2"))), h) := by
  rw [cIn_strK, inX_flat (by rfl), inK_some]
  show some (AV.bl (!(List.any _ _)), h) = _
  simp [eqF, beqD]
theorem in_03 {b : Str} {h : List AO} : cIn true (.str b) (.tup [.str "0", .str "1", .str "2", .str "3"]) h = some (.bl (!(decide (b = "0") || decide (b = "1") || decide (b = "2") || decide (b = "3"))), h) := by
  rw [cIn_str, inX_flat (by rfl), inK_some]
  show some (AV.bl (!(List.any _ _)), h) = _
  simp [eqF, Bool.and_assoc, beqD]
theorem read_event_ok {z : Str} (few : z.length ≤ 90000) (h : List AO) : ∃ g, m_read_event [.str z] h = some (.ok (evL (Txt.split z " ")), h ++ g) := by
  have sp : ∀ h : List AO, fSplit (.str z) [.str " "] h = some (.ref h.length, h ++ [.lst ((Txt.split z " ").map .str)]) := fun h => split_sp few
  have ne : Txt.split z " " ≠ [] := split_ne (by rw [tl_sp]; simp) hk_sp
  have le : ∀ p ∈ Txt.split z " ", p.length ≤ z.length := split_le (by rw [tl_sp]; simp) hk_sp
  generalize Txt.split z " " = ps at sp ne le
  match ps, ne with
  | p0 :: rest, _ =>
    have l0 := le p0 (by simp)
    have l0' : p0.length ≤ 1000000 := by omega
    obtain ⟨g, d⟩ := is_digits_ok (z := p0) (by omega) (h ++ [.lst ((p0 :: rest).map .str)])
    simp at d
    refine ⟨.lst ((p0 :: rest).map .str) :: g, ?_⟩
    cases dd : isDig (tl p0) with
    | false =>
      have e : evL (p0 :: rest) = .non := by
        unfold evL
        match rest with
        | [] => simp [good, dd]
        | [_] => simp [good]
        | [_, _] => simp [good]
        | [_, _, _] => simp [good, dd]
        | _ :: _ :: _ :: _ :: _ => simp [good]
      rw [e]
      rw [dd] at d
      simp [u_read_event, sp, d]
    | true =>
      rw [dd] at d
      by_cases l60 : p0.length ≤ 60
      · have l60' : ¬ (60 : Int) < (p0.length : Int) := by omega
        have i0 : ∀ h : List AO, fIntA [.str p0] h = some (.int (intv p0), h) := fun h => int_dig dd l60
        rcases rest with _ | ⟨a, _ | ⟨b, _ | ⟨c, _ | ⟨x, r⟩⟩⟩⟩
        · simp at d
          simp [u_read_event, sp, d, l0', l60', i0, evL, evP, good, dd, l60]
        · simp at d
          simp [u_read_event, sp, d, l0', l60', evL, good]
        · simp at d
          simp [u_read_event, sp, d, l0', l60', evL, good]
        · simp at d
          have e : evL [p0, a, b, c] = if (a = "comes" ∧ (b = "1" ∨ b = "2")) ∧ (c = "0" ∨ c = "1" ∨ c = "2" ∨ c = "3") then .tup [.int (intv p0), .int (intv b), .int (intv c)] else .non := by
            unfold evL
            simp [good, evP, dd, l60, or_assoc, and_assoc]
          rw [e]
          by_cases ha : a = "comes"
          · have ha1 := eq_true ha
            by_cases hb : b = "1" ∨ b = "2"
            · have ib : ∀ h : List AO, fIntA [.str b] h = some (.int (intv b), h) := fun h => by
                rcases hb with rfl | rfl
                · exact int_1
                · exact int_2
              have inb : (decide (b = ("1" : Str)) || decide (b = ("2" : Str))) = true := by simpa using hb
              by_cases hc : c = "0" ∨ c = "1" ∨ c = "2" ∨ c = "3"
              · have ic : ∀ h : List AO, fIntA [.str c] h = some (.int (intv c), h) := fun h => by
                  rcases hc with rfl | rfl | rfl | rfl
                  · exact int_0
                  · exact int_1
                  · exact int_2
                  · exact int_3
                have inc : (decide (c = ("0" : Str)) || decide (c = ("1" : Str)) || decide (c = ("2" : Str)) || decide (c = ("3" : Str))) = true := by simpa [or_assoc] using hc
                rw [if_pos ⟨⟨ha, hb⟩, hc⟩]
                clear e ha hb hc
                simp [u_read_event, sp, d, l0', l60', ha1, in_12, in_03, -cIn_str, -cIn_strK, inb, inc, i0, ib, ic]
              · have inc : (decide (c = ("0" : Str)) || decide (c = ("1" : Str)) || decide (c = ("2" : Str)) || decide (c = ("3" : Str))) = false := by simpa [or_assoc, Bool.eq_false_iff] using hc
                rw [if_neg fun z => hc z.2]
                clear e ha hb hc
                simp [u_read_event, sp, d, l0', l60', ha1, in_12, in_03, -cIn_str, -cIn_strK, inb, inc]
            · have inb : (decide (b = ("1" : Str)) || decide (b = ("2" : Str))) = false := by simpa using hb
              rw [if_neg fun z => hb z.1.2]
              clear e ha hb
              simp [u_read_event, sp, d, l0', l60', ha1, in_12, -cIn_str, -cIn_strK, inb]
          · rw [if_neg fun z => ha z.1.1]
            simp [u_read_event, sp, d, l0', l60', ha]
        · simp at d
          have k1 : ¬ ((r.length : Int) + 1 + 1 + 1 + 1 + 1 = 1) := by omega
          have k4 : ¬ ((r.length : Int) + 1 + 1 + 1 + 1 + 1 = 4) := by omega
          simp [u_read_event, sp, d, l0', l60', evL, good, k1, k4]
      · have e : evL (p0 :: rest) = .non := by
          unfold evL
          match rest with
          | [] => simp [good, l60]
          | [_] => simp [good]
          | [_, _] => simp [good]
          | [_, _, _] => simp [good, l60]
          | _ :: _ :: _ :: _ :: _ => simp [good]
        rw [e]
        have l60' : (60 : Int) < (p0.length : Int) := by omega
        simp [u_read_event, sp, d, l0', l60']
end K83
set_option maxHeartbeats 40000000
namespace K83
open PySem PySem.Spec PyProof.Rows L2 SL TL
/-! whether a line is one -/
theorem in_12f {b : Str} {h : List AO} : cIn false (.str b) (.tup [.str "1", .str "2"]) h = some (.bl (decide (b = "1") || decide (b = "2")), h) := by
  rw [cIn_str, inX_flat (by rfl), inK_some]
  show some (AV.bl (List.any _ _), h) = _
  simp [eqF, beqD]
theorem in_03f {b : Str} {h : List AO} : cIn false (.str b) (.tup [.str "0", .str "1", .str "2", .str "3"]) h = some (.bl (decide (b = "0") || decide (b = "1") || decide (b = "2") || decide (b = "3")), h) := by
  rw [cIn_str, inX_flat (by rfl), inK_some]
  show some (AV.bl (List.any _ _), h) = _
  simp [eqF, Bool.or_assoc, beqD]
theorem is_line_ok {z : Str} (fz : Fine 90000 z) (h : List AO) : ∃ g, m_law_is_line [.str z] h = some (.ok (.bl (good (Txt.split z " "))), h ++ g) := by
  have few := fz.le
  have sp : ∀ h : List AO, fSplit (.str z) [.str " "] h = some (.ref h.length, h ++ [.lst ((Txt.split z " ").map .str)]) := fun h => split_sp few
  have ne : Txt.split z " " ≠ [] := split_ne (by rw [tl_sp]; simp) hk_sp
  have fin : ∀ p ∈ Txt.split z " ", Fine 90000 p := fz.split (by rw [tl_sp]; simp) hk_sp
  generalize Txt.split z " " = ps at sp ne fin
  match ps, ne with
  | p0 :: rest, _ =>
    have f0 := fin p0 (by simp)
    have l0 : p0.length ≤ 1000000 := by have := f0.le; omega
    have l0' : (tl p0).length < 100000 := by rw [← len_tl]; have := f0.le; omega
    by_cases e0 : p0 = ""
    · subst e0
      have gf : good (("" : Str) :: rest) = false := by
        have d0 : isDig (tl ("" : Str)) = false := by decide +kernel
        rcases rest with _ | ⟨a, _ | ⟨b, _ | ⟨c, _ | ⟨x, r⟩⟩⟩⟩ <;> simp [good, d0]
      rw [gf]
      exact ⟨[.lst ((("" : Str) :: rest).map .str)], by simp [u_law_is_line, sp]⟩
    · obtain ⟨c0, r0, ez⟩ : ∃ c r, tl p0 = c :: r := by
        cases q : tl p0 with
        | nil => exact absurd (ext_tl q) e0
        | cons c r => exact ⟨c, r, rfl⟩
      have ix : ∀ h' : List AO, oIx (.str p0) (.int 0) h' = some (.str ⟨#[c0]⟩, h') := fun h' => by
        show (if p0.length ≤ 1000000 then (atI (tl p0) 0).map fun c => (AV.str ⟨#[c]⟩, h') else none) = _
        rw [if_pos l0, ez]
        simp [atI, ixN]
      obtain ⟨P, hP⟩ : ∃ P : AO, P = .lst ((p0 :: rest).map .str) := ⟨_, rfl⟩
      have lc := lc_filt (I := .str p0) (e := [some (.str z), some (.ref h.length), none]) (j := 2) (t := mB (m2 (cIn true) (mVar 2) (mC (.str "0123456789")))) (el := le_law_is_line_0) (h0 := h ++ [P]) (ls := tl p0) (inj := fun c => .str ⟨#[c]⟩) (fn := fun c => .str ⟨#[c]⟩) (p := fun c => !dg c)
        (fun c _ h' => by
          show le_law_is_line_0 [some (.str z), some (.ref h.length), some (.str ⟨#[c]⟩)] h' = _
          simp [ule_law_is_line_0])
        (fun c _ h' => by
          show tBK (lft (cIn true (.str ⟨#[c]⟩) (.str "0123456789") h')) = _
          show tBK (lft (some (.bl (!decide (c ∈ (Str.ofString "0123456789").cps.toList)), h'))) = _
          rw [digits_mem]
          rfl) at_strM l0'
      obtain ⟨L, hL⟩ : ∃ L : List Str, L = ((tl p0).filter fun c => !dg c).map fun c => (⟨#[c]⟩ : Str) := ⟨_, rfl⟩
      have mL : ((tl p0).filter fun c => !dg c).map (fun c => AV.str ⟨#[c]⟩) = L.map AV.str := by rw [hL, List.map_map]; rfl
      rw [mL] at lc
      have okL : ∀ x ∈ L, PyData.strOk x = true := fun x hx => by
        rw [hL] at hx
        obtain ⟨c, hc, rfl⟩ := List.mem_map.mp hx
        have := f0.ok c (List.mem_filter.mp hc).1
        show (#[c] : Array Nat).all _ = true
        simp [this]
      have nn : dqK (rfD 12 (h ++ [P, .lst (L.map AV.str), .lst []]) (h.length + 1)) (rfD 12 (h ++ [P, .lst (L.map AV.str), .lst []]) (h.length + 2)) = some L.isEmpty := dq_nil_strs okL (by simp) (by simp)
      have emp : L.isEmpty = allD (tl p0) := by
        rw [hL, Bool.eq_iff_iff]
        unfold allD
        simp only [List.isEmpty_map, List.isEmpty_iff, List.filter_eq_nil_iff, List.all_eq_true]
        exact ⟨fun q c hc => by simpa using q c hc, fun q c hc => by simpa using q c hc⟩
      rw [emp] at nn
      have sem : isDig (tl p0) = (allD (tl p0) && (decide (tl p0 = [48]) || !decide (c0 = 48))) := by
        unfold isDig
        rw [ez]
        simp
      have b2 : ((⟨#[c0]⟩ : Str) = ("0" : Str)) ↔ c0 = 48 := by
        have e48 : tl ("0" : Str) = [48] := by decide +kernel
        exact ⟨fun e => by have := congrArg tl e; rw [e48] at this; exact (List.cons.inj this).1, fun e => ext_tl (by rw [e48, e])⟩
      have b1 : tl p0 = [48] ↔ p0 = "0" := ⟨fun q => ext_tl (q.trans (by decide +kernel)), fun q => by rw [q]; decide +kernel⟩
      simp at lc
      refine ⟨[P, .lst (L.map AV.str), .lst []], ?_⟩
      have bad : (isDig (tl p0) && decide (p0.length ≤ 60)) = false → good (p0 :: rest) = false := fun q => by
        rcases rest with _ | ⟨a, _ | ⟨b, _ | ⟨c, _ | ⟨x, r⟩⟩⟩⟩ <;> simp [good, q]
      have hP' : lstK (some P) = some ((p0 :: rest).map .str) := by rw [hP]; rfl
      rw [← hP] at sp
      cases al : allD (tl p0) with
      | false =>
        rw [bad (by rw [sem, al]; rfl)]
        rw [al] at nn
        simp [u_law_is_line, sp, hP', e0, awipe, lc, nn]
      | true =>
        rw [al] at nn
        by_cases l60 : p0.length ≤ 60
        · have l60' : ¬ (60 : Int) < (p0.length : Int) := by omega
          by_cases z0 : c0 = 48
          · by_cases z1 : p0 = "0"
            · have dd : (isDig (tl p0) && decide (p0.length ≤ 60)) = true := by
                have := b1.mpr z1
                rw [sem, al]
                simp [this, l60]
              have b48 : ((⟨#[48]⟩ : Str) = ("0" : Str)) = True := eq_true (ext_tl (by decide +kernel))
              have z3 := eq_true z1
              clear z1
              rcases rest with _ | ⟨a, _ | ⟨b, _ | ⟨c, _ | ⟨x, r⟩⟩⟩⟩
              · simp [u_law_is_line, sp, hP', e0, awipe, lc, nn, l0, l60', ix, b2, z0, z3, b48, good, dd]
              · simp [u_law_is_line, sp, hP', e0, awipe, lc, nn, l0, l60', ix, b2, z0, z3, b48, good]
              · simp [u_law_is_line, sp, hP', e0, awipe, lc, nn, l0, l60', ix, b2, z0, z3, b48, good]
              · by_cases ha : a = "comes"
                · have ha1 := eq_true ha
                  cases hb : (decide (b = ("1" : Str)) || decide (b = ("2" : Str))) with
                  | false =>
                    have g : good [p0, a, b, c] = false := by simp only [good, hb, Bool.false_and, Bool.and_false]
                    rw [g]
                    clear ha
                    simp [u_law_is_line, sp, hP', e0, awipe, lc, nn, l0, l60', ix, b2, z0, z3, b48, ha1, in_12f, in_03f, -cIn_str, -cIn_strK, hb]
                  | true =>
                    have g : good [p0, a, b, c] = (decide (c = ("0" : Str)) || decide (c = ("1" : Str)) || decide (c = ("2" : Str)) || decide (c = ("3" : Str))) := by simp only [good, dd, hb, ha, decide_true, Bool.true_and]
                    rw [g]
                    clear ha
                    generalize hc : (decide (c = ("0" : Str)) || decide (c = ("1" : Str)) || decide (c = ("2" : Str)) || decide (c = ("3" : Str))) = v
                    simp [u_law_is_line, sp, hP', e0, awipe, lc, nn, l0, l60', ix, b2, z0, z3, b48, ha1, in_12f, in_03f, -cIn_str, -cIn_strK, hb, hc]
                · have g : good [p0, a, b, c] = false := by simp [good, ha]
                  rw [g]
                  simp [u_law_is_line, sp, hP', e0, awipe, lc, nn, l0, l60', ix, b2, z0, z3, b48, ha]
              · have k1 : ¬ ((r.length : Int) + 1 + 1 + 1 + 1 + 1 = 1) := by omega
                have k4 : ¬ ((r.length : Int) + 1 + 1 + 1 + 1 + 1 = 4) := by omega
                simp [u_law_is_line, sp, hP', e0, awipe, lc, nn, l0, l60', ix, b2, z0, z3, b48, good, k1, k4]
            · have n1 : ¬ tl p0 = [48] := fun q => z1 (b1.mp q)
              rw [bad (by rw [sem, al]; simp [n1, z0])]
              have b48 : ((⟨#[48]⟩ : Str) = ("0" : Str)) = True := eq_true (ext_tl (by decide +kernel))
              simp [u_law_is_line, sp, hP', e0, awipe, lc, nn, l0, l60', ix, b2, z0, z1, b48]
          · have dd : (isDig (tl p0) && decide (p0.length ≤ 60)) = true := by
              rw [sem, al]
              simp [z0, l60]
            rcases rest with _ | ⟨a, _ | ⟨b, _ | ⟨c, _ | ⟨x, r⟩⟩⟩⟩
            · simp [u_law_is_line, sp, hP', e0, awipe, lc, nn, l0, l60', ix, b2, z0, good, dd]
            · simp [u_law_is_line, sp, hP', e0, awipe, lc, nn, l0, l60', ix, b2, z0, good]
            · simp [u_law_is_line, sp, hP', e0, awipe, lc, nn, l0, l60', ix, b2, z0, good]
            · by_cases ha : a = "comes"
              · have ha1 := eq_true ha
                cases hb : (decide (b = ("1" : Str)) || decide (b = ("2" : Str))) with
                | false =>
                  have g : good [p0, a, b, c] = false := by simp only [good, hb, Bool.false_and, Bool.and_false]
                  rw [g]
                  clear ha
                  simp [u_law_is_line, sp, hP', e0, awipe, lc, nn, l0, l60', ix, b2, z0, ha1, in_12f, in_03f, -cIn_str, -cIn_strK, hb]
                | true =>
                  have g : good [p0, a, b, c] = (decide (c = ("0" : Str)) || decide (c = ("1" : Str)) || decide (c = ("2" : Str)) || decide (c = ("3" : Str))) := by simp only [good, dd, hb, ha, decide_true, Bool.true_and]
                  rw [g]
                  clear ha
                  generalize hc : (decide (c = ("0" : Str)) || decide (c = ("1" : Str)) || decide (c = ("2" : Str)) || decide (c = ("3" : Str))) = v
                  simp [u_law_is_line, sp, hP', e0, awipe, lc, nn, l0, l60', ix, b2, z0, ha1, in_12f, in_03f, -cIn_str, -cIn_strK, hb, hc]
              · have g : good [p0, a, b, c] = false := by simp [good, ha]
                rw [g]
                simp [u_law_is_line, sp, hP', e0, awipe, lc, nn, l0, l60', ix, b2, z0, ha]
            · have k1 : ¬ ((r.length : Int) + 1 + 1 + 1 + 1 + 1 = 1) := by omega
              have k4 : ¬ ((r.length : Int) + 1 + 1 + 1 + 1 + 1 = 4) := by omega
              simp [u_law_is_line, sp, hP', e0, awipe, lc, nn, l0, l60', ix, b2, z0, good, k1, k4]
        · have l60' : (60 : Int) < (p0.length : Int) := by omega
          rw [bad (by simp [l60])]
          simp [u_law_is_line, sp, hP', e0, awipe, lc, nn, l0, l60']
/-! reading -/
def wr : Nat → List Str → List Int
  | _, [] => []
  | i, l :: ls => if good (Txt.split l " ") = true then wr (i + 1) ls else ((i + 1 : Nat) : Int) :: wr (i + 1) ls
def Res (f : Nat) (h : List AO) (x : AV) (o : OS) : List Int → Prop
  | [] => ∃ y2 y3 y4 h', o = some (.nx [some x, some (.ref f), y2, y3, y4], h') ∧ Kp f h h'
  | v :: _ => ∃ c e' h', o = some (.ex 1 c e', h') ∧ h'[c]? = some (.xd [("line", .int v)]) ∧ h.length ≤ c ∧ Kp f h h'
theorem Res.after {f : Nat} {h h1 : List AO} {x : AV} {o : OS} (k : Kp f h h1) : ∀ {w : List Int}, Res f h1 x o w → Res f h x o w
  | [], ⟨y2, y3, y4, h', e, kp⟩ => ⟨y2, y3, y4, h', e, k.trans kp⟩
  | _ :: _, ⟨c, e', h', e, q, l, kp⟩ => ⟨c, e', h', e, q, Nat.le_trans k.le l, k.trans kp⟩
theorem evP_tup : ∀ {ps : List Str}, good ps = true → ∃ xs, evP ps = .tup xs
  | [_], _ => ⟨_, rfl⟩
  | [_, _, _, _], _ => ⟨_, rfl⟩
  | [], q => by cases q
  | [_, _], q => by cases q
  | [_, _, _], q => by cases q
  | _ :: _ :: _ :: _ :: _ :: _, q => by cases q
theorem read_loop {ls : List Str} (fin : ∀ p ∈ ls, Fine 90000 p) {x : AV} {f k : Nat} (ne : k ≠ f) (few : ls.length ≤ 90000) :
    ∀ (rest : List Str) (i fu : Nat) (y2 y3 y4 : Option AV) (h : List AO) (acc : List AV), ls.drop i = rest → h[k]? = some (.lst (ls.map .str)) → h[f]? = some (.lst acc) → acc.length ≤ i → rest.length < fu →
    Res f h x (forL (.enm (.lst k)) (gTupA (gsCons (gA 2) (gsCons (gA 3) gsNil))) lb_read_weaving_0 fu i [some x, some (.ref f), y2, y3, y4] h) (wr i rest)
  | [], i, fu + 1, y2, y3, y4, h, acc, hd, ek, ef, la, hf => by
    have no : ls[i]? = none := by
      rw [List.getElem?_eq_none_iff]
      exact List.drop_eq_nil_iff.mp hd
    refine ⟨y2, y3, y4, h, ?_, .refl⟩
    rw [forL_st, at_enm ek]
    simp [no]
  | l :: rest, i, fu + 1, y2, y3, y4, h, acc, hd, ek, ef, la, hf => by
    have at_ : ls[i]? = some l := by
      have := congrArg (fun z => z[0]?) hd
      simpa using this
    have hi : i < ls.length := (List.getElem?_eq_some_iff.mp at_).1
    have ml : l ∈ ls := List.mem_of_getElem? at_
    have hd2 : ls.drop (i + 1) = rest := by
      have := congrArg List.tail hd
      simpa using this
    obtain ⟨g, q⟩ := read_event_ok (fin l ml).le h
    have e2 := get_app ef g
    have st : forL (.enm (.lst k)) (gTupA (gsCons (gA 2) (gsCons (gA 3) gsNil))) lb_read_weaving_0 (fu + 1) i [some x, some (.ref f), y2, y3, y4] h =
        frA (.enm (.lst k)) (gTupA (gsCons (gA 2) (gsCons (gA 3) gsNil))) lb_read_weaving_0 fu i (lb_read_weaving_0 [some x, some (.ref f), some (.int (i : Nat)), some (.str l), y4] h) := by
      rw [forL_st, at_enm ek]
      simp [at_]
    rw [st]
    cases gd : good (Txt.split l " ") with
    | false =>
      have ev : evL (Txt.split l " ") = .non := by unfold evL; rw [gd]; rfl
      rw [ev] at q
      have nn : ∀ h : List AO, cIsN false .non .non h = some (.bl true, h) := fun h => rfl
      have w : wr i (l :: rest) = ((i + 1 : Nat) : Int) :: wr (i + 1) rest := by
        rw [wr, gd]
        rfl
      have b : lb_read_weaving_0 [some x, some (.ref f), some (.int (i : Nat)), some (.str l), y4] h = some (.ex 1 (h ++ g).length [some x, some (.ref f), some (.int (i : Nat)), some (.str l), some .non], h ++ g ++ [.xd [("line", .int ((i + 1 : Nat) : Int))]]) := by
        have ii : (i : Int) + 1 = ((i + 1 : Nat) : Int) := by omega
        simp [ulb_read_weaving_0, q, nn]
      rw [w, b]
      exact ⟨_, _, _, rfl, by simp, by simp, Kp.app.trans .app⟩
    | true =>
      obtain ⟨xs, ex⟩ := evP_tup gd
      have ev : evL (Txt.split l " ") = .tup xs := by unfold evL; rw [gd, ← ex]; rfl
      rw [ev] at q
      have nn : ∀ h : List AO, cIsN false (.tup xs) .non h = some (.bl false, h) := fun h => rfl
      have w : wr i (l :: rest) = wr (i + 1) rest := by
        rw [wr, gd]
        rfl
      have sm : acc.length < 1000000 := by omega
      have b : lb_read_weaving_0 [some x, some (.ref f), some (.int (i : Nat)), some (.str l), y4] h = some (.nx [some x, some (.ref f), some (.int (i : Nat)), some (.str l), some (.tup xs)], (h ++ g).set f (.lst (acc ++ [.tup xs]))) := by
        simp [ulb_read_weaving_0, q, nn, e2, appK_lst sm]
      rw [w, b]
      have kp : Kp f h ((h ++ g).set f (.lst (acc ++ [.tup xs]))) := Kp.app.setT
      exact (read_loop fin ne few rest (i + 1) fu _ _ _ _ (acc ++ [.tup xs]) hd2 (kp.at_ _ _ ne ek) (set_at e2 _) (by simp; omega) (by simp at hf; omega)).after kp
  | [], _, 0, _, _, _, _, _, _, _, _, _, hf => by omega
  | _ :: _, _, 0, _, _, _, _, _, _, _, _, _, hf => by omega
theorem tl_nl : tl ("\n" : Str) = [10] := by decide +kernel
theorem hk_nl : (("\n" : Str).cps.all (· < 256)) = true := by decide +kernel
theorem ln_nl : (("\n" : Str).length == 0) = false := by decide +kernel
def rows (z : Str) : List Str := if z = "" then [] else Txt.split z "\n"
theorem rows_fine {z : Str} {n : Nat} (fz : Fine n z) : (∀ p ∈ rows z, Fine n p) ∧ (rows z).length ≤ n + 1 := by
  unfold rows
  by_cases c : z = ""
  · rw [if_pos c]
    exact ⟨(fun p hp => by cases hp), Nat.zero_le _⟩
  · rw [if_neg c]
    refine ⟨fz.split (by rw [tl_nl]; simp) hk_nl, ?_⟩
    have := split_cnt (x := z) (y := "\n") (by rw [tl_nl]; simp) hk_nl
    have := fz.le
    omega
theorem split_nl {z : Str} {h : List AO} (few : z.length ≤ 80000) : fSplit (.str z) [.str "\n"] h = some (.ref h.length, h ++ [.lst ((Txt.split z "\n").map .str)]) := by
  unfold fSplit
  dsimp only
  rw [if_pos ⟨ln_nl, by omega⟩]
theorem refused_ok {z : Str} (fz : Fine 80000 z) (h : List AO) : ∃ r h', m_law_refused [.str z] h = some (.ok (.ref r), h') ∧ h'[r]? = some (.lst (((wr 0 (rows z)).take 1).map .int)) ∧ Kq h h' := by
  obtain ⟨fin, cnt⟩ := rows_fine fz
  have fin' : ∀ p ∈ rows z, Fine 90000 p := fun p hp => (fin p hp).mono (by decide)
  have sp : ∀ h : List AO, fSplit (.str z) [.str "\n"] h = some (.ref h.length, h ++ [.lst ((Txt.split z "\n").map .str)]) := fun h => split_nl fz.le
  have R := read_loop fin' (x := .str z) (f := h.length + 1) (k := h.length + 2) (by omega) (by omega) (rows z) 0 100000 none none none (h ++ [.lst [], .lst [], .lst ((rows z).map .str)]) [] rfl (by simp) (by simp) (by simp) (by omega)
  -- what read_weaving does with it
  have rw_ : m_read_weaving [.str z] (h ++ [.lst []]) = fnK (sqK (mRet (mVar 1)) (forL (.enm (.lst (h.length + 2))) (gTupA (gsCons (gA 2) (gsCons (gA 3) gsNil))) lb_read_weaving_0 100000 0 [some (.str z), some (.ref (h.length + 1)), none, none, none] (h ++ [.lst [], .lst [], .lst ((rows z).map .str)]))) := by
    unfold rows
    by_cases c : z = ""
    · have c' := eq_true c
      rw [if_pos c]
      clear c
      simp [u_read_weaving, c']
    · rw [if_neg c]
      simp [u_read_weaving, c, sp]
  generalize forL (.enm (.lst (h.length + 2))) (gTupA (gsCons (gA 2) (gsCons (gA 3) gsNil))) lb_read_weaving_0 100000 0 [some (.str z), some (.ref (h.length + 1)), none, none, none] (h ++ [.lst [], .lst [], .lst ((rows z).map .str)]) = o at R rw_
  cases w : wr 0 (rows z) with
  | nil =>
    rw [w] at R
    obtain ⟨y2, y3, y4, h', e, kp⟩ := R
    subst e
    refine ⟨h.length, h', ?_, by simpa using kp.at_ h.length (.lst []) (by omega) (by simp), fun i o q => kp.at_ i o (by have := lt_of_at q; omega) (get_app q _)⟩
    simp at rw_
    simp [u_law_refused, rw_]
  | cons v r =>
    rw [w] at R
    obtain ⟨c, e', h', e, q, lc, kp⟩ := R
    subst e
    refine ⟨h'.length, h' ++ [.lst [.int v]], ?_, by simp, fun i o q => get_app (kp.at_ i o (by have := lt_of_at q; omega) (get_app q _)) _⟩
    simp at rw_
    simp [u_law_refused, rw_, q]
theorem refused_odd {v : AV} {h : List AO} (hv : isT .str h v = some false) (hv' : ∀ g, isT .str (h ++ g) v = some false) : ∃ r g, m_law_refused [v] h = some (.ok (.ref r), h ++ g) ∧ (h ++ g)[r]? = some (.lst [.int 1]) := by
  refine ⟨h.length + 2, [.lst [], .xd [("line", .int 1)], .lst [.int 1]], ?_, by simp⟩
  have e1 := hv' [.lst []]
  have e2 : ∀ h : List AO, isT .str h v = some false → m_read_weaving [v] h = some (.ex 1 h.length, h ++ [.xd [("line", .int 1)]]) := fun h q => by
    simp [u_read_weaving, q]
  have e3 := e2 _ e1
  simp at e3
  simp [u_law_refused, e3]
/-! drawing lines -/
def n60 : Str := Txt.mul "9" 60
def n61 : Str := Txt.mul "9" 61
def z59 : Str := Txt.mul "0" 59
def big1 : Str := "1" ++ z59 ++ " comes 1 2"
def someL : List Str := ["0", "7", "12 comes 1 1", "0 comes 2 0", "3 comes 1 3", n60, big1]
def oddL1 : List Str := ["", "00", "01", "-1", "1 ", " 1", "1 comes", "1 comes 1", "1 comes 3 1", "1 comes 1 4", "1 comes 0 1", "1 Comes 1 1"]
def oddL2 : List Str := ["1 comes 1 1 1", "1  comes 1 1", "a", "1 goes 1 1", "1 comes 01 1", "1 comes 1 01", n61, "1\t", "1 comes 1 -1", "1_0"]
theorem some_fine : ∀ l ∈ someL, Fine 80 l := fun l hl => Fine.of ((List.all_eq_true.mp (show someL.all (fineB 80) = true by decide +kernel)) l hl)
theorem odd_fine : ∀ l ∈ oddL1 ++ oddL2, Fine 80 l := fun l hl => Fine.of ((List.all_eq_true.mp (show (oddL1 ++ oddL2).all (fineB 80) = true by decide +kernel)) l hl)
theorem rep_ok {a : Str} {k : Int} {h : List AO} (q : 0 ≤ k ∧ k ≤ 1000 ∧ a.length ≤ 1000) : oRepS (.str a) (.int k) h = some (.str (Txt.mul a k), h) := by
  unfold oRepS
  dsimp only
  rw [if_pos q]
theorem rep60 {h : List AO} : oRepS (.str "9") (.int 60) h = some (.str n60, h) := rep_ok ⟨by decide, by decide, by decide +kernel⟩
theorem rep61 {h : List AO} : oRepS (.str "9") (.int 61) h = some (.str n61, h) := rep_ok ⟨by decide, by decide, by decide +kernel⟩
theorem rep59 {h : List AO} : oRepS (.str "0") (.int 59) h = some (.str z59, h) := rep_ok ⟨by decide, by decide, by decide +kernel⟩
theorem add1 {h : List AO} : oAddA (.str "1") (.str z59) h = some (.str ("1" ++ z59), h) := add_str (by decide +kernel)
theorem add2 {h : List AO} : oAddA (.str ("1" ++ z59)) (.str " comes 1 2") h = some (.str big1, h) := add_str (by decide +kernel)
theorem cat_lst {h : List AO} {i j : Nat} {xs ys : List AV} (e1 : h[i]? = some (.lst xs)) (e2 : h[j]? = some (.lst ys)) (few : xs.length + ys.length ≤ 1000000) : oAddA (.ref i) (.ref j) h = some (.ref h.length, h ++ [.lst (xs ++ ys)]) := by
  have e : oAdd (.ref i) (.ref j) h = some (.ref h.length, h ++ [.lst (xs ++ ys)]) := by rw [oAdd_ref, e1, e2, catK_two, if_pos few]
  simp only [oAddA, orO, e]
theorem near_ok {t : Nat} {h : List AO} (q : TapeAt t h) : ∃ l h', m_law_line_near [.ref t] h = some (.ok (.str l), h') ∧ Fine 80 l ∧ TapeAt t h' ∧ Kp t h h' := by
  have lt := q.lt
  obtain ⟨A, hA⟩ : ∃ A : AO, A = .lst (someL.map .str) := ⟨_, rfl⟩
  obtain ⟨B, hB⟩ : ∃ B : AO, B = .lst (oddL1.map .str) := ⟨_, rfl⟩
  obtain ⟨C, hC⟩ : ∃ C : AO, C = .lst (oddL2.map .str) := ⟨_, rfl⟩
  obtain ⟨D, hD⟩ : ∃ D : AO, D = .lst ((oddL1 ++ oddL2).map .str) := ⟨_, rfl⟩
  obtain ⟨E, hE⟩ : ∃ E : AO, E = .lst [.ref h.length, .ref h.length, .ref (h.length + 3)] := ⟨_, rfl⟩
  have T : TapeAt t (h ++ [A, B, C, D, E]) := q.kq .app
  have eE : (h ++ [A, B, C, D, E])[h.length + 4]? = some (.lst [.ref h.length, .ref h.length, .ref (h.length + 3)]) := by rw [hE]; simp
  obtain ⟨x, h1, p1, p2, p3, p4⟩ := one_of_k T (by omega) eE (by simp) (by simp)
  have cc : oAddA (.ref (h.length + 1)) (.ref (h.length + 2)) (h ++ [A, B, C]) = some (.ref (h.length + 3), h ++ [A, B, C, D]) := by
    rw [cat_lst (xs := oddL1.map .str) (ys := oddL2.map .str) (by rw [hB]; simp) (by rw [hC]; simp) (by simp [oddL1, oddL2]), hD]
    simp
  have fin : ∀ (i : Nat) (ls : List Str), x = .ref i → h1[i]? = some (.lst (ls.map .str)) → (∀ l ∈ ls, Fine 80 l) → i ≠ t → 0 < ls.length → ls.length ≤ 1000 → ∃ l h', m_law_one_of [.ref t, x] h1 = some (.ok (.str l), h') ∧ Fine 80 l ∧ TapeAt t h' ∧ Kp t h h' := by
    intro i ls ex ei fl ni l0 l1
    subst ex
    obtain ⟨y, h2, r1, r2, r3, r4⟩ := one_of_k p3 ni ei (by simpa using l0) (by simpa using l1)
    obtain ⟨l, hl, rfl⟩ := List.mem_map.mp r2
    exact ⟨l, h2, r1, fl l hl, r3, (Kp.app.trans p4).trans r4⟩
  have F : ∃ l h', m_law_one_of [.ref t, x] h1 = some (.ok (.str l), h') ∧ Fine 80 l ∧ TapeAt t h' ∧ Kp t h h' := by
    have kA : h1[h.length]? = some (.lst (someL.map .str)) := by
      rw [← hA]
      exact p4.at_ _ _ (by omega) (by simp)
    have kD : h1[h.length + 3]? = some (.lst ((oddL1 ++ oddL2).map .str)) := by
      rw [← hD]
      exact p4.at_ _ _ (by omega) (by simp)
    simp only [List.mem_cons, List.not_mem_nil, or_false] at p2
    rcases p2 with e | e | e
    · exact fin _ someL e kA some_fine (by omega) (by decide) (by decide)
    · exact fin _ someL e kA some_fine (by omega) (by decide) (by decide)
    · exact fin _ (oddL1 ++ oddL2) e kD odd_fine (by omega) (by decide) (by decide)
  obtain ⟨l, h2, r1, r2, r3, r4⟩ := F
  refine ⟨l, h2, ?_, r2, r3, r4⟩
  simp only [someL, oddL1, oddL2, List.map_cons, List.map_nil] at hA hB hC
  rw [hE] at p1
  clear hD hE eE
  simp [u_law_line_near, rep60, rep61, rep59, add1, add2, ← hA, ← hB, ← hC, cc, p1, r1]
def signs : List Str := [" ", "0", "1", "4", "a", "-", "\t", "_", "."]
theorem signs_fine : ∀ l ∈ signs, Fine 1 l := fun l hl => Fine.of ((List.all_eq_true.mp (show signs.all (fineB 1) = true by decide +kernel)) l hl)
theorem emp_fine : Fine 1 ("" : Str) := Fine.of (by decide +kernel)
theorem slice_str {z : Str} {lo hi : Option Int} {h : List AO} (few : z.length ≤ 1000000) : oSlT (.str z) lo hi h = some (.str (cutS z lo hi), h) := by
  show (if z.length ≤ 1000000 then some (AV.str (cutS z lo hi), h) else none) = _
  rw [if_pos few]
theorem bent_ok {t : Nat} {h : List AO} {z : Str} (q : TapeAt t h) (fz : Fine 80 z) : ∃ l h', m_law_bent [.ref t, .str z] h = some (.ok (.str l), h') ∧ Fine 161 l ∧ TapeAt t h' ∧ Kp t h h' := by
  have zl := fz.le
  obtain ⟨a, h1, p1, p2, p3, p4, p5⟩ := pick_k q ((z.length : Int) + 1) (by omega) (by omega)
  obtain ⟨A, hA⟩ : ∃ A : AO, A = .lst (signs.map .str) := ⟨_, rfl⟩
  have lt1 := p4.lt
  obtain ⟨x, h2, r1, r2, r3, r4⟩ := one_of_k (l := h1.length) (xs := signs.map .str) (p4.kq (Kq.app (g := [A]))) (by omega) (by rw [hA]; simp) (by decide) (by decide)
  obtain ⟨sg, hs, rfl⟩ := List.mem_map.mp r2
  have fs := signs_fine sg hs
  have lt2 := r3.lt
  obtain ⟨B, hB⟩ : ∃ B : AO, B = .lst [.str sg, .str "", .str sg] := ⟨_, rfl⟩
  obtain ⟨y, h3, s1, s2, s3, s4⟩ := one_of_k (l := h2.length) (xs := [.str sg, .str "", .str sg]) (r3.kq (Kq.app (g := [B]))) (by omega) (by rw [hB]; simp) (by simp) (by simp)
  obtain ⟨m, rfl, fm⟩ : ∃ m : Str, y = .str m ∧ Fine 1 m := by
    simp only [List.mem_cons, List.not_mem_nil, or_false] at s2
    rcases s2 with e | e | e
    · exact ⟨_, e, fs⟩
    · exact ⟨_, e, emp_fine⟩
    · exact ⟨_, e, fs⟩
  obtain ⟨b, h4, v1, v2, v3, v4, v5⟩ := pick_k s3 2 (by decide) (by decide)
  have f1 := fz.cut none (some a)
  have f2 := fz.cut (some (a + b)) none
  have f3 := f1.app fm
  have f4 := f3.app f2
  have zl' : z.length ≤ 1000000 := by omega
  have a1 : ∀ h, oAddA (.str (cutS z none (some a))) (.str m) h = some (.str (cutS z none (some a) ++ m), h) := fun _ => add_str (by have := f1.le; have := fm.le; omega)
  have a2 : ∀ h, oAddA (.str (cutS z none (some a) ++ m)) (.str (cutS z (some (a + b)) none)) h = some (.str (cutS z none (some a) ++ m ++ cutS z (some (a + b)) none), h) := fun _ => add_str (by have := f3.le; have := f2.le; omega)
  refine ⟨_, h4, ?_, f4, v4, ((((p5.trans Kp.app).trans r4).trans Kp.app).trans s4).trans v5⟩
  simp only [signs, List.map_cons, List.map_nil] at hA
  rw [hA] at r1
  rw [hB] at s1
  clear hA hB r2
  simp [u_law_bent, zl', p1, r1, slice_str zl', s1, v1, a1, a2]
theorem row_ok {t : Nat} {h : List AO} {n : Nat} (q : TapeAt t h) (hn : n ≤ 31) (x : AEnv) (j : Nat) (hx : ∀ v : AV, (x.set j (some v))[2]? = some (some (.ref t))) :
    ∃ (ls : List Str) (h' : List AO), lcL (.rng 0 n) (gA j) mYes le_law_0 h.length x 100000 0 (h ++ [.lst []]) = some h' ∧ h'[h.length]? = some (.lst (ls.map .str)) ∧ (∀ l ∈ ls, Fine 80 l) ∧ ls.length = n ∧ TapeAt t h' ∧ Kp t h h' := by
  have lt := q.lt
  obtain ⟨acc, h', r1, ls, rfl, r2, r3, r4, r5, r6⟩ := lcL_inv (I := .rng 0 n) (g := gA j) (t := mYes) (el := le_law_0) (e := x) (d := h.length)
    (fun i acc h' => ∃ ls : List Str, acc = ls.map .str ∧ h'[h.length]? = some (.lst acc) ∧ (∀ l ∈ ls, Fine 80 l) ∧ ls.length = i ∧ TapeAt t h' ∧ Kp t h h') n (by omega)
    (fun i acc h' ⟨ls, q1, _, _, q4, _⟩ => by subst q1; simp; omega)
    (fun acc h' _ => by simp)
    (fun i acc h' hi ⟨ls, q1, q2, q3, q4, q5, q6⟩ => by
      subst q1
      obtain ⟨l, h2, s1, s2, s3, s4⟩ := near_ok q5
      have e2 := s4.at_ _ _ (by omega) q2
      refine ⟨.int (i : Nat), x.set j (some (.int (i : Nat))), h', by simp [hi], rfl, .inr ⟨h', .str l, h2, rfl, ?_, e2, ls ++ [l], by simp, set_at e2 _, ?_, by simp [q4], s3.set (by omega), (q6.trans s4).setN (Nat.le_refl _)⟩⟩
      · have g2 := hx (.int (i : Nat))
        simp [ule_law_0, g2, s1]
      · intro e he
        rcases List.mem_append.mp he with ha | ha
        · exact q3 e ha
        · rw [List.mem_singleton.mp ha]; exact s2)
    n 0 100000 [] (h ++ [.lst []]) (by omega) (by omega) ⟨[], rfl, by simp, (fun _ z => by cases z), rfl, q.kq Kq.app, Kp.app⟩
  exact ⟨ls, h', r1, r2, r3, r4, r5, r6⟩
/-! the wrong lines -/
theorem wr_range : ∀ {i : Nat} {rs : List Str}, ∀ v ∈ wr i rs, ∃ n : Nat, v = (n : Int) ∧ n ≤ i + rs.length
  | i, [] => fun v hv => by cases hv
  | i, l :: rs => fun v hv => by
    unfold wr at hv
    split at hv
    · obtain ⟨n, e, b⟩ := wr_range (i := i + 1) (rs := rs) v hv
      exact ⟨n, e, by simp only [List.length_cons]; omega⟩
    · rcases List.mem_cons.mp hv with e | hv
      · exact ⟨i + 1, e, by simp only [List.length_cons]; omega⟩
      · obtain ⟨n, e, b⟩ := wr_range (i := i + 1) (rs := rs) v hv
        exact ⟨n, e, by simp only [List.length_cons]; omega⟩
theorem wrong_ok {rs : List Str} (fin : ∀ p ∈ rs, Fine 90000 p) (few : rs.length ≤ 90000) {r : Nat} {h : List AO} (er : h[r]? = some (.lst (rs.map .str))) (x : AEnv) (hx : ∀ v : AV, (x.set 10 (some v))[8]? = some (some (.ref r)) ∧ (x.set 10 (some v))[10]? = some (some v)) :
    ∃ h', lcL (.rng 0 rs.length) (gA 10) (mNot (mB (mCall m_law_is_line [] (mCons (m2 oIx (mVar 8) (mVar 10)) (mNil))))) le_law_1 h.length x 100000 0 (h ++ [.lst []]) = some h' ∧ h'[h.length]? = some (.lst ((wr 0 rs).map .int)) ∧ Kq h h' := by
  obtain ⟨acc, h', r1, w, rfl, r2, r3, r4, r5⟩ := lcL_inv (I := .rng 0 rs.length) (g := gA 10) (t := mNot (mB (mCall m_law_is_line [] (mCons (m2 oIx (mVar 8) (mVar 10)) (mNil))))) (el := le_law_1) (e := x) (d := h.length)
    (fun i acc h' => ∃ w : List Int, acc = w.map .int ∧ h'[h.length]? = some (.lst acc) ∧ w.length ≤ i ∧ w ++ wr i (rs.drop i) = wr 0 rs ∧ Kq h h') rs.length (by omega)
    (fun i acc h' ⟨w, q1, _, q3, _⟩ => by subst q1; simpa using q3)
    (fun acc h' _ => by simp)
    (fun i acc h' hi ⟨w, q1, q2, q3, q4, q5⟩ => by
      subst q1
      obtain ⟨g, s1⟩ := is_line_ok (fin rs[i] (List.getElem_mem hi)) h'
      have er' := q5 _ _ er
      have hd : rs.drop i = rs[i] :: rs.drop (i + 1) := List.drop_eq_getElem_cons hi
      obtain ⟨g8, g10⟩ := hx (.int (i : Nat))
      have e2 := get_app q2 g
      have at_ : (rs.map AV.str)[i]? = some (.str rs[i]) := by simp [hi]
      have ix : oIx (.ref r) (.int (i : Nat)) h' = some (.str rs[i], h') := by
        rw [oIx_ref, er']
        show mapV (atI (rs.map AV.str) (i : Nat)) h' = _
        rw [atI_n, at_]
        rfl
      have tt : mNot (mB (mCall m_law_is_line [] (mCons (m2 oIx (mVar 8) (mVar 10)) (mNil)))) (x.set 10 (some (.int (i : Nat)))) h' = some (.ok (!good (Txt.split rs[i] " ")), h' ++ g) := by
        simp [g8, g10, ix, s1]
      refine ⟨.int (i : Nat), x.set 10 (some (.int (i : Nat))), h', by simp [hi], rfl, ?_⟩
      rw [tt]
      rw [hd, wr] at q4
      cases gd : good (Txt.split rs[i] " ") with
      | true =>
        rw [gd, if_pos rfl] at q4
        exact .inl ⟨h' ++ g, rfl, w, rfl, e2, by omega, q4, q5.trans .app⟩
      | false =>
        rw [gd, if_neg (by simp)] at q4
        refine .inr ⟨h' ++ g, .int ((i + 1 : Nat) : Int), h' ++ g, rfl, ?_, e2, w ++ [((i + 1 : Nat) : Int)], by simp, set_at e2 _, by simp; omega, by simpa using q4, (q5.trans .app).set (Nat.le_refl _)⟩
        have ii : (i : Int) + 1 = ((i + 1 : Nat) : Int) := by omega
        simp [ule_law_1, g10])
    rs.length 0 100000 [] (h ++ [.lst []]) (by omega) (by omega) ⟨[], rfl, by simp, by simp, by simp, .app⟩
  refine ⟨h', r1, ?_, r5⟩
  have z : wr rs.length (rs.drop rs.length) = [] := by rw [List.drop_length]; rfl
  rw [z, List.append_nil] at r4
  rw [← r4]
  exact r2
theorem numX_len {n : Nat} (h : n ≤ 1000000) : (txI n).length ≤ 7 := by
  rw [len_tl]
  show (tl (Str.ofString (toString ((n : Nat) : Int)))).length ≤ 7
  rw [tl_num]
  exact numL_len (by decide) (by omega)
theorem repr_ints {w : List Int} (few : w.length ≤ 1) (rg : ∀ v ∈ w, ∃ n : Nat, v = (n : Int) ∧ n ≤ 1000000) {r : Nat} {h : List AO} (e : h[r]? = some (.lst (w.map .int))) : fRepr [.ref r] h = some (.str (PyData.shown (.list (w.map .int))), h) := by
  have td : toD h (.ref r) = some (.list (w.map .int)) := by
    rw [toD_ref, rfD_st, e]
    match w, few with
    | [], _ => rfl
    | [v], _ => rfl
    | _ :: _ :: _, f => simp at f
  have so : shOk (.list (w.map .int)) = true := by
    match w, few, rg with
    | [], _, _ => decide +kernel
    | [v], _, rg =>
      obtain ⟨n, rfl, hn⟩ := rg v (by simp)
      have l7 := numX_len hn
      have e1 : ("[" : Str).length = 1 := by decide +kernel
      have e2 : ("]" : Str).length = 1 := by decide +kernel
      have e3 : ("" : Str).length = 0 := by decide +kernel
      have ln : (PyData.shown (.list [.int (n : Int)])).length ≤ 1000000 := by
        show (("[" : Str) ++ "" ++ txI n ++ "]").length ≤ _
        rw [len_app, len_app, len_app]
        omega
      have lg : n.log2 < 1920 := by
        by_cases z : n = 0
        · subst z; decide
        · exact (Nat.log2_lt z).mpr (Nat.lt_of_le_of_lt hn (Nat.lt_of_lt_of_le (show 1000000 < 2 ^ 20 by decide) (Nat.pow_le_pow_right (by decide) (by decide))))
      unfold shOk
      show (PyData.showable (.list [.int (n : Int)]) && !PyData.hasDict (.list [.int (n : Int)]) && decide (PyData.depth (.list [.int (n : Int)]) ≤ 20) && decide ((PyData.shown (.list [.int (n : Int)])).length ≤ 1000000)) = true
      simp [PyData.showable, PyData.showableAll, PyData.hasDict, PyData.hasDictAll, PyData.depth, PyData.depthAll, ln, lg]
    | _ :: _ :: _, f, _ => simp at f
  unfold fRepr
  dsimp only
  rw [if_pos (show isRf (.ref r) = true from rfl), td]
  dsimp only
  rw [if_pos so]
/-! one look -/
theorem join_nl {ls : List Str} {n : Nat} (hn : n ≤ 1000) (few : ls.length ≤ 100) (fin : ∀ p ∈ ls, Fine n p) {r : Nat} {h : List AO} (e : h[r]? = some (.lst (ls.map .str))) : fJoin (.str "\n") [.ref r] h = some (.str (Txt.join "\n" ls), h) := by
  have s1 : (ls.map (·.length)).sum ≤ ls.length * n := by
    clear few e
    induction ls with
    | nil => simp
    | cons a l ih =>
      have h1 := (fin a (by simp)).le
      have h2 := ih fun p hp => fin p (by simp [hp])
      simp only [List.map_cons, List.sum_cons, List.length_cons, Nat.one_mul, Nat.add_mul]
      omega
  have it : itemsA h (.ref r) = some (ls.map .str) := by
    show (match h[r]? with | some (.lst ys) => some ys | some (.rol ys) => some ys | _ => none) = _
    rw [e]
  have q : (ls.map (·.length)).sum + ls.length * ("\n" : Str).length ≤ 1000000 := by
    have l1 : ("\n" : Str).length = 1 := by decide +kernel
    rw [l1]
    have m1 : ls.length * n ≤ 100 * 1000 := Nat.mul_le_mul few hn
    omega
  unfold fJoin
  dsimp only
  rw [it]
  dsimp only
  rw [strsA_map]
  dsimp only
  rw [if_pos q]
theorem slT_ref {i : Nat} {lo hi : Option Int} {h : List AO} : oSlT (.ref i) lo hi h = slcK lo hi h h[i]? := (rfl)
theorem take1 {xs : List AV} : cutA xs none (some 1) = xs.take 1 := by
  unfold cutA
  cases xs <;> simp [HT.sIx]
structure Rest (t d : Nat) (h0 h : List AO) (ls : List Str) : Prop where
  tp : TapeAt t h
  at_ : h[d]? = some (.lst (ls.map .str))
  fin : ∀ l ∈ ls, Fine 161 l
  few : ls.length ≤ 6
  kp : Kp t h0 h
  nd : d ≠ t
/-- what comes after the lines stand -/
theorem rest_ok {t d : Nat} {h0 h : List AO} {ls : List Str} (R : Rest t d h0 h ls) (E : AEnv) (h6 : E.length = 12) (e2 : E[2]? = some (some (.ref t))) (e4 : E[4]? = some (some (.ref d))) :
    ∃ T h1 h2 w h3 r h4 S,
      fJoin (.str "\n") [.ref d] h = some (.str (Txt.join "\n" ls), h) ∧
      (∃ m, m_law_one_of [.ref t, .ref h.length] (h ++ [.lst [.str "", .str "", .str "", .str "\n"]]) = some (.ok (.str m), h1) ∧ oAddA (.str (Txt.join "\n" ls)) (.str m) h1 = some (.str T, h1)) ∧
      (∀ h, fSplit (.str T) [.str "\n"] h = some (.ref h.length, h ++ [.lst ((Txt.split T "\n").map .str)])) ∧
      h2 = h1 ++ [.lst ((rows T).map .str)] ∧
      lcL (.rng 0 (rows T).length) (gA 10) (mNot (mB (mCall m_law_is_line [] (mCons (m2 oIx (mVar 8) (mVar 10)) (mNil))))) le_law_1 h2.length ((((E.set 7 (some (.str T))).set 8 (some (.ref h1.length))).set 10 none)) 100000 0 (h2 ++ [.lst []]) = some h3 ∧
      h3[h2.length]? = some (.lst w) ∧
      m_law_refused [.str T] h3 = some (.ok (.ref r), h4) ∧ h4[h2.length]? = some (.lst w) ∧ fRepr [.ref r] h4 = some (.str S, h4) ∧ fRepr [.ref h4.length] (h4 ++ [.lst (w.take 1)]) = some (.str S, h4 ++ [.lst (w.take 1)]) ∧
      TapeAt t h4 ∧ Kp t h0 h4 ∧ (rows T).length ≤ 80000 := by
  obtain ⟨T0, e, fin, few, kp, nd⟩ := R
  have lt := T0.lt
  have jn := join_nl (n := 161) (by decide) (by omega) fin e
  have fn : Fine 1 ("\n" : Str) := Fine.of (by decide +kernel)
  have fj := (Fine.join fn fin).mono (n := 6 * 162) (Nat.mul_le_mul_right _ few)
  obtain ⟨x, h1, p1, p2, p3, p4⟩ := one_of_k (l := h.length) (xs := [.str "", .str "", .str "", .str "\n"]) (T0.kq (Kq.app (g := [.lst [.str "", .str "", .str "", .str "\n"]]))) (by omega) (by simp) (by simp) (by simp)
  obtain ⟨m, rfl, fm⟩ : ∃ m : Str, x = .str m ∧ Fine 1 m := by
    simp only [List.mem_cons, List.not_mem_nil, or_false] at p2
    rcases p2 with e | e | e | e
    · exact ⟨_, e, emp_fine⟩
    · exact ⟨_, e, emp_fine⟩
    · exact ⟨_, e, emp_fine⟩
    · exact ⟨_, e, fn⟩
  have ft := fj.app fm
  have ad : oAddA (.str (Txt.join "\n" ls)) (.str m) h1 = some (.str (Txt.join "\n" ls ++ m), h1) := add_str (by have := fj.le; have := fm.le; omega)
  generalize hT : Txt.join "\n" ls ++ m = T at ft ad
  have ft' : Fine 80000 T := ft.mono (by decide)
  obtain ⟨rf, rc⟩ := rows_fine ft'
  obtain ⟨rf2, rc2⟩ := rows_fine ft
  have rf' : ∀ p ∈ rows T, Fine 90000 p := fun p hp => (rf p hp).mono (by decide)
  obtain ⟨h2, eh2⟩ : ∃ h2, h2 = h1 ++ [.lst ((rows T).map .str)] := ⟨_, rfl⟩
  have er : h2[h1.length]? = some (.lst ((rows T).map .str)) := by rw [eh2]; simp
  obtain ⟨h3, w1, w2, w3⟩ := wrong_ok rf' (by omega) er (((E.set 7 (some (.str T))).set 8 (some (.ref h1.length))).set 10 none) (fun v => ⟨by simp [h6], by simp [h6]⟩)
  obtain ⟨r, h4, v1, v2, v3⟩ := refused_ok ft' h3
  have w4 := v3 _ _ w2
  have rg : ∀ v ∈ (wr 0 (rows T)).take 1, ∃ n : Nat, v = (n : Int) ∧ n ≤ 1000000 := fun v hv => by
    obtain ⟨n, e, b⟩ := wr_range v (List.mem_of_mem_take hv)
    exact ⟨n, e, by omega⟩
  have len1 : ((wr 0 (rows T)).take 1).length ≤ 1 := by rw [List.length_take]; omega
  have k12 : Kq h1 h2 := eh2 ▸ Kq.app
  have kk : Kq h1 h4 := (k12.trans w3).trans v3
  have mt : ((wr 0 (rows T)).map AV.int).take 1 = ((wr 0 (rows T)).take 1).map .int := by rw [List.map_take]
  refine ⟨T, h1, h2, (wr 0 (rows T)).map .int, h3, r, h4, PyData.shown (.list (((wr 0 (rows T)).take 1).map .int)), jn, ⟨m, p1, ad⟩, fun h => split_nl ft'.le, eh2, w1, w2, v1, w4, repr_ints len1 rg v2, ?_, p3.kq kk, ((kp.trans .app).trans p4).trans (.of kk), by omega⟩
  rw [mt]
  exact repr_ints len1 rg (by simp)
theorem turn_ok {t : Nat} {h : List AO} {x0 x1 x3 x4 x5 x6 x7 x8 x9 x10 x11 : Option AV} (q : TapeAt t h) :
    ∃ y3 y4 y5 y6 y7 y8 y9 y10 h', lb_law_2 [x0, x1, some (.ref t), x3, x4, x5, x6, x7, x8, x9, x10, x11] h = some (.nx [x0, x1, some (.ref t), y3, y4, y5, y6, y7, y8, y9, y10, x11], h') ∧ TapeAt t h' ∧ Kp t h h' := by
  obtain ⟨n, h1, p1, p2, p3, p4, p5⟩ := pick_k q 6 (by decide) (by decide)
  obtain ⟨n, rfl⟩ := Int.eq_ofNat_of_zero_le p2
  have lt1 := p4.lt
  have lt := q.lt
  obtain ⟨ls, h2, r1, r2, r3, r4, r5, r6⟩ := row_ok (n := 1 + n) p4 (by omega) [x0, x1, some (.ref t), x3, x4, none, x6, x7, x8, x9, x10, x11] 5 (fun _ => rfl)
  have rg : rngOk (1 + (n : Int)) = true := decide_eq_true ⟨by omega, by omega⟩
  have tn : (1 + (n : Int)).toNat = 1 + n := by omega
  have nd : h1.length ≠ t := by omega
  obtain ⟨a, h3, s1, s2, s3, s4, s5⟩ := pick_k r5 (ls.length : Int) (by omega) (by omega)
  obtain ⟨a, rfl⟩ := Int.eq_ofNat_of_zero_le s2
  have ha : a < ls.length := by omega
  have e3 := s5.at_ _ _ nd r2
  obtain ⟨b, h4, v1, v2, v3, v4, v5⟩ := pick_k s4 2 (by decide) (by decide)
  have e4 := v5.at_ _ _ nd e3
  have at_ : (ls.map AV.str)[a]? = some (.str ls[a]) := by simp [ha]
  have ix : oIx (.ref h1.length) (.int (a : Int)) h4 = some (.str ls[a], h4) := by
    rw [oIx_ref, e4]
    show mapV (atI (ls.map AV.str) (a : Nat)) h4 = _
    rw [atI_n, at_]
    rfl
  have fa := r3 ls[a] (List.getElem_mem ha)
  have k4 : Kp t h h4 := ((p5.trans r6).trans s5).trans v5
  -- what is set
  have step : ∃ l' h5, (mIf (mB (m2 (cEq false) (mCall m_law_pick [] (mCons (mVar 2) (mCons (mC (.int 2)) (mNil)))) (mC (.int 0)))) (mCall m_law_bent [] (mCons (mVar 2) (mCons (m2 oIx (mVar 4) (mVar 6)) (mNil)))) (m2 oIx (mVar 4) (mVar 6))) [x0, x1, some (.ref t), x3, some (.ref h1.length), x5, some (.int (a : Int)), x7, x8, x9, x10, x11] h3 = some (.ok (.str l'), h5) ∧ Fine 161 l' ∧ TapeAt t h5 ∧ Kp t h4 h5 := by
    by_cases hb : b = 0
    · obtain ⟨l', h5, w1, w2, w3, w4⟩ := bent_ok v4 fa
      exact ⟨l', h5, by simp [v1, hb, ix, w1], w2, w3, w4⟩
    · exact ⟨ls[a], h4, by simp [v1, hb, ix], fa.mono (by decide), v4, .refl⟩
  obtain ⟨l', h5, w1, w2, w3, w4⟩ := step
  have e5 := w4.at_ _ _ nd e4
  have ms : (ls.map AV.str).set a (.str l') = (ls.set a l').map .str := by simp [List.map_set]
  have ixn : ixN (ls.map AV.str).length (a : Int) = some a := by
    unfold ixN
    rw [if_pos (by omega)]
    rw [List.length_map, if_pos (by omega)]
    simp
  have R : Rest t h1.length h (h5.set h1.length (.lst ((ls.set a l').map .str))) (ls.set a l') := ⟨w3.set (Ne.symm nd), set_at e5 _, fun l hl => by
    rcases List.mem_or_eq_of_mem_set hl with z | z
    · exact (r3 l z).mono (by decide)
    · rw [z]; exact w2, by rw [List.length_set]; omega, (k4.trans w4).setN (by have := p5.le; omega), nd⟩
  have gs : gSub1 (mVar 4) (mVar 6) (.str l') [x0, x1, some (.ref t), x3, some (.ref h1.length), x5, some (.int (a : Int)), x7, x8, x9, x10, x11] h5 = some ([x0, x1, some (.ref t), x3, some (.ref h1.length), x5, some (.int (a : Int)), x7, x8, x9, x10, x11], h5.set h1.length (.lst ((ls.set a l').map .str))) := by
    have g4 : mVar 4 [x0, x1, some (.ref t), x3, some (.ref h1.length), x5, some (.int (a : Int)), x7, x8, x9, x10, x11] h5 = some (.ok (.ref h1.length), h5) := rfl
    have g6 : mVar 6 [x0, x1, some (.ref t), x3, some (.ref h1.length), x5, some (.int (a : Int)), x7, x8, x9, x10, x11] h5 = some (.ok (.int (a : Int)), h5) := rfl
    unfold gSub1
    rw [g4]
    dsimp only
    rw [g6]
    dsimp only
    rw [e5]
    dsimp only
    rw [ixn]
    dsimp only
    rw [ms]
  generalize h5.set h1.length (.lst ((ls.set a l').map .str)) = h6 at R gs
  generalize ls.set a l' = ls' at R gs
  obtain ⟨T, h7, h8, w, h9, r, h10, S, u1, ⟨m, u2, u3⟩, u4, u5, u6, u7, u8, u9, u10, u11, u12, u13, u14⟩ := rest_ok R [x0, x1, some (.ref t), x3, some (.ref h1.length), x5, some (.int (a : Int)), x7, x8, x9, x10, x11] rfl rfl rfl
  refine ⟨x3, some (.ref h1.length), x5, some (.int (a : Int)), some (.str T), some (.ref h7.length), some (.ref h8.length), x10, h10 ++ [.lst (w.take 1)], ?_, u12.kq .app, u13.trans .app⟩
  have few' : ls'.length < 1000000 := by have := R.few; omega
  have rr : rngOk ((rows T).length : Int) = true := decide_eq_true ⟨by omega, by omega⟩
  have c1 : cutA w none (some 1) = w.take 1 := take1
  generalize hM : mIf (mB (m2 (cEq false) (mCall m_law_pick [] (mCons (mVar 2) (mCons (mC (.int 2)) (mNil)))) (mC (.int 0)))) (mCall m_law_bent [] (mCons (mVar 2) (mCons (m2 oIx (mVar 4) (mVar 6)) (mNil)))) (m2 oIx (mVar 4) (mVar 6)) = M at w1
  rw [ulb_law_2, hM]
  have u6' : lcL (.rng 0 (rows T).length) (gA 10) (mNot (mB (mCall m_law_is_line [] (mCons (m2 oIx (mVar 8) (mVar 10)) (mNil))))) le_law_1 h8.length [x0, x1, some (.ref t), x3, some (.ref h1.length), x5, some (.int (a : Int)), some (.str T), some (.ref h7.length), x9, none, x11] 100000 0 (h8 ++ [.lst []]) = some h9 := u6
  have g8 : h8[h7.length]? = some (.lst ((rows T).map .str)) := by rw [u5]; simp
  have lm : ((rows T).map AV.str).length = (rows T).length := List.length_map ..
  have hrows : (T = "" ∧ (rows T).map AV.str = []) ∨ (¬ T = "" ∧ (Txt.split T "\n").map AV.str = (rows T).map AV.str) := by
    unfold rows
    by_cases c : T = ""
    · exact .inl ⟨c, by rw [if_pos c]; rfl⟩
    · exact .inr ⟨c, by rw [if_neg c]⟩
  generalize (rows T).map AV.str = Rm at g8 lm u5 hrows
  have nr : (((rows T).length : Nat) : Int).toNat = (rows T).length := Int.toNat_natCast _
  generalize (rows T).length = N at lm rr nr u6' u14
  generalize hI : mNot (mB (mCall m_law_is_line [] (mCons (m2 oIx (mVar 8) (mVar 10)) (mNil)))) = TT at u6' ⊢
  clear u6 u12 u13 u14 hI
  rcases hrows with ⟨c, cr⟩ | ⟨c, cr⟩
  · have c' := eq_true c
    subst cr
    have u5' : h7 ++ [AO.lst []] = h8 := u5.symm
    have lm' : N = 0 := by simpa using lm.symm
    subst lm'
    have rr0 : rngOk 0 = true := by decide
    clear c lm rr nr
    simp [p1, rg, tn, awipe, r1, r2, s1, e3, w1, gs, u1, u2, u3, c', u5', g8, rr0, u6', u7, u8, u9, u10, u11, c1, slT_ref]
  · rw [cr] at u4
    have u5' : h7 ++ [AO.lst Rm] = h8 := u5.symm
    simp [p1, rg, tn, awipe, r1, r2, s1, e3, w1, gs, u1, u2, u3, u4, c, u5', g8, lm, rr, nr, u6', u7, u8, u9, u10, u11, c1, slT_ref]
/-! values that are no texts -/
theorem one_rf {h : List AO} {r : Nat} (e : h[r]? = some (.lst [.int 1])) : rfD 12 h r = some (.list [.int 1]) := by
  rw [rfD_st, e]
  rfl
theorem dq_one : dqK (some (.list [.int 1])) (some (.list [.int 1])) = some true := dqK_same (by simp [SeqAt.shaped, PyData.canLay0, PyData.canLayAll0, PyData.depth, PyData.depthAll])
theorem odd_ok {v : AV} {h : List AO} {x0 x1 x2 x3 x4 x5 x6 x7 x8 x9 x10 : Option AV} (hv : ∀ g, isT .str (h ++ g) v = some false) :
    ∃ g, lb_law_3 [x0, x1, x2, x3, x4, x5, x6, x7, x8, x9, x10, some v] h = some (.nx [x0, x1, x2, x3, x4, x5, x6, x7, x8, x9, x10, some v], h ++ g) := by
  obtain ⟨r, g, r1, r2⟩ := refused_odd (v := v) (h := h) (by simpa using hv []) hv
  refine ⟨g ++ [.lst [.int 1]], ?_⟩
  have e1 := get_app r2 [.lst [.int 1]]
  have d1 := one_rf e1
  have d2 : rfD 12 (h ++ g ++ [AO.lst [.int 1]]) (h ++ g).length = some (.list [.int 1]) := one_rf (by simp)
  rw [← List.append_assoc]
  generalize h ++ g = h2 at *
  simp [ulb_law_3, r1, d1, d2, dq_one]
theorem odds_ok {H : List AO} {x0 x1 x2 x3 x4 x5 x6 x7 x8 x9 x10 x11 : Option AV} :
    ∃ y11 h', forL (.src (.lst (H.length + 2))) (gA 11) lb_law_3 100000 0 [x0, x1, x2, x3, x4, x5, x6, x7, x8, x9, x10, x11] (H ++ [.lst [.str "0"], .dct [], .lst [.non, .int 0, .bl true, .ref H.length, .tup [.int 0], .ref (H.length + 1)]]) = some (.nx [x0, x1, x2, x3, x4, x5, x6, x7, x8, x9, x10, y11], h') ∧ Kq H h' := by
  obtain ⟨vals, hV⟩ : ∃ vals : List AV, vals = [.non, .int 0, .bl true, .ref H.length, .tup [.int 0], .ref (H.length + 1)] := ⟨_, rfl⟩
  have l6 : vals.length = 6 := by rw [hV]; rfl
  rw [← hV]
  obtain ⟨H3, eH3⟩ : ∃ H3, H3 = H ++ [.lst [.str "0"], .dct [], .lst vals] := ⟨_, rfl⟩
  rw [← eH3]
  have kH : Kq H H3 := eH3 ▸ Kq.app
  have g0 : H3[H.length]? = some (.lst [.str "0"]) := by rw [eH3]; simp
  have g1 : H3[H.length + 1]? = some (.dct []) := by rw [eH3]; simp
  have g2 : H3[H.length + 2]? = some (.lst vals) := by rw [eH3]; simp
  obtain ⟨e', h', r1, y11, rfl, kp⟩ := forL_inv (I := .src (.lst (H.length + 2))) (g := gA 11) (b := lb_law_3)
    (fun i e h' => ∃ y11, e = [x0, x1, x2, x3, x4, x5, x6, x7, x8, x9, x10, y11] ∧ Kq H3 h') 6
    (fun e h' ⟨_, _, k⟩ => by
      rw [at_srcL g2 6 h' k]
      simp [l6])
    (fun i e h' hi ⟨y11, q1, k⟩ => by
      subst q1
      have hi' : i < vals.length := by omega
      have hv : ∀ g, isT .str (h' ++ g) vals[i] = some false := fun g => by
        have m : vals[i] ∈ vals := List.getElem_mem hi'
        have a0 := get_app (k _ _ g0) g
        have a1 := get_app (k _ _ g1) g
        generalize vals[i] = v at m
        rw [hV] at m
        simp only [List.mem_cons, List.not_mem_nil, or_false] at m
        rcases m with rfl | rfl | rfl | rfl | rfl | rfl
        · rfl
        · rfl
        · rfl
        · rw [isT_ref, a0]; rfl
        · rfl
        · rw [isT_ref, a1]; rfl
      obtain ⟨g, s⟩ := odd_ok (x0 := x0) (x1 := x1) (x2 := x2) (x3 := x3) (x4 := x4) (x5 := x5) (x6 := x6) (x7 := x7) (x8 := x8) (x9 := x9) (x10 := x10) hv
      refine ⟨vals[i], _, h', _, h' ++ g, ?_, rfl, s, _, rfl, k.trans .app⟩
      rw [at_srcL g2 i h' k]
      simp [hi'])
    6 0 100000 [x0, x1, x2, x3, x4, x5, x6, x7, x8, x9, x10, x11] H3 (by omega) (by omega) ⟨x11, rfl, .refl⟩
  exact ⟨y11, h', r1, kH.trans kp⟩
theorem round_ok {ns : List Int} {k : Nat} {h : List AO} {x2 x3 x4 x5 x6 x7 x8 x9 x10 x11 : Option AV} (e : h[0]? = some (.rol (ns.map AV.int))) (hb : ∀ z ∈ ns, z.natAbs.log2 ≤ 1048576) (hl : ns.length ≤ 63) (hk : k ≤ 3) :
    ∃ y2 y3 y4 y5 y6 y7 y8 y9 y10 y11 h', lb_law_4 [some (.ref 0), some (.int (k : Int)), x2, x3, x4, x5, x6, x7, x8, x9, x10, x11] h = some (.nx [some (.ref 0), some (.int (k : Int)), y2, y3, y4, y5, y6, y7, y8, y9, y10, y11], h') ∧ h'[0]? = some (.rol (ns.map AV.int)) := by
  obtain ⟨d, m, nm, o, t1, t2, t3, t4, _⟩ := tape_ok e hb hl hk
  have T : TapeAt (h.length + 1) (h ++ [o, .dct (tapeD d m nm)]) := ⟨d, m, nm, by simp, t2, t3, t4⟩
  have lt := lt_of_at e
  obtain ⟨e', h', r1, z3, z4, z5, z6, z7, z8, z9, z10, rfl, _, kp⟩ := forL_inv (I := .rng 0 8) (g := gA 3) (b := lb_law_2)
    (fun i e2 h2 => ∃ z3 z4 z5 z6 z7 z8 z9 z10, e2 = [some (.ref 0), some (.int (k : Int)), some (.ref (h.length + 1)), z3, z4, z5, z6, z7, z8, z9, z10, x11] ∧ TapeAt (h.length + 1) h2 ∧ Kp (h.length + 1) (h ++ [o, .dct (tapeD d m nm)]) h2) 8
    (fun e2 h2 _ => by simp)
    (fun i e2 h2 hi ⟨z3, z4, z5, z6, z7, z8, z9, z10, q1, q2, q3⟩ => by
      subst q1
      obtain ⟨y3, y4, y5, y6, y7, y8, y9, y10, h3, s1, s2, s3⟩ := turn_ok (x0 := some (.ref 0)) (x1 := some (.int (k : Int))) (x3 := some (.int (i : Int))) (x4 := z4) (x5 := z5) (x6 := z6) (x7 := z7) (x8 := z8) (x9 := z9) (x10 := z10) (x11 := x11) q2
      exact ⟨.int (i : Int), _, _, _, _, by simp [hi], rfl, s1, y3, y4, y5, y6, y7, y8, y9, y10, rfl, s2, q3.trans s3⟩)
    8 0 100000 [some (.ref 0), some (.int (k : Int)), some (.ref (h.length + 1)), x3, x4, x5, x6, x7, x8, x9, x10, x11] (h ++ [o, .dct (tapeD d m nm)]) (by omega) (by omega) ⟨x3, x4, x5, x6, x7, x8, x9, x10, rfl, T, .refl⟩
  obtain ⟨y11, h2, v1, v2⟩ := odds_ok (H := h') (x0 := some (.ref 0)) (x1 := some (.int (k : Int))) (x2 := some (.ref (h.length + 1))) (x3 := z3) (x4 := z4) (x5 := z5) (x6 := z6) (x7 := z7) (x8 := z8) (x9 := z9) (x10 := z10) (x11 := x11)
  refine ⟨some (.ref (h.length + 1)), z3, z4, z5, z6, z7, z8, z9, z10, y11, h2, ?_, v2 _ _ (kp.at_ _ _ (by omega) (get_app e _))⟩
  simp [ulb_law_4, t1, rngOk, r1, v1, mDnew]
theorem law_true (ns : List Int) (hl : ns.length ≤ 63) (hb : ∀ z ∈ ns, Builtin.Int.intBits z ≤ 1048576) : ∃ h', m_law [.ref 0] [.rol (ns.map AV.int)] = some (.ok (.bl true), h') := by
  have hb' : ∀ z ∈ ns, z.natAbs.log2 ≤ 1048576 := fun z hz => bits_cell (hb z hz)
  obtain ⟨n, hn, hn3⟩ : ∃ n : Nat, (if (if (ns.length : Int) < 3 then (ns.length : Int) else 3) > 1 then (if (ns.length : Int) < 3 then (ns.length : Int) else 3) else 1) = (n : Int) ∧ n ≤ 3 := by
    by_cases c : (ns.length : Int) < 3
    · rw [if_pos c]
      by_cases c2 : (ns.length : Int) > 1
      · rw [if_pos c2]; exact ⟨ns.length, rfl, by omega⟩
      · rw [if_neg c2]; exact ⟨1, rfl, by omega⟩
    · rw [if_neg c, if_pos (by decide)]; exact ⟨3, rfl, by omega⟩
  obtain ⟨e', h', r1, r2⟩ := forL_inv (I := .rng 0 n) (g := gA 1) (b := lb_law_4)
    (fun i e h => ∃ x1 x2 x3 x4 x5 x6 x7 x8 x9 x10 x11, e = [some (.ref 0), x1, x2, x3, x4, x5, x6, x7, x8, x9, x10, x11] ∧ h[0]? = some (.rol (ns.map AV.int))) n
    (fun e h _ => by simp)
    (fun i e h hi ⟨x1, x2, x3, x4, x5, x6, x7, x8, x9, x10, x11, q1, q2⟩ => by
      subst q1
      obtain ⟨y2, y3, y4, y5, y6, y7, y8, y9, y10, y11, h2, q3, q4⟩ := round_ok (k := i) (x2 := x2) (x3 := x3) (x4 := x4) (x5 := x5) (x6 := x6) (x7 := x7) (x8 := x8) (x9 := x9) (x10 := x10) (x11 := x11) q2 hb' hl (by omega)
      refine ⟨.int (i : Int), _, _, _, _, by simp [hi], rfl, q3, _, y2, y3, y4, y5, y6, y7, y8, y9, y10, y11, rfl, q4⟩)
    n 0 100000 [some (.ref 0), none, none, none, none, none, none, none, none, none, none, none] [.rol (ns.map AV.int)] (by omega) (by omega) ⟨none, none, none, none, none, none, none, none, none, none, none, rfl, rfl⟩
  obtain ⟨x1, x2, x3, x4, x5, x6, x7, x8, x9, x10, x11, rfl, q2⟩ := r2
  have hr : rngOk (n : Int) = true := decide_eq_true ⟨by omega, by omega⟩
  have q1 : ∀ h : List AO, fMin2 [.int 3, .int (ns.length : Int)] h = some (.int (if (ns.length : Int) < 3 then (ns.length : Int) else 3), h) := fun h => rfl
  have q2' : ∀ h : List AO, fMax2 [.int 1, .int (if (ns.length : Int) < 3 then (ns.length : Int) else 3)] h = some (.int (n : Int), h) := fun h => by rw [← hn]; rfl
  exact ⟨h', by simp [u_law, q1, q2', hr, r1]⟩
end K83
open PySem PySem.W PyProof.Rows in
set_option maxRecDepth 100000 in
set_option maxHeartbeats 0 in
theorem PySem.Challenge.cw_warmsteps_k83_texts_that_are_no_weavings_holds : PySem.Challenge.rw_warmsteps_k83_texts_that_are_no_weavings.Holds := by
  w_on; o_law; k_head; (case hw => w_witness2)
  k_fill
  refine SL.walkG (l := PySem.Challenge.rw_warmsteps_k83_texts_that_are_no_weavings) (n := 63) (k := 5) (fz := false) (m := K83.m_law) rfl (by decide) rfl ⟨rfl, by decide, by decide⟩ (fun w h Y => PySem.W.kIn_of Y) ?F K83.law_true
  case F =>
    intro w mg fa h KX G hmg
    refine' K83.all_mk KX G hmg ?aC1 ?a_law_tape ?l_law_tape ?c_law_tape ?k_law_tape ?a_law_pick ?l_law_pick ?c_law_pick ?k_law_pick ?a_law_one_of ?l_law_one_of ?c_law_one_of ?k_law_one_of ?a_law_line_near ?l_law_line_near ?c_law_line_near ?k_law_line_near ?a_law_bent ?l_law_bent ?c_law_bent ?k_law_bent ?a_law_is_line ?l_law_is_line ?c_law_is_line ?k_law_is_line ?a_is_digits ?l_is_digits ?c_is_digits ?k_is_digits ?a_read_event ?l_read_event ?c_read_event ?k_read_event ?a_read_weaving ?l_read_weaving ?c_read_weaving ?k_read_weaving ?a_law_refused ?l_law_refused ?c_law_refused ?k_law_refused ?a_law ?l_law ?c_law ?k_law ?a_BadText_init ?i_BadText_init ?l_BadText_init ?c_BadText_init ?lc_BadText_init ?v2_BadText_init ?mf_BadText_init ?cl_BadText_init ?lC_BadText_init ?rv_BadText_init ?sa_BadText_init ?sx_BadText_init ?ty_BadText_init ?kC_BadText_init ?su_BadText_init ?sv_BadText_init ?ml_BadText_init ?nf_BadText_init ?xa_BadText_init ?xg_BadText_init ?xh_BadText_init ?em_BadText_init ?op_ ?tp_ ?z_super ?c_CELLS ?t_CELLS ?v_CELLS ?c_DIGITS ?v_DIGITS ?z_range ?z_max ?z_min ?z_len ?z_repr ?z_int ?z_isinstance ?z_str ?z_enumerate ?z_all
    (case aC1 => k_is)
    (case a_law_tape => k_is)
    (case l_law_tape => k_is)
    (case c_law_tape => k_is)
    (case k_law_tape => k_is)
    (case a_law_pick => k_is)
    (case l_law_pick => k_is)
    (case c_law_pick => k_is)
    (case k_law_pick => k_is)
    (case a_law_one_of => k_is)
    (case l_law_one_of => k_is)
    (case c_law_one_of => k_is)
    (case k_law_one_of => k_is)
    (case a_law_line_near => k_is)
    (case l_law_line_near => k_is)
    (case c_law_line_near => k_is)
    (case k_law_line_near => k_is)
    (case a_law_bent => k_is)
    (case l_law_bent => k_is)
    (case c_law_bent => k_is)
    (case k_law_bent => k_is)
    (case a_law_is_line => k_is)
    (case l_law_is_line => k_is)
    (case c_law_is_line => k_is)
    (case k_law_is_line => k_is)
    (case a_is_digits => k_is)
    (case l_is_digits => k_is)
    (case c_is_digits => k_is)
    (case k_is_digits => k_is)
    (case a_read_event => k_is)
    (case l_read_event => k_is)
    (case c_read_event => k_is)
    (case k_read_event => k_is)
    (case a_read_weaving => k_is)
    (case l_read_weaving => k_is)
    (case c_read_weaving => k_is)
    (case k_read_weaving => k_is)
    (case a_law_refused => k_is)
    (case l_law_refused => k_is)
    (case c_law_refused => k_is)
    (case k_law_refused => k_is)
    (case a_law => k_is)
    (case l_law => k_is)
    (case c_law => k_is)
    (case k_law => k_is)
    (case a_BadText_init => k_is)
    (case i_BadText_init => k_is)
    (case l_BadText_init => k_is)
    (case c_BadText_init => k_is)
    (case lc_BadText_init => k_is)
    (case v2_BadText_init => exact rfl)
    (case mf_BadText_init => first | exact rfl | decide +kernel)
    (case cl_BadText_init => k_is)
    (case lC_BadText_init => k_is)
    (case rv_BadText_init => first | exact rfl | decide +kernel)
    (case sa_BadText_init => k_is)
    (case sx_BadText_init => k_is)
    (case ty_BadText_init => k_is)
    (case kC_BadText_init => k_is)
    (case su_BadText_init => ks_is)
    (case sv_BadText_init => k_is)
    (case ml_BadText_init => k_is)
    (case nf_BadText_init => k_is)
    (case xa_BadText_init => k_is)
    (case xg_BadText_init => k_is)
    (case xh_BadText_init => k_is)
    (case em_BadText_init => kts_exm)
    (case op_ => k_is)
    (case tp_ => first | exact rfl | decide +kernel)
    (case z_super => k_is)
    (case c_CELLS => k_is)
    (case t_CELLS => k_is)
    (case v_CELLS => exact (.cons ⟨_, rfl⟩ (.cons ⟨_, rfl⟩ .nil)))
    (case c_DIGITS => k_is)
    (case v_DIGITS => exact ⟨_, rfl⟩)
    (case z_range => k_is)
    (case z_max => k_is)
    (case z_min => k_is)
    (case z_len => k_is)
    (case z_repr => k_is)
    (case z_int => k_is)
    (case z_isinstance => k_is)
    (case z_str => k_is)
    (case z_enumerate => k_is)
    (case z_all => k_is)