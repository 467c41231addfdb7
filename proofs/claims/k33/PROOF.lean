import PyProof.Rows.All
import Wide.All
import OpenK.AllK
import Wide.FinOn
import HandS.ForMost
import HandS.TupAny
import HandS.Deep
import HandS.IsInst
import HandS.Walk
import HandS.CallSlots
import HandS.Exc
import HandS.RaiseMore
import HandS.Wide
import HandS.FStr
import KE.SortData
import HandS.Conv
import PySem.Challenge.RW_eventrooms_k33_who_hears_in_a_room_alone
set_option Elab.async false
set_option linter.all false
set_option maxRecDepth 100000
set_option maxHeartbeats 4000000
/-! # The D-layer: values as plain data, readings that know no heap -/
namespace Ev
open PySem PySem.Spec PyProof.Rows L2

inductive D where
  | non | bl (b : Bool) | int (i : Int) | str (x : Str)
  | tup (xs : List D) | lst (xs : List D)
  | dK (kvs : List (Key × D)) | dT (kvs : List (List Key × D))
  | raw (v : V)
  | scr (ns : List Int)

/-- all that was known is known still -/
def Ex (H H' : Hp) : Prop := ∀ a o, H a = some o → H' a = some o
theorem Ex.refl (H : Hp) : Ex H H := fun _ _ h => h
theorem Ex.trans {H H1 H2 : Hp} (a : Ex H H1) (b : Ex H1 H2) : Ex H H2 := fun x o h => b x o (a x o h)
theorem Ex.new {H : Hp} {p : Addr} {o : HO} (h : H p = none) : Ex H (upd H p o) := fun a u e => by
  rw [upd_ne (ne_of_none e h)]
  exact e
theorem Ex.rd {H H' : Hp} {a : Addr} {u : HO} (e : Ex H H') (h : Rd H a u) : Rd H' a u := by
  rcases h with h | ⟨o, h⟩
  · exact Or.inl (e a _ h)
  · exact Or.inr ⟨o, e a _ h⟩
theorem Ex.sqT {K : PySem.W.Frag} {H H' : Hp} {a : Addr} {xs : List V} (e : Ex H H') (h : SqT K H a xs) : SqT K H' a xs := by
  rcases h with h | h
  · exact Or.inl (e.rd h)
  · exact Or.inr h
theorem Ex.sqL {K : PySem.W.Frag} {H H' : Hp} {a : Addr} {xs : List V} (e : Ex H H') (h : SqL K H a xs) : SqL K H' a xs := by
  rcases h with h | h
  · exact Or.inl (e.rd h)
  · exact Or.inr h
theorem Ex.none {H H' : Hp} {a : Addr} (e : Ex H H') (h : H' a = Option.none) : H a = Option.none := by
  cases q : H a with
  | none => rfl
  | some o => rw [e a o q] at h; cases h

/-- every tuple that is known is frozen -/
def TupIn (S H : Hp) : Prop := ∀ b vs, H b = some (.tup vs) → S b = some (.tup vs)
/-- what is frozen is known, the tuples among it -/
structure Sb (S H : Hp) : Prop where
  ex : Ex S H
  tp : TupIn S H
instance {S H : Hp} : CoeFun (Sb S H) fun _ => ∀ a o, S a = some o → H a = some o := ⟨fun e => e.ex⟩
instance {S H : Hp} : Coe (Sb S H) (Ex S H) := ⟨fun e => e.ex⟩
theorem Sb.trans {S H H' : Hp} (e : Sb S H) (g : Ex H H') : Ex S H' := e.ex.trans g
theorem Sb.sqT {K : PySem.W.Frag} {H H' : Hp} {a : Addr} {xs : List V} (e : Sb H H') (h : SqT K H a xs) : SqT K H' a xs := e.ex.sqT h
theorem Sb.sqL {K : PySem.W.Frag} {H H' : Hp} {a : Addr} {xs : List V} (e : Sb H H') (h : SqL K H a xs) : SqL K H' a xs := e.ex.sqL h
theorem Sb.rd {H H' : Hp} {a : Addr} {u : HO} (e : Sb H H') (h : Rd H a u) : Rd H' a u := e.ex.rd h
theorem Sb.none {H H' : Hp} {a : Addr} (e : Sb H H') (h : H' a = Option.none) : H a = Option.none := e.ex.none h
theorem Sb.same {H : Hp} : Sb H H := ⟨Ex.refl _, fun _ _ h => h⟩
/-- only the heap grows, by no tuple -/
theorem Sb.one {S H : Hp} (e : Sb S H) {p : Addr} {o : HO} (hp : H p = Option.none) (ho : ∀ vs, o ≠ .tup vs) : Sb S (upd H p o) := by
  refine ⟨fun a u h => Ex.new hp a u (e a u h), fun b vs h => ?_⟩
  by_cases q : b = p
  · subst q; rw [upd_same] at h; exact absurd (Option.some.inj h) (ho vs)
  · rw [upd_ne q] at h; exact e.tp b vs h
mutual
/-- the value v bears the data d, by what is frozen in S -/
inductive Dn (K : PySem.W.Frag) (S : Hp) : V → D → Prop
  | non : Dn K S .non .non
  | bl (b : Bool) : Dn K S (.bl b) (.bl b)
  | int (i : Int) : Dn K S (.int i) (.int i)
  | str (x : Str) : Dn K S (.str x) (.str x)
  | raw (v : V) : Dn K S v (.raw v)
  | scr {a : Addr} {ns : List Int} : SqL K S a (ns.map V.int) → Dn K S (.ref a) (.scr ns)
  | tup {a : Addr} {vs : List V} {ds : List D} : S a = some (.tup vs) → DnA K S vs ds → Dn K S (.ref a) (.tup ds)
  | lst {a : Addr} {vs : List V} {ds : List D} : S a = some (.lst vs) → DnA K S vs ds → Dn K S (.ref a) (.lst ds)
  | dK {a : Addr} {kvs : List (Key × V)} {es : List (Key × D)} : S a = some (.dK kvs) → kvs.map (·.1) = es.map (·.1) → DnA K S (kvs.map (·.2)) (es.map (·.2)) → Dn K S (.ref a) (.dK es)
  | dT {a : Addr} {kvs : List (List Key × V)} {es : List (List Key × D)} : S a = some (.dT kvs) → kvs.map (·.1) = es.map (·.1) → DnA K S (kvs.map (·.2)) (es.map (·.2)) → Dn K S (.ref a) (.dT es)
inductive DnA (K : PySem.W.Frag) (S : Hp) : List V → List D → Prop
  | nil : DnA K S [] []
  | cons {v : V} {vs : List V} {d : D} {ds : List D} : Dn K S v d → DnA K S vs ds → DnA K S (v :: vs) (d :: ds)
end
variable {K : PySem.W.Frag} {S S' H H' : Hp}
mutual
theorem Dn.mono (e : Ex S S') : ∀ {v : V} {d : D}, Dn K S v d → Dn K S' v d
  | _, _, .non => .non
  | _, _, .bl b => .bl b
  | _, _, .int i => .int i
  | _, _, .str x => .str x
  | _, _, .raw v => .raw v
  | _, _, .scr h => .scr (e.sqL h)
  | _, _, .tup h a => .tup (e _ _ h) (DnA.mono e a)
  | _, _, .lst h a => .lst (e _ _ h) (DnA.mono e a)
  | _, _, .dK h k a => .dK (e _ _ h) k (DnA.mono e a)
  | _, _, .dT h k a => .dT (e _ _ h) k (DnA.mono e a)
theorem DnA.mono (e : Ex S S') : ∀ {vs : List V} {ds : List D}, DnA K S vs ds → DnA K S' vs ds
  | _, _, .nil => .nil
  | _, _, .cons h a => .cons (Dn.mono e h) (DnA.mono e a)
end
theorem DnA.length : ∀ {vs : List V} {ds : List D}, DnA K S vs ds → vs.length = ds.length
  | _, _, .nil => rfl
  | _, _, .cons _ a => congrArg (· + 1) a.length
theorem DnA.append : ∀ {vs ws : List V} {ds es : List D}, DnA K S vs ds → DnA K S ws es → DnA K S (vs ++ ws) (ds ++ es)
  | _, _, _, _, .nil, b => b
  | _, _, _, _, .cons h a, b => .cons h (a.append b)
theorem DnA.get : ∀ {vs : List V} {ds : List D} {i : Nat} {d : D}, DnA K S vs ds → ds[i]? = some d → ∃ v, vs[i]? = some v ∧ Dn K S v d
  | _, _, _, _, .nil, e => by simp at e
  | _, _, 0, _, .cons h _, e => by simp at e; subst e; exact ⟨_, rfl, h⟩
  | _, _, i + 1, _, .cons _ a, e => by
    obtain ⟨v, h1, h2⟩ := a.get (i := i) (by simpa using e)
    exact ⟨v, by simpa using h1, h2⟩
theorem DnA.getV : ∀ {vs : List V} {ds : List D} {i : Nat} {v : V}, DnA K S vs ds → vs[i]? = some v → ∃ d, ds[i]? = some d ∧ Dn K S v d
  | _, _, _, _, .nil, e => by simp at e
  | _, _, 0, _, .cons h _, e => by simp at e; subst e; exact ⟨_, rfl, h⟩
  | _, _, i + 1, _, .cons _ a, e => by
    obtain ⟨v, h1, h2⟩ := a.getV (i := i) (by simpa using e)
    exact ⟨v, by simpa using h1, h2⟩
theorem DnA.set {v : V} {d : D} (h : Dn K S v d) : ∀ {vs : List V} {ds : List D} (i : Nat), DnA K S vs ds → DnA K S (vs.set i v) (ds.set i d)
  | _, _, _, .nil => .nil
  | _, _, 0, .cons _ a => .cons h a
  | _, _, i + 1, .cons q a => .cons q (a.set h i)
theorem DnA.take : ∀ {vs : List V} {ds : List D} (n : Nat), DnA K S vs ds → DnA K S (vs.take n) (ds.take n)
  | _, _, 0, _ => .nil
  | _, _, _ + 1, .nil => .nil
  | _, _, n + 1, .cons h a => .cons h (a.take n)
theorem DnA.drop : ∀ {vs : List V} {ds : List D} (n : Nat), DnA K S vs ds → DnA K S (vs.drop n) (ds.drop n)
  | _, _, 0, a => a
  | _, _, _ + 1, .nil => .nil
  | _, _, n + 1, .cons _ a => a.drop n
theorem DnA.eraseIdx : ∀ {vs : List V} {ds : List D} (n : Nat), DnA K S vs ds → DnA K S (vs.eraseIdx n) (ds.eraseIdx n)
  | _, _, _, .nil => .nil
  | _, _, 0, .cons _ a => a
  | _, _, n + 1, .cons h a => .cons h (a.eraseIdx n)
theorem DnA.reverse {vs : List V} {ds : List D} (a : DnA K S vs ds) : DnA K S vs.reverse ds.reverse := by
  induction vs generalizing ds with
  | nil => cases a; exact .nil
  | cons v vs ih =>
    cases a with
    | cons h a =>
      rw [List.reverse_cons, List.reverse_cons]
      exact (ih a).append (.cons h .nil)
theorem DnA.ints : ∀ ns : List Int, DnA K S (ns.map V.int) (ns.map D.int)
  | [] => .nil
  | n :: ns => .cons (.int n) (DnA.ints ns)
theorem DnA.strs : ∀ ns : List Str, DnA K S (ns.map V.str) (ns.map D.str)
  | [] => .nil
  | n :: ns => .cons (.str n) (DnA.strs ns)

/-- the pen: where it stands, at most so many draws so far -/
abbrev Pen := Option (Addr × Nat)
def PenOk (S H : Hp) : Pen → Prop
  | none => True
  | some (a, c) => S a = none ∧ ∃ (ca : Addr) (ns : List Int) (k m : Int), H a = some (.lst [.ref ca, .int k, .int m]) ∧ S ca = some (.lst (ns.map V.int)) ∧ ns.length ≤ 63 ∧ 0 ≤ k ∧ k ≤ c ∧ 0 ≤ m

/-- what stood at a def's entry; pa: what alone of it may change -/
structure Bs where
  S0 : Hp
  H0 : Hp
  pa : Option Addr
  pd : Bool := true
structure Frm (B : Bs) (S H : Hp) : Prop where
  s : Ex B.S0 S
  h : ∀ b o, B.H0 b = some o → B.pa ≠ some b → H b = some o
  no : ∀ b o, B.H0 b = some o → B.S0 b = none → S b = none
  pa : ∀ a, B.pa = some a → ∃ o, H a = some o
theorem Frm.there {B : Bs} (f : Frm B S H) {b : Addr} {o : HO} (h : B.H0 b = some o) : ∃ o', H b = some o' := by
  by_cases e : B.pa = some b
  · exact f.pa b e
  · exact ⟨o, f.h b o h e⟩

/-- a slot: not known, data, a list of one's own that may be changed, a dict of one's own -/
inductive Sl where
  | un | dat (d : D) | own (ds : List D) | hp (ds : List D) | ownK (kvs : List (Key × D)) | ownT (kvs : List (List Key × D))
structure DS where
  sl : List Sl
  pen : Pen
def SlOk (K : PySem.W.Frag) (B : Bs) (S H : Hp) (oa : Option Addr) (ov : Option (Option V)) : Sl → Prop
  | .un => oa = none
  | .dat d => oa = none ∧ ∃ v, ov = some (some v) ∧ Dn K S v d
  | .own ds => ∃ a vs, oa = some a ∧ B.H0 a = none ∧ B.pa ≠ some a ∧ ov = some (some (.ref a)) ∧ H a = some (.lst vs) ∧ DnA K S vs ds
  | .hp ds => ∃ a vs, oa = some a ∧ B.pa = some a ∧ ov = some (some (.ref a)) ∧ H a = some (.lst vs) ∧ DnA K S vs ds
  | .ownK es => ∃ a kvs, oa = some a ∧ B.H0 a = none ∧ B.pa ≠ some a ∧ ov = some (some (.ref a)) ∧ H a = some (.dK kvs) ∧ kvs.map (·.1) = es.map (·.1) ∧ DnA K S (kvs.map (·.2)) (es.map (·.2))
  | .ownT es => ∃ a kvs, oa = some a ∧ B.H0 a = none ∧ B.pa ≠ some a ∧ ov = some (some (.ref a)) ∧ H a = some (.dT kvs) ∧ kvs.map (·.1) = es.map (·.1) ∧ DnA K S (kvs.map (·.2)) (es.map (·.2))

/-- a heap that has grown: what was known is, what was known and not frozen is not frozen -/
structure Grow (S H S' H' : Hp) : Prop where
  s : Ex S S'
  h : Ex H H'
  ok : Sb S' H'
  no : ∀ b o, H b = some o → S b = none → S' b = none
theorem Grow.refl (e : Sb S H) : Grow S H S H := ⟨Ex.refl _, Ex.refl _, e, fun _ _ _ h => h⟩
theorem Grow.trans {S1 H1 : Hp} (a : Grow S H S1 H1) (b : Grow S1 H1 S' H') : Grow S H S' H' :=
  ⟨a.s.trans b.s, a.h.trans b.h, b.ok, fun c o h n => b.no c o (a.h c o h) (a.no c o h n)⟩
theorem Grow.new {p : Addr} {o : HO} (e : Sb S H) (hp : H p = none) : Grow S H (upd S p o) (upd H p o) := by
  have sp : S p = none := e.none hp
  refine ⟨Ex.new sp, Ex.new hp, ⟨fun a u h => ?_, fun a u h => ?_⟩, fun b u h n => ?_⟩
  · by_cases q : a = p
    · subst q; rw [upd_same] at h ⊢; exact h
    · rw [upd_ne q] at h ⊢; exact e a u h
  · by_cases q : a = p
    · subst q; rw [upd_same] at h ⊢; exact h
    · rw [upd_ne q] at h ⊢; exact e.tp a u h
  · rw [upd_ne (ne_of_none h hp)]; exact n

/-- the pen is the one that B names, or it was born since -/
def PaOk (B : Bs) (p : Pen) : Prop := if B.pd = true ∧ B.pa ≠ none then p.map (·.1) = B.pa else ∀ a c, p = some (a, c) → B.H0 a = none ∧ B.pa ≠ some a
structure Rel (K : PySem.W.Frag) (B : Bs) (δ : DS) (S : Hp) (σ : L2.St) (H : Hp) : Prop where
  ex : Sb S H
  fr : Frm B S H
  pen : PenOk S H δ.pen
  pa : PaOk B δ.pen
  len : σ.length = δ.sl.length
  sl : ∃ ow : Nat → Option Addr, (∀ i x, δ.sl[i]? = some x → SlOk K B S H (ow i) σ[i]? x) ∧ (∀ i, δ.sl.length ≤ i → ow i = none) ∧ (∀ i j a, ow i = some a → ow j = some a → i = j) ∧
    ∀ i a, ow i = some a → S a = none ∧ (B.H0 a = none ∨ B.pa = some a) ∧ (∀ c, δ.pen ≠ some (a, c)) ∧ ∃ o, H a = some o

theorem SlOk.grow {B : Bs} {oa : Option Addr} {ov : Option (Option V)} {x : Sl} (e : Ex S S') (h : ∀ a o, oa = some a → H a = some o → H' a = some o) (q : SlOk K B S H oa ov x) : SlOk K B S' H' oa ov x := by
  cases x with
  | un => exact q
  | dat d => obtain ⟨a, v, b, c⟩ := q; exact ⟨a, v, b, c.mono e⟩
  | own ds => obtain ⟨a, vs, p1, n1, n2, p2, p3, p4⟩ := q; exact ⟨a, vs, p1, n1, n2, p2, h a _ p1 p3, p4.mono e⟩
  | hp ds => obtain ⟨a, vs, p1, p0, p2, p3, p4⟩ := q; exact ⟨a, vs, p1, p0, p2, h a _ p1 p3, p4.mono e⟩
  | ownK es => obtain ⟨a, kvs, p1, n1, n2, p2, p3, p4, p5⟩ := q; exact ⟨a, kvs, p1, n1, n2, p2, h a _ p1 p3, p4, p5.mono e⟩
  | ownT es => obtain ⟨a, kvs, p1, n1, n2, p2, p3, p4, p5⟩ := q; exact ⟨a, kvs, p1, n1, n2, p2, h a _ p1 p3, p4, p5.mono e⟩
theorem PenOk.grow {p : Pen} (g : Grow S H S' H') (q : PenOk S H p) : PenOk S' H' p := by
  match p, q with
  | none, _ => trivial
  | some (a, c), ⟨n, ca, ns, k, m, h1, h2, h3⟩ => exact ⟨g.no a _ h1 n, ca, ns, k, m, g.h _ _ h1, g.s _ _ h2, h3⟩
theorem Frm.grow {B : Bs} (f : Frm B S H) (g : Grow S H S' H') : Frm B S' H' where
  s := f.s.trans g.s
  h := fun b o h q => g.h _ _ (f.h b o h q)
  no := fun b o h n => by
    obtain ⟨o', q⟩ := f.there h
    exact g.no b o' q (f.no b o h n)
  pa := fun a e => by
    obtain ⟨o, q⟩ := f.pa a e
    exact ⟨o, g.h _ _ q⟩
theorem Rel.grow {B : Bs} {δ : DS} {σ : L2.St} (R : Rel K B δ S σ H) (g : Grow S H S' H') : Rel K B δ S' σ H' := by
  obtain ⟨ow, h1, h2, h3, h4⟩ := R.sl
  refine ⟨g.ok, R.fr.grow g, R.pen.grow g, R.pa, R.len, ow, fun i x e => (h1 i x e).grow g.s fun a o _ q => g.h a o q, h2, h3, fun i a e => ?_⟩
  obtain ⟨q1, q2, q3, o, q4⟩ := h4 i a e
  exact ⟨g.no a o q4 q1, q2, q3, o, g.h _ _ q4⟩

/-! ### readings -/
/-- an exception: its class, its one attribute -/
structure Xc where
  cls : Value
  at_ : Option (Str × D)
def XcOk (K : PySem.W.Frag) (S H : Hp) (c : Xc) (cls : Value) (od : Option Addr) : Prop :=
  cls = c.cls ∧ match c.at_ with
    | none => od = none
    | some (f, d) => ∃ a v, od = some a ∧ H a = some (.xd [(f, v)]) ∧ Dn K S v d
abbrev XW := Xc → DS → Prop
abbrev dE := XW → DS → (D → DS → Prop) → Prop
abbrev dF := XW → DS → (List D → DS → Prop) → Prop
abbrev dT := XW → DS → (Bool → DS → Prop) → Prop
abbrev dA := XW → DS → (List D → DS → Prop) → Prop
structure dEnds where
  nx : DS → Prop
  rt : D → DS → Prop
  bk : DS → Prop := fun _ => False
  ct : DS → Prop := fun _ => False
abbrev dS := XW → dEnds → DS → Prop
abbrev dG := D → DS → (DS → Prop) → Prop
abbrev EK := L2.St → XK

def XOk (K : PySem.W.Frag) (B : Bs) (E : EK) (W : XW) (S : Hp) : Prop :=
  ∀ c δ' σ' S' H' cls od, W c δ' → Ex S S' → Rel K B δ' S' σ' H' → XcOk K S' H' c cls od → E σ' cls od H'
theorem XOk.mono {B : Bs} {E : EK} {W : XW} (h : XOk K B E W S) (e : Ex S S') : XOk K B E W S' :=
  fun c δ' σ' S1 H' cls od w x r k => h c δ' σ' S1 H' cls od w (e.trans x) r k

def liftE (K : PySem.W.Frag) (B : Bs) (E : EK) (d : dE) : TE := fun σ H Q => ∃ δ S W Q', Rel K B δ S σ H ∧ d W δ Q' ∧ XOk K B E W S ∧
  ∀ x δ' v S' H', Q' x δ' → Ex S S' → Rel K B δ' S' σ H' → Dn K S' v x → Q v H'
/-- a new list, of one's own still -/
def liftF (K : PySem.W.Frag) (B : Bs) (E : EK) (d : dF) : TE := fun σ H Q => ∃ δ S W Q', Rel K B δ S σ H ∧ d W δ Q' ∧ XOk K B E W S ∧
  ∀ xs δ' p vs S' H', Q' xs δ' → Ex S S' → Rel K B δ' S' σ H' → H' p = none → DnA K S' vs xs → Q (.ref p) (upd H' p (.lst vs))
def liftT (K : PySem.W.Frag) (B : Bs) (E : EK) (d : dT) : TT := fun σ H Q => ∃ δ S W Q', Rel K B δ S σ H ∧ d W δ Q' ∧ XOk K B E W S ∧
  ∀ x δ' S' H', Q' x δ' → Ex S S' → Rel K B δ' S' σ H' → Q x H'
def liftA (K : PySem.W.Frag) (B : Bs) (E : EK) (d : dA) : TA := fun σ H Q => ∃ δ S W Q', Rel K B δ S σ H ∧ d W δ Q' ∧ XOk K B E W S ∧
  ∀ xs δ' vs S' H', Q' xs δ' → Ex S S' → Rel K B δ' S' σ H' → DnA K S' vs xs → Q vs H'
def liftS (K : PySem.W.Frag) (B : Bs) (E : EK) (d : dS) : TS := fun Z σ H => ∃ δ S W N, Rel K B δ S σ H ∧ d W N δ ∧ XOk K B E W S ∧
  (∀ δ' σ' S' H', N.nx δ' → Ex S S' → Rel K B δ' S' σ' H' → Z.nx σ' H') ∧
  (∀ x δ' v σ' S' H', N.rt x δ' → Ex S S' → Rel K B δ' S' σ' H' → Dn K S' v x → Z.rt v H') ∧
  (∀ δ' σ' S' H', N.bk δ' → Ex S S' → Rel K B δ' S' σ' H' → Z.bk σ' H') ∧
  (∀ δ' σ' S' H', N.ct δ' → Ex S S' → Rel K B δ' S' σ' H' → Z.ct σ' H')
def liftG (K : PySem.W.Frag) (B : Bs) (g : dG) (vs : List Nat) : TG := fun v σ H Q => ∃ δ S d Q', Rel K B δ S σ H ∧ Dn K S v d ∧ g d δ Q' ∧
  ∀ δ' σ' S' H', Q' δ' → Ex S S' → Rel K B δ' S' σ' H' → (∀ i, i ∉ vs → σ'[i]? = σ[i]?) → σ'.length = σ.length → Q σ' H'

structure DE (X : Cx) (E : EK) (e : Expr) (d : dE) : Prop where
  run : ∀ B, PE X e (liftE X.K B E d)
structure DF (X : Cx) (E : EK) (e : Expr) (d : dF) : Prop where
  run : ∀ B, PE X e (liftF X.K B E d)
structure DT (X : Cx) (E : EK) (e : Expr) (d : dT) : Prop where
  run : ∀ B, PT X e (liftT X.K B E d)
structure DA (X : Cx) (E : EK) (es : List Expr) (d : dA) : Prop where
  run : ∀ B, PA X es (liftA X.K B E d)
structure DSt (X : Cx) (E : EK) (st : Stmt) (d : dS) : Prop where
  run : ∀ B, PS X st (liftS X.K B E d)
structure DSs (X : Cx) (E : EK) (st : List Stmt) (d : dS) : Prop where
  run : ∀ B, PSs X st (liftS X.K B E d)
structure DG (X : Cx) (tg : Expr) (g : dG) (vs : List Nat) : Prop where
  run : ∀ B, PG X tg (liftG X.K B g vs)

section
variable {X : Cx} {e : Expr} {st : Stmt} {sts : List Stmt} {es : List Expr}
theorem pe_mono {t t' : TE} (h : PE X e t) (m : ∀ σ H Q, t' σ H Q → t σ H Q) : PE X e t' := ⟨fun pins s σ H Q I q => h.run pins s σ H Q I (m _ _ _ q)⟩
theorem pt_mono {t t' : TT} (h : PT X e t) (m : ∀ σ H Q, t' σ H Q → t σ H Q) : PT X e t' := ⟨fun pins s σ H Q I q => h.run pins s σ H Q I (m _ _ _ q)⟩
theorem pw_mono {t t' : TT} (h : PW X e t) (m : ∀ σ H Q, t' σ H Q → t σ H Q) : PW X e t' := ⟨fun wh pins s σ H Q I q => h.run wh pins s σ H Q I (m _ _ _ q)⟩
theorem pa_mono {t t' : TA} (h : PA X es t) (m : ∀ σ H Q, t' σ H Q → t σ H Q) : PA X es t' := ⟨fun pos pins s σ H Q I q => h.run pos pins s σ H Q I (m _ _ _ q)⟩
theorem ps_mono {t t' : TS} (h : PS X st t) (m : ∀ Z σ H, t' Z σ H → t Z σ H) : PS X st t' := ⟨fun pins s σ H Z I q => h.run pins s σ H Z I (m _ _ _ q)⟩
theorem pss_mono {t t' : TS} (h : PSs X sts t) (m : ∀ Z σ H, t' Z σ H → t Z σ H) : PSs X sts t' := ⟨fun pins s σ H Z I q => h.run pins s σ H Z I (m _ _ _ q)⟩
end
end Ev

namespace Ev
open PySem PySem.Spec PyProof.Rows L2
variable {K : PySem.W.Frag} {S S' H H' : Hp} {B : Bs} {δ : DS} {σ : L2.St}

theorem Rel.dat (R : Rel K B δ S σ H) {i : Nat} {d : D} (h : δ.sl[i]? = some (.dat d)) : ∃ v, σ[i]? = some (some v) ∧ Dn K S v d := by
  obtain ⟨ow, h1, _⟩ := R.sl
  obtain ⟨_, v, e, q⟩ := h1 i _ h
  exact ⟨v, e, q⟩
theorem Rel.new (R : Rel K B δ S σ H) {p : Addr} {o : HO} (hp : H p = none) : Rel K B δ (upd S p o) σ (upd H p o) := R.grow (Grow.new R.ex hp)

section
variable {X : Cx} {E : EK} {e a b c : Expr} {es : List Expr} {pos : Pos}

/-! ### names, constants -/
def dVar (i : Nat) : dE := fun _ δ Q => match δ.sl[i]? with | some (.dat d) => Q d δ | _ => False
theorem de_var {i : Nat} {x : Str} (h : PE X (.Name x pos) (tVar i)) : DE X E (.Name x pos) (dVar i) := ⟨fun B => pe_mono h fun σ H Q q => by
  obtain ⟨δ, S, W, Q', R, q, _, post⟩ := q
  unfold dVar at q
  split at q
  · rename_i d hd
    obtain ⟨v, e1, e2⟩ := R.dat hd
    exact ⟨v, e1, post _ _ _ _ _ q (Ex.refl _) R e2⟩
  · exact q.elim⟩
def dC (d : D) : dE := fun _ δ Q => Q d δ
theorem de_c {v : V} {d : D} (h : PE X e (tC v)) (k : ∀ S, Dn X.K S v d) : DE X E e (dC d) := ⟨fun B => pe_mono h fun σ H Q q => by
  obtain ⟨δ, S, W, Q', R, q, _, post⟩ := q
  exact post _ _ _ _ _ q (Ex.refl _) R (k S)⟩
theorem de_int {i j} : DE X E (.Constant (.int i) j pos) (dC (.int i)) := de_c pe_int fun _ => .int i
theorem de_bl {i j} : DE X E (.Constant (.bool i) j pos) (dC (.bl i)) := de_c pe_bl fun _ => .bl i
theorem de_non {j} : DE X E (.Constant .none j pos) (dC .non) := de_c pe_non fun _ => .non
theorem de_str {i j} : DE X E (.Constant (.str i) j pos) (dC (.str i)) := de_c pe_str fun _ => .str i

/-! ### pure operators -/
abbrev DR2 := D → D → (D → Prop) → Prop
abbrev DR1 := D → (D → Prop) → Prop
def liftR (K : PySem.W.Frag) (r : DR2) : R2 := fun x y H Q => ∃ S dx dy Q', Sb S H ∧ Dn K S x dx ∧ Dn K S y dy ∧ r dx dy Q' ∧ ∀ dz v S' H', Q' dz → Grow S H S' H' → Dn K S' v dz → Q v H'
def OpD (X : Cx) (f : Value → Value → Sem Value) (r : DR2) : Prop := OpR X f (liftR X.K r)
def dBin (r : DR2) (da db : dE) : dE := fun W δ Q => da W δ fun x δ1 => db W δ1 fun y δ2 => r x y fun z => Q z δ2
theorem lift_bin {r : DR2} {da db : dE} {σ : L2.St} {H : Hp} {Q : VK} (q : liftE K B E (dBin r da db) σ H Q) : tOp (liftR K r) (liftE K B E da) (liftE K B E db) σ H Q := by
  obtain ⟨δ, S, W, Q', R, q, xo, post⟩ := q
  refine ⟨δ, S, W, _, R, q, xo, fun x δ1 v S1 H1 q1 e1 R1 n1 => ?_⟩
  refine ⟨δ1, S1, W, _, R1, q1, xo.mono e1, fun y δ2 u S2 H2 q2 e2 R2 n2 => ?_⟩
  exact ⟨S2, x, y, _, R2.ex, n1.mono e2, n2, q2, fun dz v S' H' q3 g n3 => post _ _ _ _ _ q3 ((e1.trans e2).trans g.s) (R2.grow g) n3⟩
theorem de_op {op : Operator} {r : DR2} {da db : dE} (ho : OpD X (binaryOp op) r) (ha : DE X E a da) (hb : DE X E b db) : DE X E (.BinOp a op b pos) (dBin r da db) :=
  ⟨fun B => pe_mono (pe_op ho (ha.run B) (hb.run B)) fun σ H Q q => lift_bin q⟩
theorem de_cmp {op : CmpOp} {r : DR2} {da db : dE} (ho : OpD X (compareOp op) r) (ha : DE X E a da) (hb : DE X E b db) (hm : behindInMarks op b = false) : DE X E (.Compare a [op] [b] pos) (dBin r da db) :=
  ⟨fun B => pe_mono (pe_cmpR ho (ha.run B) (hb.run B) hm) fun σ H Q q => lift_bin q⟩
/-- an expression that gives a bool, as a test -/
def dB (d : dE) : dT := fun W δ Q => d W δ fun x δ' => match x with | .bl k => Q k δ' | _ => False
theorem lift_B {d : dE} {σ : L2.St} {H : Hp} {Q : Bool → Hp → Prop} (q : liftT K B E (dB d) σ H Q) : liftE K B E d σ H fun x H' => ∃ k, x = .bl k ∧ Q k H' := by
  obtain ⟨δ, S, W, Q', R, q, xo, post⟩ := q
  refine ⟨δ, S, W, _, R, q, xo, fun x δ1 v S1 H1 q1 e1 R1 n1 => ?_⟩
  cases x with
  | bl k => cases n1; exact ⟨k, rfl, post _ _ _ _ q1 e1 R1⟩
  | _ => exact q1.elim
theorem dt_cmp {op : CmpOp} {r : DR2} {da db : dE} (ho : OpD X (compareOp op) r) (ha : DE X E a da) (hb : DE X E b db) (hm : behindInMarks op b = false) : DT X E (.Compare a [op] [b] pos) (dB (dBin r da db)) :=
  ⟨fun B => pt_mono (pt_cmpR ho (ha.run B) (hb.run B) hm) fun σ H Q q => by
    have q := lift_B q
    exact lift_bin (Q := fun x H' => ∃ k, x = .bl k ∧ Q k H') q⟩
theorem dt_val {d : dE} (h : DE X E e d) (he : ∀ whole, isTrue e X.env whole = (do let v ← whole; standAt e.pos; holding [v] (truthy v)) := by intro _; rfl) : DT X E e (dB d) :=
  ⟨fun B => pt_mono (pt_val (h.run B) he) fun σ H Q q => lift_B q⟩
/-- a < b < c -/
def dChain (r r' : DR2) (da db dc : dE) : dE := fun W δ Q => da W δ fun x δ1 => db W δ1 fun y δ2 => r x y fun z => match z with
  | .bl true => dc W δ2 fun u δ3 => r' y u fun z' => Q z' δ3
  | .bl false => Q (.bl false) δ2
  | _ => False
theorem lift_chain {r r' : DR2} {da db dc : dE} {σ : L2.St} {H : Hp} {Q : VK} (q : liftE K B E (dChain r r' da db dc) σ H Q) : tChain (liftR K r) (liftR K r') (liftE K B E da) (liftE K B E db) (liftE K B E dc) σ H Q := by
  obtain ⟨δ, S, W, Q', R, q, xo, post⟩ := q
  refine ⟨δ, S, W, _, R, q, xo, fun x δ1 v S1 H1 q1 e1 R1 n1 => ?_⟩
  refine ⟨δ1, S1, W, _, R1, q1, xo.mono e1, fun y δ2 u S2 H2 q2 e2 R2 n2 => ?_⟩
  refine ⟨S2, x, y, _, R2.ex, n1.mono e2, n2, q2, fun dz vz S3 H3 q3 g n3 => ?_⟩
  cases dz with
  | bl k =>
    cases n3
    refine ⟨k, rfl, ?_⟩
    cases k with
    | true =>
      rw [if_pos rfl]
      refine ⟨δ2, S3, W, _, R2.grow g, q3, xo.mono ((e1.trans e2).trans g.s), fun z δ3 w S4 H4 q4 e4 R4 n4 => ?_⟩
      exact ⟨S4, y, z, _, R4.ex, n2.mono (g.s.trans e4), n4, q4, fun dz v S' H' q5 g5 n5 => post _ _ _ _ _ q5 ((((e1.trans e2).trans g.s).trans e4).trans g5.s) (R4.grow g5) n5⟩
    | false =>
      rw [if_neg Bool.false_ne_true]
      exact post _ _ _ _ _ q3 ((e1.trans e2).trans g.s) (R2.grow g) (.bl false)
  | _ => exact q3.elim
theorem de_chain {op op' : CmpOp} {r r' : DR2} {da db dc : dE} (ho : OpD X (compareOp op) r) (ho' : OpD X (compareOp op') r') (ha : DE X E a da) (hb : DE X E b db) (hc : DE X E c dc) (hm : lastMarks [op, op'] [b, c] = false := by with_unfolding_all rfl) :
    DE X E (.Compare a [op, op'] [b, c] pos) (dChain r r' da db dc) := ⟨fun B => pe_mono (pe_chain ho ho' (ha.run B) (hb.run B) (hc.run B) hm) fun σ H Q q => lift_chain q⟩
theorem dt_chain {op op' : CmpOp} {r r' : DR2} {da db dc : dE} (ho : OpD X (compareOp op) r) (ho' : OpD X (compareOp op') r') (ha : DE X E a da) (hb : DE X E b db) (hc : DE X E c dc) (hm : lastMarks [op, op'] [b, c] = false := by with_unfolding_all rfl) :
    DT X E (.Compare a [op, op'] [b, c] pos) (dB (dChain r r' da db dc)) := ⟨fun B => pt_mono (pt_chain ho ho' (ha.run B) (hb.run B) (hc.run B) hm) fun σ H Q q => by
      have q := lift_B q
      exact lift_chain (Q := fun x H' => ∃ k, x = .bl k ∧ Q k H') q⟩

/-! ### and, or, not, if -/
variable {ta tb : dT} {da db : dE} {rest : List Expr}
structure DW (X : Cx) (E : EK) (e : Expr) (d : dT) : Prop where
  run : ∀ B, PW X e (liftT X.K B E d)
theorem DW.dt (h : DW X E e ta) : DT X E e ta := ⟨fun B => (h.run B).pt⟩
def dAnd (t u : dT) : dT := fun W δ Q => t W δ fun k δ1 => match k with | true => u W δ1 Q | false => Q false δ1
def dOr (t u : dT) : dT := fun W δ Q => t W δ fun k δ1 => match k with | true => Q true δ1 | false => u W δ1 Q
def dNot (t : dT) : dT := fun W δ Q => t W δ fun k δ1 => Q (!k) δ1
theorem dw_and1 (h : DT X E a ta) : DW X E (.BoolOp .And [a] pos) ta := ⟨fun B => pw_and1 (h.run B)⟩
theorem dw_or1 (h : DT X E a ta) : DW X E (.BoolOp .Or [a] pos) ta := ⟨fun B => pw_or1 (h.run B)⟩
theorem dw_and (h : DT X E a ta) (h2 : DW X E (.BoolOp .And (b :: rest) pos) tb) : DW X E (.BoolOp .And (a :: b :: rest) pos) (dAnd ta tb) :=
  ⟨fun B => pw_mono (pw_and (h.run B) (h2.run B)) fun σ H Q q => by
    obtain ⟨δ, S, W, Q', R, q, xo, post⟩ := q
    refine ⟨δ, S, W, _, R, q, xo, fun k δ1 S1 H1 q1 e1 R1 => ?_⟩
    cases k with
    | true => rw [if_pos rfl]; exact ⟨δ1, S1, W, _, R1, q1, xo.mono e1, fun k δ2 S2 H2 q2 e2 R2 => post _ _ _ _ q2 (e1.trans e2) R2⟩
    | false => rw [if_neg Bool.false_ne_true]; exact post _ _ _ _ q1 e1 R1⟩
theorem dw_or (h : DT X E a ta) (h2 : DW X E (.BoolOp .Or (b :: rest) pos) tb) : DW X E (.BoolOp .Or (a :: b :: rest) pos) (dOr ta tb) :=
  ⟨fun B => pw_mono (pw_or (h.run B) (h2.run B)) fun σ H Q q => by
    obtain ⟨δ, S, W, Q', R, q, xo, post⟩ := q
    refine ⟨δ, S, W, _, R, q, xo, fun k δ1 S1 H1 q1 e1 R1 => ?_⟩
    cases k with
    | false => rw [if_neg Bool.false_ne_true]; exact ⟨δ1, S1, W, _, R1, q1, xo.mono e1, fun k δ2 S2 H2 q2 e2 R2 => post _ _ _ _ q2 (e1.trans e2) R2⟩
    | true => rw [if_pos rfl]; exact post _ _ _ _ q1 e1 R1⟩
theorem dt_not (h : DT X E a ta) : DT X E (.UnaryOp .Not a pos) (dNot ta) := ⟨fun B => pt_mono (pt_not (h.run B)) fun σ H Q q => by
  obtain ⟨δ, S, W, Q', R, q, xo, post⟩ := q
  exact ⟨δ, S, W, _, R, q, xo, fun k δ1 S1 H1 q1 e1 R1 => post _ _ _ _ q1 e1 R1⟩⟩
/-- as values: bools -/
def dAndV (x y : dE) : dE := fun W δ Q => x W δ fun k δ1 => match k with | .bl true => y W δ1 Q | .bl false => Q (.bl false) δ1 | _ => False
def dOrV (x y : dE) : dE := fun W δ Q => x W δ fun k δ1 => match k with | .bl true => Q (.bl true) δ1 | .bl false => y W δ1 Q | _ => False
def dNotV (x : dE) : dE := fun W δ Q => x W δ fun k δ1 => match k with | .bl k => Q (.bl (!k)) δ1 | _ => False
theorem de_one {op} (h : DE X E a da) : DE X E (.BoolOp op [a] pos) da := ⟨fun B => pe_one (h.run B)⟩
theorem de_and (h : DE X E a da) (h2 : DE X E (.BoolOp .And (b :: rest) pos) db) : DE X E (.BoolOp .And (a :: b :: rest) pos) (dAndV da db) :=
  ⟨fun B => pe_mono (pe_and (h.run B) (h2.run B)) fun σ H Q q => by
    obtain ⟨δ, S, W, Q', R, q, xo, post⟩ := q
    refine ⟨δ, S, W, _, R, q, xo, fun k δ1 v S1 H1 q1 e1 R1 n1 => ?_⟩
    cases k with
    | bl k =>
      cases n1
      refine ⟨k, rfl, ?_⟩
      cases k with
      | true => rw [if_pos rfl]; exact ⟨δ1, S1, W, _, R1, q1, xo.mono e1, fun x δ2 v S2 H2 q2 e2 R2 n2 => post _ _ _ _ _ q2 (e1.trans e2) R2 n2⟩
      | false => rw [if_neg Bool.false_ne_true]; exact post _ _ _ _ _ q1 e1 R1 (.bl false)
    | _ => exact q1.elim⟩
theorem de_or (h : DE X E a da) (h2 : DE X E (.BoolOp .Or (b :: rest) pos) db) : DE X E (.BoolOp .Or (a :: b :: rest) pos) (dOrV da db) :=
  ⟨fun B => pe_mono (pe_or (h.run B) (h2.run B)) fun σ H Q q => by
    obtain ⟨δ, S, W, Q', R, q, xo, post⟩ := q
    refine ⟨δ, S, W, _, R, q, xo, fun k δ1 v S1 H1 q1 e1 R1 n1 => ?_⟩
    cases k with
    | bl k =>
      cases n1
      refine ⟨k, rfl, ?_⟩
      cases k with
      | false => rw [if_neg Bool.false_ne_true]; exact ⟨δ1, S1, W, _, R1, q1, xo.mono e1, fun x δ2 v S2 H2 q2 e2 R2 n2 => post _ _ _ _ _ q2 (e1.trans e2) R2 n2⟩
      | true => rw [if_pos rfl]; exact post _ _ _ _ _ q1 e1 R1 (.bl true)
    | _ => exact q1.elim⟩
theorem de_not (h : DE X E a da) : DE X E (.UnaryOp .Not a pos) (dNotV da) := ⟨fun B => pe_mono (pe_not (h.run B)) fun σ H Q q => by
  obtain ⟨δ, S, W, Q', R, q, xo, post⟩ := q
  refine ⟨δ, S, W, _, R, q, xo, fun k δ1 v S1 H1 q1 e1 R1 n1 => ?_⟩
  cases k with
  | bl k => cases n1; exact ⟨k, rfl, post _ _ _ _ _ q1 e1 R1 (.bl _)⟩
  | _ => exact q1.elim⟩
def dIf (t : dT) (x y : dE) : dE := fun W δ Q => t W δ fun k δ1 => match k with | true => x W δ1 Q | false => y W δ1 Q
theorem de_if (ht : DT X E c ta) (ha : DE X E a da) (hb : DE X E b db) : DE X E (.IfExp c a b pos) (dIf ta da db) := ⟨fun B => pe_mono (pe_ifExp (ht.run B) (ha.run B) (hb.run B)) fun σ H Q q => by
  obtain ⟨δ, S, W, Q', R, q, xo, post⟩ := q
  refine ⟨δ, S, W, _, R, q, xo, fun k δ1 S1 H1 q1 e1 R1 => ?_⟩
  cases k with
  | true => rw [if_pos rfl]; exact ⟨δ1, S1, W, _, R1, q1, xo.mono e1, fun x δ2 v S2 H2 q2 e2 R2 n2 => post _ _ _ _ _ q2 (e1.trans e2) R2 n2⟩
  | false => rw [if_neg Bool.false_ne_true]; exact ⟨δ1, S1, W, _, R1, q1, xo.mono e1, fun x δ2 v S2 H2 q2 e2 R2 n2 => post _ _ _ _ _ q2 (e1.trans e2) R2 n2⟩⟩

/-! ### arguments, displays -/
def dNil : dA := fun _ δ Q => Q [] δ
def dCons (x : dE) (r : dA) : dA := fun W δ Q => x W δ fun d δ1 => r W δ1 fun ds δ2 => Q (d :: ds) δ2
theorem da_nil : DA X E [] dNil := ⟨fun B => pa_mono pa_nil fun σ H Q q => by
  obtain ⟨δ, S, W, Q', R, q, xo, post⟩ := q
  exact post _ _ _ _ _ q (Ex.refl _) R .nil⟩
theorem da_cons {r : dA} (h : DE X E e da) (hr : DA X E es r) (hs : starEach (e :: es) X.env = (false, eval e X.env) :: starEach es X.env := by rfl) : DA X E (e :: es) (dCons da r) := ⟨fun B => pa_mono (pa_cons (h.run B) (hr.run B) hs) fun σ H Q q => by
  obtain ⟨δ, S, W, Q', R, q, xo, post⟩ := q
  refine ⟨δ, S, W, _, R, q, xo, fun x δ1 v S1 H1 q1 e1 R1 n1 => ?_⟩
  exact ⟨δ1, S1, W, _, R1, q1, xo.mono e1, fun xs δ2 vs S2 H2 q2 e2 R2 n2 => post _ _ _ _ _ q2 (e1.trans e2) R2 (.cons (n1.mono e2) n2)⟩⟩
def dTup (r : dA) : dE := fun W δ Q => r W δ fun xs δ1 => xs.length ≤ sizeLine ∧ Q (.tup xs) δ1
theorem de_tup {r : dA} {x1} (h : DA X E es r) : DE X E (.Tuple es x1 pos) (dTup r) := ⟨fun B => pe_mono (pe_tup (h.run B)) fun σ H Q q => by
  obtain ⟨δ, S, W, Q', R, q, xo, post⟩ := q
  refine ⟨δ, S, W, _, R, q, xo, fun xs δ1 vs S1 H1 q1 e1 R1 n1 => ⟨by rw [n1.length]; exact q1.1, fun p hp => ?_⟩⟩
  have g := Grow.new (o := .tup vs) R1.ex hp
  exact post _ _ _ _ _ q1.2 (e1.trans g.s) (R1.grow g) (.tup upd_same (n1.mono g.s))⟩
def dLst (r : dA) : dF := fun W δ Q => r W δ fun xs δ1 => xs.length ≤ sizeLine ∧ Q xs δ1
theorem df_lst {r : dA} (h : DA X E es r) : DF X E (.List es pos) (dLst r) := ⟨fun B => pe_mono (pe_lst (h.run B)) fun σ H Q q => by
  obtain ⟨δ, S, W, Q', R, q, xo, post⟩ := q
  exact ⟨δ, S, W, _, R, q, xo, fun xs δ1 vs S1 H1 q1 e1 R1 n1 => ⟨by rw [n1.length]; exact q1.1, fun p hp => post _ _ _ _ _ _ q1.2 e1 R1 hp n1⟩⟩⟩
/-- a new list, frozen at once -/
def dFz (f : dF) : dE := fun W δ Q => f W δ fun xs δ1 => Q (.lst xs) δ1
theorem de_fz {f : dF} (h : DF X E e f) : DE X E e (dFz f) := ⟨fun B => pe_mono (h.run B) fun σ H Q q => by
  obtain ⟨δ, S, W, Q', R, q, xo, post⟩ := q
  refine ⟨δ, S, W, _, R, q, xo, fun xs δ1 p vs S1 H1 q1 e1 R1 hp n1 => ?_⟩
  have g := Grow.new (o := .lst vs) R1.ex hp
  exact post _ _ _ _ _ q1 (e1.trans g.s) (R1.grow g) (.lst upd_same (n1.mono g.s))⟩
end
end Ev

namespace Ev
open PySem PySem.Spec PyProof.Rows L2
variable {K : PySem.W.Frag} {S S' H H' : Hp} {B : Bs} {δ : DS} {σ : L2.St}

/-! ### slots change -/
theorem Frm.fresh (f : Frm B S H) {p : Addr} (hp : H p = none) : B.H0 p = none ∧ B.pa ≠ some p := by
  refine ⟨?_, fun e => ?_⟩
  · cases q : B.H0 p with
    | none => rfl
    | some o =>
      obtain ⟨o', e⟩ := f.there q
      rw [hp] at e; cases e
  · obtain ⟨o, q⟩ := f.pa p e
    rw [hp] at q; cases q
theorem Rel.pen_ne (R : Rel K B δ S σ H) {p : Addr} (hp : B.pa ≠ some p) (h0 : ∃ o, B.H0 p = some o) : ∀ c, δ.pen ≠ some (p, c) := fun c e => by
  have h := R.pa
  unfold PaOk at h
  split at h
  · rw [e] at h; exact hp h.symm
  · obtain ⟨o, h0⟩ := h0
    rw [(h p c e).1] at h0; cases h0
theorem Rel.pen_new (R : Rel K B δ S σ H) {p : Addr} (hp : H p = none) : ∀ c, δ.pen ≠ some (p, c) := fun c e => by
  have h := R.pen
  rw [e] at h
  obtain ⟨_, _, _, _, _, q, _⟩ := h
  rw [hp] at q; cases q
theorem get_set {α : Type} {l : List α} {i j : Nat} {x y : α} (h : (l.set i x)[j]? = some y) : (j = i ∧ y = x) ∨ (j ≠ i ∧ l[j]? = some y) := by
  by_cases e : i = j
  · subst e
    by_cases hi : i < l.length
    · rw [List.getElem?_set_self hi] at h; exact .inl ⟨rfl, (Option.some.inj h).symm⟩
    · rw [List.getElem?_eq_none (by simpa using hi)] at h; cases h
  · rw [List.getElem?_set_ne e] at h; exact .inr ⟨fun q => e q.symm, h⟩
/-- slot i becomes data -/
theorem Rel.setDat (R : Rel K B δ S σ H) {i : Nat} {v : V} {d : D} (h : Dn K S v d) : Rel K B { δ with sl := δ.sl.set i (.dat d) } S (σ.set i (some v)) H := by
  obtain ⟨ow, h1, h2, h3, h4⟩ := R.sl
  refine ⟨R.ex, R.fr, R.pen, R.pa, by simpa using R.len, fun j => if j = i then none else ow j, fun j x e => ?_, fun j hj => ?_, fun j k a e1 e2 => ?_, fun j a e => ?_⟩
  · rcases get_set e with ⟨rfl, rfl⟩ | ⟨ne, e⟩
    · have hl : j < σ.length := by
        rw [R.len]
        have := (List.getElem?_eq_some_iff.mp e).1
        simpa using this
      exact ⟨by simp, v, List.getElem?_set_self hl, h⟩
    · have := h1 j x e
      simp only [ne, if_false]
      rw [List.getElem?_set_ne (Ne.symm ne)]
      exact this
  · show (if j = i then none else ow j) = none
    split
    · rfl
    · exact h2 j (by simpa using hj)
  · have e1 : (if j = i then none else ow j) = some a := e1
    have e2 : (if k = i then none else ow k) = some a := e2
    split at e1
    · cases e1
    · split at e2
      · cases e2
      · exact h3 j k a e1 e2
  · have e : (if j = i then none else ow j) = some a := e
    split at e
    · cases e
    · exact h4 j a e
/-- slot i is forgotten -/
theorem Rel.forget (R : Rel K B δ S σ H) {i : Nat} {o : Option V} : Rel K B { δ with sl := δ.sl.set i .un } S (σ.set i o) H := by
  obtain ⟨ow, h1, h2, h3, h4⟩ := R.sl
  refine ⟨R.ex, R.fr, R.pen, R.pa, by simpa using R.len, fun j => if j = i then none else ow j, fun j x e => ?_, fun j hj => ?_, fun j k a e1 e2 => ?_, fun j a e => ?_⟩
  · rcases get_set e with ⟨rfl, rfl⟩ | ⟨ne, e⟩
    · show (if j = j then none else ow j) = none
      simp
    · have := h1 j x e
      simp only [ne, if_false]
      rw [List.getElem?_set_ne (Ne.symm ne)]
      exact this
  · show (if j = i then none else ow j) = none
    split
    · rfl
    · exact h2 j (by simpa using hj)
  · have e1 : (if j = i then none else ow j) = some a := e1
    have e2 : (if k = i then none else ow k) = some a := e2
    split at e1
    · cases e1
    · split at e2
      · cases e2
      · exact h3 j k a e1 e2
  · have e : (if j = i then none else ow j) = some a := e
    split at e
    · cases e
    · exact h4 j a e
/-- other values in slots that are not known -/
theorem Rel.agree (R : Rel K B δ S σ H) {σ' : L2.St} (hl : σ'.length = σ.length) (h : ∀ i : Nat, σ'[i]? = σ[i]? ∨ δ.sl[i]? = some Sl.un) : Rel K B δ S σ' H := by
  obtain ⟨ow, h1, h2, h3, h4⟩ := R.sl
  refine ⟨R.ex, R.fr, R.pen, R.pa, hl.trans R.len, ow, fun i x e => ?_, h2, h3, h4⟩
  rcases h i with q | q
  · rw [q]; exact h1 i x e
  · rw [e] at q
    cases q
    exact h1 i _ e
/-- a new object in slot i, of one's own -/
theorem Rel.setNew (R : Rel K B δ S σ H) {i : Nat} {p : Addr} {o : HO} {x : Sl} (hp : H p = none) (ho : ∀ vs, o ≠ .tup vs)
    (hx : ∀ (H1 : Hp), H1 p = some o → B.H0 p = none → B.pa ≠ some p → SlOk K B S H1 (some p) (some (some (.ref p))) x) : Rel K B { δ with sl := δ.sl.set i x } S (σ.set i (some (.ref p))) (upd H p o) := by
  obtain ⟨f1, f2⟩ := R.fr.fresh hp
  have sp : S p = none := R.ex.none hp
  have g : Grow S H S (upd H p o) := ⟨Ex.refl _, Ex.new hp, R.ex.one hp ho, fun _ _ _ n => n⟩
  have R' := R.grow g
  obtain ⟨ow, h1, h2, h3, h4⟩ := R'.sl
  have np : ∀ j, ow j ≠ some p := fun j e => by
    obtain ⟨ow0, a1, a2, a3, a4⟩ := R.sl
    have := h4 j p e
    rcases Nat.lt_or_ge j δ.sl.length with hj | hj
    · have q := h1 j _ (List.getElem?_eq_getElem hj)
      have q0 := a1 j _ (List.getElem?_eq_getElem hj)
      cases hs : δ.sl[j] with
      | un => rw [hs] at q; rw [e] at q; cases q
      | dat d => rw [hs] at q; rw [e] at q; cases q.1
      | own ds =>
        rw [hs] at q q0
        obtain ⟨a, vs, r1, _, _, r2, r3, _⟩ := q0
        obtain ⟨a', vs', t1, _, _, t2, t3, _⟩ := q
        rw [e] at t1; cases t1
        rw [r2] at t2; cases t2
        rw [hp] at r3; cases r3
      | hp ds =>
        rw [hs] at q
        obtain ⟨a', vs', t1, t0, _⟩ := q
        rw [e] at t1; cases t1
        exact f2 t0
      | ownK ds =>
        rw [hs] at q q0
        obtain ⟨a, vs, r1, _, _, r2, r3, _⟩ := q0
        obtain ⟨a', vs', t1, _, _, t2, t3, _⟩ := q
        rw [e] at t1; cases t1
        rw [r2] at t2; cases t2
        rw [hp] at r3; cases r3
      | ownT ds =>
        rw [hs] at q q0
        obtain ⟨a, vs, r1, _, _, r2, r3, _⟩ := q0
        obtain ⟨a', vs', t1, _, _, t2, t3, _⟩ := q
        rw [e] at t1; cases t1
        rw [r2] at t2; cases t2
        rw [hp] at r3; cases r3
    · rw [h2 j hj] at e; cases e
  by_cases hi : i < δ.sl.length
  · refine ⟨R'.ex, R'.fr, R'.pen, R'.pa, by simpa using R'.len, fun j => if j = i then some p else ow j, fun j y e => ?_, fun j hj => ?_, fun j k a e1 e2 => ?_, fun j a e => ?_⟩
    · rcases get_set e with ⟨rfl, rfl⟩ | ⟨ne, e⟩
      · have hl : j < σ.length := by rw [R.len]; exact hi
        rw [List.getElem?_set_self hl]
        simp only [if_true]
        exact hx _ upd_same f1 f2
      · have := h1 j y e
        simp only [ne, if_false]
        rw [List.getElem?_set_ne (Ne.symm ne)]
        exact this
    · have hj' : δ.sl.length ≤ j := by simpa using hj
      have ne : j ≠ i := by omega
      show (if j = i then some p else ow j) = none
      rw [if_neg ne]
      exact h2 j hj'
    · have e1 : (if j = i then some p else ow j) = some a := e1
      have e2 : (if k = i then some p else ow k) = some a := e2
      split at e1
      · cases e1
        split at e2
        · exact (by assumption : j = i).trans (by assumption : k = i).symm
        · exact absurd e2 (np k)
      · split at e2
        · cases e2; exact absurd e1 (np j)
        · exact h3 j k a e1 e2
    · have e : (if j = i then some p else ow j) = some a := e
      split at e
      · cases e
        exact ⟨sp, .inl f1, R.pen_new hp, _, upd_same⟩
      · exact h4 j a e
  · have e1 : δ.sl.set i x = δ.sl := by rw [List.set_eq_of_length_le (by omega)]
    have e2 : σ.set i (some (V.ref p)) = σ := by rw [List.set_eq_of_length_le (by rw [R.len]; omega)]
    rw [e1, e2]
    exact R'
theorem Rel.setOwn (R : Rel K B δ S σ H) {i : Nat} {p : Addr} {vs : List V} {ds : List D} (hp : H p = none) (n : DnA K S vs ds) : Rel K B { δ with sl := δ.sl.set i (.own ds) } S (σ.set i (some (.ref p))) (upd H p (.lst vs)) :=
  R.setNew hp (fun _ z => nomatch z) fun H1 h1 a b => ⟨p, vs, rfl, a, b, rfl, h1, n⟩

/-- the object in slot i is changed -/
theorem Rel.mut (R : Rel K B δ S σ H) {i : Nat} {p : Addr} {o : HO} {x y : Sl} (ho : ∀ vs, o ≠ .tup vs) (hi : δ.sl[i]? = some x) (hx : ∀ oa, SlOk K B S H oa σ[i]? x → oa = some p)
    (hy : ∀ H1 : Hp, H1 p = some o → SlOk K B S H1 (some p) σ[i]? y) : Rel K B { δ with sl := δ.sl.set i y } S σ (upd H p o) := by
  obtain ⟨ow, h1, h2, h3, h4⟩ := R.sl
  have oi : ow i = some p := hx _ (h1 i x hi)
  obtain ⟨sp, q2, q3, o0, q4⟩ := h4 i p oi
  have ne : ∀ a, S a ≠ none → a ≠ p := fun a h e => h (e ▸ sp)
  refine ⟨⟨fun a u h => by rw [upd_ne (ne a (by rw [h]; simp))]; exact R.ex a u h, fun b vs h => by
    by_cases q : b = p
    · subst q; rw [upd_same] at h; exact absurd (Option.some.inj h) (ho vs)
    · rw [upd_ne q] at h; exact R.ex.tp b vs h⟩, ⟨R.fr.s, fun b u h hb => ?_, R.fr.no, fun a e => ?_⟩, ?_, R.pa, by simpa using R.len, ow, fun j z e => ?_, fun j hj => h2 j (by simpa using hj), h3, fun j a e => ?_⟩
  · have : b ≠ p := fun e => by
      subst e
      rcases q2 with q2 | q2
      · rw [h] at q2; cases q2
      · exact hb q2
    rw [upd_ne this]
    exact R.fr.h b u h hb
  · by_cases e2 : a = p
    · subst e2; exact ⟨_, upd_same⟩
    · rw [upd_ne e2]; exact R.fr.pa a e
  · have hp := R.pen
    cases hpe : δ.pen with
    | none => trivial
    | some ac =>
      obtain ⟨a, c⟩ := ac
      rw [hpe] at hp
      have nap : a ≠ p := fun e => q3 c (by rw [hpe, e])
      obtain ⟨n, ca, ns, k, m, r1, r2, r3⟩ := hp
      exact ⟨n, ca, ns, k, m, by rw [upd_ne nap]; exact r1, r2, r3⟩
  · rcases get_set e with ⟨rfl, rfl⟩ | ⟨nj, e⟩
    · rw [oi]
      exact hy _ upd_same
    · refine (h1 j z e).grow (Ex.refl _) fun a u ea ha => ?_
      have : a ≠ p := fun q => nj (h3 j i a ea (by rw [q]; exact oi))
      rw [upd_ne this]
      exact ha
  · obtain ⟨r1, r2, r3, u, r4⟩ := h4 j a e
    refine ⟨r1, r2, r3, ?_⟩
    by_cases e2 : a = p
    · subst e2; exact ⟨_, upd_same⟩
    · rw [upd_ne e2]; exact ⟨u, r4⟩
/-- the list of slot i (of one's own, or the pen's): where it stands, what it becomes -/
theorem Rel.own (R : Rel K B δ S σ H) {i : Nat} {ds : List D} (hi : δ.sl[i]? = some (.own ds)) : ∃ p vs, σ[i]? = some (some (.ref p)) ∧ H p = some (.lst vs) ∧ DnA K S vs ds ∧ S p = none ∧ B.H0 p = none ∧ B.pa ≠ some p ∧
    ∀ vs' ds', DnA K S vs' ds' → Rel K B { δ with sl := δ.sl.set i (.own ds') } S σ (upd H p (.lst vs')) := by
  obtain ⟨ow, h1, h2, h3, h4⟩ := id R.sl
  obtain ⟨a, vs, r1, r2, r3, r4, r5, r6⟩ := h1 i _ hi
  refine ⟨a, vs, r4, r5, r6, (h4 i a r1).1, r2, r3, fun vs' ds' n => R.mut (fun _ z => nomatch z) hi (fun oa q => ?_) fun H1 e => ⟨a, vs', rfl, r2, r3, r4, e, n⟩⟩
  obtain ⟨a', _, t1, _, _, t4, _⟩ := q
  rw [r4] at t4; cases t4
  exact t1
theorem Rel.hp (R : Rel K B δ S σ H) {i : Nat} {ds : List D} (hi : δ.sl[i]? = some (.hp ds)) : ∃ p vs, σ[i]? = some (some (.ref p)) ∧ H p = some (.lst vs) ∧ DnA K S vs ds ∧ S p = none ∧ B.pa = some p ∧
    ∀ vs' ds', DnA K S vs' ds' → Rel K B { δ with sl := δ.sl.set i (.hp ds') } S σ (upd H p (.lst vs')) := by
  obtain ⟨ow, h1, h2, h3, h4⟩ := id R.sl
  obtain ⟨a, vs, r1, r2, r4, r5, r6⟩ := h1 i _ hi
  refine ⟨a, vs, r4, r5, r6, (h4 i a r1).1, r2, fun vs' ds' n => R.mut (fun _ z => nomatch z) hi (fun oa q => ?_) fun H1 e => ⟨a, vs', rfl, r2, r4, e, n⟩⟩
  obtain ⟨a', _, t1, _, t4, _⟩ := q
  rw [r4] at t4; cases t4
  exact t1
/-- slot i's list is frozen -/
theorem Rel.freeze (R : Rel K B δ S σ H) {i : Nat} {x : Sl} {d : D} {p : Addr} {o : HO} (hi : δ.sl[i]? = some x) (hx : ∀ oa, SlOk K B S H oa σ[i]? x → oa = some p) (ho : H p = some o) (h0 : B.H0 p = none) (hpa : B.pa ≠ some p)
    (hv : σ[i]? = some (some (.ref p))) (hd : ∀ S1 : Hp, S1 p = some o → Ex S S1 → Dn K S1 (.ref p) d) : ∃ S1, Ex S S1 ∧ Rel K B { δ with sl := δ.sl.set i (.dat d) } S1 σ H ∧ Dn K S1 (.ref p) d := by
  obtain ⟨ow, h1, h2, h3, h4⟩ := R.sl
  have oi : ow i = some p := hx _ (h1 i x hi)
  obtain ⟨sp, q2, q3, _⟩ := h4 i p oi
  have e1 : Ex S (upd S p o) := Ex.new sp
  have dn : Dn K (upd S p o) (.ref p) d := hd _ upd_same e1
  refine ⟨upd S p o, e1, ⟨⟨fun a u h => ?_, fun b vs h => e1 _ _ (R.ex.tp b vs h)⟩, ⟨R.fr.s.trans e1, R.fr.h, fun b u h n => ?_, R.fr.pa⟩, ?_, R.pa, by simpa using R.len, fun j => if j = i then none else ow j, fun j z e => ?_, fun j hj => ?_, fun j k a e1 e2 => ?_, fun j a e => ?_⟩, dn⟩
  · by_cases e : a = p
    · subst e; rw [upd_same] at h; rw [ho]; exact h
    · rw [upd_ne e] at h; exact R.ex a u h
  · have : b ≠ p := fun e => by subst e; rw [h] at h0; cases h0
    rw [upd_ne this]; exact R.fr.no b u h n
  · have hp := R.pen
    cases hpe : δ.pen with
    | none => trivial
    | some ac =>
      obtain ⟨a, c⟩ := ac
      rw [hpe] at hp
      have nap : a ≠ p := fun e => q3 c (by rw [hpe, e])
      obtain ⟨n, ca, ns, k, m, r1, r2, r3⟩ := hp
      exact ⟨by rw [upd_ne nap]; exact n, ca, ns, k, m, r1, e1 _ _ r2, r3⟩
  · rcases get_set e with ⟨rfl, rfl⟩ | ⟨ne, e⟩
    · exact ⟨by simp, _, hv, dn⟩
    · simp only [ne, if_false]
      exact (h1 j z e).grow e1 fun a u _ q => q
  · show (if j = i then none else ow j) = none
    split
    · rfl
    · exact h2 j (by simpa using hj)
  · have e1 : (if j = i then none else ow j) = some a := e1
    have e2 : (if k = i then none else ow k) = some a := e2
    split at e1
    · cases e1
    · split at e2
      · cases e2
      · exact h3 j k a e1 e2
  · have e : (if j = i then none else ow j) = some a := e
    split at e
    · cases e
    · rename_i nj
      obtain ⟨r1, r2, r3, r4⟩ := h4 j a e
      have : a ≠ p := fun q => nj (h3 j i a e (by rw [q]; exact oi))
      exact ⟨by rw [upd_ne this]; exact r1, r2, r3, r4⟩
theorem Rel.freezeL (R : Rel K B δ S σ H) {i : Nat} {ds : List D} (hi : δ.sl[i]? = some (.own ds)) : ∃ S1 v, Ex S S1 ∧ Rel K B { δ with sl := δ.sl.set i (.dat (.lst ds)) } S1 σ H ∧ σ[i]? = some (some v) ∧ Dn K S1 v (.lst ds) := by
  obtain ⟨p, vs, h1, h2, h3, h4, h5, h6, _⟩ := R.own hi
  obtain ⟨S1, e, R1, n⟩ := R.freeze (d := .lst ds) hi (fun oa q => by obtain ⟨a', _, t1, _, _, t4, _⟩ := q; rw [h1] at t4; cases t4; exact t1) h2 h5 h6 h1 fun S1 e x => .lst e (h3.mono x)
  exact ⟨S1, _, e, R1, h1, n⟩
end Ev

namespace Ev
open PySem PySem.Spec PyProof.Rows L2
variable {K : PySem.W.Frag} {S S' H H' : Hp} {B : Bs} {δ : DS} {σ : L2.St}
section
variable {X : Cx} {E : EK} {e a b c : Expr} {es : List Expr} {pos : Pos} {st : Stmt} {rest : List Stmt} {da db : dE} {t u : dS}

/-! ### a slot's value, its list frozen -/
def dTake (i : Nat) : dE := fun _ δ Q => match δ.sl[i]? with
  | some (.dat d) => Q d δ
  | some (.own ds) => Q (.lst ds) { δ with sl := δ.sl.set i (.dat (.lst ds)) }
  | _ => False
theorem de_take {i : Nat} {x : Str} (h : PE X (.Name x pos) (tVar i)) : DE X E (.Name x pos) (dTake i) := ⟨fun B => pe_mono h fun σ H Q q => by
  obtain ⟨δ, S, W, Q', R, q, _, post⟩ := q
  unfold dTake at q
  split at q
  · rename_i d hd
    obtain ⟨v, e1, e2⟩ := R.dat hd
    exact ⟨v, e1, post _ _ _ _ _ q (Ex.refl _) R e2⟩
  · rename_i ds hd
    obtain ⟨S1, v, e1, R1, e2, n⟩ := R.freezeL hd
    exact ⟨v, e2, post _ _ _ _ _ q e1 R1 n⟩
  · exact q.elim⟩

/-! ### blocks -/
theorem post_of {Z : Ends} {N : dEnds} {W : XW} {d : dS} (R : Rel K B δ S σ H) (q : d W N δ) (xo : XOk K B E W S)
    (h1 : ∀ δ' σ' S' H', N.nx δ' → Ex S S' → Rel K B δ' S' σ' H' → Z.nx σ' H') (h2 : ∀ x δ' v σ' S' H', N.rt x δ' → Ex S S' → Rel K B δ' S' σ' H' → Dn K S' v x → Z.rt v H')
    (h3 : ∀ δ' σ' S' H', N.bk δ' → Ex S S' → Rel K B δ' S' σ' H' → Z.bk σ' H') (h4 : ∀ δ' σ' S' H', N.ct δ' → Ex S S' → Rel K B δ' S' σ' H' → Z.ct σ' H') : liftS K B E d Z σ H := ⟨δ, S, W, N, R, q, xo, h1, h2, h3, h4⟩
def dNext : dS := fun _ N δ => N.nx δ
def dSeq (t u : dS) : dS := fun W N δ => t W { N with nx := fun δ' => u W N δ' } δ
theorem dss_nil : DSs X E [] dNext := ⟨fun B => pss_mono pss_nil fun Z σ H q => by
  obtain ⟨δ, S, W, N, R, q, xo, h1, _⟩ := q
  exact h1 _ _ _ _ q (Ex.refl _) R⟩
theorem dss_cons (h1 : DSt X E st t) (h2 : DSs X E rest u) : DSs X E (st :: rest) (dSeq t u) := ⟨fun B => pss_mono (pss_cons (h1.run B) (h2.run B)) fun Z σ H q => by
  obtain ⟨δ, S, W, N, R, q, xo, p1, p2, p3, p4⟩ := q
  refine ⟨δ, S, W, _, R, q, xo, fun δ1 σ1 S1 H1 q1 e1 R1 => ?_, p2, p3, p4⟩
  exact ⟨δ1, S1, W, N, R1, q1, xo.mono e1, fun δ2 σ2 S2 H2 q2 e2 R2 => p1 _ _ _ _ q2 (e1.trans e2) R2, fun x δ2 v σ2 S2 H2 q2 e2 R2 n2 => p2 _ _ _ _ _ _ q2 (e1.trans e2) R2 n2,
    fun δ2 σ2 S2 H2 q2 e2 R2 => p3 _ _ _ _ q2 (e1.trans e2) R2, fun δ2 σ2 S2 H2 q2 e2 R2 => p4 _ _ _ _ q2 (e1.trans e2) R2⟩⟩
theorem dss_one (h1 : DSt X E st t) : DSs X E [st] t := ⟨fun B => pss_one (h1.run B)⟩
def dNever : dS := fun _ _ _ => False
theorem ds_never : DSt X E st dNever := ⟨fun B => ps_mono (t := tNever) ps_never fun Z σ H q => by
  obtain ⟨_, _, _, _, _, q, _⟩ := q
  exact q.elim⟩
theorem dss_never : DSs X E rest dNever := ⟨fun B => pss_mono (t := tNever) pss_never fun Z σ H q => by
  obtain ⟨_, _, _, _, _, q, _⟩ := q
  exact q.elim⟩
theorem ds_pass : DSt X E (.Pass pos) dNext := ⟨fun B => ps_mono ps_pass fun Z σ H q => by
  obtain ⟨δ, S, W, N, R, q, xo, h1, _⟩ := q
  exact h1 _ _ _ _ q (Ex.refl _) R⟩
theorem ds_doc {x j pos pos'} : DSt X E (.Expr (.Constant (.str x) j pos) pos') dNext := ⟨fun B => ps_mono ps_doc fun Z σ H q => by
  obtain ⟨δ, S, W, N, R, q, xo, h1, _⟩ := q
  exact h1 _ _ _ _ q (Ex.refl _) R⟩
def dBrk : dS := fun _ N δ => N.bk δ
def dCnt : dS := fun _ N δ => N.ct δ
theorem ds_break : DSt X E (.Break pos) dBrk := ⟨fun B => ps_mono ps_break fun Z σ H q => by
  obtain ⟨δ, S, W, N, R, q, xo, _, _, h1, _⟩ := q
  exact h1 _ _ _ _ q (Ex.refl _) R⟩
theorem ds_continue : DSt X E (.Continue pos) dCnt := ⟨fun B => ps_mono ps_continue fun Z σ H q => by
  obtain ⟨δ, S, W, N, R, q, xo, _, _, _, h1⟩ := q
  exact h1 _ _ _ _ q (Ex.refl _) R⟩
def dRet (d : dE) : dS := fun W N δ => d W δ fun x δ' => N.rt x δ'
theorem ds_ret (h : DE X E e da) : DSt X E (.Return (some e) pos) (dRet da) := ⟨fun B => ps_mono (ps_ret (h.run B)) fun Z σ H q => by
  obtain ⟨δ, S, W, N, R, q, xo, _, h1, _⟩ := q
  exact ⟨δ, S, W, _, R, q, xo, fun x δ' v S' H' q1 e1 R1 n1 => h1 _ _ _ _ _ _ q1 e1 R1 n1⟩⟩
def dRetN : dS := fun W N δ => N.rt .non δ
theorem ds_retN : DSt X E (.Return none pos) dRetN := ⟨fun B => ps_mono ps_retN fun Z σ H q => by
  obtain ⟨δ, S, W, N, R, q, xo, _, h1, _⟩ := q
  exact h1 _ _ _ _ _ _ q (Ex.refl _) R .non⟩
def dExpr (d : dE) : dS := fun W N δ => d W δ fun _ δ' => N.nx δ'
theorem ds_expr (h : DE X E e da) (hs : swapsWith e none pos.line X.env = pure false := by rfl) : DSt X E (.Expr e pos) (dExpr da) := ⟨fun B => ps_mono (ps_expr (h.run B) hs) fun Z σ H q => by
  obtain ⟨δ, S, W, N, R, q, xo, h1, _⟩ := q
  exact ⟨δ, S, W, _, R, q, xo, fun x δ' v S' H' q1 e1 R1 n1 => h1 _ _ _ _ q1 e1 R1⟩⟩
def dIfS (c : dT) (t u : dS) : dS := fun W N δ => c W δ fun k δ' => match k with | true => t W N δ' | false => u W N δ'
theorem ds_if {tc : dT} {as bs : List Stmt} (hc : DT X E c tc) (ha : DSs X E as t) (hb : DSs X E bs u) : DSt X E (.If c as bs pos) (dIfS tc t u) := ⟨fun B => ps_mono (ps_if (hc.run B) (ha.run B) (hb.run B)) fun Z σ H q => by
  obtain ⟨δ, S, W, N, R, q, xo, p1, p2, p3, p4⟩ := q
  refine ⟨δ, S, W, _, R, q, xo, fun k δ1 S1 H1 q1 e1 R1 => ?_⟩
  have go : ∀ d : dS, d W N δ1 → liftS X.K B E d Z σ H1 := fun d q1 => ⟨δ1, S1, W, N, R1, q1, xo.mono e1, fun δ2 σ2 S2 H2 q2 e2 R2 => p1 _ _ _ _ q2 (e1.trans e2) R2, fun x δ2 v σ2 S2 H2 q2 e2 R2 n2 => p2 _ _ _ _ _ _ q2 (e1.trans e2) R2 n2,
    fun δ2 σ2 S2 H2 q2 e2 R2 => p3 _ _ _ _ q2 (e1.trans e2) R2, fun δ2 σ2 S2 H2 q2 e2 R2 => p4 _ _ _ _ q2 (e1.trans e2) R2⟩
  cases k with
  | true => exact iteT (go _ q1)
  | false => exact iteF (go _ q1)⟩

/-! ### assignments -/
def setSl (δ : DS) (i : Nat) (x : Sl) : DS := { δ with sl := δ.sl.set i x }
def dSet (i : Nat) (d : dE) : dS := fun W N δ => d W δ fun x δ' => N.nx (setSl δ' i (.dat x))
def dSetF (i : Nat) (d : dF) : dS := fun W N δ => d W δ fun xs δ' => N.nx (setSl δ' i (.own xs))
theorem ds_set {i : Nat} {x : Str} {pos' : Pos} (hN : X.N.Nodup) (hi : X.N[i]? = some x) (hx : Loc X.env.scope x) (h : DE X E e da) (hs : swapsWith e (some (.Name x pos')) pos.line X.env = pure false := by rfl) (hf : X.fn x = true ∨ X.env.scope.names.lookup x = some .local := by first | exact .inl rfl | exact .inr rfl | assumption) :
    DSt X E (.Assign [.Name x pos'] e pos) (dSet i da) := ⟨fun B => ps_mono (ps_set hN hi hx (h.run B) hs hf) fun Z σ H q => by
  obtain ⟨δ, S, W, N, R, q, xo, h1, _⟩ := q
  exact ⟨δ, S, W, _, R, q, xo, fun x δ' v S' H' q1 e1 R1 n1 => h1 _ _ _ _ q1 e1 (R1.setDat n1)⟩⟩
theorem ds_setF {i : Nat} {x : Str} {pos' : Pos} {d : dF} (hN : X.N.Nodup) (hi : X.N[i]? = some x) (hx : Loc X.env.scope x) (h : DF X E e d) (hs : swapsWith e (some (.Name x pos')) pos.line X.env = pure false := by rfl) (hf : X.fn x = true ∨ X.env.scope.names.lookup x = some .local := by first | exact .inl rfl | exact .inr rfl | assumption) :
    DSt X E (.Assign [.Name x pos'] e pos) (dSetF i d) := ⟨fun B => ps_mono (ps_set hN hi hx (h.run B) hs hf) fun Z σ H q => by
  obtain ⟨δ, S, W, N, R, q, xo, h1, _⟩ := q
  exact ⟨δ, S, W, _, R, q, xo, fun xs δ' p vs S' H' q1 e1 R1 hp n1 => h1 _ _ _ _ q1 e1 (R1.setOwn hp n1)⟩⟩

/-! ### targets -/
def gN (i : Nat) : dG := fun d δ Q => Q (setSl δ i (.dat d))
theorem dg_name {i : Nat} {x : Str} (h : PG X (.Name x pos) (gName i)) : DG X (.Name x pos) (gN i) [i] := ⟨fun B => ⟨fun pins s σ H v u Q I r q => h.run pins s σ H v u Q I r (by
  obtain ⟨δ, S, d, Q', R, n, q, post⟩ := q
  refine post _ _ _ _ q (Ex.refl _) (R.setDat n) (fun j hj => ?_) (by simp)
  have : j ≠ i := by simpa using hj
  rw [List.getElem?_set_ne (Ne.symm this)])⟩⟩
abbrev dGs := List D → DS → (DS → Prop) → Prop
def liftGs (K : PySem.W.Frag) (B : Bs) (g : dGs) (vs : List Nat) : TGs := fun us σ H Q => ∃ δ S ds Q', Rel K B δ S σ H ∧ DnA K S us ds ∧ g ds δ Q' ∧
  ∀ δ' σ' S' H', Q' δ' → Ex S S' → Rel K B δ' S' σ' H' → (∀ i, i ∉ vs → σ'[i]? = σ[i]?) → σ'.length = σ.length → Q σ' H'
structure DGs (X : Cx) (tg : List Expr) (g : dGs) (vs : List Nat) : Prop where
  run : ∀ B, PGs X tg (liftGs X.K B g vs)
def gsNil : dGs := fun ds δ Q => match ds with | [] => Q δ | _ => False
def gsCons (g : dG) (r : dGs) : dGs := fun ds δ Q => match ds with | d :: ds => g d δ fun δ' => r ds δ' Q | [] => False
theorem dgs_nil : DGs X [] gsNil [] := ⟨fun B => ⟨fun pins s σ H vs us Q I r q => pgs_nil.run pins s σ H vs us Q I r (by
  obtain ⟨δ, S, ds, Q', R, n, q, post⟩ := q
  cases n with
  | nil => exact ⟨rfl, post _ _ _ _ q (Ex.refl _) R (fun _ _ => rfl) rfl⟩
  | cons _ _ => exact q.elim)⟩⟩
theorem dgs_cons {g : dG} {r : dGs} {vs ws : List Nat} (h1 : DG X e g vs) (h2 : DGs X es r ws) (hs : (assignEach (e :: es) X.env).map (·.2) = assign e X.env :: (assignEach es X.env).map (·.2) := by rfl) : DGs X (e :: es) (gsCons g r) (vs ++ ws) :=
  ⟨fun B => ⟨fun pins s σ H us uu Q I rr q => (pgs_cons (h1.run B) (h2.run B) hs).run pins s σ H us uu Q I rr (by
    obtain ⟨δ, S, ds, Q', R, n, q, post⟩ := q
    cases n with
    | nil => exact q.elim
    | cons n ns =>
      refine ⟨_, _, rfl, δ, S, _, _, R, n, q, fun δ1 σ1 S1 H1 q1 e1 R1 a1 l1 => ?_⟩
      refine ⟨δ1, S1, _, _, R1, ns.mono e1, q1, fun δ2 σ2 S2 H2 q2 e2 R2 a2 l2 => post _ _ _ _ q2 (e1.trans e2) R2 (fun i hi => ?_) (l2.trans l1)⟩
      rw [a2 i (fun z => hi (by simp [z])), a1 i (fun z => hi (by simp [z]))])⟩⟩
def gT (n : Nat) (r : dGs) : dG := fun d δ Q => match d with | .tup ds => ds.length = n ∧ r ds δ Q | _ => False
theorem dg_tup {k : Nat} {r : dGs} {n : Nat} {vs : List Nat} (hc : X.calm = true) (h : DGs X es r vs) (hn : (assignEach es X.env).length = n := by rfl) (hst : (assignEach es X.env).findIdx? (·.1) = none := by rfl) :
    DG X (.Tuple es k pos) (gT n r) vs := ⟨fun B => ⟨fun pins s σ H v u Q I rv q => (pg_tup hc (h.run B) hn hst).run pins s σ H v u Q I rv (by
    obtain ⟨δ, S, d, Q', R, dn, q, post⟩ := q
    cases d with
    | tup ds =>
      cases dn with
      | tup hq ha => exact ⟨_, _, rfl, SqT.of (R.ex _ _ hq), ha.length.trans q.1, δ, S, ds, Q', R, ha, q.2, post⟩
    | _ => exact q.elim)⟩⟩
def dAsg (d : dE) (g : dG) : dS := fun W N δ => d W δ fun x δ' => g x δ' N.nx
theorem ds_asg {tg : Expr} {g : dG} {vs : List Nat} (h : DE X E e da) (hg : DG X tg g vs) (hs : swapsWithSole [tg] e pos.line X.env = pure false := by rfl) (hw : swappedStores [tg] e X.env = pure none := by rfl)
    (h1 : (assignEach [tg] X.env).map (·.2) = [assign tg X.env] := by rfl) : DSt X E (.Assign [tg] e pos) (dAsg da g) := ⟨fun B => ps_mono (ps_asg (h.run B) (hg.run B) hs hw h1) fun Z σ H q => by
  obtain ⟨δ, S, W, N, R, q, xo, p1, _⟩ := q
  refine ⟨δ, S, W, _, R, q, xo, fun x δ' v S' H' q1 e1 R1 n1 => ?_⟩
  exact ⟨δ', S', x, N.nx, R1, n1, q1, fun δ2 σ2 S2 H2 q2 e2 R2 _ _ => p1 _ _ _ _ q2 (e1.trans e2) R2⟩⟩

/-! ### loops -/
abbrev dI := XW → DS → (List D → DS → Prop) → Prop
structure ItOk (K : PySem.W.Frag) (J : It) (ds : List D) (S : Hp) : Prop where
  goes : ∀ i S1 H1, Ex S S1 → Sb S1 H1 → i < ds.length → J.go i H1
  stops : ∀ S1 H1, Ex S S1 → Sb S1 H1 → J.stop ds.length H1
  yields : ∀ i S1 H1 x H2, Ex S S1 → Sb S1 H1 → i < ds.length → J.yld i H1 x H2 → ∃ S2 d, Grow S1 H1 S2 H2 ∧ ds[i]? = some d ∧ Dn K S2 x d
theorem ItOk.mono {J : It} {ds : List D} (h : ItOk K J ds S) (e : Ex S S') : ItOk K J ds S' :=
  ⟨fun i S1 H1 a => h.goes i S1 H1 (e.trans a), fun S1 H1 a => h.stops S1 H1 (e.trans a), fun i S1 H1 x H2 a => h.yields i S1 H1 x H2 (e.trans a)⟩
def liftI (K : PySem.W.Frag) (B : Bs) (E : EK) (w : dI) : TI := fun σ H R => ∃ δ S W Q', Rel K B δ S σ H ∧ w W δ Q' ∧ XOk K B E W S ∧
  ∀ ds δ' S' H' J, Q' ds δ' → Ex S S' → Rel K B δ' S' σ H' → ItOk K J ds S' → R J H'
structure DI (X : Cx) (E : EK) (tg iter : Expr) (w : dI) : Prop where
  run : ∀ B, PI X tg iter (liftI X.K B E w)
theorem pi_mono {tg iter : Expr} {w w' : TI} (h : PI X tg iter w) (m : ∀ σ H R, w' σ H R → w σ H R) : PI X tg iter w' := ⟨fun pins s σ H R I q => h.run pins s σ H R I (m _ _ _ q)⟩
def wFor (g : dG) (b : dS) (W : XW) (N : dEnds) : List D → DS → Prop
  | [], δ => N.nx δ
  | d :: ds, δ => g d δ fun δ1 => b W { N with nx := wFor g b W N ds, ct := wFor g b W N ds, bk := N.nx } δ1
def dFor (it : dI) (g : dG) (b : dS) : dS := fun W N δ => it W δ fun ds δ1 => wFor g b W N ds δ1
theorem ds_for {tg iter : Expr} {body : List Stmt} {w : dI} {g : dG} {vs : List Nat} (hp : PassesOwn (model X.prog X.w) X.A X.env X.xe) (hc : X.calm = true) (hi : DI X E tg iter w) (hg : DG X tg g vs) (hb : DSs X E body t)
    (hs : ∀ x, foldedSetIterable iter X.env x = pure x := by intro _; rfl) : DSt X E (.For tg iter body [] pos) (dFor w g t) := ⟨fun B => ps_mono (ps_for hp hc (hi.run B) (hg.run B) (hb.run B) hs) fun Z σ H q => by
  obtain ⟨δ, S, W, N, R, q, xo, p1, p2, p3, p4⟩ := q
  refine ⟨δ, S, W, _, R, q, xo, fun ds δ1 S1 H1 J q1 e1 R1 it1 => ?_⟩
  refine ⟨fun i m σ H => m = ds.length - i ∧ i ≤ ds.length ∧ ∃ δ S2, Ex S1 S2 ∧ Rel X.K B δ S2 σ H ∧ wFor g t W N (ds.drop i) δ, ⟨_, rfl, Nat.zero_le _, δ1, S1, Ex.refl _, R1, q1⟩, ?_⟩
  rintro i m σ2 H2 ⟨rfl, hi, δ2, S2, e2, R2, q2⟩
  by_cases hlt : i < ds.length
  · refine .inr ⟨it1.goes i S2 H2 e2 R2.ex hlt, fun σ' H' => (fun i m σ H => m = ds.length - i ∧ i ≤ ds.length ∧ ∃ δ S2, Ex S1 S2 ∧ Rel X.K B δ S2 σ H ∧ wFor g t W N (ds.drop i) δ) (i + 1) (ds.length - (i + 1)) σ' H', fun σ' H' h => ⟨_, by omega, h⟩, fun x H3 y => ?_⟩
    obtain ⟨S3, d, g3, ed, dn⟩ := it1.yields i S2 H2 x H3 e2 R2.ex hlt y
    have hd : ds.drop i = d :: ds.drop (i + 1) := by
      obtain ⟨h1, h2⟩ := List.getElem?_eq_some_iff.mp ed
      rw [List.drop_eq_getElem_cons h1, h2]
    rw [hd] at q2
    refine ⟨δ2, S3, d, _, R2.grow g3, dn, q2, fun δ4 σ4 S4 H4 q4 e4 R4 _ _ => ?_⟩
    have e : Ex S S4 := (e1.trans e2).trans (g3.s.trans e4)
    refine ⟨δ4, S4, W, _, R4, q4, xo.mono e, fun δ5 σ5 S5 H5 q5 e5 R5 => ?_, fun x δ5 v σ5 S5 H5 q5 e5 R5 n5 => p2 _ _ _ _ _ _ q5 (e.trans e5) R5 n5, fun δ5 σ5 S5 H5 q5 e5 R5 => p1 _ _ _ _ q5 (e.trans e5) R5, fun δ5 σ5 S5 H5 q5 e5 R5 => ?_⟩
    · exact ⟨rfl, hlt, δ5, S5, e2.trans (g3.s.trans (e4.trans e5)), R5, q5⟩
    · exact ⟨rfl, hlt, δ5, S5, e2.trans (g3.s.trans (e4.trans e5)), R5, q5⟩
  · have e : i = ds.length := by omega
    subst e
    rw [List.drop_length] at q2
    exact .inl ⟨it1.stops S2 H2 e2 R2.ex, p1 _ _ _ _ q2 (e1.trans e2) R2⟩⟩
/-- while: an invariant with a measure -/
def dWhile (c : dT) (b : dS) : dS := fun W N δ => ∃ V : Nat → DS → Prop, (∃ m, V m δ) ∧ ∀ m δ, V m δ → c W δ fun k δ1 => match k with
  | true => b W { N with nx := fun δ' => ∃ m', m' < m ∧ V m' δ', ct := fun δ' => ∃ m', m' < m ∧ V m' δ', bk := N.nx } δ1
  | false => N.nx δ1
theorem ds_while {body : List Stmt} {tc : dT} (hp : PassesOwn (model X.prog X.w) X.A X.env X.xe) (hc : DT X E c tc) (hb : DSs X E body t) : DSt X E (.While c body [] pos) (dWhile tc t) := ⟨fun B => ps_mono (ps_while hp (hc.run B) (hb.run B)) fun Z σ H q => by
  obtain ⟨δ, S, W, N, R, ⟨V, ⟨m0, v0⟩, turn⟩, xo, p1, p2, p3, p4⟩ := q
  refine ⟨fun m σ H => ∃ δ S1, Ex S S1 ∧ Rel X.K B δ S1 σ H ∧ V m δ, ⟨m0, δ, S, Ex.refl _, R, v0⟩, ?_⟩
  rintro m σ1 H1 ⟨δ1, S1, e1, R1, v1⟩
  refine ⟨δ1, S1, W, _, R1, turn m δ1 v1, xo.mono e1, fun k δ2 S2 H2 q2 e2 R2 => ?_⟩
  cases k with
  | true =>
    have e := e1.trans e2
    refine iteT ⟨fun σ' H' => ∃ m', m' < m ∧ ∃ δ S1, Ex S S1 ∧ Rel X.K B δ S1 σ' H' ∧ V m' δ, fun σ' H' h => h, δ2, S2, W, _, R2, q2, xo.mono e, fun δ5 σ5 S5 H5 q5 e5 R5 => ?_, fun x δ5 v σ5 S5 H5 q5 e5 R5 n5 => p2 _ _ _ _ _ _ q5 (e.trans e5) R5 n5, fun δ5 σ5 S5 H5 q5 e5 R5 => p1 _ _ _ _ q5 (e.trans e5) R5, fun δ5 σ5 S5 H5 q5 e5 R5 => ?_⟩
    · obtain ⟨m', hm, v⟩ := q5
      exact ⟨m', hm, δ5, S5, e.trans e5, R5, v⟩
    · obtain ⟨m', hm, v⟩ := q5
      exact ⟨m', hm, δ5, S5, e.trans e5, R5, v⟩
  | false =>
    exact iteF (p1 _ _ _ _ q2 (e1.trans e2) R2)⟩
end
end Ev

namespace Ev
open PySem PySem.Spec PyProof.Rows L2
variable {K : PySem.W.Frag} {S S' H H' : Hp} {B : Bs} {δ : DS} {σ : L2.St}
section
variable {X : Cx} {E : EK} {e a b c tg : Expr} {es : List Expr} {pos : Pos} {st : Stmt} {rest : List Stmt} {da db : dE} {t u : dS}

/-! ### what is walked -/
/-- a list or a tuple -/
def iSeq (K : PySem.W.Frag) (tl : TE) : TI := fun σ H R => tl σ H fun x H1 => ∃ a, x = .ref a ∧ (((∃ xs, SqL K H1 a xs) ∧ R (Itl K a) H1) ∨ ((∃ xs, SqT K H1 a xs) ∧ R (Itt K a) H1))
theorem pi_seq {l : Expr} {tl : TE} (hl : PE X l tl) : PI X tg l (iSeq X.K tl) := by
  refine ⟨fun pins s σ H R I h => ?_⟩
  refine thn (hl.run pins s σ H _ I h) fun v s1 ⟨x, H1, I1, r1, q1⟩ => ?_
  obtain ⟨a, e, ⟨⟨xs, hq⟩, q⟩ | ⟨⟨xs, hq⟩, q⟩⟩ := q1
  · subst e
    cases r1
    obtain ⟨its, rv, p, hz⟩ := I1.list hq
    refine wpAny_pyIter_list p.isList ?_
    refine ⟨s1.heap.objs.size, [s1.heap.objs.size], _, _, H1, rfl, I1.kept (t' := s1.toks) fun b o e => Heap.get?_push_of_some _ e, turn_list a _, ⟨_, Heap.get?_push_size _ rfl, rfl, rfl⟩, fun b hb => ?_, q⟩
    have e : b = s1.heap.objs.size := by simpa using hb
    subst e
    exact I1.fpOk (Nat.le_refl _) (I1.hok.fresh (Nat.le_refl _))
  · subst e
    cases r1
    obtain ⟨its, rv, p, hz⟩ := I1.tuple hq
    refine wpAny_pyIter_tuple (show s1.heap.IsTuple a its.toArray from p) ?_
    refine ⟨s1.heap.objs.size, [s1.heap.objs.size], _, _, H1, rfl, I1.kept (t' := s1.toks) fun b o e => Heap.get?_push_of_some _ e, turn_tuple a _, ⟨_, Heap.get?_push_size _ rfl, rfl, rfl⟩, fun b hb => ?_, q⟩
    have e : b = s1.heap.objs.size := by simpa using hb
    subst e
    exact I1.fpOk (Nat.le_refl _) (I1.hok.fresh (Nat.le_refl _))
theorem it_list {a : Addr} {vs : List V} {ds : List D} (h : S a = some (.lst vs)) (n : DnA K S vs ds) : ItOk K (Itl K a) ds S := by
  have hl := n.length
  refine ⟨fun i S1 H1 e1 e2 hi => ?_, fun S1 H1 e1 e2 => ?_, fun i S1 H1 x H2 e1 e2 hi y => ?_⟩
  · exact (walk_list (xs := vs)).goes i H1 (by omega) (SqL.of (e2 _ _ (e1 _ _ h)))
  · rw [← hl]; exact walk_list.stops H1 (SqL.of (e2 _ _ (e1 _ _ h)))
  · obtain ⟨rfl, hx⟩ := (walk_list (xs := vs)).yields i H1 x H2 (by omega) (SqL.of (e2 _ _ (e1 _ _ h))) y
    obtain ⟨d, h1, h2⟩ := n.getV hx
    exact ⟨S1, d, Grow.refl e2, h1, h2.mono e1⟩
theorem it_tup {a : Addr} {vs : List V} {ds : List D} (h : S a = some (.tup vs)) (n : DnA K S vs ds) : ItOk K (Itt K a) ds S := by
  have hl := n.length
  refine ⟨fun i S1 H1 e1 e2 hi => ?_, fun S1 H1 e1 e2 => ?_, fun i S1 H1 x H2 e1 e2 hi y => ?_⟩
  · exact (walk_tup (xs := vs)).goes i H1 (by omega) (SqT.of (e2 _ _ (e1 _ _ h)))
  · rw [← hl]; exact walk_tup.stops H1 (SqT.of (e2 _ _ (e1 _ _ h)))
  · obtain ⟨rfl, hx⟩ := (walk_tup (xs := vs)).yields i H1 x H2 (by omega) (SqT.of (e2 _ _ (e1 _ _ h))) y
    obtain ⟨d, h1, h2⟩ := n.getV hx
    exact ⟨S1, d, Grow.refl e2, h1, h2.mono e1⟩
def dSeqI (d : dE) : dI := fun W δ Q => d W δ fun x δ' => match x with | .lst ds => Q ds δ' | .tup ds => Q ds δ' | _ => False
theorem di_seq (h : DE X E e da) : DI X E tg e (dSeqI da) := ⟨fun B => pi_mono (pi_seq (h.run B)) fun σ H Rr q => by
  obtain ⟨δ, S, W, Q', R, q, xo, post⟩ := q
  refine ⟨δ, S, W, _, R, q, xo, fun x δ1 v S1 H1 q1 e1 R1 n1 => ?_⟩
  cases x with
  | lst ds =>
    cases n1 with
    | lst hs ha => exact ⟨_, rfl, .inl ⟨⟨_, SqL.of (R1.ex _ _ hs)⟩, post _ _ _ _ _ q1 e1 R1 (it_list hs ha)⟩⟩
  | tup ds =>
    cases n1 with
    | tup hs ha => exact ⟨_, rfl, .inr ⟨⟨_, SqT.of (R1.ex _ _ hs)⟩, post _ _ _ _ _ q1 e1 R1 (it_tup hs ha)⟩⟩
  | _ => exact q1.elim⟩
def intsFrom (lo : Int) (n : Nat) : List D := (List.range n).map fun i => .int (lo + (i : Nat))
theorem it_range {lo : Int} {n : Nat} : ItOk K (Itr lo n) (intsFrom lo n) S := by
  have hl : (intsFrom lo n).length = n := by simp [intsFrom]
  refine ⟨fun i S1 H1 e1 e2 hi => ?_, fun S1 H1 e1 e2 => ?_, fun i S1 H1 x H2 e1 e2 hi y => ?_⟩
  · rw [hl] at hi; exact hi
  · rw [hl]; exact Nat.le_refl _
  · obtain ⟨rfl, rfl⟩ := y
    rw [hl] at hi
    exact ⟨S1, .int (lo + (i : Nat)), Grow.refl e2, by simp [intsFrom, hi], .int _⟩
def dRng1 (d : dA) : dI := fun W δ Q => d W δ fun xs δ' => match xs with | [.int j] => -(2 ^ 62) ≤ j ∧ j < 2 ^ 62 ∧ Q (intsFrom 0 j.toNat) δ' | _ => False
def dRng2 (d : dA) : dI := fun W δ Q => d W δ fun xs δ' => match xs with | [.int i, .int j] => (-(2 ^ 62) ≤ i ∧ i < 2 ^ 62 ∧ -(2 ^ 62) ≤ j ∧ j < 2 ^ 62) ∧ Q (intsFrom i (j - i).toNat) δ' | _ => False
theorem DnA.int1 {vs : List V} {i : Int} (h : DnA K S vs [.int i]) : vs = [.int i] := by
  cases h with | cons h1 h2 => cases h1; cases h2; rfl
theorem di_range1 {p : Pos} {d : dA} (hg : Gl X "range") (hm : X.mg "range" = none) (ha : DA X E [a] d) (hs : starEach [a] X.env = [(false, eval a X.env)] := by rfl) : DI X E tg (.Call (.Name "range" p) [a] [] pos) (dRng1 d) := ⟨fun B => pi_mono (pi_range1 hg hm (ha.run B) hs) fun σ H Rr q => by
  obtain ⟨δ, S, W, Q', R, q, xo, post⟩ := q
  refine ⟨δ, S, W, _, R, q, xo, fun xs δ1 vs S1 H1 q1 e1 R1 n1 => ?_⟩
  match xs, q1, n1 with
  | [.int j], ⟨q1, q2, q3⟩, n1 => exact ⟨j, n1.int1, q1, q2, post _ _ _ _ _ q3 e1 R1 it_range⟩⟩
theorem di_range2 {p : Pos} {d : dA} (hg : Gl X "range") (hm : X.mg "range" = none) (ha : DA X E [a, b] d) (hs : starEach [a, b] X.env = [(false, eval a X.env), (false, eval b X.env)] := by rfl) (hs2 : starEach [b] X.env = [(false, eval b X.env)] := by rfl) : DI X E tg (.Call (.Name "range" p) [a, b] [] pos) (dRng2 d) := ⟨fun B => pi_mono (pi_range2 hg hm (ha.run B) hs hs2) fun σ H Rr q => by
  obtain ⟨δ, S, W, Q', R, q, xo, post⟩ := q
  refine ⟨δ, S, W, _, R, q, xo, fun xs δ1 vs S1 H1 q1 e1 R1 n1 => ?_⟩
  match xs, q1, n1 with
  | [.int i, .int j], ⟨q1, q3⟩, n1 =>
    cases n1 with
    | cons h1 h2 => cases h1; exact ⟨i, j, by rw [h2.int1], q1, post _ _ _ _ _ q3 e1 R1 it_range⟩⟩

/-! ### comprehensions -/
def wipeD (δ : DS) : List Nat → DS
  | [] => δ
  | v :: vs => setSl (wipeD δ vs) v .un
theorem wipeD_len (δ : DS) : ∀ vs, (wipeD δ vs).sl.length = δ.sl.length
  | [] => rfl
  | v :: vs => by simp [wipeD, setSl, wipeD_len δ vs]
theorem wipeD_pen (δ : DS) : ∀ vs, (wipeD δ vs).pen = δ.pen
  | [] => rfl
  | v :: vs => by simp [wipeD, setSl, wipeD_pen δ vs]
theorem Rel.wipe (R : Rel K B δ S σ H) : ∀ vs, Rel K B (wipeD δ vs) S (L2.wipe σ vs) H
  | [] => R
  | v :: vs => (R.wipe vs).forget
theorem wipeD_un (δ : DS) : ∀ {vs : List Nat} {i : Nat}, i ∈ vs → i < δ.sl.length → (wipeD δ vs).sl[i]? = some .un
  | v :: vs, i, h, hl => by
    by_cases e : v = i
    · subst e
      show ((wipeD δ vs).sl.set v Sl.un)[v]? = _
      rw [List.getElem?_set_self (by rw [wipeD_len]; exact hl)]
    · show ((wipeD δ vs).sl.set v Sl.un)[i]? = _
      rw [List.getElem?_set_ne e]
      exact wipeD_un δ ((List.mem_cons.mp h).resolve_left (Ne.symm e)) hl
theorem wipe_in {σ : L2.St} : ∀ {vs : List Nat} {i : Nat}, i ∈ vs → (L2.wipe σ vs)[i]? = (σ[i]?).map fun _ => none
  | v :: vs, i, h => by
    by_cases e : v = i
    · subst e
      show ((L2.wipe σ vs).set v none)[v]? = _
      by_cases hl : v < σ.length
      · rw [List.getElem?_set_self (by rw [wipe_length]; exact hl), List.getElem?_eq_getElem hl]; rfl
      · rw [List.getElem?_eq_none (by rw [List.length_set, wipe_length]; omega), List.getElem?_eq_none (by omega)]; rfl
    · show ((L2.wipe σ vs).set v none)[i]? = _
      rw [List.getElem?_set_ne e]
      exact wipe_in ((List.mem_cons.mp h).resolve_left (Ne.symm e))
theorem wipe_notin {σ : L2.St} : ∀ {vs : List Nat} {i : Nat}, i ∉ vs → (L2.wipe σ vs)[i]? = σ[i]?
  | [], _, _ => rfl
  | v :: vs, i, h => by
    have h1 : v ≠ i := fun e => h (by simp [e])
    show ((L2.wipe σ vs).set v none)[i]? = _
    rw [List.getElem?_set_ne h1]
    exact wipe_notin fun z => h (by simp [z])
theorem wipe_agree {σ σ' : L2.St} {vs ws : List Nat} (hl : σ'.length = σ.length) (h : ∀ i, i ∉ ws → σ'[i]? = σ[i]?) (hs : ∀ i ∈ ws, i ∈ vs) : L2.wipe σ' vs = L2.wipe σ vs := by
  apply List.ext_getElem?
  intro i
  by_cases hi : i ∈ vs
  · rw [wipe_in hi, wipe_in hi]
    by_cases hj : i < σ.length
    · rw [List.getElem?_eq_getElem hj, List.getElem?_eq_getElem (by omega)]; rfl
    · rw [List.getElem?_eq_none (by omega), List.getElem?_eq_none (by omega)]
  · rw [wipe_notin hi, wipe_notin hi]
    exact h i fun z => hi (hs i z)
/-- behind a block: its own slots are forgotten, the others stand -/
theorem Rel.unwipe {vs : List Nat} {σ2 : L2.St} (R : Rel K B δ S σ2 H) (h : L2.wipe σ2 vs = L2.wipe σ vs) (hl : σ2.length = σ.length) : Rel K B (wipeD δ vs) S σ H := by
  refine (R.wipe vs).agree (by rw [wipe_length]; exact hl.symm) fun i => ?_
  by_cases hi : i ∈ vs
  · by_cases hj : i < δ.sl.length
    · exact .inr (wipeD_un δ hi hj)
    · left
      have e1 : σ.length ≤ i := by rw [← hl, R.len]; omega
      rw [List.getElem?_eq_none e1, List.getElem?_eq_none (by rw [wipe_length, hl]; exact e1)]
  · left
    rw [h, wipe_notin hi]
/-- an object beside: B with it -/
def Bs.with (B : Bs) (L : Addr) (o : HO) : Bs := { B with H0 := upd B.H0 L o }
theorem Rel.pen_there (R : Rel K B δ S σ H) {L : Addr} (hL : H L = none) : ∀ a c, δ.pen = some (a, c) → a ≠ L := fun a c e z => by
  subst z
  exact R.pen_new hL c e
theorem PaOk.with_ {B : Bs} {p : Pen} (h : PaOk B p) {L : Addr} {o : HO} (hL : ∀ a c, p = some (a, c) → a ≠ L) : PaOk (B.with L o) p := by
  unfold PaOk at h ⊢
  by_cases q : B.pd = true ∧ B.pa ≠ none
  · rw [if_pos q] at h
    rw [if_pos (show (B.with L o).pd = true ∧ (B.with L o).pa ≠ none from q)]; exact h
  · rw [if_neg q] at h
    rw [if_neg (show ¬((B.with L o).pd = true ∧ (B.with L o).pa ≠ none) from q)]
    intro a c e
    refine ⟨?_, (h a c e).2⟩
    show upd B.H0 L o a = none
    rw [upd_ne (hL a c e)]; exact (h a c e).1
theorem PaOk.un {B : Bs} {p : Pen} {L : Addr} {o : HO} (h : PaOk (B.with L o) p) (hB : B.H0 L = none) : PaOk B p := by
  unfold PaOk at h ⊢
  by_cases q : B.pd = true ∧ B.pa ≠ none
  · rw [if_pos (show (B.with L o).pd = true ∧ (B.with L o).pa ≠ none from q)] at h
    rw [if_pos q]; exact h
  · rw [if_neg (show ¬((B.with L o).pd = true ∧ (B.with L o).pa ≠ none) from q)] at h
    rw [if_neg q]
    intro a c e
    refine ⟨?_, (h a c e).2⟩
    have e1 : upd B.H0 L o a = none := (h a c e).1
    by_cases z : a = L
    · subst z; exact hB
    · rw [upd_ne z] at e1; exact e1
theorem Rel.with_ (R : Rel K B δ S σ H) {L : Addr} {o : HO} (hL : H L = none) (ho : ∀ vs, o ≠ .tup vs) : Rel K (B.with L o) δ S σ (upd H L o) := by
  obtain ⟨f1, f2⟩ := R.fr.fresh hL
  have sL : S L = none := R.ex.none hL
  have g : Grow S H S (upd H L o) := ⟨Ex.refl _, Ex.new hL, R.ex.one hL ho, fun _ _ _ n => n⟩
  have R' := R.grow g
  obtain ⟨ow, h1, h2, h3, h4⟩ := R'.sl
  obtain ⟨ow0, a1, a2, a3, a4⟩ := R.sl
  have tr : ∀ i x, δ.sl[i]? = some x → SlOk K (B.with L o) S (upd H L o) (ow0 i) σ[i]? x := fun i x e => by
    have q := a1 i x e
    have q4 := a4 i
    cases x with
    | un => exact q
    | dat d => exact q
    | own ds =>
      obtain ⟨a, vs, p1, n1, n2, p2, p3, p4⟩ := q
      have ne : a ≠ L := fun z => by rw [z, hL] at p3; cases p3
      exact ⟨a, vs, p1, by show upd B.H0 L o a = none; rw [upd_ne ne]; exact n1, n2, p2, by rw [upd_ne ne]; exact p3, p4⟩
    | hp ds =>
      obtain ⟨a, vs, p1, n2, p2, p3, p4⟩ := q
      have ne : a ≠ L := fun z => by rw [z, hL] at p3; cases p3
      exact ⟨a, vs, p1, n2, p2, by rw [upd_ne ne]; exact p3, p4⟩
    | ownK ds =>
      obtain ⟨a, vs, p1, n1, n2, p2, p3, p4⟩ := q
      have ne : a ≠ L := fun z => by rw [z, hL] at p3; cases p3
      exact ⟨a, vs, p1, by show upd B.H0 L o a = none; rw [upd_ne ne]; exact n1, n2, p2, by rw [upd_ne ne]; exact p3, p4⟩
    | ownT ds =>
      obtain ⟨a, vs, p1, n1, n2, p2, p3, p4⟩ := q
      have ne : a ≠ L := fun z => by rw [z, hL] at p3; cases p3
      exact ⟨a, vs, p1, by show upd B.H0 L o a = none; rw [upd_ne ne]; exact n1, n2, p2, by rw [upd_ne ne]; exact p3, p4⟩
  refine ⟨R'.ex, ⟨R'.fr.s, fun b u h hb => ?_, fun b u h n => ?_, R'.fr.pa⟩, R'.pen, R.pa.with_ (R.pen_there hL), R.len, ow0, tr, a2, a3, fun i a e => ?_⟩
  · have h : upd B.H0 L o b = some u := h
    by_cases e : b = L
    · subst e; rw [upd_same] at h ⊢; exact h
    · rw [upd_ne e] at h; exact R'.fr.h b u h hb
  · have h : upd B.H0 L o b = some u := h
    by_cases e : b = L
    · subst e; exact sL
    · rw [upd_ne e] at h; exact R'.fr.no b u h n
  · obtain ⟨r1, r2, r3, u, r4⟩ := a4 i a e
    have ne : a ≠ L := fun z => by rw [z, hL] at r4; cases r4
    exact ⟨r1, r2.imp (fun q => by show upd B.H0 L o a = none; rw [upd_ne ne]; exact q) id, r3, u, by rw [upd_ne ne]; exact r4⟩
/-- .. and the object beside is changed -/
theorem Rel.with_upd {L : Addr} {o o' : HO} (R : Rel K (B.with L o) δ S σ H) (hB : B.H0 L = none) (hpa : B.pa ≠ some L) (sL : S L = none) (ho : ∀ vs, o' ≠ .tup vs) : Rel K (B.with L o') δ S σ (upd H L o') := by
  obtain ⟨ow0, a1, a2, a3, a4⟩ := R.sl
  have Lh : ∀ a, (B.with L o).H0 a = none ∨ (B.with L o).pa = some a → a ≠ L := fun a h e => by
    subst e
    rcases h with h | h
    · have h : upd B.H0 a o a = none := h
      rw [upd_same] at h; cases h
    · exact hpa h
  refine ⟨⟨fun a u h => ?_, fun b vs h => by
    by_cases q : b = L
    · subst q; rw [upd_same] at h; exact absurd (Option.some.inj h) (ho vs)
    · rw [upd_ne q] at h; exact R.ex.tp b vs h⟩, ⟨R.fr.s, fun b u h hb => ?_, fun b u h n => ?_, fun a e => ?_⟩, ?_, (R.pa.un hB).with_ fun a c e z => R.pen_ne (p := L) hpa ⟨_, upd_same⟩ c (by rw [e, z]), R.len, ow0, fun i x e => ?_, a2, a3, fun i a e => ?_⟩
  · have ne : a ≠ L := fun e => by rw [e, sL] at h; cases h
    rw [upd_ne ne]; exact R.ex a u h
  · have h : upd B.H0 L o' b = some u := h
    by_cases e : b = L
    · subst e; rw [upd_same] at h ⊢; exact h
    · rw [upd_ne e] at h ⊢
      exact R.fr.h b u (show upd B.H0 L o b = some u by rw [upd_ne e]; exact h) hb
  · have h : upd B.H0 L o' b = some u := h
    by_cases e : b = L
    · subst e; exact sL
    · rw [upd_ne e] at h
      exact R.fr.no b u (show upd B.H0 L o b = some u by rw [upd_ne e]; exact h) n
  · obtain ⟨u, q⟩ := R.fr.pa a e
    have ne : a ≠ L := fun z => by subst z; exact hpa e
    exact ⟨u, by rw [upd_ne ne]; exact q⟩
  · have hp := R.pen
    cases hpe : δ.pen with
    | none => trivial
    | some ac =>
      obtain ⟨a, c⟩ := ac
      rw [hpe] at hp
      have ne : a ≠ L := fun z => R.pen_ne (p := L) hpa ⟨_, upd_same⟩ c (by rw [hpe, z])
      obtain ⟨n, ca, ns, k, m, r1, r2, r3⟩ := hp
      exact ⟨n, ca, ns, k, m, by rw [upd_ne ne]; exact r1, r2, r3⟩
  · have q := a1 i x e
    cases x with
    | un => exact q
    | dat d => exact q
    | own ds =>
      obtain ⟨a, vs, p1, n1, n2, p2, p3, p4⟩ := q
      have ne := Lh a (.inl n1)
      have n1 : upd B.H0 L o a = none := n1
      rw [upd_ne ne] at n1
      exact ⟨a, vs, p1, by show upd B.H0 L o' a = none; rw [upd_ne ne]; exact n1, n2, p2, by rw [upd_ne ne]; exact p3, p4⟩
    | hp ds =>
      obtain ⟨a, vs, p1, n2, p2, p3, p4⟩ := q
      exact ⟨a, vs, p1, n2, p2, by rw [upd_ne (Lh a (.inr n2))]; exact p3, p4⟩
    | ownK ds =>
      obtain ⟨a, vs, p1, n1, n2, p2, p3, p4⟩ := q
      have ne := Lh a (.inl n1)
      have n1 : upd B.H0 L o a = none := n1
      rw [upd_ne ne] at n1
      exact ⟨a, vs, p1, by show upd B.H0 L o' a = none; rw [upd_ne ne]; exact n1, n2, p2, by rw [upd_ne ne]; exact p3, p4⟩
    | ownT ds =>
      obtain ⟨a, vs, p1, n1, n2, p2, p3, p4⟩ := q
      have ne := Lh a (.inl n1)
      have n1 : upd B.H0 L o a = none := n1
      rw [upd_ne ne] at n1
      exact ⟨a, vs, p1, by show upd B.H0 L o' a = none; rw [upd_ne ne]; exact n1, n2, p2, by rw [upd_ne ne]; exact p3, p4⟩
  · obtain ⟨r1, r2, r3, u, r4⟩ := a4 i a e
    have ne := Lh a r2
    refine ⟨r1, r2.imp (fun q => ?_) id, r3, u, by rw [upd_ne ne]; exact r4⟩
    have q : upd B.H0 L o a = none := q
    rw [upd_ne ne] at q
    show upd B.H0 L o' a = none
    rw [upd_ne ne]; exact q
def hide (H : Hp) (L : Addr) : Hp := fun b => if b = L then none else H b
theorem hide_same {H : Hp} {L : Addr} : hide H L L = none := if_pos rfl
/-- .. and taken as fresh again -/
theorem Rel.unwith {L : Addr} {o : HO} (R : Rel K (B.with L o) δ S σ H) (hB : B.H0 L = none) (hpa : B.pa ≠ some L) (sL : S L = none) : Rel K B δ S σ (hide H L) ∧ H L = some o ∧ H = upd (hide H L) L o := by
  have hL : H L = some o := R.fr.h L o upd_same hpa
  have er : ∀ a, a ≠ L → hide H L a = H a := fun a ne => if_neg ne
  obtain ⟨ow0, a1, a2, a3, a4⟩ := R.sl
  have Lh : ∀ a, (B.with L o).H0 a = none ∨ (B.with L o).pa = some a → a ≠ L := fun a h e => by
    subst e
    rcases h with h | h
    · have h : upd B.H0 a o a = none := h
      rw [upd_same] at h; cases h
    · exact hpa h
  refine ⟨⟨⟨fun a u h => ?_, fun b vs h => by
    by_cases q : b = L
    · rw [q, hide_same] at h; cases h
    · rw [er b q] at h; exact R.ex.tp b vs h⟩, ⟨R.fr.s, fun b u h hb => ?_, fun b u h n => ?_, fun a e => ?_⟩, ?_, R.pa.un hB, R.len, ow0, fun i x e => ?_, a2, a3, fun i a e => ?_⟩, hL, ?_⟩
  · have ne : a ≠ L := fun e => by rw [e, sL] at h; cases h
    rw [er a ne]; exact R.ex a u h
  · have ne : b ≠ L := fun e => by rw [e, hB] at h; cases h
    rw [er b ne]
    exact R.fr.h b u (show upd B.H0 L o b = some u by rw [upd_ne ne]; exact h) hb
  · have ne : b ≠ L := fun e => by rw [e, hB] at h; cases h
    exact R.fr.no b u (show upd B.H0 L o b = some u by rw [upd_ne ne]; exact h) n
  · obtain ⟨u, q⟩ := R.fr.pa a e
    have ne : a ≠ L := fun z => by subst z; exact hpa e
    exact ⟨u, by rw [er a ne]; exact q⟩
  · have hp := R.pen
    cases hpe : δ.pen with
    | none => trivial
    | some ac =>
      obtain ⟨a, c⟩ := ac
      rw [hpe] at hp
      have ne : a ≠ L := fun z => R.pen_ne (p := L) hpa ⟨_, upd_same⟩ c (by rw [hpe, z])
      obtain ⟨n, ca, ns, k, m, r1, r2, r3⟩ := hp
      exact ⟨n, ca, ns, k, m, by rw [er a ne]; exact r1, r2, r3⟩
  · have q := a1 i x e
    cases x with
    | un => exact q
    | dat d => exact q
    | own ds =>
      obtain ⟨a, vs, p1, n1, n2, p2, p3, p4⟩ := q
      have ne := Lh a (.inl n1)
      have n1 : upd B.H0 L o a = none := n1
      rw [upd_ne ne] at n1
      exact ⟨a, vs, p1, n1, n2, p2, by rw [er a ne]; exact p3, p4⟩
    | hp ds =>
      obtain ⟨a, vs, p1, n2, p2, p3, p4⟩ := q
      exact ⟨a, vs, p1, n2, p2, by rw [er a (Lh a (.inr n2))]; exact p3, p4⟩
    | ownK ds =>
      obtain ⟨a, vs, p1, n1, n2, p2, p3, p4⟩ := q
      have ne := Lh a (.inl n1)
      have n1 : upd B.H0 L o a = none := n1
      rw [upd_ne ne] at n1
      exact ⟨a, vs, p1, n1, n2, p2, by rw [er a ne]; exact p3, p4⟩
    | ownT ds =>
      obtain ⟨a, vs, p1, n1, n2, p2, p3, p4⟩ := q
      have ne := Lh a (.inl n1)
      have n1 : upd B.H0 L o a = none := n1
      rw [upd_ne ne] at n1
      exact ⟨a, vs, p1, n1, n2, p2, by rw [er a ne]; exact p3, p4⟩
  · obtain ⟨r1, r2, r3, u, r4⟩ := a4 i a e
    have ne := Lh a r2
    refine ⟨r1, r2.imp (fun q => ?_) id, r3, u, by rw [er a ne]; exact r4⟩
    have q : upd B.H0 L o a = none := q
    rw [upd_ne ne] at q
    exact q
  · funext b
    by_cases e : b = L
    · subst e; rw [upd_same]; exact hL
    · rw [upd_ne e]; exact (er b e).symm
end
end Ev

namespace Ev
open PySem PySem.Spec PyProof.Rows L2
variable {K : PySem.W.Frag} {S S' H H' : Hp} {B : Bs} {δ : DS} {σ : L2.St}
section
variable {X : Cx} {E E2 : EK} {e a b c tg : Expr} {es : List Expr} {pos : Pos} {st : Stmt} {rest : List Stmt} {da db : dE} {t u : dS}
def W0 : XW := fun _ _ => False
structure DTs (X : Cx) (E : EK) (ifs : List Expr) (d : dT) : Prop where
  run : ∀ B, PTs X ifs (liftT X.K B E d)
theorem pts_mono {ifs : List Expr} {t t' : TT} (h : PTs X ifs t) (m : ∀ σ H Q, t' σ H Q → t σ H Q) : PTs X ifs t' := ⟨fun pins s σ H Q I q => h.run pins s σ H Q I (m _ _ _ q)⟩
def dYes : dT := fun _ δ Q => Q true δ
theorem dts_nil : DTs X E [] dYes := ⟨fun B => pts_mono pts_nil fun σ H Q q => by
  obtain ⟨δ, S, W, Q', R, q, xo, post⟩ := q
  exact post _ _ _ _ q (Ex.refl _) R⟩
theorem dts_one {d : dT} (h : DT X E c d) : DTs X E [c] d := ⟨fun B => pts_one (h.run B)⟩
def wLC (g : dG) (tt : dT) (te : dE) (vs : List Nat) (Q : List D → DS → Prop) : List D → List D → DS → Prop
  | [], acc, δ => Q acc δ
  | d :: ds, acc, δ => g d δ fun δ1 => tt W0 δ1 fun k δ2 => match k with
    | true => te W0 δ2 fun y δ3 => acc.length < sizeLine ∧ wLC g tt te vs Q ds (acc ++ [y]) (wipeD δ3 vs)
    | false => wLC g tt te vs Q ds acc (wipeD δ2 vs)
def dLC (w : dI) (g : dG) (tt : dT) (te : dE) (vs : List Nat) : dF := fun W δ Q => w W δ fun ds δ1 => wLC g tt te vs Q ds [] (wipeD δ1 vs)
def exG (K : PySem.W.Frag) (g : dG) (ws : List Nat) : TG := fun v σ H Q => ∃ B, liftG K B g ws v σ H Q
def exT (K : PySem.W.Frag) (E : EK) (d : dT) : TT := fun σ H Q => ∃ B, liftT K B E d σ H Q
def exE (K : PySem.W.Frag) (E : EK) (d : dE) : TE := fun σ H Q => ∃ B, liftE K B E d σ H Q
theorem exG_ok {g : dG} {ws : List Nat} (h : DG X tg g ws) : PG X tg (exG X.K g ws) := ⟨fun pins s σ H v u Q I r ⟨B, q⟩ => (h.run B).run pins s σ H v u Q I r q⟩
theorem exT_ok {ifs : List Expr} {d : dT} (h : DTs X E ifs d) : PTs X ifs (exT X.K E d) := ⟨fun pins s σ H Q I ⟨B, q⟩ => (h.run B).run pins s σ H Q I q⟩
theorem exE_ok {d : dE} (h : DE X E e d) : PE X e (exE X.K E d) := ⟨fun pins s σ H Q I ⟨B, q⟩ => (h.run B).run pins s σ H Q I q⟩
theorem xok0 : XOk K B E W0 S := fun _ _ _ _ _ _ _ h => h.elim
theorem wiped_len {δ : DS} {vs : List Nat} : True := trivial
theorem lc_read {w : dI} {g : dG} {tt : dT} {te : dE} {vs ws : List Nat} {W : XW} {Qd : List D → DS → Prop} {δ : DS} {Q : VK} (hws : ∀ i ∈ ws, i ∈ vs) (R : Rel K B δ S σ H) (q : dLC w g tt te vs W δ Qd) (xo : XOk K B E W S)
    (post : ∀ xs δ' p vs' S' H', Qd xs δ' → Ex S S' → Rel K B δ' S' σ H' → H' p = none → DnA K S' vs' xs → Q (.ref p) (upd H' p (.lst vs'))) : tLc (liftI K B E w) (exG K g ws) (exT K E2 tt) (exE K E2 te) vs σ H Q := by
  refine ⟨δ, S, W, _, R, q, xo, fun ds δ1 S1 H1 J q1 e1 R1 it1 => ?_⟩
  intro L hL
  obtain ⟨f1, f2⟩ := R1.fr.fresh hL
  have s1L : S1 L = none := R1.ex.none hL
  have Ln : ∀ {δ S2 σ2 H2 o}, Rel K (B.with L o) δ S2 σ2 H2 → S2 L = none := fun {δ S2 σ2 H2 o} R2 => R2.fr.no L o upd_same (R1.fr.s.none s1L)
  let Inv : Nat → Hp → Prop := fun i H2 => ∃ δ2 S2 acc vacc, Ex S1 S2 ∧ Rel K (B.with L (.lst vacc)) δ2 S2 (L2.wipe σ vs) H2 ∧ DnA K S2 vacc acc ∧ wLC g tt te vs Qd (ds.drop i) acc δ2 ∧ (∀ j ∈ vs, j < δ2.sl.length → δ2.sl[j]? = some .un)
  refine ⟨fun i m H2 => m = ds.length - i ∧ i ≤ ds.length ∧ Inv i H2, ⟨_, rfl, Nat.zero_le _, ?_⟩, ?_⟩
  · refine ⟨wipeD δ1 vs, S1, [], [], Ex.refl _, (R1.with_ hL (fun vs z => HO.noConfusion z)).wipe vs, .nil, q1, fun j hj hl => wipeD_un δ1 hj (by rw [wipeD_len] at hl; exact hl)⟩
  · rintro i m H2 ⟨rfl, hi, δ2, S2, acc, vacc, e2, R2, nacc, q2, hun⟩
    by_cases hlt : i < ds.length
    · refine .inr ⟨it1.goes i S2 H2 e2 R2.ex hlt, fun H' => i + 1 ≤ ds.length ∧ Inv (i + 1) H', fun H' h => ⟨ds.length - (i + 1), by omega, rfl, h⟩, fun x H3 y => ?_⟩
      obtain ⟨S3, d, g3, ed, dn⟩ := it1.yields i S2 H2 x H3 e2 R2.ex hlt y
      have hd : ds.drop i = d :: ds.drop (i + 1) := by
        obtain ⟨h1, h2⟩ := List.getElem?_eq_some_iff.mp ed
        rw [List.drop_eq_getElem_cons h1, h2]
      rw [hd] at q2
      refine ⟨B.with L (.lst vacc), δ2, S3, d, _, R2.grow g3, dn, q2, fun δ4 σ4 S4 H4 q4 e4 R4 a4 l4 => ?_⟩
      have hw : L2.wipe σ4 vs = L2.wipe σ vs := wipe_agree (l4.trans (wipe_length σ vs)) (fun j hj => by rw [a4 j (fun z => hj (hws j z)), wipe_notin hj]) (fun _ h => h)
      refine ⟨hw, B.with L (.lst vacc), δ4, S4, W0, _, R4, q4, xok0, fun k δ5 S5 H5 q5 e5 R5 => ?_⟩
      cases k with
      | true =>
        refine iteT ⟨B.with L (.lst vacc), δ5, S5, W0, _, R5, q5, xok0, fun y δ6 v S6 H6 q6 e6 R6 n6 => ?_⟩
        have l6 := Ln R6
        refine ⟨vacc, R6.fr.h L _ upd_same f2, ?_, hlt, wipeD δ6 vs, S6, acc ++ [y], vacc ++ [v], ?_, ?_, ?_, q6.2, fun j hj hl => wipeD_un δ6 hj (by rw [wipeD_len] at hl; exact hl)⟩
        · rw [nacc.length]; exact q6.1
        · exact e2.trans (g3.s.trans (e4.trans (e5.trans e6)))
        · have := (R6.with_upd (o' := .lst (vacc ++ [v])) f1 f2 l6 (fun vs z => HO.noConfusion z)).wipe vs
          rw [hw] at this
          exact this
        · exact (nacc.mono (g3.s.trans (e4.trans (e5.trans e6)))).append (.cons n6 .nil)
      | false =>
        refine iteF ⟨hlt, wipeD δ5 vs, S5, acc, vacc, e2.trans (g3.s.trans (e4.trans e5)), ?_, nacc.mono (g3.s.trans (e4.trans e5)), q5, fun j hj hl => wipeD_un δ5 hj (by rw [wipeD_len] at hl; exact hl)⟩
        have := R5.wipe vs
        rw [hw] at this
        exact this
    · have e : i = ds.length := by omega
      subst e
      rw [List.drop_length] at q2
      refine .inl ⟨it1.stops S2 H2 e2 R2.ex, ?_⟩
      have l2 := Ln R2
      obtain ⟨R3, _, eH⟩ := R2.unwith f1 f2 l2
      rw [eH]
      have hl : σ.length = (L2.wipe σ vs).length := (wipe_length σ vs).symm
      refine post acc δ2 L vacc S2 _ q2 (e1.trans e2) (R3.agree hl fun j => ?_) hide_same nacc
      by_cases hj : j ∈ vs
      · by_cases hk : j < δ2.sl.length
        · exact .inr (hun j hj hk)
        · left
          have h1 : σ.length ≤ j := by rw [hl, R3.len]; omega
          rw [List.getElem?_eq_none h1, List.getElem?_eq_none (by rw [wipe_length]; exact h1)]
      · exact .inl (wipe_notin hj).symm
/-- [elt for target in iter if ..] -/
theorem df_lc {elt iter : Expr} {ifs : List Expr} {scope : Scope} {own : List (Str × Nat)} {w : dI} {g : dG} {tt : dT} {te : dE} {ws : List Nat} (hc : X.calm = true) (hN : X.N.Nodup) (hi : DI X E tg iter w) (ok : BlkOk X.N X.env.scope scope own) (hws : ∀ i ∈ ws, i ∈ own.map (·.2))
    (hg : ∀ (s : Shared) (H : Hp) (C : Addr) (cl : List (Str × Addr)) (fp : List Addr), DG (X.blk s H scope (compEnvC scope cl C X.env) fp) tg g ws) (ht : ∀ (s : Shared) (H : Hp) (C : Addr) (cl : List (Str × Addr)) (fp : List Addr), DTs (X.blk s H scope (compEnvC scope cl C X.env) fp) E2 ifs tt)
    (he : ∀ (s : Shared) (H : Hp) (C : Addr) (cl : List (Str × Addr)) (fp : List Addr), DE (X.blk s H scope (compEnvC scope cl C X.env) fp) E2 elt te) (hs : ∀ x, foldedSetIterable iter X.env x = pure x := by intro _; rfl) :
    DF X E (.ListComp elt [⟨tg, iter, ifs, 0⟩] scope pos) (dLC w g tt te (own.map (·.2))) := ⟨fun B => pe_mono (pe_lc hc hN (hi.run B) ok (fun s H C cl fp => exG_ok (hg s H C cl fp)) (fun s H C cl fp => exT_ok (E := E2) (ht s H C cl fp)) (fun s H C cl fp => exE_ok (E := E2) (he s H C cl fp)) hs) fun σ H Q q => by
  obtain ⟨δ, S, W, Q', R, q, xo, post⟩ := q
  exact lc_read (E2 := E2) hws R q xo post⟩
/-- name = [..] in one line -/
theorem ds_setLc {i : Nat} {y : Str} {py spos : Pos} {elt iter : Expr} {ifs : List Expr} {scope : Scope} {own : List (Str × Nat)} {w : dI} {g : dG} {tt : dT} {te : dE} {ws : List Nat} (hc : X.calm = true) (hN : X.N.Nodup) (hy : X.N[i]? = some y) (hyl : X.env.scope.names.lookup y = some .local)
    (hsw : swapsWith (.ListComp elt [⟨tg, iter, ifs, 0⟩] scope pos) (some (.Name y py)) spos.line X.env = pure true) (hi : DI X E tg iter w) (ok : BlkOk X.N X.env.scope scope own) (hws : ∀ i ∈ ws, i ∈ own.map (·.2))
    (hg : ∀ (s : Shared) (H : Hp) (C : Addr) (cl : List (Str × Addr)) (fp : List Addr), DG (X.blk s H scope (compEnvC scope cl C X.env) fp) tg g ws) (ht : ∀ (s : Shared) (H : Hp) (C : Addr) (cl : List (Str × Addr)) (fp : List Addr), DTs (X.blk s H scope (compEnvC scope cl C X.env) fp) E2 ifs tt)
    (he : ∀ (s : Shared) (H : Hp) (C : Addr) (cl : List (Str × Addr)) (fp : List Addr), DE (X.blk s H scope (compEnvC scope cl C X.env) fp) E2 elt te) (hs : ∀ x, foldedSetIterable iter X.env x = pure x := by intro _; rfl) :
    DSt X E (.Assign [.Name y py] (.ListComp elt [⟨tg, iter, ifs, 0⟩] scope pos) spos) (dSetF i (dLC w g tt te (own.map (·.2)))) := ⟨fun B => ps_mono (ps_setLc hc hN hy hyl hsw (hi.run B) ok (fun s H C cl fp => exG_ok (hg s H C cl fp)) (fun s H C cl fp => exT_ok (E := E2) (ht s H C cl fp)) (fun s H C cl fp => exE_ok (E := E2) (he s H C cl fp)) hs) fun Z σ H q => by
  obtain ⟨δ, S, W, N, R, q, xo, p1, _⟩ := q
  exact lc_read (E2 := E2) hws R q xo fun xs δ' p vs' S' H' q1 e1 R1 hp n1 => p1 _ _ _ _ q1 e1 (R1.setOwn hp n1)⟩
end
end Ev

/-! # Promises that also know that no repr is under way (A.guards = some []) -/
namespace Ev
open PySem PySem.Spec PyProof.Rows L2
/-- a promise of a def, wherever no repr is under way -/
structure FnG (P : Program) (w : World) (K : PySem.W.Frag) (mg : Str → Option Value) (base : Heap) (CX : CXT) (k : Nat) (f : Addr) (fd : FuncData) (ps : List Str) (sp : Sp) : Prop where
  len : ∀ vs H Q E, sp vs H Q E → vs.length = ps.length
  run : ∀ (A : Around) (out : List Env) (s : Shared) (H : Hp) (ar : Args) (us : List Value) (vs : List V) (Q : VK) (E : XK), A.guards = some [] → Room k A → Env0 P w K mg base A out s H →
    BindsTo s fd ar (ps.zip us) → Vals vs us → sp vs H Q E → codeAny (model P w) A (.call (.ref f) ar) (CR CX out P w H s Q E) s
theorem FnG.mono {P : Program} {w : World} {K : PySem.W.Frag} {mg : Str → Option Value} {base : Heap} {CX : CXT} {j k : Nat} {f : Addr} {fd : FuncData} {ps : List Str} {sp : Sp} (F : FnG P w K mg base CX j f fd ps sp) (h : j ≤ k) : FnG P w K mg base CX k f fd ps sp :=
  ⟨F.len, fun A out s H ar us vs Q E g r => F.run A out s H ar us vs Q E g (r.mono h)⟩
theorem FnG.imp {P : Program} {w : World} {K : PySem.W.Frag} {mg : Str → Option Value} {base : Heap} {CX : CXT} {k : Nat} {f : Addr} {fd : FuncData} {ps : List Str} {sp sp' : Sp} (F : FnG P w K mg base CX k f fd ps sp)
    (h : ∀ vs H Q E, sp' vs H Q E → sp vs H Q E) : FnG P w K mg base CX k f fd ps sp' :=
  ⟨fun vs H Q E q => F.len vs H Q E (h _ _ _ _ q), fun A out s H ar us vs Q E g r e b v q => F.run A out s H ar us vs Q E g r e b v (h _ _ _ _ q)⟩
section
variable {X : Cx} {CX : CXT} {k : Nat} {f : Addr} {fd : FuncData} {ps : List Str} {sp : Sp} {E : L2.St → XK}
/-- a callee runs, its arguments bound somehow -/
theorem run_g {pins : List (Addr × Obj)} {σ : L2.St} {H : Hp} {s : Shared} {Q : VK} {ar : Args} {us : List Value} {vs : List V} (F : FnG X.prog X.w X.K X.mg X.base CX k f fd ps sp) (hg : X.A.guards = some []) (hr : Room k X.A)
    (hx : PassesAt CX X σ (E σ)) (I : Inv X pins σ H s) (hb : BindsTo s fd ar (ps.zip us)) (r : Vals vs us) (h : sp vs H Q (E σ)) : codeAny (model X.prog X.w) X.A (.call (.ref f) ar) (callEnd (EP X pins σ Q) X.xe) s := by
  refine codeAny_mono (F.run X.A X.stack s H ar us vs Q (E σ) hg hr I.env0 hb r h) fun res s' hq => ?_
  match res, hq with
  | .error e, hq => exact hx pins H s e s' I hq
  | .ok (.ret u), hq => exact I.after hq
def tG (sp : Sp) (dv : List V) (E : L2.St → XK) (t : TA) : TE := fun σ H Q => t σ H fun vs H1 => sp (vs ++ dv) H1 Q (E σ)
theorem pe_callG {x : Str} {p pos : Pos} {e : Expr} {es : List Expr} {t : TA} {dv : List V} {ds : List Value} (F : FnG X.prog X.w X.K X.mg X.base CX k f fd ps sp) (hg : X.A.guards = some []) (hr : Room k X.A) (gl : Gl X x) (hm : X.mg x = some (.ref f))
    (hk : PySem.W.keepIn X.K (.ref f) = true) (hb : Binds X.K fd ps ds) (hd : Vals dv ds) (hx : ∀ σ, PassesAt CX X σ (E σ)) (ha : PA X (e :: es) t) (hdb : (x == ("__debug__" : Str)) = false := by decide)
    (he : starEach (e :: es) X.env = (false, eval e X.env) :: starEach es X.env := by rfl) (hpl : (backTo pos (starEach es X.env)).any (·.1) = false := by rfl) : PE X (.Call (.Name x p) (e :: es) [] pos) (tG sp dv E t) := by
  refine ⟨fun pins s σ H Q I h => wpAny_Call_Name_kw (ld_glob I gl hm ?_ hdb)⟩
  refine PySem.W.callWith_K (h₀ := X.base) I.ok.mod.kin hk (thn (ha.run pos pins s σ H _ I h) fun us s1 ⟨vs, H1, I1, r, q⟩ => ⟨I1.kIn, ?_⟩) he hpl
  have rr : Vals (vs ++ dv) (us ++ ds) := r.append hd
  have ln : (us ++ ds).length = ps.length := by rw [← rr.length]; exact F.len _ _ _ _ q
  exact wpAny_call (run_g F hg hr (hx σ) I1 (hb s1 us I1.kIn ln) rr q)
theorem pe_callG0 {x : Str} {p pos : Pos} {dv : List V} {ds : List Value} (F : FnG X.prog X.w X.K X.mg X.base CX k f fd ps sp) (hg : X.A.guards = some []) (hr : Room k X.A) (gl : Gl X x) (hm : X.mg x = some (.ref f))
    (hk : PySem.W.keepIn X.K (.ref f) = true) (hb : Binds X.K fd ps ds) (hd : Vals dv ds) (hx : ∀ σ, PassesAt CX X σ (E σ)) (hdb : (x == ("__debug__" : Str)) = false := by decide) : PE X (.Call (.Name x p) [] [] pos) (tG sp dv E tNil) := by
  refine ⟨fun pins s σ H Q I h => wpAny_Call_Name_kw (ld_glob I gl hm ?_ hdb)⟩
  have q : sp ([] ++ dv) H Q (E σ) := h
  have ln : (([] : List Value) ++ ds).length = ps.length := by rw [List.nil_append, ← hd.length]; exact F.len _ _ _ _ q
  exact PySem.W.callWith_K0 I.kIn hk (wpAny_call (run_g F hg hr (hx σ) I (hb s [] I.kIn ln) hd q))
def tGK (sp : Sp) (gV : List V → List V → List V) (E : L2.St → XK) (t tk : TA) : TE := fun σ H Q => t σ H fun vs H1 => tk σ H1 fun zs H2 => sp (gV vs zs) H2 Q (E σ)
theorem pe_callGK {x : Str} {p pos : Pos} {e : Expr} {es : List Expr} {kws : List Keyword} {ks : List Str} {t tk : TA} {g : List Value → List Value → List Value} {gV : List V → List V → List V} (F : FnG X.prog X.w X.K X.mg X.base CX k f fd ps sp) (hg : X.A.guards = some []) (hr : Room k X.A)
    (gl : Gl X x) (hm : X.mg x = some (.ref f)) (hk : PySem.W.keepIn X.K (.ref f) = true) (hb : KBinds X.K fd ps ks g gV) (hx : ∀ σ, PassesAt CX X σ (E σ)) (ha : PA X (e :: es) t) (hkw : PK X kws tk) (hall : (backToKw pos (keywordEach kws X.env)).all (·.1.isSome) = true := by rfl)
    (hks : (backToKw pos (keywordEach kws X.env)).filterMap (·.1) = ks := by rfl) (hdb : (x == ("__debug__" : Str)) = false := by decide) (he : starEach (e :: es) X.env = (false, eval e X.env) :: starEach es X.env := by rfl)
    (hpl : ((backTo pos (starEach (e :: es) X.env)).any (·.1) || (backToKw pos (keywordEach kws X.env)).any (·.1.isNone)) = false := by rfl) : PE X (.Call (.Name x p) (e :: es) kws pos) (tGK sp gV E t tk) := by
  refine ⟨fun pins s σ H Q I h => wpAny_Call_Name_kw (ld_glob I gl hm ?_ hdb)⟩
  refine PySem.W.callWith_KW (h₀ := X.base) I.ok.mod.kin hk hall (thn (ha.run pos pins s σ H _ I h) fun us s1 ⟨vs, H1, I1, r, q⟩ => ?_) hpl he
  refine thn (hkw.run pos pins s1 σ H1 _ I1 q) fun ws s2 ⟨zs, H2, I2, rz, q2⟩ => ⟨I2.kIn, ?_⟩
  rw [hks]
  have rr := hb.rel r rz
  have ln : (g us ws).length = ps.length := by rw [← rr.length]; exact F.len _ _ _ _ q2
  exact wpAny_call (run_g F hg hr (hx σ) I2 (hb.to s2 us ws I2.kIn ln) rr q2)
theorem pe_callGK0 {x : Str} {p pos : Pos} {kws : List Keyword} {ks : List Str} {tk : TA} {g : List Value → List Value → List Value} {gV : List V → List V → List V} (F : FnG X.prog X.w X.K X.mg X.base CX k f fd ps sp) (hg : X.A.guards = some []) (hr : Room k X.A)
    (gl : Gl X x) (hm : X.mg x = some (.ref f)) (hk : PySem.W.keepIn X.K (.ref f) = true) (hb : KBinds X.K fd ps ks g gV) (hx : ∀ σ, PassesAt CX X σ (E σ)) (hkw : PK X kws tk) (hall : (backToKw pos (keywordEach kws X.env)).all (·.1.isSome) = true := by rfl)
    (hks : (backToKw pos (keywordEach kws X.env)).filterMap (·.1) = ks := by rfl) (hdb : (x == ("__debug__" : Str)) = false := by decide)
    (hpl : ((backTo pos (starEach [] X.env)).any (·.1) || (backToKw pos (keywordEach kws X.env)).any (·.1.isNone)) = false := by rfl) : PE X (.Call (.Name x p) [] kws pos) (tGK sp gV E tNil tk) := by
  refine ⟨fun pins s σ H Q I h => wpAny_Call_Name_kw (ld_glob I gl hm ?_ hdb)⟩
  refine PySem.W.callWith_KW0 (h₀ := X.base) I.ok.mod.kin hk hall ?_ hpl
  refine thn (hkw.run pos pins s σ H _ I h) fun ws s2 ⟨zs, H2, I2, rz, q2⟩ => ⟨I2.kIn, ?_⟩
  rw [hks]
  have rr := hb.rel (vs := []) (us := []) .nil rz
  have ln : (g [] ws).length = ps.length := by rw [← rr.length]; exact F.len _ _ _ _ q2
  exact wpAny_call (run_g F hg hr (hx σ) I2 (hb.to s2 [] ws I2.kIn ln) rr q2)
end
/-- THE RULE for a def, by its body -/
theorem fn_g {CX : CXT} {P : Program} {w : World} {K : PySem.W.Frag} {mg : Str → Option Value} {base : Heap} {k : Nat} {f : Addr} {x qual : Str} {st : Stmt} {fd : FuncData} {N ps : List Str} {sp : Sp} (F : Fun K x qual st f fd) (S : FnScope N ps (defScope st))
    (len : ∀ vs H Q E, sp vs H Q E → vs.length = ps.length)
    (body : ∀ (cdv : Value) (A : Around) (out : List Env) (s : Shared) (H : Hp) (vs : List V) (Q : VK) (E : XK), A.guards = some [] → Room k (A.deeper (envOfC qual (defScope st) s.heap.objs.size f cdv)) → sp vs H Q E →
      ∃ t, PSs (cxOf CX P w K mg base N qual (defScope st) f cdv A out s H E) (defBody st) t ∧ t { nx := fun _ H' => Q .non H', rt := Q } (start N vs) H) : FnG P w K mg base CX (k + 1) f fd ps sp := by
  obtain ⟨oc, od, kV, doc, pm, an, cdv, ct, osl, rfl, lk, hcd⟩ := F.ex
  refine ⟨len, fun A out s H ar us vs Q E g hr e0 hb r hsp => ?_⟩
  have old : ∀ b o, base.get? b = some o → s.heap.get? b = some o := fun b o e => (e0.bs b o e).1
  have KX : K.In s.heap := e0.mod.kin.keeps old
  refine codeAny_call_function hr.depth (KX _ _ lk) rfl S.co S.gen rfl (PySem.W.codeRec_of KX hcd) (hb _ _ _ _ ?_)
  refine wpAny_newFunctionEnv_cells S.kind (fun y hy => (S.par y.1 (List.of_mem_zip (show (y.1, y.2) ∈ _ from hy)).1).imp id fun q => ⟨q, PySem.W.cellsFrom_some _ _ _ (.inl q)⟩) fun env he s1 z => ?_
  subst he
  refine ⟨(e0.mod.nolimit.keeps old).keeps z.toInCall.keep, codeAny_func ?_⟩
  obtain ⟨t, ht, hq⟩ := body cdv A out s H vs Q E g (hr.deeper _) hsp
  refine wpAny_mono (ht.run [] s1 (start N vs) H _ (inv_start S hr.hd e0 (len _ _ _ _ hsp) r z) hq) (fun fl s' hs => ?_) fun _ _ h => h
  match fl, hs with
  | .ret u, ⟨v, _, H', J, rv, q⟩ => exact ⟨v, H', J.os, J.bare, J.base, J.hok, rv, q⟩
  | .next, ⟨_, H', J, q⟩ => exact ⟨.non, H', J.os, J.bare, J.base, J.hok, rfl, q⟩
  | .brk, ⟨_, _, _, q⟩ => exact q.elim
  | .cont, ⟨_, _, _, q⟩ => exact q.elim

/-! ### the law's call -/
theorem law_g {P : Program} {w : World} {K : PySem.W.Frag} {mg mb : Str → Option Value} {CX : CXT} {k : Nat} {fa a : Addr} {fd : FuncData} {x : Str} {sp : Sp} {s : Shared} {vs : List Value} {ns : List Int} (KX : K.In s.heap) (hns : s.heap.Ns mainGlobals mg) (hb : s.heap.Ns builtinsNs mb)
    (hbb : ∀ x : Str, x ≠ "__name__" → mb x = bootBuiltins x) (hlim : s.heap.NoLimit) (hg : s.gens = #[]) (ha : s.heap.get? a = some { cls := .type "list", data := .seq vs.toArray }) (hi : IntsAre vs ns) (hl : ns.length ≤ sizeLine) (hr : Room k callerA)
    (F : ∀ base : Heap, K.In base → base.Ns mainGlobals mg → FnG P w K mg base CX k fa fd [x] sp) (hbind : ∀ (s : Shared) (u : Value), BindsTo s fd ⟨[u], []⟩ [(x, u)])
    (hsp : ∀ H : Hp, SqL K H a (ns.map V.int) → sp [.ref a] H (fun v _ => v = .bl true) fun _ _ _ => False) (hCX : ∀ H e s', CX [] H s (fun _ _ _ => False) e s' → False) :
    codeAny (model P w) callerA (.call (.ref fa) ⟨[.ref a], []⟩) (fun r s' => r = .ok (.ret (.bool true)) ∧ OldK s.heap s'.heap ∧ s'.os = s.os ∧ AllBare s'.gens) s := by
  have rv := vals_ints hi
  -- H knows at most the script, locked
  have core : ∀ H : Hp, (∀ b u, H b = some u → b = a ∧ K.lookup a = none ∧ u = .frz { cls := .type "list", data := .seq vs.toArray } (.lst (ns.map V.int))) → SqL K H a (ns.map V.int) →
      codeAny (model P w) callerA (.call (.ref fa) ⟨[.ref a], []⟩) (fun r s' => r = .ok (.ret (.bool true)) ∧ OldK s.heap s'.heap ∧ s'.os = s.os ∧ AllBare s'.gens) s := by
    intro H hH hS
    have ok : HOk P w H s.heap := fun b u e => by
      obtain ⟨rfl, _, rfl⟩ := hH b u e
      exact ⟨ha, by rw [List.length_map]; exact hl, vs, _, rv, ha⟩
    have free : ∀ {b : Addr} {o : Obj}, s.heap.get? b = some o → (∀ es ep, o.data = .dict es ep → H b = none) := fun {b o} e es ep d => by
      cases q : H b with
      | none => rfl
      | some u =>
        obtain ⟨rfl, _, _⟩ := hH b u q
        rw [ha] at e; cases e; cases (show Data.seq vs.toArray _ = Data.dict es ep from d)
    have ns_of : ∀ {b : Addr} {m : Str → Option Value}, s.heap.Ns b m → (hidT s.heap H).Ns b m := fun ⟨o, es, ep, e, d, r⟩ => ⟨o, es, ep, hidT_get e (free e es ep d), d, r⟩
    have kin : K.In (hidT s.heap H) := fun b o e => hidT_get (KX b o e) (by
      cases q : H b with
      | none => rfl
      | some u => obtain ⟨rfl, z, _⟩ := hH b u q; rw [z] at e; cases e)
    obtain ⟨mc, l1, l2⟩ := hlim
    have e0 : Env0 P w K mg (hidT s.heap H) callerA [] s H := ⟨rfl, ⟨kin, ns_of hns, ⟨mb, ns_of hb, hbb⟩, ⟨mc, ns_of l1, l2⟩⟩, fun b o e => of_hidT e, Nat.le_of_eq (hidT_size _ _), trivial, fun b z => (List.not_mem_nil z).elim, ok, .of_eq hg⟩
    refine codeAny_mono ((F _ kin (ns_of hns)).run callerA [] s H ⟨[.ref a], []⟩ [.ref a] [.ref a] _ _ rfl hr e0 (hbind s (.ref a)) (.cons rfl .nil) (hsp H hS)) fun r s' h => ?_
    match r, h with
    | .error e, h => exact (hCX H e s' h).elim
    | .ok (.ret u), ⟨v, H', os, bare, un, ok', rr, q⟩ =>
      subst q
      cases (show u = Value.bool true from rr)
      refine ⟨rfl, OldK.of_keep fun b o e => ?_, os, bare⟩
      cases q : H b with
      | none => exact un.keep b o e q (fun z => (List.not_mem_nil z).elim) (fun z => (List.not_mem_nil z).elim)
      | some u =>
        obtain ⟨rfl, _, rfl⟩ := hH b u q
        have e2 := (ok' b _ (un.frzs b _ _ q)).1
        rw [ha] at e; cases e
        exact e2
  cases hk : K.lookup a with
  | some o =>
    have e := KX a o hk
    rw [ha] at e; cases e
    exact core (fun _ => none) (fun _ _ z => nomatch z) (.inr ⟨_, vs.toArray, _, hk, rfl, rfl, rfl, by rw [List.size_toArray, hi.length]; exact hl, by simpa using rv⟩)
  | none =>
    refine core (fun b => if b = a then some (.frz { cls := .type "list", data := .seq vs.toArray } (.lst (ns.map V.int))) else none) (fun b u z => ?_) (.inl (.inr ⟨_, if_pos rfl⟩))
    by_cases q : b = a
    · subst q
      rw [if_pos rfl] at z; cases z
      exact ⟨rfl, hk, rfl⟩
    · rw [if_neg q] at z; cases z
theorem walk_g {l : PySem.W.OpenLaw} {n k : Nat} {q : Program} {loose : List Str} {XP : (Str → Option Value) → Heap → Prop} {YP : World → Heap → Prop} {d : DefRec} {K : Params → PySem.W.Frag} {CX : World → CXT} {sp : World → Sp} {x : Str} (hn : l.most = some n) (hn2 : n ≤ sizeLine) (hdf : d.params.defaults = []) (hr : Room k callerA)
    (hY : ∀ (w : World) (h : Heap), YP w h → (K w.params).In h)
    (F : ∀ (w : World) (mg : Str → Option Value) (fa : Addr) (h : Heap), (K w.params).In h → h.Ns mainGlobals mg → mg d.name = some (.ref fa) →
      ∃ fd : FuncData, (∀ (s : Shared) (u : Value), BindsTo s fd ⟨[u], []⟩ [(x, u)]) ∧ ∀ base : Heap, (K w.params).In base → base.Ns mainGlobals mg → FnG l.prog w (K w.params) mg base (CX w) k fa fd [x] (sp w))
    (hsp : ∀ (w : World) (H : Hp) (a : Addr) (ns : List Int), ns.length ≤ n → SqL (K w.params) H a (ns.map V.int) → sp w [.ref a] H (fun v _ => v = .bl true) fun _ _ _ => False)
    (hCX : ∀ (w : World) (H : Hp) (s : Shared) (e : Value) (s' : Shared), CX w [] H s (fun _ _ _ => False) e s' → False) : PySem.W.WalkO q loose XP YP l.row.toRowW d [] (fun f vs => PySem.call f vs) := by
  refine Att.attach_call hn hdf fun w s0 s1 mg mb fa o pm cd doc a vs ns G Y _ _ _ hmg hobj hints hlen hgens => ?_
  obtain ⟨fd, hb, hF⟩ := F w mg fa _ (hY w _ Y) G.T.g hmg
  exact law_g (hY w _ Y) G.T.g G.T.b G.T.builtins G.T.nolimit hgens hobj hints (Nat.le_trans hlen hn2) hr hF hb (fun H hS => hsp w H a ns hlen hS) fun H e s' => hCX w H s1 e s'
end Ev

/-! # Defs: promises over data, calls, bodies -/
namespace Ev
open PySem PySem.Spec PyProof.Rows L2
variable {K : PySem.W.Frag} {S S' H H' : Hp} {B : Bs} {δ : DS} {σ : L2.St}
/-- a promise over data: arguments, pen, what is wanted of the answer, what is wanted of an exception -/
abbrev dSp := List D → Pen → (D → Pen → Prop) → (Xc → Pen → Prop) → Prop
/-- behind a call -/
structure Fin (S H S' H' : Hp) (p p' : Pen) : Prop where
  s : Ex S S'
  ok : Sb S' H'
  pen : PenOk S' H' p'
  same : p'.map (·.1) = p.map (·.1) ∨ (p = none ∧ ∀ a c, p' = some (a, c) → H a = none)
  h : ∀ b o, H b = some o → p.map (·.1) ≠ some b → H' b = some o
  no : ∀ b o, H b = some o → S b = none → S' b = none
def spD (K : PySem.W.Frag) (n : Nat) (sp : dSp) : Sp := fun vs H Q E => ∃ S ds p Q' W', Sb S H ∧ PenOk S H p ∧ DnA K S vs ds ∧ ds.length = n ∧ sp ds p Q' W' ∧
  (∀ x p' v S' H', Q' x p' → Fin S H S' H' p p' → Dn K S' v x → Q v H') ∧ ∀ c p' cls od S' H', W' c p' → Fin S H S' H' p p' → XcOk K S' H' c cls od → E cls od H'
theorem spD_len {n : Nat} {sp : dSp} : ∀ vs H Q E, spD K n sp vs H Q E → vs.length = n := fun vs H Q E ⟨S, ds, p, Q', W', _, _, a, l, _⟩ => a.length.trans l
theorem Pen.map_ne {p : Pen} {a : Addr} (h : ∀ c, p ≠ some (a, c)) : p.map (·.1) ≠ some a := fun z => by
  match hp : p, z with
  | some (a', c), z =>
    cases (show some a' = some a from z)
    exact h c rfl
theorem Fin.ne {p p' : Pen} (f : Fin S H S' H' p p') {a : Addr} (h : p.map (·.1) ≠ some a) {o : HO} (ho : H a = some o) : ∀ c, p' ≠ some (a, c) := fun c z => by
  rcases f.same with q | ⟨_, q⟩
  · rw [z] at q; exact h q.symm
  · rw [q a c z] at ho; cases ho
theorem Rel.after (R : Rel K B δ S σ H) {p' : Pen} (f : Fin S H S' H' δ.pen p') : Rel K B { δ with pen := p' } S' σ H' := by
  obtain ⟨ow, h1, h2, h3, h4⟩ := R.sl
  have e0 : ∀ b, B.pa ≠ some b → (∃ o, B.H0 b = some o) → δ.pen.map (·.1) ≠ some b := fun b hb h0 => Pen.map_ne (R.pen_ne hb h0)
  refine ⟨f.ok, ⟨R.fr.s.trans f.s, fun b o h n => f.h b o (R.fr.h b o h n) (e0 b n ⟨o, h⟩), fun b o h n => ?_, fun a e => ?_⟩, f.pen, ?_, R.len, ow, fun i x e => (h1 i x e).grow f.s fun a o ea ha => f.h a o ha (Pen.map_ne (h4 i a ea).2.2.1), h2, h3, fun i a e => ?_⟩
  · obtain ⟨o', q⟩ := R.fr.there h
    exact f.no b o' q (R.fr.no b o h n)
  · obtain ⟨u, hu⟩ := R.fr.pa a e
    by_cases z : δ.pen.map (·.1) = some a
    · have e1 : p'.map (·.1) = some a := by
        rcases f.same with q | ⟨q, _⟩
        · exact q.trans z
        · rw [q] at z; cases z
      match p', e1, f.pen with
      | some (a', c), e1, ⟨_, ca, ns, k, m, q, _⟩ =>
        cases (show some a' = some a from e1)
        exact ⟨_, q⟩
    · exact ⟨u, f.h a u hu z⟩
  · have q := R.pa
    unfold PaOk at q ⊢
    by_cases hp : B.pd = true ∧ B.pa ≠ none
    · rw [if_pos hp] at q ⊢
      rcases f.same with r | ⟨r, _⟩
      · exact r.trans q
      · rw [r] at q
        exact absurd q.symm hp.2
    · rw [if_neg hp] at q ⊢
      intro a c e
      have e : p' = some (a, c) := e
      rcases f.same with r | ⟨_, r⟩
      · rw [e] at r
        match hd : δ.pen, r with
        | some (a', c'), r =>
          cases (show some a = some a' from r)
          exact q a c' hd
      · have h0 := r a c e
        exact ⟨(R.fr.fresh h0).1, (R.fr.fresh h0).2⟩
  · obtain ⟨r1, r2, r3, u, r4⟩ := h4 i a e
    have ne := Pen.map_ne r3
    exact ⟨f.no a u r4 r1, r2, f.ne ne r4, u, f.h a u r4 ne⟩
section
variable {X : Cx} {E : EK} {CX : CXT} {k : Nat} {f : Addr} {fd : FuncData} {ps : List Str} {x : Str} {p pos : Pos} {e : Expr} {es : List Expr}
/-- f(..), n arguments in all -/
def dCall (n : Nat) (sp : dSp) (a : dA) : dE := fun W δ Q => a W δ fun xs δ1 => xs.length = n ∧ sp xs δ1.pen (fun x p' => Q x { δ1 with pen := p' }) fun c p' => W c { δ1 with pen := p' }
theorem call_read {sp : dSp} {W : XW} {Q' : D → DS → Prop} {δ1 : DS} {S S1 H1 : Hp} {Q : VK} {vs : List V} {xs : List D} (xo : XOk K B E W S) (e1 : Ex S S1) (R1 : Rel K B δ1 S1 σ H1) (n1 : DnA K S1 vs xs) {n : Nat} (hn : xs.length = n)
    (q : sp xs δ1.pen (fun x p' => Q' x { δ1 with pen := p' }) fun c p' => W c { δ1 with pen := p' }) (post : ∀ x δ' v S' H', Q' x δ' → Ex S S' → Rel K B δ' S' σ H' → Dn K S' v x → Q v H') : spD K n sp vs H1 Q (E σ) :=
  ⟨S1, xs, δ1.pen, _, _, R1.ex, R1.pen, n1, hn, q, fun x p' v S' H' q' f d => post _ _ _ _ _ q' (e1.trans f.s) (R1.after f) d, fun c p' cls od S' H' w f k => xo c _ σ S' H' cls od w (e1.trans f.s) (R1.after f) k⟩
/-- everything that a call of the def x wants of its context -/
structure Kn (X : Cx) (E : EK) (x : Str) (n : Nat) (sp : dSp) : Prop where
  g : X.A.guards = some []
  ok : ∃ (CX : CXT) (ps : List Str) (f : Addr) (fd : FuncData) (k : Nat), FnG X.prog X.w X.K X.mg X.base CX k f fd ps (spD X.K n sp) ∧ Room k X.A ∧ X.mg x = some (.ref f) ∧ PySem.W.keepIn X.K (.ref f) = true ∧ Binds X.K fd ps [] ∧ (∀ σ, PassesAt CX X σ (E σ))
theorem de_call {sp : dSp} {n : Nat} {a : dA} (h : Kn X E x n sp) (gl : Gl X x) (ha : DA X E (e :: es) a) (hdb : (x == ("__debug__" : Str)) = false := by decide)
    (he : starEach (e :: es) X.env = (false, eval e X.env) :: starEach es X.env := by rfl) (hpl : (backTo pos (starEach es X.env)).any (·.1) = false := by rfl) : DE X E (.Call (.Name x p) (e :: es) [] pos) (dCall n sp a) := by
  obtain ⟨CX, ps, f, fd, k, F, r, m, kp, b, hx⟩ := h.ok
  refine ⟨fun B => pe_mono (pe_callG F h.g r gl m kp b .nil hx (ha.run B) hdb he hpl) fun σ H Q q => ?_⟩
  obtain ⟨δ, S, W, Q', R, q, xo, post⟩ := q
  refine ⟨δ, S, W, _, R, q, xo, fun xs δ1 vs S1 H1 q1 e1 R1 n1 => ?_⟩
  show spD X.K n sp (vs ++ []) H1 Q (E σ)
  rw [List.append_nil]
  exact call_read xo e1 R1 n1 q1.1 q1.2 post
theorem de_call0 {sp : dSp} (h : Kn X E x 0 sp) (gl : Gl X x) (hdb : (x == ("__debug__" : Str)) = false := by decide) : DE X E (.Call (.Name x p) [] [] pos) (dCall 0 sp dNil) := by
  obtain ⟨CX, ps, f, fd, k, F, r, m, kp, b, hx⟩ := h.ok
  refine ⟨fun B => pe_mono (pe_callG0 F h.g r gl m kp b .nil hx hdb) fun σ H Q q => ?_⟩
  obtain ⟨δ, S, W, Q', R, q, xo, post⟩ := q
  exact call_read xo (Ex.refl _) R .nil q.1 q.2 post
end

/-! ### a def's body -/
def endsD (Q : D → Pen → Prop) : dEnds := { nx := fun δ => Q .non δ.pen, rt := fun x δ => Q x δ.pen }
def startD (m : Nat) (ds : List D) (p : Pen) : DS := ⟨ds.map .dat ++ List.replicate (m - ds.length) .un, p⟩
theorem startRel {N : List Str} {vs : List V} {ds : List D} {p : Pen} (e : Sb S H) (hp : PenOk S H p) (a : DnA K S vs ds) (hl : ds.length ≤ N.length) : Rel K ⟨S, H, p.map (·.1), true⟩ (startD N.length ds p) S (L2.start N vs) H := by
  have hln := a.length
  refine ⟨e, ⟨Ex.refl _, fun _ _ h _ => h, fun _ _ _ n => n, fun b z => ?_⟩, hp, ?_, ?_, (fun _ => none), fun i x h => ?_, fun _ _ => rfl, fun _ _ _ z => (nomatch z), fun _ _ z => (nomatch z)⟩
  · match p, z, hp with
    | some (a', c), z, ⟨_, ca, ns, k, m, q, _⟩ =>
      cases (show some a' = some b from z)
      exact ⟨_, q⟩
  · unfold PaOk
    by_cases q : p.map (·.1) = none
    · rw [if_neg (fun z => z.2 q)]
      intro a c e
      have e : p = some (a, c) := e
      rw [e] at q; cases q
    · rw [if_pos ⟨rfl, q⟩]; rfl
  · simp only [L2.start, startD, List.length_append, List.length_map, List.length_replicate]; omega
  · have h : (ds.map Sl.dat ++ List.replicate (N.length - ds.length) Sl.un)[i]? = some x := h
    by_cases hi : i < ds.length
    · rw [List.getElem?_append_left (by simpa using hi), List.getElem?_map, List.getElem?_eq_getElem hi] at h
      cases h
      obtain ⟨v, hv, dn⟩ := a.get (List.getElem?_eq_getElem hi)
      refine ⟨rfl, v, ?_, dn⟩
      unfold L2.start
      rw [List.getElem?_append_left (by rw [List.length_map]; omega), List.getElem?_map, hv]; rfl
    · rw [List.getElem?_append_right (by simpa using hi), List.getElem?_replicate] at h
      split at h
      · cases h; exact rfl
      · cases h
theorem Rel.fin {p : Pen} {S0 H0 : Hp} (R : Rel K ⟨S0, H0, p.map (·.1), true⟩ δ S σ H) : Fin S0 H0 S H p δ.pen := by
  have hp := R.pa
  unfold PaOk at hp
  refine ⟨R.fr.s, R.ex, R.pen, ?_, fun b o h n => R.fr.h b o h n, R.fr.no⟩
  by_cases q : p.map (·.1) = none
  · rw [if_neg (fun z => z.2 q)] at hp
    refine .inr ⟨?_, fun a c e => (hp a c e).1⟩
    match p, q with
    | none, _ => rfl
  · rw [if_pos ⟨rfl, q⟩] at hp
    exact .inl hp
section
variable {P : Program} {w : World} {K : PySem.W.Frag} {mg : Str → Option Value} {base : Heap} {x qual : Str} {st : Stmt} {f : Addr} {fd : FuncData} {N ps : List Str} {k n : Nat} {sp : dSp} {d : dS}
/-- the context of the body of a def that lets nothing out -/
abbrev cx0 (P : Program) (w : World) (K : PySem.W.Frag) (mg : Str → Option Value) (base : Heap) (N : List Str) (qual : Str) (sc : Scope) (f : Addr) (cdv : Value) (A : Around) (out : List Env) (s : Shared) (H : Hp) (E : XK) : Cx := (cxOf CX0 P w K mg base N qual sc f cdv A out s H E).nox
abbrev E00 : EK := fun _ _ _ _ => False
/-- a def that lets nothing out keeps sp -/
theorem fn_d0 (F : Fun K x qual st f fd) (S : FnScope N ps (defScope st)) (hn : ps.length = n)
    (body : ∀ (cdv : Value) (A : Around) (out : List Env) (s : Shared) (H : Hp) (E : XK), A.guards = some [] → Room k (A.deeper (envOfC qual (defScope st) s.heap.objs.size f cdv)) → DSs (cx0 P w K mg base N qual (defScope st) f cdv A out s H E) E00 (defBody st) d)
    (hsp : ∀ ds p Q W, ds.length = n → sp ds p Q W → d W0 (endsD Q) (startD N.length ds p)) : FnG P w K mg base CX0 (k + 1) f fd ps (spD K n sp) := by
  refine fn_g F S (fun vs H Q E q => (spD_len vs H Q E q).trans hn.symm) fun cdv A out s H vs Q E g r q => ?_
  obtain ⟨S0, ds, p, Q', W', ex, hp, a, hl, q, post, _⟩ := q
  have hN : ds.length ≤ N.length := by
    have h1 := S.pre
    have h2 := congrArg List.length h1
    rw [List.length_take] at h2
    omega
  refine ⟨_, ((body cdv A out s H E g r).run ⟨S0, H, (Option.map Prod.fst p : Option Addr), true⟩).nox, startD N.length ds p, S0, W0, endsD Q', startRel ex hp a hN, hsp ds p Q' W' hl q, fun _ _ _ _ _ _ _ h => h.elim, fun δ' σ' S' H' q1 e1 R1 => ?_, fun x δ' v σ' S' H' q1 e1 R1 n1 => ?_, fun _ _ _ _ h => h.elim, fun _ _ _ _ h => h.elim⟩
  · exact post _ _ _ _ _ q1 R1.fin .non
  · exact post _ _ _ _ _ q1 R1.fin n1
end
end Ev

/-! # Operators and calls of built-ins, over data -/
namespace Ev
open PySem PySem.Spec PyProof.Rows L2
variable {K : PySem.W.Frag} {S S' H H' : Hp} {B : Bs} {δ : DS} {σ : L2.St}

/-! ### data as the library's own -/
mutual
def D.py : D → PyData
  | .non => .none
  | .bl b => .bool b
  | .int i => .int i
  | .str x => .str x
  | .tup xs => .tuple (D.pys xs)
  | .lst xs => .list (D.pys xs)
  | .dK _ => .none
  | .dT _ => .none
  | .raw _ => .none
  | .scr _ => .none
def D.pys : List D → List PyData
  | [] => []
  | x :: xs => x.py :: D.pys xs
end
mutual
/-- none, truths, numbers, texts, tuples and lists of such -/
def D.lay : D → Bool
  | .non => true
  | .bl _ => true
  | .int _ => true
  | .str x => PyData.strOk x
  | .tup xs => D.lays xs
  | .lst xs => D.lays xs
  | .dK _ => false
  | .dT _ => false
  | .raw _ => false
  | .scr _ => false
def D.lays : List D → Bool
  | [] => true
  | x :: xs => x.lay && D.lays xs
end
mutual
def D.dep : D → Nat
  | .tup xs => D.deps xs + 1
  | .lst xs => D.deps xs + 1
  | _ => 0
def D.deps : List D → Nat
  | [] => 0
  | x :: xs => max x.dep (D.deps xs)
end
mutual
theorem Dn.dp : ∀ {d : D} {v : V}, Dn K S v d → d.lay = true → Dp K S v d.py
  | .non, _, h, _ => by cases h; exact .non
  | .bl b, _, h, _ => by cases h; exact .bl b
  | .int i, _, h, _ => by cases h; exact .int i
  | .str x, _, h, _ => by cases h; exact .str x
  | .tup xs, _, h, l => by cases h with | tup h1 h2 => exact .tup (SqT.of h1) (DnA.dp h2 l)
  | .lst xs, _, h, l => by cases h with | lst h1 h2 => exact .lst (SqL.of h1) (DnA.dp h2 l)
  | .dK _, _, _, l => by cases l
  | .dT _, _, _, l => by cases l
  | .raw _, _, _, l => by cases l
  | .scr _, _, _, l => by cases l
theorem DnA.dp : ∀ {ds : List D} {vs : List V}, DnA K S vs ds → D.lays ds = true → DpAll K S vs (D.pys ds)
  | [], _, h, _ => by cases h; exact .nil
  | d :: ds, _, h, l => by
    have l' : (d.lay && D.lays ds) = true := l
    rw [Bool.and_eq_true] at l'
    cases h with | cons h1 h2 => exact .cons (Dn.dp h1 l'.1) (DnA.dp h2 l'.2)
end
mutual
theorem D.lay_can : ∀ d : D, d.lay = true → d.py.canLay0 = true
  | .non, _ => by simp [D.py, PyData.canLay0]
  | .bl b, _ => by simp [D.py, PyData.canLay0]
  | .int i, _ => by simp [D.py, PyData.canLay0]
  | .str x, h => by simpa [D.py, PyData.canLay0] using (show PyData.strOk x = true from h)
  | .tup xs, h => by simpa [D.py, PyData.canLay0] using D.lays_can xs h
  | .lst xs, h => by simpa [D.py, PyData.canLay0] using D.lays_can xs h
  | .dK _, h => by cases h
  | .dT _, h => by cases h
  | .raw _, h => by cases h
  | .scr _, h => by cases h
theorem D.lays_can : ∀ ds : List D, D.lays ds = true → PyData.canLayAll0 (D.pys ds) = true
  | [], _ => by simp [D.pys, PyData.canLayAll0]
  | d :: ds, h => by
    have h' : (d.lay && D.lays ds) = true := h
    rw [Bool.and_eq_true] at h'
    simp [D.pys, PyData.canLayAll0, D.lay_can d h'.1, D.lays_can ds h'.2]
end
mutual
theorem D.py_dep : ∀ d : D, d.py.depth = d.dep
  | .non => by simp [D.py, PyData.depth, D.dep]
  | .bl b => by simp [D.py, PyData.depth, D.dep]
  | .int i => by simp [D.py, PyData.depth, D.dep]
  | .str x => by simp [D.py, PyData.depth, D.dep]
  | .tup xs => by simp [D.py, PyData.depth, D.dep, D.pys_dep xs]
  | .lst xs => by simp [D.py, PyData.depth, D.dep, D.pys_dep xs]
  | .dK _ => by simp [D.py, PyData.depth, D.dep]
  | .dT _ => by simp [D.py, PyData.depth, D.dep]
  | .raw _ => by simp [D.py, PyData.depth, D.dep]
  | .scr _ => by simp [D.py, PyData.depth, D.dep]
theorem D.pys_dep : ∀ ds : List D, PyData.depthAll (D.pys ds) = D.deps ds
  | [] => by simp [D.pys, PyData.depthAll, D.deps]
  | d :: ds => by simp [D.pys, PyData.depthAll, D.deps, D.py_dep d, D.pys_dep ds]
end
theorem D.shaped {d : D} (l : d.lay = true) (h : d.dep ≤ 64) : SeqAt.shaped d.py = true := by
  show (d.py.canLay0 && decide (d.py.depth ≤ 64)) = true
  rw [Bool.and_eq_true]
  exact ⟨D.lay_can d l, decide_eq_true (by rw [D.py_dep]; exact h)⟩
/-- may be compared: d.cm = laid out of plain things, not too deep -/
def D.cm (d : D) : Prop := d.lay = true ∧ d.dep ≤ 64
theorem D.cm.sh {d : D} (h : d.cm) : SeqAt.shaped d.py = true := D.shaped h.1 h.2
/-- == -/
def D.eq (d e : D) : Bool := PyData.eqv d.py e.py

section
variable {X : Cx} {E : EK} {e a b c : Expr} {es : List Expr} {pos : Pos} {da db : dE}
/-! ### comparisons -/
def rEq : DR2 := fun x y Q => x.cm ∧ y.cm ∧ Q (.bl (x.eq y))
def rNe : DR2 := fun x y Q => x.cm ∧ y.cm ∧ Q (.bl (!x.eq y))
theorem od_eq (hu : X.A.units + 64 < cLine) : OpD X (compareOp .Eq) rEq := fun pins s σ H x y v u Q I rx ry ⟨S, dx, dy, Q', ex, n1, n2, ⟨c1, c2, q⟩, post⟩ =>
  op_eqD hu pins s σ H x y v u Q I rx ry ⟨_, _, (n1.mono ex).dp c1.1, (n2.mono ex).dp c2.1, c1.sh, c2.sh, post _ _ _ _ q (Grow.refl ex) (.bl _)⟩
theorem od_ne (hu : X.A.units + 64 < cLine) : OpD X (compareOp .NotEq) rNe := fun pins s σ H x y v u Q I rx ry ⟨S, dx, dy, Q', ex, n1, n2, ⟨c1, c2, q⟩, post⟩ =>
  op_neD hu pins s σ H x y v u Q I rx ry ⟨_, _, (n1.mono ex).dp c1.1, (n2.mono ex).dp c2.1, c1.sh, c2.sh, post _ _ _ _ q (Grow.refl ex) (.bl _)⟩
def rCI (p : Int → Int → Bool) : DR2 := fun x y Q => match x, y with | .int i, .int j => Q (.bl (p i j)) | _, _ => False
theorem od_ci {op : CmpOp} {p : Int → Int → Bool} (h : OpR X (compareOp op) (rI0 fun i j => .bl (p i j))) : OpD X (compareOp op) (rCI p) := fun pins s σ H x y v u Q I rx ry ⟨S, dx, dy, Q', ex, n1, n2, q, post⟩ => by
  match dx, dy, n1, n2, q with
  | .int i, .int j, .int _, .int _, q => exact h pins s σ H _ _ v u Q I rx ry ⟨i, j, rfl, rfl, post _ _ _ _ q (Grow.refl ex) (.bl _)⟩
abbrev rLt : DR2 := rCI fun i j => decide (i < j)
abbrev rLe : DR2 := rCI fun i j => decide (i ≤ j)
abbrev rGt : DR2 := rCI fun i j => decide (j < i)
abbrev rGe : DR2 := rCI fun i j => decide (j ≤ i)
theorem od_lt : OpD X (compareOp .Lt) rLt := od_ci op_lt
theorem od_le : OpD X (compareOp .LtE) rLe := od_ci op_le
theorem od_gt : OpD X (compareOp .Gt) rGt := od_ci op_gt
theorem od_ge : OpD X (compareOp .GtE) rGe := od_ci op_ge
/-- is None, is not None -/
def D.isN : D → Bool | .non => true | .raw v => decide (v = .non) | _ => false
theorem Dn.isN {v : V} {d : D} (h : Dn K S v d) : decide (v = .non) = d.isN := by
  cases h <;> simp [D.isN]
def rIsN : DR2 := fun x y Q => match y with | .non => Q (.bl x.isN) | _ => False
def rNotN : DR2 := fun x y Q => match y with | .non => Q (.bl (!x.isN)) | _ => False
theorem od_isN : OpD X (compareOp .Is) rIsN := fun pins s σ H x y v u Q I rx ry ⟨S, dx, dy, Q', ex, n1, n2, q, post⟩ => by
  match dy, n2, q with
  | .non, .non, q => exact op_isN pins s σ H _ _ v u Q I rx ry ⟨rfl, post _ _ _ _ q (Grow.refl ex) (by rw [n1.isN]; exact .bl _)⟩
theorem od_notN : OpD X (compareOp .IsNot) rNotN := fun pins s σ H x y v u Q I rx ry ⟨S, dx, dy, Q', ex, n1, n2, q, post⟩ => by
  match dy, n2, q with
  | .non, .non, q => exact op_notN pins s σ H _ _ v u Q I rx ry ⟨rfl, post _ _ _ _ q (Grow.refl ex) (by rw [n1.isN]; exact .bl _)⟩

/-! ### arithmetic, texts, rows -/
def rIO (C : Int → Int → Prop) (g : Int → Int → Int) : DR2 := fun x y Q => match x, y with | .int i, .int j => C i j ∧ Q (.int (g i j)) | _, _ => False
theorem od_io {op : Operator} {C : Int → Int → Prop} {g : Int → Int → Int} (h : OpR X (binaryOp op) (rI C fun i j => .int (g i j))) : OpD X (binaryOp op) (rIO C g) := fun pins s σ H x y v u Q I rx ry ⟨S, dx, dy, Q', ex, n1, n2, q, post⟩ => by
  match dx, dy, n1, n2, q with
  | .int i, .int j, .int _, .int _, q => exact h pins s σ H _ _ v u Q I rx ry ⟨i, j, rfl, rfl, q.1, post _ _ _ _ q.2 (Grow.refl ex) (.int _)⟩
def rMulI : DR2 := rIO CMul fun i j => i * j
def rDivI : DR2 := rIO CDiv fun i j => i / j
def rModI : DR2 := rIO (fun _ j => 0 < j) fun i j => i % j
def rPowI : DR2 := rIO CPow fun i j => i ^ j.toNat
theorem od_mul : OpD X (binaryOp .Mult) rMulI := od_io op_mul
theorem od_div : OpD X (binaryOp .FloorDiv) rDivI := od_io op_fdiv
theorem od_mod : OpD X (binaryOp .Mod) rModI := od_io op_mod
theorem od_pow : OpD X (binaryOp .Pow) rPowI := od_io op_pow
def rSubI : DR2 := fun x y Q => match x, y with | .int i, .int j => Q (.int (i - j)) | _, _ => False
theorem od_sub : OpD X (binaryOp .Sub) rSubI := fun pins s σ H x y v u Q I rx ry ⟨S, dx, dy, Q', ex, n1, n2, q, post⟩ => by
  match dx, dy, n1, n2, q with
  | .int i, .int j, .int _, .int _, q => exact op_sub pins s σ H _ _ v u Q I rx ry ⟨i, j, rfl, rfl, post _ _ _ _ q (Grow.refl ex) (.int _)⟩
/-- + -/
def rAddD : DR2 := fun x y Q => match x, y with
  | .int i, .int j => Q (.int (i + j))
  | .str i, .str j => i.length + j.length ≤ sizeLine ∧ Q (.str (i ++ j))
  | .tup i, .tup j => i.length + j.length ≤ sizeLine ∧ Q (.tup (i ++ j))
  | _, _ => False
theorem od_add : OpD X (binaryOp .Add) rAddD := fun pins s σ H x y v u Q I rx ry ⟨S, dx, dy, Q', ex, n1, n2, q, post⟩ => by
  match dx, dy, n1, n2, q with
  | .int i, .int j, .int _, .int _, q => exact op_add pins s σ H _ _ v u Q I rx ry ⟨i, j, rfl, rfl, post _ _ _ _ q (Grow.refl ex) (.int _)⟩
  | .str i, .str j, .str _, .str _, q => exact op_add_str pins s σ H _ _ v u Q I rx ry ⟨i, j, rfl, rfl, q.1, post _ _ _ _ q.2 (Grow.refl ex) (.str _)⟩
  | .tup i, .tup j, .tup h1 a1, .tup h2 a2, q =>
    refine op_catA pins s σ H _ _ v u Q I rx ry ⟨_, _, _, _, rfl, rfl, SqT.of (ex _ _ h1), SqT.of (ex _ _ h2), by rw [a1.length, a2.length]; exact q.1, fun e => ?_, fun _ e => ?_, fun _ _ p hp => ?_⟩
    · subst e; cases a1; exact post _ _ _ _ q.2 (Grow.refl ex) (.tup h2 a2)
    · subst e; cases a2; have := q.2; rw [List.append_nil] at this; exact post _ _ _ _ this (Grow.refl ex) (.tup h1 a1)
    · exact post _ _ _ _ q.2 (Grow.new ex hp) (.tup upd_same ((a1.append a2).mono (Ex.new (ex.none hp))))
/-- lists: + , * -/
abbrev DF2 := D → D → (List D → Prop) → Prop
def liftRF (K : PySem.W.Frag) (r : DF2) : R2 := fun x y H Q => ∃ S dx dy Q', Sb S H ∧ Dn K S x dx ∧ Dn K S y dy ∧ r dx dy Q' ∧ ∀ xs p vs, Q' xs → H p = none → DnA K S vs xs → Q (.ref p) (upd H p (.lst vs))
def dBinF (r : DF2) (da db : dE) : dF := fun W δ Q => da W δ fun x δ1 => db W δ1 fun y δ2 => r x y fun z => Q z δ2
theorem df_op {op : Operator} {r : DF2} (ho : OpR X (binaryOp op) (liftRF X.K r)) (ha : DE X E a da) (hb : DE X E b db) : DF X E (.BinOp a op b pos) (dBinF r da db) := ⟨fun B => pe_mono (pe_op ho (ha.run B) (hb.run B)) fun σ H Q q => by
  obtain ⟨δ, S, W, Q', R, q, xo, post⟩ := q
  refine ⟨δ, S, W, _, R, q, xo, fun x δ1 v S1 H1 q1 e1 R1 n1 => ?_⟩
  refine ⟨δ1, S1, W, _, R1, q1, xo.mono e1, fun y δ2 u S2 H2 q2 e2 R2 n2 => ?_⟩
  exact ⟨S2, x, y, _, R2.ex, n1.mono e2, n2, q2, fun xs p vs q3 hp a => post _ _ _ _ _ _ q3 (e1.trans e2) R2 hp a⟩⟩
def rCatL : DF2 := fun x y Q => match x, y with | .lst i, .lst j => i.length + j.length ≤ sizeLine ∧ Q (i ++ j) | _, _ => False
theorem od_catL : OpR X (binaryOp .Add) (liftRF X.K rCatL) := fun pins s σ H x y v u Q I rx ry ⟨S, dx, dy, Q', ex, n1, n2, q, post⟩ => by
  match dx, dy, n1, n2, q with
  | .lst i, .lst j, .lst h1 a1, .lst h2 a2, q =>
    exact op_cat pins s σ H _ _ v u Q I rx ry ⟨_, _, _, _, rfl, rfl, ex _ _ h1, ex _ _ h2, by rw [a1.length, a2.length]; exact q.1, fun p hp => post _ _ _ q.2 hp (a1.append a2)⟩
def rRepL : DF2 := fun x y Q => match x, y with | .lst i, .int k => -(2 ^ 63) ≤ k ∧ k < 2 ^ 63 ∧ i.length * k.toNat ≤ sizeLine ∧ Q (List.replicate k.toNat i).flatten | _, _ => False
theorem DnA.rep {vs : List V} {ds : List D} (a : DnA K S vs ds) : ∀ n : Nat, DnA K S (List.replicate n vs).flatten (List.replicate n ds).flatten
  | 0 => .nil
  | n + 1 => by
    rw [List.replicate_succ, List.replicate_succ, List.flatten_cons, List.flatten_cons]
    exact a.append (a.rep n)
theorem od_repL : OpR X (binaryOp .Mult) (liftRF X.K rRepL) := fun pins s σ H x y v u Q I rx ry ⟨S, dx, dy, Q', ex, n1, n2, q, post⟩ => by
  match dx, dy, n1, n2, q with
  | .lst i, .int k, .lst h1 a1, .int _, q =>
    exact op_rep pins s σ H _ _ v u Q I rx ry ⟨_, k, _, rfl, rfl, ex _ _ h1, q.1, q.2.1, by rw [a1.length]; exact q.2.2.1, fun p hp => post _ _ _ q.2.2.2 hp (a1.rep _)⟩
/-- in, not in -/
def rInD (neg : Bool) : DR2 := fun x y Q => x.cm ∧ y.cm ∧ match y with
  | .lst ds => Q (.bl (if neg then !(ds.any fun z => z.eq x) else ds.any fun z => z.eq x))
  | .tup ds => Q (.bl (if neg then !(ds.any fun z => z.eq x) else ds.any fun z => z.eq x))
  | _ => False
theorem D.any_py (x : D) : ∀ ds : List D, ((D.pys ds).any fun z => PyData.eqv z x.py) = ds.any fun z => z.eq x
  | [] => rfl
  | d :: ds => by
    have := D.any_py x ds
    simp only [D.pys, List.any_cons, this]
    rfl
end
end Ev

namespace Ev
open PySem PySem.Spec PyProof.Rows L2
variable {K : PySem.W.Frag} {S S' H H' : Hp} {B : Bs} {δ : DS} {σ : L2.St}
section
variable {X : Cx} {E : EK} {e a b c : Expr} {es : List Expr} {pos p : Pos} {da db : dE}
/-! ### in -/
theorem room_in {A : Around} {ds : List D} {d : D} (h : d.dep ≤ 64) (hu : A.units + 65 < cLine) : A.units + 1 + min (PyData.depthAll (D.pys ds)) d.py.depth < cLine := by
  rw [D.py_dep]; omega
theorem od_in (hu : X.A.units + 65 < cLine) : OpD X (compareOp .In) (rInD false) := fun pins s σ H x y v u Q I rx ry ⟨S, dx, dy, Q', ex, n1, n2, ⟨c1, c2, q⟩, post⟩ => by
  obtain ⟨as, r1⟩ := Dp.reads I _ _ _ ((n1.mono ex).dp c1.1) rx
  match dy, n2, c2, q with
  | .lst ds, n2, c2, q =>
    obtain ⟨bs, r2⟩ := Dp.reads I _ _ _ ((n2.mono ex).dp c2.1) ry
    exact SeqAt.in_list_reads r2 r1 (D.lays_can ds c2.1) (D.lay_can dx c1.1) (room_in c1.2 hu) ⟨.bl _, H, I, rfl, post _ _ _ _ (by rw [D.any_py]; exact q) (Grow.refl ex) (.bl _)⟩
  | .tup ds, n2, c2, q =>
    obtain ⟨bs, r2⟩ := Dp.reads I _ _ _ ((n2.mono ex).dp c2.1) ry
    exact SeqAt.in_tuple_reads r2 r1 (D.lays_can ds c2.1) (D.lay_can dx c1.1) (room_in c1.2 hu) ⟨.bl _, H, I, rfl, post _ _ _ _ (by rw [D.any_py]; exact q) (Grow.refl ex) (.bl _)⟩
theorem od_notin (hu : X.A.units + 65 < cLine) : OpD X (compareOp .NotIn) (rInD true) := fun pins s σ H x y v u Q I rx ry ⟨S, dx, dy, Q', ex, n1, n2, ⟨c1, c2, q⟩, post⟩ => by
  obtain ⟨as, r1⟩ := Dp.reads I _ _ _ ((n1.mono ex).dp c1.1) rx
  match dy, n2, c2, q with
  | .lst ds, n2, c2, q =>
    obtain ⟨bs, r2⟩ := Dp.reads I _ _ _ ((n2.mono ex).dp c2.1) ry
    exact SeqAt.notIn_list_reads r2 r1 (D.lays_can ds c2.1) (D.lay_can dx c1.1) (room_in c1.2 hu) ⟨.bl _, H, I, rfl, post _ _ _ _ (by rw [D.any_py]; exact q) (Grow.refl ex) (.bl _)⟩
  | .tup ds, n2, c2, q =>
    obtain ⟨bs, r2⟩ := Dp.reads I _ _ _ ((n2.mono ex).dp c2.1) ry
    exact SeqAt.notIn_tuple_reads r2 r1 (D.lays_can ds c2.1) (D.lay_can dx c1.1) (room_in c1.2 hu) ⟨.bl _, H, I, rfl, post _ _ _ _ (by rw [D.any_py]; exact q) (Grow.refl ex) (.bl _)⟩

/-! ### items, slices -/
def optQ {α : Type} (o : Option α) (Q : α → Prop) : Prop := match o with | some d => Q d | none => False
theorem optQ_ex {α : Type} {o : Option α} {Q : α → Prop} (h : optQ o Q) : ∃ d, o = some d ∧ Q d := by
  cases o with
  | none => exact h.elim
  | some d => exact ⟨d, rfl, h⟩
def rIxD : DR2 := fun x y Q => match x, y with
  | .lst ds, .int i => optQ (atI ds i) Q
  | .tup ds, .int i => optQ (atI ds i) Q
  | .str z, .int i => z.length ≤ sizeLine ∧ optQ (atI z.cps.toList i) fun c => Q (.str ⟨#[c]⟩)
  | _, _ => False
theorem DnA.atI {vs : List V} {ds : List D} {i : Int} {d : D} (a : DnA K S vs ds) (h : L2.atI ds i = some d) : ∃ v, L2.atI vs i = some v ∧ Dn K S v d := by
  unfold L2.atI at h ⊢
  rw [a.length]
  cases q : ixN ds.length i with
  | none => rw [q] at h; cases h
  | some j => rw [q] at h; exact a.get h
theorem ix_d : IxR X (liftR X.K rIxD) := fun value slice pins s σ H x y v u Q I rx ry ⟨S, dx, dy, Q', ex, n1, n2, q, post⟩ hs => by
  match dx, dy, n1, n2, q with
  | .lst ds, .int i, .lst h1 a1, .int _, q =>
    obtain ⟨d, hi, q⟩ := optQ_ex q
    obtain ⟨w, e1, e2⟩ := a1.atI hi
    exact ix_list value slice pins s σ H _ _ v u Q I rx ry ⟨_, _, i, w, rfl, rfl, SqL.of (ex _ _ h1), e1, post _ _ _ _ q (Grow.refl ex) e2⟩ hs
  | .tup ds, .int i, .tup h1 a1, .int _, q =>
    obtain ⟨d, hi, q⟩ := optQ_ex q
    obtain ⟨w, e1, e2⟩ := a1.atI hi
    exact ix_tup value slice pins s σ H _ _ v u Q I rx ry ⟨_, _, i, w, rfl, rfl, SqT.of (ex _ _ h1), e1, post _ _ _ _ q (Grow.refl ex) e2⟩ hs
  | .str z, .int i, .str _, .int _, q =>
    obtain ⟨c, hi, q2⟩ := optQ_ex q.2
    exact ix_str value slice pins s σ H _ _ v u Q I rx ry ⟨z, i, c, rfl, rfl, q.1, hi, post _ _ _ _ q2 (Grow.refl ex) (.str _)⟩ hs
theorem de_ix (ha : DE X E a da) (hb : DE X E b db) (hs : PlainIx b) : DE X E (.Subscript a b pos) (dBin rIxD da db) := ⟨fun B => pe_mono (pe_ix ix_d (ha.run B) (hb.run B) hs) fun σ H Q q => lift_bin q⟩
/-- a list of one's own (or the pen's own) in a slot -/
def ownAt (δ : DS) (i : Nat) : Option (List D) := match δ.sl[i]? with
  | some (.own ds) => some ds
  | some (.hp ds) => some ds
  | _ => none
def setOwnAt (δ : DS) (i : Nat) (ds : List D) : DS := match δ.sl[i]? with
  | some (.own _) => setSl δ i (.own ds)
  | some (.hp _) => setSl δ i (.hp ds)
  | _ => δ
theorem Rel.ownAt (R : Rel K B δ S σ H) {i : Nat} {ds : List D} (h : ownAt δ i = some ds) : ∃ p vs, σ[i]? = some (some (.ref p)) ∧ H p = some (.lst vs) ∧ DnA K S vs ds ∧ S p = none ∧
    ∀ vs' ds', DnA K S vs' ds' → Rel K B (setOwnAt δ i ds') S σ (upd H p (.lst vs')) := by
  unfold Ev.ownAt at h
  unfold setOwnAt
  split at h
  · rename_i d hd
    cases h
    obtain ⟨p, vs, h1, h2, h3, h4, _, _, h5⟩ := R.own hd
    exact ⟨p, vs, h1, h2, h3, h4, h5⟩
  · rename_i d hd
    cases h
    obtain ⟨p, vs, h1, h2, h3, h4, _, h5⟩ := R.hp hd
    exact ⟨p, vs, h1, h2, h3, h4, h5⟩
  · cases h
/-- the list in slot i, of one's own or frozen, to be looked at -/
def lookAt (δ : DS) (i : Nat) : Option (List D) := match δ.sl[i]? with
  | some (.own ds) => some ds
  | some (.hp ds) => some ds
  | some (.dat (.lst ds)) => some ds
  | _ => none
theorem Rel.lookAt (R : Rel K B δ S σ H) {i : Nat} {ds : List D} (h : lookAt δ i = some ds) : ∃ p vs, σ[i]? = some (some (.ref p)) ∧ H p = some (.lst vs) ∧ DnA K S vs ds ∧ (S p = none ∨ S p = some (.lst vs)) := by
  unfold Ev.lookAt at h
  split at h
  · rename_i d hd
    cases h
    obtain ⟨p, vs, h1, h2, h3, h4, _⟩ := R.own hd
    exact ⟨p, vs, h1, h2, h3, .inl h4⟩
  · rename_i d hd
    cases h
    obtain ⟨p, vs, h1, h2, h3, h4, _⟩ := R.hp hd
    exact ⟨p, vs, h1, h2, h3, .inl h4⟩
  · rename_i d hd
    cases h
    obtain ⟨v, e1, e2⟩ := R.dat hd
    match v, e1, e2 with
    | .ref p, e1, .lst h1 h2 => exact ⟨p, _, e1, R.ex _ _ h1, h2, .inr h1⟩
  · cases h
/-- the list in slot i, an item of it -/
def dOwnIx (i : Nat) (d : dE) : dE := fun W δ Q => (∃ ds, lookAt δ i = some ds) ∧ d W δ fun y δ1 => match y with
  | .int j => optQ (lookAt δ1 i) fun ds => optQ (atI ds j) fun d => Q d δ1
  | _ => False
theorem de_ownIx {i : Nat} {x : Str} (hv : PE X (.Name x p) (tVar i)) (hb : DE X E b db) (hs : PlainIx b) : DE X E (.Subscript (.Name x p) b pos) (dOwnIx i db) := ⟨fun B => pe_mono (pe_ix ix_list hv (hb.run B) hs) fun σ H Q q => by
  obtain ⟨δ, S, W, Q', R, ⟨⟨ds0, h0⟩, q⟩, xo, post⟩ := q
  obtain ⟨p0, _, v0, _⟩ := R.lookAt h0
  refine ⟨.ref p0, v0, δ, S, W, _, R, q, xo, fun y δ1 v S1 H1 q1 e1 R1 n1 => ?_⟩
  match y, n1, q1 with
  | .int j, .int _, q1 =>
    obtain ⟨ds, h1, q1⟩ := optQ_ex q1
    obtain ⟨d, h2, q1⟩ := optQ_ex q1
    obtain ⟨p1, vs, v1, g1, a1, _⟩ := R1.lookAt h1
    rw [v0] at v1
    cases v1
    obtain ⟨w, w1, w2⟩ := a1.atI h2
    exact ⟨p0, vs, j, w, rfl, rfl, SqL.of g1, w1, post _ _ _ _ _ q1 e1 R1 w2⟩⟩
/-- name[i] = e, the list of one's own -/
def dSetIx (i : Nat) (di de : dE) : dS := fun W N δ => de W δ fun x δ1 => (∃ ds, ownAt δ1 i = some ds) ∧ di W δ1 fun y δ2 => match y with
  | .int k => optQ (ownAt δ2 i) fun ds => optQ (ixN ds.length k) fun j => N.nx (setOwnAt δ2 i (ds.set j x))
  | _ => False
theorem ds_setIx {i : Nat} {x : Str} {tp : Pos} (hv : PE X (.Name x p) (tVar i)) (hi : DE X E b db) (he : DE X E e da) (hs : swapsWithSole [.Subscript (.Name x p) b tp] e pos.line X.env = pure false := by rfl) (hw : swappedStores [.Subscript (.Name x p) b tp] e X.env = pure none := by rfl)
    (h1 : (assignEach [.Subscript (.Name x p) b tp] X.env).map (·.2) = [assign (.Subscript (.Name x p) b tp) X.env] := by rfl)
    (h2 : ∀ v, assign (.Subscript (.Name x p) b tp) X.env v = (do
      let ov ← holding [v] (eval (.Name x p) X.env)
      let iv ← holding [v, ov] (eval b X.env)
      standAt tp
      holding [v, ov, iv] (setItem ov iv v)
      release [v, ov, iv] []) := by intro _; rfl) : DSt X E (.Assign [.Subscript (.Name x p) b tp] e pos) (dSetIx i db da) := ⟨fun B => ps_mono (ps_asg (he.run B) (pg_sub hv (hi.run B) set_list h2) hs hw h1) fun Z σ H q => by
  obtain ⟨δ, S, W, N, R, q, xo, p1, _⟩ := q
  refine ⟨δ, S, W, _, R, q, xo, fun d δ1 v S1 H1 q1 e1 R1 n1 => ?_⟩
  obtain ⟨⟨ds0, h0⟩, q1⟩ := q1
  obtain ⟨p0, _, v0, _⟩ := R1.ownAt h0
  refine ⟨.ref p0, v0, δ1, S1, W, _, R1, q1, xo.mono e1, fun y δ2 u S2 H2 q2 e2 R2 n2 => ?_⟩
  match y, n2, q2 with
  | .int k, .int _, q2 =>
    obtain ⟨ds, h1, q2⟩ := optQ_ex q2
    obtain ⟨j, hj, q2⟩ := optQ_ex q2
    obtain ⟨p1', vs, v1, g1, a1, _, put⟩ := R2.ownAt h1
    rw [v0] at v1
    cases v1
    exact ⟨p0, vs, k, j, rfl, rfl, g1, by rw [a1.length]; exact hj, p1 _ _ _ _ q2 (e1.trans e2) (put _ _ (a1.set (n1.mono e2) j))⟩⟩
/-- e[lo:hi] -/
abbrev dO := XW → DS → (Option Int → DS → Prop) → Prop
def liftO (K : PySem.W.Frag) (B : Bs) (E : EK) (d : dO) : TO := fun σ H Q => ∃ δ S W Q', Rel K B δ S σ H ∧ d W δ Q' ∧ XOk K B E W S ∧ ∀ o δ' S' H', Q' o δ' → Ex S S' → Rel K B δ' S' σ H' → Q o H'
structure DO (X : Cx) (E : EK) (e : Option Expr) (d : dO) : Prop where
  run : ∀ B, PO X e (liftO X.K B E d)
def oNone : dO := fun _ δ Q => Q none δ
def oSome (d : dE) : dO := fun W δ Q => d W δ fun x δ' => match x with | .int i => Q (some i) δ' | _ => False
theorem po_mono {o : Option Expr} {t t' : TO} (h : PO X o t) (m : ∀ σ H Q, t' σ H Q → t σ H Q) : PO X o t' := ⟨fun pins s σ H Q I q => h.run pins s σ H Q I (m _ _ _ q)⟩
theorem do_none : DO X E none oNone := ⟨fun B => po_mono po_none fun σ H Q q => by
  obtain ⟨δ, S, W, Q', R, q, xo, post⟩ := q
  exact post _ _ _ _ q (Ex.refl _) R⟩
theorem do_some (h : DE X E e da) : DO X E (some e) (oSome da) := ⟨fun B => po_mono (po_some (h.run B)) fun σ H Q q => by
  obtain ⟨δ, S, W, Q', R, q, xo, post⟩ := q
  refine ⟨δ, S, W, _, R, q, xo, fun x δ1 v S1 H1 q1 e1 R1 n1 => ?_⟩
  match x, n1, q1 with
  | .int i, .int _, q1 => exact ⟨i, rfl, post _ _ _ _ q1 e1 R1⟩⟩
def cutD {α : Type} (xs : List α) (lo hi : Option Int) : List α := (xs.drop (HT.sIx xs.length 0 lo)).take (HT.sIx xs.length xs.length hi - HT.sIx xs.length 0 lo)
theorem DnA.cut {vs : List V} {ds : List D} (a : DnA K S vs ds) (lo hi : Option Int) : DnA K S (cutV vs lo hi) (cutD ds lo hi) := by
  unfold cutV cutD
  rw [a.length]
  exact (a.drop _).take _
theorem cut_whole {α : Type} {xs : List α} {lo hi : Option Int} (h : HT.sIx xs.length 0 lo = 0 ∧ HT.sIx xs.length xs.length hi = xs.length) : cutD xs lo hi = xs := by
  unfold cutD
  rw [h.1, h.2]
  simp
/-- a slice of a tuple, of a text -/
def dSlT (d : dE) (lo hi : dO) : dE := fun W δ Q => d W δ fun x δ1 => lo W δ1 fun l δ2 => hi W δ2 fun h δ3 => match x with
  | .tup ds => Q (.tup (cutD ds l h)) δ3
  | .str z => z.length ≤ sizeLine ∧ Q (.str (cutS z l h)) δ3
  | _ => False
/-- a slice of a list -/
def dSlL (d : dE) (lo hi : dO) : dF := fun W δ Q => d W δ fun x δ1 => lo W δ1 fun l δ2 => hi W δ2 fun h δ3 => match x with
  | .lst ds => Q (cutD ds l h) δ3
  | .scr ns => Q (cutD (ns.map .int) l h) δ3
  | _ => False
theorem de_slT {lo hi : Option Expr} {dl dh : dO} {p2 : Pos} (he : DE X E e da) (hl : DO X E lo dl) (hh : DO X E hi dh) : DE X E (.Subscript e (.Slice lo hi none p2) pos) (dSlT da dl dh) := ⟨fun B => pe_mono (pe_slice (SlR.or sl_tupA sl_str) (he.run B) (hl.run B) (hh.run B)) fun σ H Q q => by
  obtain ⟨δ, S, W, Q', R, q, xo, post⟩ := q
  refine ⟨δ, S, W, _, R, q, xo, fun x δ1 v S1 H1 q1 e1 R1 n1 => ⟨δ1, S1, W, _, R1, q1, xo.mono e1, fun l δ2 S2 H2 q2 e2 R2 => ⟨δ2, S2, W, _, R2, q2, xo.mono (e1.trans e2), fun h δ3 S3 H3 q3 e3 R3 => ?_⟩⟩⟩
  have e := (e1.trans e2).trans e3
  match x, n1.mono (e2.trans e3), q3 with
  | .tup ds, .tup h1 a1, q3 =>
    refine .inl ⟨_, _, rfl, SqT.of (R3.ex _ _ h1), fun hw => ?_, fun _ p hp => ?_⟩
    · rw [a1.length] at hw
      have q3 : Q' (.tup (cutD ds l h)) δ3 := q3
      rw [cut_whole hw] at q3
      exact post _ _ _ _ _ q3 e R3 (.tup h1 a1)
    · exact post _ _ _ _ _ q3 (e.trans (Ex.new (R3.ex.none hp))) (R3.new hp) (.tup upd_same ((a1.cut l h).mono (Ex.new (R3.ex.none hp))))
  | .str z, .str _, q3 => exact .inr ⟨z, rfl, q3.1, post _ _ _ _ _ q3.2 e R3 (.str _)⟩⟩
theorem df_slL {lo hi : Option Expr} {dl dh : dO} {p2 : Pos} (he : DE X E e da) (hl : DO X E lo dl) (hh : DO X E hi dh) : DF X E (.Subscript e (.Slice lo hi none p2) pos) (dSlL da dl dh) := ⟨fun B => pe_mono (pe_slice sl_list (he.run B) (hl.run B) (hh.run B)) fun σ H Q q => by
  obtain ⟨δ, S, W, Q', R, q, xo, post⟩ := q
  refine ⟨δ, S, W, _, R, q, xo, fun x δ1 v S1 H1 q1 e1 R1 n1 => ⟨δ1, S1, W, _, R1, q1, xo.mono e1, fun l δ2 S2 H2 q2 e2 R2 => ⟨δ2, S2, W, _, R2, q2, xo.mono (e1.trans e2), fun h δ3 S3 H3 q3 e3 R3 => ?_⟩⟩⟩
  match x, n1.mono (e2.trans e3), q3 with
  | .lst ds, .lst h1 a1, q3 => exact ⟨_, _, rfl, SqL.of (R3.ex _ _ h1), fun p hp => post _ _ _ _ _ _ q3 ((e1.trans e2).trans e3) R3 hp (a1.cut l h)⟩
  | .scr ns, .scr h1, q3 => exact ⟨_, _, rfl, R3.ex.sqL h1, fun p hp => post _ _ _ _ _ _ q3 ((e1.trans e2).trans e3) R3 hp ((DnA.ints ns).cut l h)⟩⟩
end
end Ev

namespace Ev
open PySem PySem.Spec PyProof.Rows L2
variable {K : PySem.W.Frag} {S S' H H' : Hp} {B : Bs} {δ : DS} {σ : L2.St}
section
variable {X : Cx} {E : EK} {e a b c : Expr} {es : List Expr} {pos p : Pos} {da db : dE} {x : Str}
/-! ### calls of built-ins -/
abbrev DRC := List D → (D → Prop) → Prop
def liftC (K : PySem.W.Frag) (r : DRC) : List V → Hp → VK → Prop := fun vs H Q => ∃ S ds Q', Sb S H ∧ DnA K S vs ds ∧ r ds Q' ∧ ∀ dz v S' H', Q' dz → Grow S H S' H' → Dn K S' v dz → Q v H'
abbrev DRF := List D → (List D → Prop) → Prop
def liftCF (K : PySem.W.Frag) (r : DRF) : List V → Hp → VK → Prop := fun vs H Q => ∃ S ds Q', Sb S H ∧ DnA K S vs ds ∧ r ds Q' ∧ ∀ xs ws p, Q' xs → H p = none → DnA K S ws xs → Q (.ref p) (upd H p (.lst ws))
def dCB (r : DRC) (a : dA) : dE := fun W δ Q => a W δ fun xs δ1 => r xs fun z => Q z δ1
def dCBF (r : DRF) (a : dA) : dF := fun W δ Q => a W δ fun xs δ1 => r xs fun z => Q z δ1
theorem lift_CB {r : DRC} {d : dA} {Q : VK} (q : liftE K B E (dCB r d) σ H Q) : tCB (liftC K r) (liftA K B E d) σ H Q := by
  obtain ⟨δ, S, W, Q', R, q, xo, post⟩ := q
  exact ⟨δ, S, W, _, R, q, xo, fun xs δ1 vs S1 H1 q1 e1 R1 n1 => ⟨S1, xs, _, R1.ex, n1, q1, fun dz v S' H' q2 g n2 => post _ _ _ _ _ q2 (e1.trans g.s) (R1.grow g) n2⟩⟩
theorem lift_CBF {r : DRF} {d : dA} {Q : VK} (q : liftF K B E (dCBF r d) σ H Q) : tCB (liftCF K r) (liftA K B E d) σ H Q := by
  obtain ⟨δ, S, W, Q', R, q, xo, post⟩ := q
  exact ⟨δ, S, W, _, R, q, xo, fun xs δ1 vs S1 H1 q1 e1 R1 n1 => ⟨S1, xs, _, R1.ex, n1, q1, fun ys ws p q2 hp n2 => post _ _ _ _ _ _ q2 e1 R1 hp n2⟩⟩
theorem de_callB {id : String} {r : DRC} {d : dA} (hc : CallR X (.builtin id) (liftC X.K r)) (gl : Gl X x) (hm : X.mg x = none) (hv : bootBuiltins x = some (.builtin id)) (ha : DA X E (e :: es) d) (hn : x ≠ "__name__" := by decide) (hdb : (x == ("__debug__" : Str)) = false := by decide)
    (he : starEach (e :: es) X.env = (false, eval e X.env) :: starEach es X.env := by rfl) (hpl : (backTo pos (starEach es X.env)).any (·.1) = false := by rfl) : DE X E (.Call (.Name x p) (e :: es) [] pos) (dCB r d) :=
  ⟨fun B => pe_mono (pe_callB hc gl hm hv (ha.run B) hn hdb he hpl) fun σ H Q q => lift_CB q⟩
theorem de_callTy {T : String} {r : DRC} {d : dA} (hc : CallR X (.type T) (liftC X.K r)) (gl : Gl X x) (hm : X.mg x = none) (hv : bootBuiltins x = some (.type T)) (ha : DA X E (e :: es) d) (hn : x ≠ "__name__" := by decide) (hdb : (x == ("__debug__" : Str)) = false := by decide)
    (he : starEach (e :: es) X.env = (false, eval e X.env) :: starEach es X.env := by rfl) (hpl : (backTo pos (starEach es X.env)).any (·.1) = false := by rfl) : DE X E (.Call (.Name x p) (e :: es) [] pos) (dCB r d) :=
  ⟨fun B => pe_mono (pe_callTy hc gl hm hv (ha.run B) hn hdb he hpl) fun σ H Q q => lift_CB q⟩
theorem df_callB {id : String} {r : DRF} {d : dA} (hc : CallR X (.builtin id) (liftCF X.K r)) (gl : Gl X x) (hm : X.mg x = none) (hv : bootBuiltins x = some (.builtin id)) (ha : DA X E (e :: es) d) (hn : x ≠ "__name__" := by decide) (hdb : (x == ("__debug__" : Str)) = false := by decide)
    (he : starEach (e :: es) X.env = (false, eval e X.env) :: starEach es X.env := by rfl) (hpl : (backTo pos (starEach es X.env)).any (·.1) = false := by rfl) : DF X E (.Call (.Name x p) (e :: es) [] pos) (dCBF r d) :=
  ⟨fun B => pe_mono (pe_callB hc gl hm hv (ha.run B) hn hdb he hpl) fun σ H Q q => lift_CBF q⟩
theorem df_callTy {T : String} {r : DRF} {d : dA} (hc : CallR X (.type T) (liftCF X.K r)) (gl : Gl X x) (hm : X.mg x = none) (hv : bootBuiltins x = some (.type T)) (ha : DA X E (e :: es) d) (hn : x ≠ "__name__" := by decide) (hdb : (x == ("__debug__" : Str)) = false := by decide)
    (he : starEach (e :: es) X.env = (false, eval e X.env) :: starEach es X.env := by rfl) (hpl : (backTo pos (starEach es X.env)).any (·.1) = false := by rfl) : DF X E (.Call (.Name x p) (e :: es) [] pos) (dCBF r d) :=
  ⟨fun B => pe_mono (pe_callTy hc gl hm hv (ha.run B) hn hdb he hpl) fun σ H Q q => lift_CBF q⟩
theorem DnA.one {vs : List V} {d : D} (h : DnA K S vs [d]) : ∃ v, vs = [v] ∧ Dn K S v d := by
  cases h with | cons h1 h2 => cases h2; exact ⟨_, rfl, h1⟩
theorem DnA.two {vs : List V} {d d' : D} (h : DnA K S vs [d, d']) : ∃ v v', vs = [v, v'] ∧ Dn K S v d ∧ Dn K S v' d' := by
  cases h with | cons h1 h2 => obtain ⟨v', rfl, h3⟩ := h2.one; exact ⟨_, _, rfl, h1, h3⟩
/-- len -/
def rLen : DRC := fun xs Q => match xs with
  | [.lst ds] => Q (.int ds.length)
  | [.tup ds] => Q (.int ds.length)
  | [.str z] => z.length ≤ sizeLine ∧ Q (.int z.length)
  | _ => False
theorem cd_len : CallR X (.builtin "len") (liftC X.K rLen) := fun pins s σ H vs us Q I r ⟨S, ds, Q', ex, n, q, post⟩ => by
  match ds, n, q with
  | [.lst ds], n, q =>
    obtain ⟨v, rfl, n1⟩ := n.one
    cases n1 with | lst h a =>
      refine call_len pins s σ H _ us Q I r ⟨_, ds.length, rfl, .inl ⟨_, SqL.of (ex _ _ h), a.length.symm⟩, post _ _ _ _ q (Grow.refl ex) (.int _)⟩
  | [.tup ds], n, q =>
    obtain ⟨v, rfl, n1⟩ := n.one
    cases n1 with | tup h a =>
      refine call_len pins s σ H _ us Q I r ⟨_, ds.length, rfl, .inr ⟨_, SqT.of (ex _ _ h), a.length.symm⟩, post _ _ _ _ q (Grow.refl ex) (.int _)⟩
  | [.str z], n, q =>
    obtain ⟨v, rfl, n1⟩ := n.one
    cases n1
    exact call_len pins s σ H _ us Q I r ⟨_, z.length, rfl, ⟨q.1, rfl⟩, post _ _ _ _ q.2 (Grow.refl ex) (.int _)⟩
/-- tuple(x), list(x) -/
def rTuple : DRC := fun xs Q => match xs with | [.lst ds] => Q (.tup ds) | [.tup ds] => Q (.tup ds) | _ => False
theorem cd_tuple : CallR X (.type "tuple") (liftC X.K rTuple) := fun pins s σ H vs us Q I r ⟨S, ds, Q', ex, n, q, post⟩ => by
  match ds, n, q with
  | [.lst ds], n, q =>
    obtain ⟨v, rfl, n1⟩ := n.one
    cases n1 with | lst h a =>
      refine call_tuple_of pins s σ H _ us Q I r ⟨_, _, rfl, .inl ⟨SqL.of (ex _ _ h), fun l hl => ?_⟩⟩
      exact post _ _ _ _ q (Grow.new ex hl) (.tup upd_same (a.mono (Ex.new (ex.none hl))))
  | [.tup ds], n, q =>
    obtain ⟨v, rfl, n1⟩ := n.one
    cases n1 with | tup h a => exact call_tuple_of pins s σ H _ us Q I r ⟨_, _, rfl, .inr ⟨SqT.of (ex _ _ h), post _ _ _ _ q (Grow.refl ex) (.tup h a)⟩⟩
def rList : DRF := fun xs Q => match xs with | [.lst ds] => Q ds | [.tup ds] => Q ds | _ => False
theorem cd_list : CallR X (.type "list") (liftCF X.K rList) := fun pins s σ H vs us Q I r ⟨S, ds, Q', ex, n, q, post⟩ => by
  match ds, n, q with
  | [.lst ds], n, q =>
    obtain ⟨v, rfl, n1⟩ := n.one
    cases n1 with | lst h a => exact call_list_of pins s σ H _ us Q I r ⟨_, _, rfl, .inl (SqL.of (ex _ _ h)), fun l hl => post _ _ _ q hl a⟩
  | [.tup ds], n, q =>
    obtain ⟨v, rfl, n1⟩ := n.one
    cases n1 with | tup h a => exact call_list_of pins s σ H _ us Q I r ⟨_, _, rfl, .inr (SqT.of (ex _ _ h)), fun l hl => post _ _ _ q hl a⟩
mutual
def D.sho : D → Bool
  | .int i => decide (i.natAbs.log2 < 1920)
  | .tup xs => D.shos xs
  | .lst xs => D.shos xs
  | _ => true
def D.shos : List D → Bool
  | [] => true
  | x :: xs => x.sho && D.shos xs
end
mutual
theorem D.sho_py : ∀ d : D, d.lay = true → d.sho = true → d.py.showable = true
  | .non, _, _ => by simp [D.py, PyData.showable]
  | .bl b, _, _ => by simp [D.py, PyData.showable]
  | .int i, _, h => by simpa [D.py, PyData.showable, D.sho] using h
  | .str x, _, _ => by simp [D.py, PyData.showable]
  | .tup xs, l, h => by simpa [D.py, PyData.showable] using D.shos_py xs l h
  | .lst xs, l, h => by simpa [D.py, PyData.showable] using D.shos_py xs l h
  | .dK _, l, _ => by cases l
  | .dT _, l, _ => by cases l
  | .raw _, l, _ => by cases l
  | .scr _, l, _ => by cases l
theorem D.shos_py : ∀ ds : List D, D.lays ds = true → D.shos ds = true → PyData.showableAll (D.pys ds) = true
  | [], _, _ => by simp [D.pys, PyData.showableAll]
  | d :: ds, l, h => by
    have l' : (d.lay && D.lays ds) = true := l
    have h' : (d.sho && D.shos ds) = true := h
    rw [Bool.and_eq_true] at l' h'
    simp [D.pys, PyData.showableAll, D.sho_py d l'.1 h'.1, D.shos_py ds l'.2 h'.2]
end
/-- may be shown -/
def D.sw (d : D) : Prop := d.lay = true ∧ d.dep ≤ 64 ∧ d.sho = true ∧ d.py.shown.length ≤ sizeLine
def D.rep (d : D) : Str := d.py.shown
def rRepr : DRC := fun xs Q => match xs with | [d] => d.sw ∧ Q (.str d.rep) | _ => False
theorem boot_repr : bootBuiltins "repr" = some (.builtin "repr") := by decide +kernel
/-- repr of data of any depth, wherever none is under way -/
theorem repr_data {prog : Program} {w : World} {A : Around} {Er : Value → Shared → Prop} {s : Shared} {v : Value} {d : PyData} {as : List Addr} {Q : Value → Shared → Prop} (r : Reads s.heap v d as) (sh : d.showable = true) (nd : d.hasDict = false) (hg : A.guards = some []) (hu : A.units + d.depth + 1 < cLine)
    (sz : d.shown.length ≤ sizeLine) (hQ : ∀ h' u tk, (∀ b o, s.heap.get? b = some o → h'.get? b = some o) → Q (.str d.shown u) { s with heap := h', toks := tk }) : wpAny (model prog w) A (call (.builtin "repr") [v]) Q Er s := by
  have keep0 : ∀ b o, s.heap.get? b = some o → s.heap.get? b = some o := fun _ _ e => e
  cases r with
  | none => simp only [PyData.shown] at hQ; exact P.repr_of_none (hQ s.heap _ _ keep0)
  | bool b => simp only [PyData.shown] at hQ; exact P.repr_of_bool (hQ s.heap _ _ keep0)
  | int i t => simp only [PyData.shown] at hQ; exact P.repr_of_int (by simpa [PyData.showable] using sh) (hQ s.heap _ _ keep0)
  | str x t => simp only [PyData.shown] at hQ sz; exact P.repr_of_str (hQ s.heap _ _ keep0) (hsz := sz)
  | dict _ _ _ _ _ => simp [PyData.hasDict] at nd
  | @list a o vs n xs as1 h1 h2 h3 h4 =>
    simp only [PyData.shown, PyData.depth] at hQ sz hu
    have nd' : PyData.hasDictAll xs = false := by simpa [PyData.hasDict] using nd
    obtain ⟨bs, hb, hk⟩ := ReprAllK.of_readsAll (prog := prog) (w := w) h4 (by simpa [PyData.showable] using sh) (fun hx => by rw [nd'] at hx; cases hx) (fun t ht => Nat.le_trans (listText_mem_le ht) sz)
    have na : a ∉ bs := not_mem_of_deeper (.list h1 h2 h3 h4) (by simp only [PyData.depth]; omega) hb
    refine call_repr_slot (by omega) ⟨o, h1, h2⟩ F.slot_list_repr.toG ?_
    obtain ⟨l⟩ := vs
    cases l with
    | nil =>
      cases (show ReadsAll s.heap [] xs _ from h4)
      simp only [PyData.shownAll, listText_nil] at hQ
      exact call_list_repr_empty ⟨o, h1, h2⟩ h1 h3 ⟨_, _, rfl, hQ s.heap _ _ keep0⟩
    | cons y l =>
      exact call_list_reprK h1 h2 h3 na (by simpa using hk.length_eq) (fun i z e => hk.item i z (by simpa using e)) (A := A.in1) hg (fun b _ => Clear.nil b) (by show A.units + 1 + _ < _; omega) keep0 (fun h' u tk k => ⟨_, _, rfl, hQ h' u tk k⟩) sz
  | @tuple a o vs n xs as1 h1 h2 h3 h4 =>
    simp only [PyData.shown, PyData.depth] at hQ sz hu
    have nd' : PyData.hasDictAll xs = false := by simpa [PyData.hasDict] using nd
    obtain ⟨bs, hb, hk⟩ := ReprAllK.of_readsAll (prog := prog) (w := w) h4 (by simpa [PyData.showable] using sh) (fun hx => by rw [nd'] at hx; cases hx) (fun t ht => Nat.le_trans (tupleText_mem_le ht) sz)
    have na : a ∉ bs := not_mem_of_deeper (.tuple h1 h2 h3 h4) (by simp only [PyData.depth]; omega) hb
    refine call_repr_slot (by omega) ⟨o, h1, h2⟩ F.slot_tuple_repr ?_
    exact call_tuple_reprK h1 h2 h3 na hk (A := A.in1) hg (fun b _ => Clear.nil b) (by show A.units + 1 + _ < _; omega) keep0 (fun h' u tk k => ⟨_, _, rfl, hQ h' u tk k⟩) sz
theorem cd_repr (hg : X.A.guards = some []) (hu : X.A.units + 66 < cLine) : CallR X (.builtin "repr") (liftC X.K rRepr) := fun pins s σ H vs us Q I r ⟨S, ds, Q', ex, n, q, post⟩ => by
  match ds, n, q with
  | [d], n, q =>
    obtain ⟨v, rfl, n1⟩ := n.one
    obtain ⟨u, rfl, ru⟩ := vals1 r
    obtain ⟨⟨l, dp, sh, sz⟩, q⟩ := q
    obtain ⟨as, rd⟩ := Dp.reads I _ _ _ ((n1.mono ex).dp l) ru
    exact repr_data rd (D.sho_py d l sh) (PyData.hasDict_of_canLay _ (D.lay_can d l)) hg (by rw [D.py_dep]; omega) sz fun h' u tk k => ⟨.str d.rep, H, I.kept k, ⟨_, rfl⟩, post _ _ _ _ q (Grow.refl ex) (.str _)⟩
/-! ### numbers and texts -/
def rAbs : DRC := fun xs Q => match xs with | [.int i] => Q (.int (if i < 0 then -i else i)) | _ => False
theorem cd_abs : CallR X (.builtin "abs") (liftC X.K rAbs) := fun pins s σ H vs us Q I r ⟨S, ds, Q', ex, n, q, post⟩ => by
  match ds, n, q with
  | [.int i], n, q =>
    obtain ⟨v, rfl, n1⟩ := n.one
    cases n1
    exact call_abs pins s σ H _ us Q I r ⟨i, rfl, post _ _ _ _ q (Grow.refl ex) (.int _)⟩
def rInt : DRC := fun xs Q => match xs with | [.int i] => Q (.int i) | [.bl k] => Q (.int (if k then 1 else 0)) | _ => False
theorem cd_int : CallR X (.type "int") (liftC X.K rInt) := fun pins s σ H vs us Q I r ⟨S, ds, Q', ex, n, q, post⟩ => by
  match ds, n, q with
  | [.int i], n, q =>
    obtain ⟨v, rfl, n1⟩ := n.one
    cases n1
    exact call_int1 pins s σ H _ us Q I r (.inl ⟨i, rfl, post _ _ _ _ q (Grow.refl ex) (.int _)⟩)
  | [.bl k], n, q =>
    obtain ⟨v, rfl, n1⟩ := n.one
    cases n1
    exact call_int1 pins s σ H _ us Q I r (.inr ⟨k, rfl, post _ _ _ _ q (Grow.refl ex) (.int _)⟩)
def rStr : DRC := fun xs Q => match xs with | [.int i] => i.natAbs.log2 < 1920 ∧ Q (.str (toString i)) | [.str x] => Q (.str x) | _ => False
theorem cd_str : CallR X (.type "str") (liftC X.K rStr) := fun pins s σ H vs us Q I r ⟨S, ds, Q', ex, n, q, post⟩ => by
  match ds, n, q with
  | [.int i], n, q =>
    obtain ⟨v, rfl, n1⟩ := n.one
    cases n1
    exact call_str_int pins s σ H _ us Q I r ⟨i, rfl, q.1, post _ _ _ _ q.2 (Grow.refl ex) (.str _)⟩
  | [.str x], n, q =>
    obtain ⟨v, rfl, n1⟩ := n.one
    cases n1
    exact SkE.call_str_str pins s σ H _ us Q I r ⟨x, rfl, post _ _ _ _ q (Grow.refl ex) (.str _)⟩
/-- all, any of a list of truths; sum of a list of numbers -/
def blsOf : List D → Option (List Bool)
  | [] => some []
  | .bl b :: r => (blsOf r).map (b :: ·)
  | _ => none
theorem bls_vals : ∀ {ds : List D} {bs : List Bool} {vs : List V}, DnA K S vs ds → blsOf ds = some bs → vs = bs.map V.bl
  | [], _, _, .nil, h => by cases h; rfl
  | .bl b :: r, bs, _, .cons h1 h2, h => by
    cases h1
    cases hr : blsOf r with
    | none => simp [blsOf, hr] at h
    | some cs =>
      simp [blsOf, hr] at h
      subst h
      rw [bls_vals h2 hr]; rfl
def intsOf : List D → Option (List Int)
  | [] => some []
  | .int b :: r => (intsOf r).map (b :: ·)
  | _ => none
theorem ints_valsD : ∀ {ds : List D} {bs : List Int} {vs : List V}, DnA K S vs ds → intsOf ds = some bs → vs = bs.map V.int
  | [], _, _, .nil, h => by cases h; rfl
  | .int b :: r, bs, _, .cons h1 h2, h => by
    cases h1
    cases hr : intsOf r with
    | none => simp [intsOf, hr] at h
    | some cs =>
      simp [intsOf, hr] at h
      subst h
      rw [ints_valsD h2 hr]; rfl
def rAllD : DRC := fun xs Q => match xs with | [.lst ds] => optQ (blsOf ds) fun bs => Q (.bl (bs.all id)) | _ => False
def rAnyD : DRC := fun xs Q => match xs with | [.lst ds] => optQ (blsOf ds) fun bs => Q (.bl (bs.any id)) | _ => False
def rSumD : DRC := fun xs Q => match xs with | [.lst ds] => optQ (intsOf ds) fun bs => Q (.int bs.sum) | _ => False
theorem cd_all (hc : X.calm = true) : CallR X (.builtin "all") (liftC X.K rAllD) := fun pins s σ H vs us Q I r ⟨S, ds, Q', ex, n, q, post⟩ => by
  match ds, n, q with
  | [.lst ds], n, q =>
    obtain ⟨v, rfl, n1⟩ := n.one
    obtain ⟨bs, hb, q⟩ := optQ_ex q
    cases n1 with | lst h a =>
      have e := bls_vals a hb
      exact cr_all hc pins s σ H _ us Q I r ⟨_, bs, rfl, SqL.of (by rw [← e]; exact ex _ _ h), post _ _ _ _ q (Grow.refl ex) (.bl _)⟩
theorem cd_any (hc : X.calm = true) : CallR X (.builtin "any") (liftC X.K rAnyD) := fun pins s σ H vs us Q I r ⟨S, ds, Q', ex, n, q, post⟩ => by
  match ds, n, q with
  | [.lst ds], n, q =>
    obtain ⟨v, rfl, n1⟩ := n.one
    obtain ⟨bs, hb, q⟩ := optQ_ex q
    cases n1 with | lst h a =>
      have e := bls_vals a hb
      exact cr_any hc pins s σ H _ us Q I r ⟨_, bs, rfl, SqL.of (by rw [← e]; exact ex _ _ h), post _ _ _ _ q (Grow.refl ex) (.bl _)⟩
theorem cd_sum (hc : X.calm = true) : CallR X (.builtin "sum") (liftC X.K rSumD) := fun pins s σ H vs us Q I r ⟨S, ds, Q', ex, n, q, post⟩ => by
  match ds, n, q with
  | [.lst ds], n, q =>
    obtain ⟨v, rfl, n1⟩ := n.one
    obtain ⟨bs, hb, q⟩ := optQ_ex q
    cases n1 with | lst h a =>
      have e := ints_valsD a hb
      exact cr_sum hc pins s σ H _ us Q I r ⟨_, bs, rfl, SqL.of (by rw [← e]; exact ex _ _ h), post _ _ _ _ q (Grow.refl ex) (.int _)⟩
/-- isinstance(x, T), T written: a built-in type -/
def D.ty : D → Option String
  | .non => some "NoneType"
  | .bl _ => some "bool"
  | .int _ => some "int"
  | .str _ => some "str"
  | .tup _ => some "tuple"
  | .lst _ => some "list"
  | .dK _ => some "dict"
  | .dT _ => some "dict"
  | .raw _ => none
  | .scr _ => none
theorem Dn.ty {v : V} {d : D} {t : String} (h : Dn K S v d) (ht : d.ty = some t) : TyX K S v (.type t) := by
  cases h with
  | non => cases ht; exact .base .non
  | bl b => cases ht; exact .base (.bl b)
  | int i => cases ht; exact .base (.int i)
  | str x => cases ht; exact .base (.str x)
  | raw v => cases ht
  | scr h => cases ht
  | tup h a => cases ht; exact .base (.tup h)
  | lst h a => cases ht; exact .base (.lst h)
  | dK h _ _ => cases ht; exact .base (.dK h)
  | dT h _ _ => cases ht; exact .base (.dT h)
/-- a built-in class, as a value -/
def D.cls (n : String) : D := .raw (.ty n)
def rIsi (n : String) : DRC := fun xs Q => match xs with
  | [d, .raw (.ty m)] => m = n ∧ optQ d.ty fun t => optQ (kitB t n) fun b => Q (.bl b)
  | _ => False
theorem TyX.mono {v : V} {t : Value} (e : Ex S S') (h : TyX K S v t) : TyX K S' v t := by
  cases h with
  | base b =>
    cases b with
    | non => exact .base .non
    | bl y => exact .base (.bl y)
    | int i => exact .base (.int i)
    | str y => exact .base (.str y)
    | flt y => exact .base (.flt y)
    | lst h => exact .base (.lst (e _ _ h))
    | frz h => exact .base (.frz (e _ _ h))
    | tup h => exact .base (.tup (e _ _ h))
    | dK h => exact .base (.dK (e _ _ h))
    | dT h => exact .base (.dT (e _ _ h))
    | ins h cl ha hn htk hm => exact .base (.ins (e _ _ h) cl ha hn htk hm)
  | byt y => exact .byt y
  | set h => exact .set (e _ _ h)
  | kList h c => exact .kList h c
  | kTuple h c => exact .kTuple h c
  | kDict h c => exact .kDict h c
  | fTuple h => exact .fTuple (e _ _ h)
  | fDict h => exact .fDict (e _ _ h)
theorem cd_isi (T : String) : CallR X (.builtin "isinstance") (liftC X.K (rIsi T)) := fun pins s σ H vs us Q I r ⟨S, ds, Q', ex, n, q, post⟩ => by
  match ds, n, q with
  | [d, .raw (.ty m)], n, q =>
    obtain ⟨rfl, q⟩ := q
    obtain ⟨v, v', rfl, n1, n2⟩ := n.two
    cases n2
    obtain ⟨t, ht, q⟩ := optQ_ex q
    obtain ⟨b, hb, q⟩ := optQ_ex q
    exact call_isi pins s σ H _ us Q I r ⟨v, .ty m, .type t, .type m, b, rfl, .ty m, TyX.mono ex (n1.ty ht), kit_ty hb, post _ _ _ _ q (Grow.refl ex) (.bl _)⟩
theorem de_ty {n : String} (gl : Gl X x) (hm : X.mg x = none) (hv : bootBuiltins x = some (.type n)) (hn : x ≠ "__name__" := by decide) (hd : (x == ("__debug__" : Str)) = false := by decide) : DE X E (.Name x p) (dC (.raw (.ty n))) :=
  de_c (pe_bltn (v := .ty n) gl hm hv (show RelV (.ty n) (.type n) from rfl) hn hd) fun _ => .raw _
end
end Ev

/-! # Methods of lists of one's own, texts joined and formatted, a look at a list of one's own, the pen's own def -/
namespace Ev
open PySem PySem.Spec PyProof.Rows L2
variable {K : PySem.W.Frag} {S S' H H' : Hp} {B : Bs} {δ : DS} {σ : L2.St}
section
variable {X : Cx} {E : EK} {e a b c : Expr} {es : List Expr} {pos p ap cp : Pos} {da db : dE} {x : Str}
theorem tyL {K : PySem.W.Frag} {H : Hp} {p : Addr} {vs : List V} (h : H p = some (.lst vs)) : tyV K "list" (.ref p) H := Or.inl ⟨rfl, vs, SqL.of h⟩
/-- name.append(e) -/
def dApp (i : Nat) (d : dE) : dS := fun W N δ => (∃ ds, ownAt δ i = some ds) ∧ d W δ fun x δ1 => optQ (ownAt δ1 i) fun ds => ds.length < sizeLine ∧ N.nx (setOwnAt δ1 i (ds ++ [x]))
theorem ds_app {i : Nat} (hv : PE X (.Name x p) (tVar i)) (he : DE X E e da) (hbase : attributeBase (.Name x p) "append" X.env (eval (.Name x p) X.env) = eval (.Name x p) X.env := by rfl)
    (hfew : ((backTo cp (starEach [e] X.env)).all (fun x => !x.1) && (backToKw cp (keywordEach [] X.env)).all (fun x => x.1.isSome) && decide (([e] : List Expr).length + ([] : List Keyword).length + (if ([] : List Keyword).isEmpty then 0 else 1) < 30)) = true := by rfl)
    (hline : (ap.endLine == cp.line) = true := by rfl) (hs : starEach [e] X.env = (false, eval e X.env) :: starEach [] X.env := by rfl) (hpl : (backTo cp (starEach [] X.env)).any (·.1) = false := by rfl)
    (hsw : swapsWith (.Call (.Attribute (.Name x p) "append" ap) [e] [] cp) none pos.line X.env = pure false := by rfl) : DSt X E (.Expr (.Call (.Attribute (.Name x p) "append" ap) [e] [] cp) pos) (dApp i da) :=
  ⟨fun B => ps_mono (ps_expr (pe_bm PySem.F.plainAttrs_list PySem.F.slot_list_append PySem.F.type_list_append mt_append hv (pa_cons (he.run B) pa_nil hs) hbase hfew hline hs hpl) hsw) fun Z σ H q => by
    obtain ⟨δ, S, W, N, R, ⟨⟨ds0, h0⟩, q⟩, xo, p1, _⟩ := q
    obtain ⟨p0, _, v0, g0, _⟩ := R.ownAt h0
    refine ⟨.ref p0, v0, tyL g0, δ, S, W, _, R, q, xo, fun d δ1 v S1 H1 q1 e1 R1 n1 => ?_⟩
    obtain ⟨ds, h1, hz, q1⟩ := optQ_ex q1
    obtain ⟨p', vs, v1, g1, a1, _, put⟩ := R1.ownAt h1
    rw [v0] at v1; cases v1
    exact ⟨p0, vs, v, rfl, rfl, g1, by rw [a1.length]; exact hz, p1 _ _ _ _ q1 e1 (put _ _ (a1.append (.cons n1 .nil)))⟩⟩
/-- name.extend(e), e another list -/
def dExt (i : Nat) (d : dE) : dS := fun W N δ => (∃ ds, ownAt δ i = some ds) ∧ d W δ fun x δ1 => match x with
  | .lst zs => optQ (ownAt δ1 i) fun ds => ds.length + zs.length ≤ sizeLine ∧ N.nx (setOwnAt δ1 i (ds ++ zs))
  | _ => False
theorem ds_ext {i : Nat} (hv : PE X (.Name x p) (tVar i)) (he : DE X E e da) (hbase : attributeBase (.Name x p) "extend" X.env (eval (.Name x p) X.env) = eval (.Name x p) X.env := by rfl)
    (hfew : ((backTo cp (starEach [e] X.env)).all (fun x => !x.1) && (backToKw cp (keywordEach [] X.env)).all (fun x => x.1.isSome) && decide (([e] : List Expr).length + ([] : List Keyword).length + (if ([] : List Keyword).isEmpty then 0 else 1) < 30)) = true := by rfl)
    (hline : (ap.endLine == cp.line) = true := by rfl) (hs : starEach [e] X.env = (false, eval e X.env) :: starEach [] X.env := by rfl) (hpl : (backTo cp (starEach [] X.env)).any (·.1) = false := by rfl)
    (hsw : swapsWith (.Call (.Attribute (.Name x p) "extend" ap) [e] [] cp) none pos.line X.env = pure false := by rfl) : DSt X E (.Expr (.Call (.Attribute (.Name x p) "extend" ap) [e] [] cp) pos) (dExt i da) :=
  ⟨fun B => ps_mono (ps_expr (pe_bm PySem.F.plainAttrs_list PySem.F.slot_list_extend PySem.F.type_list_extend mt_extend hv (pa_cons (he.run B) pa_nil hs) hbase hfew hline hs hpl) hsw) fun Z σ H q => by
    obtain ⟨δ, S, W, N, R, ⟨⟨ds0, h0⟩, q⟩, xo, p1, _⟩ := q
    obtain ⟨p0, _, v0, g0, _⟩ := R.ownAt h0
    refine ⟨.ref p0, v0, tyL g0, δ, S, W, _, R, q, xo, fun d δ1 v S1 H1 q1 e1 R1 n1 => ?_⟩
    match d, n1, q1 with
    | .lst zs, .lst hz az, q1 =>
      obtain ⟨ds, h1, hz2, q1⟩ := optQ_ex q1
      obtain ⟨p', vs, v1, g1, a1, _, put⟩ := R1.ownAt h1
      rw [v0] at v1; cases v1
      exact ⟨p0, _, vs, _, rfl, rfl, g1, R1.ex _ _ hz, by rw [a1.length, az.length]; exact hz2, p1 _ _ _ _ q1 e1 (put _ _ (a1.append az))⟩⟩
/-- name.pop() -/
def dPop (i : Nat) : dE := fun _ δ Q => optQ (ownAt δ i) fun ds => optQ ds[ds.length - 1]? fun d => Q d (setOwnAt δ i ds.dropLast)
theorem DnA.dropLast {vs : List V} {ds : List D} (a : DnA K S vs ds) : DnA K S vs.dropLast ds.dropLast := by
  rw [List.dropLast_eq_take, List.dropLast_eq_take, a.length]
  exact a.take _
theorem de_pop {i : Nat} (hv : PE X (.Name x p) (tVar i)) (hbase : attributeBase (.Name x p) "pop" X.env (eval (.Name x p) X.env) = eval (.Name x p) X.env := by rfl) (hline : (ap.endLine == cp.line) = true := by rfl) :
    DE X E (.Call (.Attribute (.Name x p) "pop" ap) [] [] cp) (dPop i) := ⟨fun B => pe_mono (pe_bm0 PySem.F.plainAttrs_list PySem.F.slot_list_pop PySem.F.type_list_pop mt_pop hv hbase hline) fun σ H Q q => by
    obtain ⟨δ, S, W, Q', R, q, xo, post⟩ := q
    obtain ⟨ds, h1, q⟩ := optQ_ex q
    obtain ⟨d, h2, q⟩ := optQ_ex q
    obtain ⟨p', vs, v1, g1, a1, _, put⟩ := R.ownAt h1
    obtain ⟨v, w1, w2⟩ := a1.get h2
    exact ⟨.ref p', v1, tyL g1, p', vs, v, rfl, rfl, g1, by rw [a1.length]; exact w1, post _ _ _ _ _ q (Ex.refl _) (put _ _ a1.dropLast) w2⟩⟩
/-- name.pop(e) -/
def dPopAt (i : Nat) (d : dE) : dE := fun W δ Q => (∃ ds, ownAt δ i = some ds) ∧ d W δ fun y δ1 => match y with
  | .int k => -(2 ^ 63) ≤ k ∧ k < 2 ^ 63 ∧ optQ (ownAt δ1 i) fun ds => optQ (ixN ds.length k) fun j => optQ ds[j]? fun d => Q d (setOwnAt δ1 i (ds.eraseIdx j))
  | _ => False
theorem de_popAt {i : Nat} (hv : PE X (.Name x p) (tVar i)) (he : DE X E e da) (hbase : attributeBase (.Name x p) "pop" X.env (eval (.Name x p) X.env) = eval (.Name x p) X.env := by rfl)
    (hfew : ((backTo cp (starEach [e] X.env)).all (fun x => !x.1) && (backToKw cp (keywordEach [] X.env)).all (fun x => x.1.isSome) && decide (([e] : List Expr).length + ([] : List Keyword).length + (if ([] : List Keyword).isEmpty then 0 else 1) < 30)) = true := by rfl)
    (hline : (ap.endLine == cp.line) = true := by rfl) (hs : starEach [e] X.env = (false, eval e X.env) :: starEach [] X.env := by rfl) (hpl : (backTo cp (starEach [] X.env)).any (·.1) = false := by rfl) : DE X E (.Call (.Attribute (.Name x p) "pop" ap) [e] [] cp) (dPopAt i da) :=
  ⟨fun B => pe_mono (pe_bm PySem.F.plainAttrs_list PySem.F.slot_list_pop PySem.F.type_list_pop mt_popAt hv (pa_cons (he.run B) pa_nil hs) hbase hfew hline hs hpl) fun σ H Q q => by
    obtain ⟨δ, S, W, Q', R, ⟨⟨ds0, h0⟩, q⟩, xo, post⟩ := q
    obtain ⟨p0, _, v0, g0, _⟩ := R.ownAt h0
    refine ⟨.ref p0, v0, tyL g0, δ, S, W, _, R, q, xo, fun y δ1 v S1 H1 q1 e1 R1 n1 => ?_⟩
    match y, n1, q1 with
    | .int k, .int _, q1 =>
      obtain ⟨b1, b2, q1⟩ := q1
      obtain ⟨ds, h1, q1⟩ := optQ_ex q1
      obtain ⟨j, hj, q1⟩ := optQ_ex q1
      obtain ⟨d, hd, q1⟩ := optQ_ex q1
      obtain ⟨p', vs, v1, g1, a1, _, put⟩ := R1.ownAt h1
      rw [v0] at v1; cases v1
      obtain ⟨w, w1, w2⟩ := a1.get hd
      exact ⟨p0, vs, k, j, w, rfl, rfl, g1, b1, b2, by rw [a1.length]; exact (ixN_seq hj).1, w1, post _ _ _ _ _ q1 e1 (put _ _ (a1.eraseIdx j)) w2⟩⟩
/-! ### a look at a list of one's own, from which nothing but a number, a truth, a text comes back -/
def D.flat : D → Bool | .non => true | .bl _ => true | .int _ => true | .str _ => true | _ => false
theorem Dn.flat {v : V} {d : D} (h : Dn K S v d) (f : d.flat = true) : Dn K S' v d := by
  cases h <;> first | exact .non | exact .bl _ | exact .int _ | exact .str _ | (cases f)
theorem Rel.look (R : Rel K B δ S σ H) {i : Nat} {ds : List D} (h : Ev.lookAt δ i = some ds) : ∃ p S1, σ[i]? = some (some (.ref p)) ∧ Ex S S1 ∧ Sb S1 H ∧ Dn K S1 (.ref p) (.lst ds) ∧ tyV K "list" (.ref p) H ∧ ∀ S2 H2, Grow S1 H S2 H2 → ∃ S3, Ex S S3 ∧ Rel K B δ S3 σ H2 := by
  obtain ⟨p, vs, h1, h2, h3, h4⟩ := R.lookAt h
  rcases h4 with h4 | h4
  · refine ⟨p, upd S p (.lst vs), h1, Ex.new h4, ⟨fun a o q => ?_, fun a o q => Ex.new h4 _ _ (R.ex.tp a o q)⟩, .lst upd_same (h3.mono (Ex.new h4)), tyL h2, fun S2 H2 g => ?_⟩
    · by_cases e : a = p
      · subst e; rw [upd_same] at q; rw [h2]; exact q
      · rw [upd_ne e] at q; exact R.ex a o q
    · refine ⟨fun b => if b = p then none else S2 b, fun a o q => ?_, R.grow ⟨fun a o q => ?_, g.h, ⟨fun a o q => ?_, fun a o q => ?_⟩, fun b o hb n => ?_⟩⟩
      · have ne : a ≠ p := fun e => by rw [e, h4] at q; cases q
        exact (if_neg ne).trans (g.s a o (Ex.new h4 a o q))
      · have ne : a ≠ p := fun e => by rw [e, h4] at q; cases q
        exact (if_neg ne).trans (g.s a o (Ex.new h4 a o q))
      · have q : (if a = p then none else S2 a) = some o := q
        split at q
        · cases q
        · exact g.ok a o q
      · have ne : a ≠ p := fun e => by
          have z := g.h p _ h2
          rw [← e, q] at z; cases z
        exact (if_neg ne).trans (g.ok.tp a o q)
      · show (if b = p then none else S2 b) = none
        split
        · rfl
        · rename_i ne
          exact g.no b o hb (by rw [upd_ne ne]; exact n)
  · exact ⟨p, S, h1, Ex.refl _, R.ex, .lst h4 h3, tyL h2, fun S2 H2 g => ⟨S2, g.s, R.grow g⟩⟩
/-- f(name) -/
def dOwnCB (i : Nat) (r : DRC) : dE := fun _ δ Q => optQ (lookAt δ i) fun ds => r [.lst ds] fun z => z.flat = true ∧ Q z δ
theorem own_CB {i : Nat} {r : DRC} {Q : VK} (q : liftE K B E (dOwnCB i r) σ H Q) : tCB (liftC K r) (tCons (tVar i) tNil) σ H Q := by
  obtain ⟨δ, S, W, Q', R, q, xo, post⟩ := q
  obtain ⟨ds, h, q⟩ := optQ_ex q
  obtain ⟨p, S1, h1, e1, e2, n, _, back⟩ := R.look h
  exact ⟨.ref p, h1, S1, [.lst ds], _, e2, .cons n .nil, q, fun dz v S2 H2 q2 g n2 => (back _ _ g).elim fun S3 b3 => post _ _ _ _ _ q2.2 b3.1 b3.2 (n2.flat q2.1)⟩
theorem de_ownB {id : String} {r : DRC} {i : Nat} {y : Str} {py : Pos} (hc : CallR X (.builtin id) (liftC X.K r)) (hv : PE X (.Name y py) (tVar i)) (gl : Gl X x) (hm : X.mg x = none) (hb : bootBuiltins x = some (.builtin id)) (hn : x ≠ "__name__" := by decide) (hdb : (x == ("__debug__" : Str)) = false := by decide)
    (he : starEach [.Name y py] X.env = (false, eval (.Name y py) X.env) :: starEach [] X.env := by rfl) (hpl : (backTo pos (starEach [] X.env)).any (·.1) = false := by rfl) : DE X E (.Call (.Name x p) [.Name y py] [] pos) (dOwnCB i r) :=
  ⟨fun B => pe_mono (pe_callB hc gl hm hb (pa_cons hv pa_nil he) hn hdb he hpl) fun σ H Q q => own_CB q⟩
/-- name op e, e op name -/
def dOwnL (i : Nat) (r : DR2) (d : dE) : dE := fun W δ Q => (∃ ds, lookAt δ i = some ds) ∧ d W δ fun y δ1 => optQ (lookAt δ1 i) fun ds => r (.lst ds) y fun z => z.flat = true ∧ Q z δ1
def dOwnR (i : Nat) (r : DR2) (d : dE) : dE := fun W δ Q => d W δ fun x δ1 => optQ (lookAt δ1 i) fun ds => r x (.lst ds) fun z => z.flat = true ∧ Q z δ1
theorem own_L {i : Nat} {r : DR2} {Q : VK} (q : liftE K B E (dOwnL i r db) σ H Q) : tOp (liftR K r) (tVar i) (liftE K B E db) σ H Q := by
  obtain ⟨δ, S, W, Q', R, ⟨⟨ds0, h0⟩, q⟩, xo, post⟩ := q
  obtain ⟨p0, _, v0, _⟩ := R.lookAt h0
  refine ⟨.ref p0, v0, δ, S, W, _, R, q, xo, fun y δ1 v S1 H1 q1 e1 R1 n1 => ?_⟩
  obtain ⟨ds, h, q1⟩ := optQ_ex q1
  obtain ⟨p, S2, h1, e2, e3, n, _, back⟩ := R1.look h
  rw [v0] at h1; cases h1
  exact ⟨S2, .lst ds, y, _, e3, n, n1.mono e2, q1, fun dz v S3 H3 q2 g n2 => (back _ _ g).elim fun S4 b4 => post _ _ _ _ _ q2.2 (e1.trans b4.1) b4.2 (n2.flat q2.1)⟩
theorem own_R {i : Nat} {r : DR2} {Q : VK} (q : liftE K B E (dOwnR i r da) σ H Q) : tOp (liftR K r) (liftE K B E da) (tVar i) σ H Q := by
  obtain ⟨δ, S, W, Q', R, q, xo, post⟩ := q
  refine ⟨δ, S, W, _, R, q, xo, fun y δ1 v S1 H1 q1 e1 R1 n1 => ?_⟩
  obtain ⟨ds, h, q1⟩ := optQ_ex q1
  obtain ⟨p, S2, h1, e2, e3, n, _, back⟩ := R1.look h
  exact ⟨.ref p, h1, S2, y, .lst ds, _, e3, n1.mono e2, n, q1, fun dz v S3 H3 q2 g n2 => (back _ _ g).elim fun S4 b4 => post _ _ _ _ _ q2.2 (e1.trans b4.1) b4.2 (n2.flat q2.1)⟩
theorem de_ownL {op : CmpOp} {r : DR2} {i : Nat} {y : Str} {py : Pos} (ho : OpD X (compareOp op) r) (hv : PE X (.Name y py) (tVar i)) (hb : DE X E b db) (hm : behindInMarks op b = false) : DE X E (.Compare (.Name y py) [op] [b] pos) (dOwnL i r db) :=
  ⟨fun B => pe_mono (pe_cmpR ho hv (hb.run B) hm) fun σ H Q q => own_L q⟩
theorem de_ownR {op : CmpOp} {r : DR2} {i : Nat} {y : Str} {py : Pos} (ho : OpD X (compareOp op) r) (ha : DE X E a da) (hv : PE X (.Name y py) (tVar i)) (hm : behindInMarks op (.Name y py) = false) : DE X E (.Compare a [op] [.Name y py] pos) (dOwnR i r da) :=
  ⟨fun B => pe_mono (pe_cmpR ho (ha.run B) hv hm) fun σ H Q q => own_R q⟩
theorem dt_ownL {op : CmpOp} {r : DR2} {i : Nat} {y : Str} {py : Pos} (ho : OpD X (compareOp op) r) (hv : PE X (.Name y py) (tVar i)) (hb : DE X E b db) (hm : behindInMarks op b = false) : DT X E (.Compare (.Name y py) [op] [b] pos) (dB (dOwnL i r db)) :=
  ⟨fun B => pt_mono (pt_cmpR ho hv (hb.run B) hm) fun σ H Q q => by
    have q := lift_B q
    exact own_L (Q := fun x H' => ∃ k, x = .bl k ∧ Q k H') q⟩
theorem dt_ownR {op : CmpOp} {r : DR2} {i : Nat} {y : Str} {py : Pos} (ho : OpD X (compareOp op) r) (ha : DE X E a da) (hv : PE X (.Name y py) (tVar i)) (hm : behindInMarks op (.Name y py) = false) : DT X E (.Compare a [op] [.Name y py] pos) (dB (dOwnR i r da)) :=
  ⟨fun B => pt_mono (pt_cmpR ho (ha.run B) hv hm) fun σ H Q q => by
    have q := lift_B q
    exact own_R (Q := fun x H' => ∃ k, x = .bl k ∧ Q k H') q⟩
/-- name[lo:hi] -/
def dOwnSl (i : Nat) (lo hi : dO) : dF := fun W δ Q => (∃ ds, lookAt δ i = some ds) ∧ lo W δ fun l δ2 => hi W δ2 fun h δ3 => optQ (lookAt δ3 i) fun ds => Q (cutD ds l h) δ3
theorem df_ownSl {i : Nat} {lo hi : Option Expr} {dl dh : dO} {p2 : Pos} (hv : PE X (.Name x p) (tVar i)) (hl : DO X E lo dl) (hh : DO X E hi dh) : DF X E (.Subscript (.Name x p) (.Slice lo hi none p2) pos) (dOwnSl i dl dh) := ⟨fun B => pe_mono (pe_slice sl_list hv (hl.run B) (hh.run B)) fun σ H Q q => by
  obtain ⟨δ, S, W, Q', R, ⟨⟨ds0, h0⟩, q⟩, xo, post⟩ := q
  obtain ⟨p0, _, v0, _⟩ := R.lookAt h0
  refine ⟨.ref p0, v0, δ, S, W, _, R, q, xo, fun l δ2 S2 H2 q2 e2 R2 => ⟨δ2, S2, W, _, R2, q2, xo.mono e2, fun h δ3 S3 H3 q3 e3 R3 => ?_⟩⟩
  obtain ⟨ds, h1, q3⟩ := optQ_ex q3
  obtain ⟨p', vs, v1, g1, a1, _⟩ := R3.lookAt h1
  rw [v0] at v1; cases v1
  exact ⟨p0, vs, rfl, SqL.of g1, fun p hp => post _ _ _ _ _ _ q3 (e2.trans e3) R3 hp (a1.cut l h)⟩⟩

/-! ### texts -/
def strsOf : List D → Option (List Str)
  | [] => some []
  | .str b :: r => (strsOf r).map (b :: ·)
  | _ => none
theorem strs_valsD : ∀ {ds : List D} {bs : List Str} {vs : List V}, DnA K S vs ds → strsOf ds = some bs → vs = bs.map V.str
  | [], _, _, .nil, h => by cases h; rfl
  | .str b :: r, bs, _, .cons h1 h2, h => by
    cases h1
    cases hr : strsOf r with
    | none => simp [strsOf, hr] at h
    | some cs =>
      simp [strsOf, hr] at h
      subst h
      rw [strs_valsD h2 hr]; rfl
/-- sep.join(e) -/
def dJoin (ds dx : dE) : dE := fun W δ Q => ds W δ fun s δ1 => dx W δ1 fun x δ2 => match s, x with
  | .str a, .lst zs => optQ (strsOf zs) fun ys => (ys.map (·.length)).sum + ys.length * a.length ≤ 16777216 ∧ Q (.str (Txt.join a ys)) δ2
  | .str a, .tup zs => optQ (strsOf zs) fun ys => (ys.map (·.length)).sum + ys.length * a.length ≤ 16777216 ∧ Q (.str (Txt.join a ys)) δ2
  | _, _ => False
theorem de_join (ho : DE X E a da) (he : DE X E e db) (hstr : ∀ W δ Q, da W δ Q → da W δ fun s δ' => (∃ z, s = .str z) ∧ Q s δ') (hs : starEach [e] X.env = [(false, eval e X.env)] := by rfl) (hbase : attributeBase a "join" X.env (eval a X.env) = eval a X.env := by rfl) (hline : (ap.endLine == pos.line) = true := by rfl) :
    DE X E (.Call (.Attribute a "join" ap) [e] [] pos) (dJoin da db) := ⟨fun B => pe_mono (pe_join (ho.run B) (he.run B) hs hbase hline) fun σ H Q q => by
  obtain ⟨δ, S, W, Q', R, q, xo, post⟩ := q
  refine ⟨δ, S, W, _, R, hstr _ _ _ q, xo, fun s δ1 v S1 H1 q1 e1 R1 n1 => ?_⟩
  obtain ⟨⟨z, rfl⟩, q1⟩ := q1
  cases n1
  refine ⟨⟨z, rfl⟩, δ1, S1, W, _, R1, q1, xo.mono e1, fun x δ2 u S2 H2 q2 e2 R2 n2 => ?_⟩
  match x, n2, q2 with
  | .lst zs, .lst h aa, q2 =>
    obtain ⟨ys, hy, hz, q2⟩ := optQ_ex q2
    have e := strs_valsD aa hy
    exact ⟨z, _, ys, rfl, rfl, .inl (SqL.of (by rw [← e]; exact R2.ex _ _ h)), hz, post _ _ _ _ _ q2 (e1.trans e2) R2 (.str _)⟩
  | .tup zs, .tup h aa, q2 =>
    obtain ⟨ys, hy, hz, q2⟩ := optQ_ex q2
    have e := strs_valsD aa hy
    exact ⟨z, _, ys, rfl, rfl, .inr (by rw [← e]; exact SqT.of (R2.ex _ _ h)), hz, post _ _ _ _ _ q2 (e1.trans e2) R2 (.str _)⟩⟩
theorem dc_str {z : Str} (W : XW) (δ : DS) (Q : D → DS → Prop) (h : dC (.str z) W δ Q) : dC (.str z) W δ fun s δ' => (∃ z, s = .str z) ∧ Q s δ' := ⟨⟨z, rfl⟩, h⟩
/-- f'..' -/
def dFmt (d : dE) : dE := fun W δ Q => d W δ fun x δ1 => match x with
  | .str y => y.length ≤ sizeLine ∧ Q (.str y) δ1
  | .int i => i.natAbs.log2 < 1920 ∧ Q (.str (toString i)) δ1
  | _ => False
theorem de_fmt (he : DE X E e da) : DE X E (.FormattedValue e (-1) none pos) (dFmt da) := ⟨fun B => pe_mono (pe_fmt (he.run B)) fun σ H Q q => by
  obtain ⟨δ, S, W, Q', R, q, xo, post⟩ := q
  refine ⟨δ, S, W, _, R, q, xo, fun x δ1 v S1 H1 q1 e1 R1 n1 => ?_⟩
  match x, n1, q1 with
  | .str y, .str _, q1 => exact .inl ⟨y, rfl, q1.1, post _ _ _ _ _ q1.2 e1 R1 (.str _)⟩
  | .int i, .int _, q1 => exact .inr ⟨i, rfl, q1.1, post _ _ _ _ _ q1.2 e1 R1 (.str _)⟩⟩
inductive DJ (X : Cx) (E : EK) : List Expr → List dE → Prop where
  | nil : DJ X E [] []
  | cons {e : Expr} {t : dE} {es : List Expr} {ts : List dE} (h : DE X E e t) (r : DJ X E es ts) : DJ X E (e :: es) (t :: ts)
def dJs : List dE → Str → XW → DS → (Str → DS → Prop) → Prop
  | [], acc, _, δ, Q => Q acc δ
  | t :: ts, acc, W, δ, Q => t W δ fun x δ1 => match x with
    | .str y => (acc ++ y).length ≤ sizeLine ∧ dJs ts (acc ++ y) W δ1 Q
    | _ => False
theorem DJ.pj {E : EK} {es : List Expr} {ts : List dE} (h : DJ X E es ts) (B : Bs) : PJ X es (ts.map fun t => liftE X.K B E t) := by
  induction h with
  | nil => exact .nil
  | cons h r ih => exact .cons (h.run B) ih
theorem js_read : ∀ (ts : List dE) (acc : Str) {δ : DS} {S H : Hp} {W : XW} {Q1 : Str → DS → Prop} {Q : Str → Hp → Prop}, Rel K B δ S σ H → XOk K B E W S → dJs ts acc W δ Q1 → (∀ y δ' S' H', Q1 y δ' → Ex S S' → Rel K B δ' S' σ H' → Q y H') → tJs (ts.map fun t => liftE K B E t) acc σ H Q
  | [], acc, _, _, _, _, _, _, R, _, q, post => post _ _ _ _ q (Ex.refl _) R
  | t :: ts, acc, δ, S, H, W, Q1, Q, R, xo, q, post => by
    refine ⟨δ, S, W, _, R, q, xo, fun x δ1 v S1 H1 q1 e1 R1 n1 => ?_⟩
    match x, n1, q1 with
    | .str y, .str _, q1 => exact ⟨y, rfl, q1.1, js_read ts _ R1 (xo.mono e1) q1.2 fun z δ' S' H' q' e' R' => post z δ' S' H' q' (e1.trans e') R'⟩
def dFs (ts : List dE) : dE := fun W δ Q => dJs ts Str.empty W δ fun out δ' => Q (.str out) δ'
theorem de_fs {v1 v2 : Expr} {rest : List Expr} {ts : List dE} (h : DJ X E (v1 :: v2 :: rest) ts) : DE X E (.JoinedStr (v1 :: v2 :: rest) pos) (dFs ts) := ⟨fun B => pe_mono (pe_joined (h.pj B)) fun σ H Q q => by
  obtain ⟨δ, S, W, Q', R, q, xo, post⟩ := q
  exact js_read ts _ R xo q fun y δ' S' H' q1 e1 R1 => post _ _ _ _ _ q1 e1 R1 (.str _)⟩
end

/-! ### the pen's own def: the first parameter is the pen, the second how many -/
def penD (ns : List Int) (k m : Int) : List D := [.lst (ns.map D.int), .int k, .int m]
/-- what a draw tells: any number below many, one draw more -/
def spDraw (top : Nat) : dSp := fun ds p Q _ => match ds, p with
  | [.raw (.ref a), .int n], some (b, c) => a = b ∧ 0 < n ∧ n < 1000000 ∧ c < top ∧ ∀ r, 0 ≤ r → r < n → Q (.int r) (some (a, c + 1))
  | _, _ => False
section
variable {P : Program} {w : World} {K : PySem.W.Frag} {mg : Str → Option Value} {base : Heap} {x qual : Str} {st : Stmt} {f : Addr} {fd : FuncData} {N ps : List Str} {k : Nat} {d : dS}
theorem intsOf_ints : ∀ ns : List Int, intsOf (ns.map D.int) = some ns
  | [] => rfl
  | n :: ns => by simp [intsOf, intsOf_ints ns]
theorem fn_pen {top : Nat} (F : Fun K x qual st f fd) (Sc : FnScope N ps (defScope st)) (hn : ps.length = 2)
    (body : ∀ (cdv : Value) (A : Around) (out : List Env) (s : Shared) (H : Hp) (E : XK), A.guards = some [] → Room k (A.deeper (envOfC qual (defScope st) s.heap.objs.size f cdv)) → DSs (cx0 P w K mg base N qual (defScope st) f cdv A out s H E) E00 (defBody st) d)
    (hsp : ∀ (ns : List Int) (k m n : Int), ns.length ≤ 63 → 0 ≤ k → k < top → 0 ≤ m → 0 < n → n < 1000000 →
      d W0 { nx := fun _ => False, rt := fun x δ => ∃ r k' m' : Int, x = .int r ∧ 0 ≤ r ∧ r < n ∧ 0 ≤ k' ∧ k' ≤ k + 1 ∧ 0 ≤ m' ∧ δ.sl[0]? = some (.hp (penD ns k' m')) } ⟨.hp (penD ns k m) :: .dat (.int n) :: List.replicate (N.length - 2) .un, none⟩) :
    FnG P w K mg base CX0 (k + 1) f fd ps (spD K 2 (spDraw top)) := by
  refine fn_g F Sc (fun vs H Q E q => (spD_len vs H Q E q).trans hn.symm) fun cdv A out s H vs Q E g r q => ?_
  obtain ⟨S0, ds, p, Q', W', ex, hp, a, hl, q, post, _⟩ := q
  have hN : 2 ≤ N.length := by
    have h2 := congrArg List.length Sc.pre
    rw [List.length_take] at h2
    omega
  match ds, p, q, a, hp with
  | [.raw (.ref a0), .int n], some (b, c), ⟨e1, n1, n2, ct, q⟩, a, hp =>
    subst e1
    obtain ⟨v1, v2, rfl, d1, d2⟩ := a.two
    cases d1; cases d2
    obtain ⟨pn, ca, ns, kk, m, g1, g2, g3, g4, g5, g6⟩ := hp
    have start0 : Rel K ⟨S0, H, some a0, false⟩ ⟨.hp (penD ns kk m) :: .dat (.int n) :: List.replicate (N.length - 2) .un, none⟩ S0 (L2.start N [.ref a0, .int n]) H := by
      refine ⟨ex, ⟨Ex.refl _, fun _ _ h _ => h, fun _ _ _ n => n, fun b z => by cases z; exact ⟨_, g1⟩⟩, trivial, (by unfold PaOk; rw [if_neg (fun z => Bool.false_ne_true z.1)]; exact fun _ _ z => nomatch z), ?_, fun i => if i = 0 then some a0 else none, fun i y e => ?_, fun i hi => ?_, fun i j a e1 e2 => ?_, fun i a e => ?_⟩
      · simp only [L2.start, List.length_append, List.length_map, List.length_replicate, List.length_cons, List.length_nil]; omega
      · match i, e with
        | 0, e =>
          cases (show some (Sl.hp (penD ns kk m)) = some y from e)
          exact ⟨a0, [.ref ca, .int kk, .int m], rfl, rfl, rfl, g1, .cons (.lst g2 (DnA.ints ns)) (.cons (.int _) (.cons (.int _) .nil))⟩
        | 1, e =>
          cases (show some (Sl.dat (.int n)) = some y from e)
          exact ⟨rfl, .int n, rfl, .int n⟩
        | i + 2, e =>
          have e : (List.replicate (N.length - 2) Sl.un)[i]? = some y := by simpa using e
          rw [List.getElem?_replicate] at e
          split at e
          · cases e; exact rfl
          · cases e
      · have : i ≠ 0 := fun z => by subst z; simp at hi
        simp [this]
      · have e1 : (if i = 0 then some a0 else none) = some a := e1
        have e2 : (if j = 0 then some a0 else none) = some a := e2
        split at e1
        · split at e2
          · exact (by assumption : i = 0).trans (by assumption : j = 0).symm
          · cases e2
        · cases e1
      · have e : (if i = 0 then some a0 else none) = some a := e
        split at e
        · cases e; exact ⟨pn, .inr rfl, (fun c z => (nomatch z)), _, g1⟩
        · cases e
    refine ⟨_, ((body cdv A out s H E g r).run ⟨S0, H, some a0, false⟩).nox, _, S0, W0, _, start0, hsp ns kk m n g3 g4 (by omega) g6 n1 n2, fun _ _ _ _ _ _ _ h => h.elim, fun _ _ _ _ h => h.elim, fun x δ' v σ' S' H' q1 e1 R1 dn => ?_, fun _ _ _ _ h => h.elim, fun _ _ _ _ h => h.elim⟩
    obtain ⟨r, k', m', rfl, r1, r2, r3, r4, r5, r6⟩ := q1
    obtain ⟨p', vs, s1, s2, s3, s4, s5, _⟩ := R1.hp r6
    cases s5
    match vs, s3, s2 with
    | [_, _, _], .cons t1 (.cons t2 (.cons t3 .nil)), s2 =>
      cases t2; cases t3
      cases t1 with
      | lst u1 u2 =>
        have e := ints_valsD (bs := ns) u2 (intsOf_ints ns)
        subst e
        exact post _ (some (a0, c + 1)) _ _ _ (q r r1 r2) ⟨e1, R1.ex, ⟨s4, _, ns, k', m', s2, u1, g3, r3, by omega, r5⟩, .inl rfl, fun b o h nb => R1.fr.h b o h nb, R1.fr.no⟩ dn
end
end Ev

/-! # A pen is born; calls by keywords, defaults; what is known of a def -/
namespace Ev
open PySem PySem.Spec PyProof.Rows L2
variable {K : PySem.W.Frag} {S S' H H' : Hp} {B : Bs} {δ : DS} {σ : L2.St}
section
variable {X : Cx} {E : EK} {e a b c : Expr} {es : List Expr} {pos p ap cp : Pos} {da db : dE} {x : Str}
/-- a new list that is a pen: from here on it is the pen -/
def dBorn (f : dF) : dE := fun W δ Q => f W δ fun xs δ1 => δ1.pen = none ∧ ∃ (ns : List Int) (k m : Int) (c : Nat), xs = penD ns k m ∧ ns.length ≤ 63 ∧ 0 ≤ k ∧ k ≤ c ∧ 0 ≤ m ∧ ∀ a, Q (.raw (.ref a)) { δ1 with pen := some (a, c) }
theorem Rel.born (R : Rel K B δ S σ H) (hn : δ.pen = none) (hb : ¬(B.pd = true ∧ B.pa ≠ none)) {p ca : Addr} {ns : List Int} {k m : Int} {c : Nat} (hp : H p = none) (hc : S ca = some (.lst (ns.map V.int))) (h63 : ns.length ≤ 63) (h0 : 0 ≤ k) (hk : k ≤ c) (hm : 0 ≤ m) :
    Rel K B { δ with pen := some (p, c) } S σ (upd H p (.lst [.ref ca, .int k, .int m])) := by
  obtain ⟨f1, f2⟩ := R.fr.fresh hp
  have sp : S p = none := R.ex.none hp
  have g : Grow S H S (upd H p (.lst [.ref ca, .int k, .int m])) := ⟨Ex.refl _, Ex.new hp, R.ex.one hp (fun vs z => HO.noConfusion z), fun _ _ _ n => n⟩
  have R' := R.grow g
  obtain ⟨ow, h1, h2, h3, h4⟩ := R.sl
  obtain ⟨ow', h1', h2', h3', h4'⟩ := R'.sl
  refine ⟨R'.ex, R'.fr, ⟨sp, ca, ns, k, m, upd_same, hc, h63, h0, hk, hm⟩, ?_, R'.len, ow, fun i x e => (h1 i x e).grow (Ex.refl _) fun a o _ q => Ex.new hp a o q, h2, h3, fun i a e => ?_⟩
  · unfold PaOk
    rw [if_neg hb]
    intro a c' z
    cases z
    exact ⟨f1, f2⟩
  · obtain ⟨q1, q2, q3, o, q4⟩ := h4 i a e
    have ne : a ≠ p := fun z => by rw [z, hp] at q4; cases q4
    refine ⟨q1, q2, fun c' z => ?_, o, by rw [upd_ne ne]; exact q4⟩
    cases z
    exact ne rfl
theorem Rel.free (R : Rel K B δ S σ H) (hn : δ.pen = none) : ¬(B.pd = true ∧ B.pa ≠ none) := fun z => by
  have q := R.pa
  unfold PaOk at q
  rw [if_pos z, hn] at q
  exact z.2 q.symm
theorem DnA.pen {vs : List V} {ns : List Int} {k m : Int} (h : DnA K S vs (penD ns k m)) : ∃ ca, vs = [.ref ca, .int k, .int m] ∧ S ca = some (.lst (ns.map V.int)) := by
  match vs, h with
  | [_, _, _], .cons t1 (.cons t2 (.cons t3 .nil)) =>
    cases t2; cases t3
    cases t1 with
    | lst u1 u2 =>
      have e := ints_valsD (bs := ns) u2 (intsOf_ints ns)
      subst e
      exact ⟨_, rfl, u1⟩
theorem de_born {f : dF} (h : DF X E e f) : DE X E e (dBorn f) := ⟨fun B => pe_mono (h.run B) fun σ H Q q => by
  obtain ⟨δ, S, W, Q', R, q, xo, post⟩ := q
  refine ⟨δ, S, W, _, R, q, xo, fun xs δ1 p vs S1 H1 q1 e1 R1 hp n1 => ?_⟩
  obtain ⟨hn, ns, k, m, c, rfl, z1, z2, z3, z4, q1⟩ := q1
  obtain ⟨ca, rfl, hc⟩ := n1.pen
  exact post _ _ _ _ _ (q1 p) e1 (R1.born hn (R1.free hn) hp hc z1 z2 z3 z4) (.raw _)⟩

/-! ### calls: defaults, keywords -/
/-- f(..), n arguments in all, the last ones by default -/
def dCallD (n : Nat) (dd : List D) (sp : dSp) (a : dA) : dE := fun W δ Q => a W δ fun xs δ1 => (xs ++ dd).length = n ∧ sp (xs ++ dd) δ1.pen (fun x p' => Q x { δ1 with pen := p' }) fun c p' => W c { δ1 with pen := p' }
/-- the arguments us and those by keyword ws and the defaults, put in order -/
def pickL {α : Type} (p q : Nat) (idx : List Nat) (dd us ws : List α) : List α := if us.length = p ∧ ws.length = q then idx.filterMap ((us ++ ws ++ dd)[·]?) else []
theorem DnA.filterMap {vs : List V} {ds : List D} (a : DnA K S vs ds) : ∀ idx : List Nat, DnA K S (idx.filterMap (vs[·]?)) (idx.filterMap (ds[·]?))
  | [] => .nil
  | i :: idx => by
    have ih := a.filterMap idx
    rw [List.filterMap_cons, List.filterMap_cons]
    cases h : ds[i]? with
    | none =>
      have : vs[i]? = none := by
        rw [List.getElem?_eq_none_iff] at h ⊢
        rw [a.length]; exact h
      rw [this]; exact ih
    | some d =>
      obtain ⟨v, h1, h2⟩ := a.get h
      rw [h1]
      exact .cons h2 ih
theorem DnA.pick {p q : Nat} {idx : List Nat} {dv us ws : List V} {dd ds es : List D} (hd : DnA K S dv dd) (h1 : DnA K S us ds) (h2 : DnA K S ws es) : DnA K S (pickL p q idx dv us ws) (pickL p q idx dd ds es) := by
  unfold pickL
  rw [h1.length, h2.length]
  split
  · exact ((h1.append h2).append hd).filterMap idx
  · exact .nil
theorem vals_filterMap {vs : List V} {us : List Value} (a : Vals vs us) : ∀ idx : List Nat, Vals (idx.filterMap (vs[·]?)) (idx.filterMap (us[·]?))
  | [] => .nil
  | i :: idx => by
    have ih := vals_filterMap a idx
    rw [List.filterMap_cons, List.filterMap_cons]
    cases h : vs[i]? with
    | none =>
      rw [a.none_of h]; exact ih
    | some v =>
      obtain ⟨u, h1, h2⟩ := a.get h
      rw [h1]
      exact .cons h2 ih
theorem vals_pick {p q : Nat} {idx : List Nat} {dv us ws : List V} {dd ds es : List Value} (hd : Vals dv dd) (h1 : Vals us ds) (h2 : Vals ws es) : Vals (pickL p q idx dv us ws) (pickL p q idx dd ds es) := by
  unfold pickL
  rw [h1.length, h2.length]
  split
  · exact vals_filterMap ((h1.append h2).append hd) idx
  · exact .nil
/-- how a def's keywords bind -/
theorem kbinds_of {fd : FuncData} {ps ks : List Str} {p q : Nat} {idx : List Nat} {dv : List V} {ds : List Value} (hd : Vals dv ds) (hn : 0 < ps.length)
    (h : ∀ (s : Shared) (us ws : List Value), K.In s.heap → us.length = p → ws.length = q → BindsTo s fd ⟨us, ks.zip ws⟩ (ps.zip (idx.filterMap ((us ++ ws ++ ds)[·]?)))) : KBinds K fd ps ks (pickL p q idx ds) (pickL p q idx dv) where
  to := fun s us ws ki hl => by
    unfold pickL at hl ⊢
    split at hl
    · rename_i z
      rw [if_pos z]
      exact h s us ws ki z.1 z.2
    · rw [← hl] at hn
      exact absurd hn (Nat.lt_irrefl 0)
  rel := fun r rz => vals_pick hd r rz
/-- a def that lets nothing out: everything that a call wants to know of it; dd: the values by default -/
structure Def (P : Program) (w : World) (K : PySem.W.Frag) (mg : Str → Option Value) (base : Heap) (k : Nat) (x : Str) (n : Nat) (sp : dSp) (dd : List D) : Prop where
  ok : ∃ (ps : List Str) (f : Addr) (fd : FuncData) (dv : List V) (ds : List Value), FnG P w K mg base CX0 k f fd ps (spD K n sp) ∧ mg x = some (.ref f) ∧ PySem.W.keepIn K (.ref f) = true ∧ Binds K fd ps ds ∧ Vals dv ds ∧ ∀ S, DnA K S dv dd
structure DefK (P : Program) (w : World) (K : PySem.W.Frag) (mg : Str → Option Value) (base : Heap) (k : Nat) (x : Str) (n : Nat) (sp : dSp) (p q : Nat) (ks : List Str) (idx : List Nat) (dd : List D) : Prop where
  ok : ∃ (ps : List Str) (f : Addr) (fd : FuncData) (dv : List V) (ds : List Value), FnG P w K mg base CX0 k f fd ps (spD K n sp) ∧ mg x = some (.ref f) ∧ PySem.W.keepIn K (.ref f) = true ∧ KBinds K fd ps ks (pickL p q idx ds) (pickL p q idx dv) ∧ ∀ S, DnA K S dv dd
theorem pass_at {E : L2.St → XK} : ∀ σ, PassesAt CX0 X σ (E σ) := fun _ _ _ _ _ _ _ h => h.elim
variable {j k n : Nat} {sp : dSp} {dd : List D} {ta : dA}
theorem de_callD (h : Def X.prog X.w X.K X.mg X.base j x n sp dd) (hg : X.A.guards = some []) (hr : Room k X.A) (gl : Gl X x) (ha : DA X E (e :: es) ta) (hj : j ≤ k := by decide) (hdb : (x == ("__debug__" : Str)) = false := by decide)
    (he : starEach (e :: es) X.env = (false, eval e X.env) :: starEach es X.env := by rfl) (hpl : (backTo pos (starEach es X.env)).any (·.1) = false := by rfl) : DE X E (.Call (.Name x p) (e :: es) [] pos) (dCallD n dd sp ta) := by
  obtain ⟨ps, f, fd, dv, ds, F, m, kp, b, vd, dn⟩ := h.ok
  refine ⟨fun B => pe_mono (pe_callG F hg (hr.mono hj) gl m kp b vd (pass_at (E := E)) (ha.run B) hdb he hpl) fun σ H Q q => ?_⟩
  obtain ⟨δ, S, W, Q', R, q, xo, post⟩ := q
  refine ⟨δ, S, W, _, R, q, xo, fun xs δ1 vs S1 H1 q1 e1 R1 n1 => ?_⟩
  exact call_read xo e1 R1 (n1.append (dn S1)) q1.1 q1.2 post
theorem de_callD0 (h : Def X.prog X.w X.K X.mg X.base j x n sp dd) (hg : X.A.guards = some []) (hr : Room k X.A) (gl : Gl X x) (hj : j ≤ k := by decide) (hdb : (x == ("__debug__" : Str)) = false := by decide) : DE X E (.Call (.Name x p) [] [] pos) (dCallD n dd sp dNil) := by
  obtain ⟨ps, f, fd, dv, ds, F, m, kp, b, vd, dn⟩ := h.ok
  refine ⟨fun B => pe_mono (pe_callG0 F hg (hr.mono hj) gl m kp b vd (pass_at (E := E)) hdb) fun σ H Q q => ?_⟩
  obtain ⟨δ, S, W, Q', R, q, xo, post⟩ := q
  exact call_read xo (Ex.refl _) R (dn S) q.1 q.2 post
/-- values by keyword -/
structure DK (X : Cx) (E : EK) (kws : List Keyword) (d : dA) : Prop where
  run : ∀ B, PK X kws (liftA X.K B E d)
theorem pk_mono {kws : List Keyword} {t t' : TA} (h : PK X kws t) (m : ∀ σ H Q, t' σ H Q → t σ H Q) : PK X kws t' := ⟨fun pos pins s σ H Q I q => h.run pos pins s σ H Q I (m _ _ _ q)⟩
theorem dk_nil : DK X E [] dNil := ⟨fun B => pk_mono pk_nil fun σ H Q q => by
  obtain ⟨δ, S, W, Q', R, q, xo, post⟩ := q
  exact post _ _ _ _ _ q (Ex.refl _) R .nil⟩
theorem dk_cons {nm : Option Str} {kpos : Pos} {kws : List Keyword} {r : dA} (h : DE X E e da) (hr : DK X E kws r) : DK X E (⟨nm, e, kpos⟩ :: kws) (dCons da r) := ⟨fun B => pk_mono (pk_cons (h.run B) (hr.run B)) fun σ H Q q => by
  obtain ⟨δ, S, W, Q', R, q, xo, post⟩ := q
  refine ⟨δ, S, W, _, R, q, xo, fun x δ1 v S1 H1 q1 e1 R1 n1 => ?_⟩
  exact ⟨δ1, S1, W, _, R1, q1, xo.mono e1, fun xs δ2 vs S2 H2 q2 e2 R2 n2 => post _ _ _ _ _ q2 (e1.trans e2) R2 (.cons (n1.mono e2) n2)⟩⟩
def dCallK (n p q : Nat) (idx : List Nat) (dd : List D) (sp : dSp) (a tk : dA) : dE := fun W δ Q => a W δ fun us δ1 => tk W δ1 fun ws δ2 => (pickL p q idx dd us ws).length = n ∧ sp (pickL p q idx dd us ws) δ2.pen (fun x p' => Q x { δ2 with pen := p' }) fun c p' => W c { δ2 with pen := p' }
variable {pp qq : Nat} {ks : List Str} {idx : List Nat} {kws : List Keyword} {tk : dA}
theorem de_callK (h : DefK X.prog X.w X.K X.mg X.base j x n sp pp qq ks idx dd) (hg : X.A.guards = some []) (hr : Room k X.A) (gl : Gl X x) (ha : DA X E (e :: es) ta) (hk : DK X E kws tk) (hj : j ≤ k := by decide) (hall : (backToKw pos (keywordEach kws X.env)).all (·.1.isSome) = true := by rfl)
    (hks : (backToKw pos (keywordEach kws X.env)).filterMap (·.1) = ks := by rfl) (hdb : (x == ("__debug__" : Str)) = false := by decide) (he : starEach (e :: es) X.env = (false, eval e X.env) :: starEach es X.env := by rfl)
    (hpl : ((backTo pos (starEach (e :: es) X.env)).any (·.1) || (backToKw pos (keywordEach kws X.env)).any (·.1.isNone)) = false := by rfl) : DE X E (.Call (.Name x p) (e :: es) kws pos) (dCallK n pp qq idx dd sp ta tk) := by
  obtain ⟨ps, f, fd, dv, ds, F, m, kp, b, dn⟩ := h.ok
  refine ⟨fun B => pe_mono (pe_callGK F hg (hr.mono hj) gl m kp b (pass_at (E := E)) (ha.run B) (hk.run B) hall hks hdb he hpl) fun σ H Q q => ?_⟩
  obtain ⟨δ, S, W, Q', R, q, xo, post⟩ := q
  refine ⟨δ, S, W, _, R, q, xo, fun us δ1 vs S1 H1 q1 e1 R1 n1 => ?_⟩
  refine ⟨δ1, S1, W, _, R1, q1, xo.mono e1, fun ws δ2 zs S2 H2 q2 e2 R2 n2 => ?_⟩
  exact call_read xo (e1.trans e2) R2 (DnA.pick (dn S2) (n1.mono e2) n2) q2.1 q2.2 post
theorem de_callK0 (h : DefK X.prog X.w X.K X.mg X.base j x n sp pp qq ks idx dd) (hg : X.A.guards = some []) (hr : Room k X.A) (gl : Gl X x) (hk : DK X E kws tk) (hj : j ≤ k := by decide) (hall : (backToKw pos (keywordEach kws X.env)).all (·.1.isSome) = true := by rfl)
    (hks : (backToKw pos (keywordEach kws X.env)).filterMap (·.1) = ks := by rfl) (hdb : (x == ("__debug__" : Str)) = false := by decide)
    (hpl : ((backTo pos (starEach [] X.env)).any (·.1) || (backToKw pos (keywordEach kws X.env)).any (·.1.isNone)) = false := by rfl) : DE X E (.Call (.Name x p) [] kws pos) (dCallK n pp qq idx dd sp dNil tk) := by
  obtain ⟨ps, f, fd, dv, ds, F, m, kp, b, dn⟩ := h.ok
  refine ⟨fun B => pe_mono (pe_callGK0 F hg (hr.mono hj) gl m kp b (pass_at (E := E)) (hk.run B) hall hks hdb hpl) fun σ H Q q => ?_⟩
  obtain ⟨δ, S, W, Q', R, q, xo, post⟩ := q
  refine ⟨δ, S, W, _, R, q, xo, fun ws δ2 zs S2 H2 q2 e2 R2 n2 => ?_⟩
  exact call_read xo e2 R2 (DnA.pick (dn S2) .nil n2) q2.1 q2.2 post
end
end Ev

/-! # Minus; loops by invariants; what may be compared and shown, by size -/
namespace Ev
open PySem PySem.Spec PyProof.Rows L2
variable {K : PySem.W.Frag} {S S' H H' : Hp} {B : Bs} {δ : DS} {σ : L2.St}
section
variable {X : Cx} {E : EK} {e a b c : Expr} {es : List Expr} {pos p ap cp : Pos} {da db : dE} {x : Str}
def dNeg (d : dE) : dE := fun W δ Q => d W δ fun x δ1 => match x with | .int i => Q (.int (-i)) δ1 | _ => False
theorem de_usub (h : DE X E e da) : DE X E (.UnaryOp .USub e pos) (dNeg da) := ⟨fun B => pe_mono (pe_un un_neg (h.run B)) fun σ H Q q => by
  obtain ⟨δ, S, W, Q', R, q, xo, post⟩ := q
  refine ⟨δ, S, W, _, R, q, xo, fun x δ1 v S1 H1 q1 e1 R1 n1 => ?_⟩
  match x, n1, q1 with
  | .int i, .int _, q1 => exact ⟨i, rfl, post _ _ _ _ _ q1 e1 R1 (.int _)⟩⟩
theorem de_neg {i : Int} {j} : DE X E (.UnaryOp .USub (.Constant (.int i) j p) pos) (dC (.int (-i))) := ⟨fun B => pe_mono ((de_usub (E := E) (de_int (i := i) (j := j))).run B) fun σ H Q q => q⟩
end
/-! ### loops -/
section
variable {g : dG} {b : dS} {W : XW} {N : dEnds} {tt : dT} {te : dE} {vs : List Nat} {Q : List D → DS → Prop}
/-- a for by what holds ahead of what is left -/
theorem wFor_ind (I : List D → DS → Prop) (h : ∀ d ds δ (k : DS → Prop), (∀ δ', I ds δ' → k δ') → I (d :: ds) δ → g d δ fun δ1 => b W { N with nx := k, ct := k, bk := N.nx } δ1) (h0 : ∀ δ, I [] δ → N.nx δ) : ∀ ds δ, I ds δ → wFor g b W N ds δ
  | [], δ, i => h0 δ i
  | d :: ds, δ, i => h d ds δ _ (fun δ' i' => wFor_ind I h h0 ds δ' i') i
theorem wLC_ind (I : List D → List D → DS → Prop) (h : ∀ d ds acc δ (k : List D → DS → Prop), (∀ acc' δ', I ds acc' δ' → k acc' δ') → I (d :: ds) acc δ → g d δ fun δ1 => tt W0 δ1 fun z δ2 => match z with
      | true => te W0 δ2 fun y δ3 => acc.length < sizeLine ∧ k (acc ++ [y]) (wipeD δ3 vs)
      | false => k acc (wipeD δ2 vs)) (h0 : ∀ acc δ, I [] acc δ → Q acc δ) : ∀ ds acc δ, I ds acc δ → wLC g tt te vs Q ds acc δ
  | [], acc, δ, i => h0 acc δ i
  | d :: ds, acc, δ, i => by
    have q := h d ds acc δ (fun acc' δ' => wLC g tt te vs Q ds acc' δ') (fun acc' δ' i' => wLC_ind I h h0 ds acc' δ' i') i
    exact q
/-- a comprehension that makes f d of each d, nothing else changed -/
theorem wLC_map {δ0 : DS} {xs : List D} (f : D → D) (h : ∀ d ∈ xs, ∀ acc (k : List D → DS → Prop), acc.length < sizeLine → k (acc ++ [f d]) δ0 → g d δ0 fun δ1 => tt W0 δ1 fun z δ2 => match z with
      | true => te W0 δ2 fun y δ3 => acc.length < sizeLine ∧ k (acc ++ [y]) (wipeD δ3 vs)
      | false => k acc (wipeD δ2 vs)) (hl : xs.length ≤ sizeLine) (h0 : Q (xs.map f) δ0) : wLC g tt te vs Q xs [] δ0 := by
  refine wLC_ind (fun ds acc δ => δ = δ0 ∧ (∀ d ∈ ds, d ∈ xs) ∧ acc ++ ds.map f = xs.map f) (fun d ds acc δ k hk i => ?_) (fun acc δ i => ?_) xs [] δ0 ⟨rfl, fun _ h => h, rfl⟩
  · obtain ⟨rfl, h1, h2⟩ := i
    refine h d (h1 d List.mem_cons_self) acc k ?_ (hk _ _ ⟨rfl, fun z hz => h1 z (List.mem_cons_of_mem _ hz), by rw [← h2]; simp⟩)
    have := congrArg List.length h2
    simp at this
    omega
  · obtain ⟨rfl, _, h2⟩ := i
    rw [List.map_nil, List.append_nil] at h2
    rw [h2]; exact h0
end
/-! ### equality of data -/
theorem eq_int {i j : Int} : D.eq (.int i) (.int j) = decide (i = j) := by simp [D.eq, D.py, PyData.eqv]; rfl
theorem eq_str {i j : Str} : D.eq (.str i) (.str j) = decide (i = j) := by simp [D.eq, D.py, PyData.eqv]; rfl
theorem eq_bl {i j : Bool} : D.eq (.bl i) (.bl j) = decide (i = j) := by simp [D.eq, D.py, PyData.eqv]; rfl
theorem eq_non : D.eq .non .non = true := by simp [D.eq, D.py, PyData.eqv]
mutual
theorem D.eqv_refl : ∀ d : D, PyData.eqv d.py d.py = true
  | .non => by simp [D.py, PyData.eqv]
  | .bl b => by simp [D.py, PyData.eqv]
  | .int i => by simp [D.py, PyData.eqv]
  | .str x => by simp [D.py, PyData.eqv]
  | .tup xs => by simp [D.py, PyData.eqv, D.eqv_refls xs]
  | .lst xs => by simp [D.py, PyData.eqv, D.eqv_refls xs]
  | .dK _ => by simp [D.py, PyData.eqv]
  | .dT _ => by simp [D.py, PyData.eqv]
  | .raw _ => by simp [D.py, PyData.eqv]
  | .scr _ => by simp [D.py, PyData.eqv]
theorem D.eqv_refls : ∀ ds : List D, PyData.eqvAll (D.pys ds) (D.pys ds) = true
  | [] => by simp [D.pys, PyData.eqvAll]
  | d :: ds => by simp [D.pys, PyData.eqvAll, D.eqv_refl d, D.eqv_refls ds]
end
theorem D.eq_refl (d : D) : D.eq d d = true := D.eqv_refl d
def D.eqs : List D → List D → Bool
  | [], [] => true
  | x :: xs, y :: ys => D.eq x y && D.eqs xs ys
  | _, _ => false
theorem D.eqs_py : ∀ xs ys : List D, PyData.eqvAll (D.pys xs) (D.pys ys) = D.eqs xs ys
  | [], [] => by simp [D.pys, PyData.eqvAll, D.eqs]
  | x :: xs, y :: ys => by simp [D.pys, PyData.eqvAll, D.eqs, D.eqs_py xs ys, D.eq]
  | [], _ :: _ => by simp [D.pys, PyData.eqvAll, D.eqs]
  | _ :: _, [] => by simp [D.pys, PyData.eqvAll, D.eqs]
theorem eq_tup {xs ys : List D} : D.eq (.tup xs) (.tup ys) = D.eqs xs ys := by simp [D.eq, D.py, PyData.eqv, D.eqs_py]
theorem eq_lst {xs ys : List D} : D.eq (.lst xs) (.lst ys) = D.eqs xs ys := by simp [D.eq, D.py, PyData.eqv, D.eqs_py]
/-! ### what may be compared, what may be shown -/
mutual
/-- texts of true signs, numbers of at most thirty digits, nothing but these within -/
def D.okd : D → Bool
  | .non => true
  | .bl _ => true
  | .int i => decide (i.natAbs < 10 ^ 30)
  | .str x => PyData.strOk x
  | .tup xs => D.okds xs
  | .lst xs => D.okds xs
  | _ => false
def D.okds : List D → Bool
  | [] => true
  | x :: xs => x.okd && D.okds xs
end
mutual
/-- signs that are enough for its repr -/
def D.sz : D → Nat
  | .int _ => 31
  | .str x => 10 * x.length + 2
  | .tup xs => D.szs xs + 5
  | .lst xs => D.szs xs + 5
  | _ => 5
def D.szs : List D → Nat
  | [] => 0
  | x :: xs => x.sz + 2 + D.szs xs
end
mutual
theorem D.okd_lay : ∀ d : D, d.okd = true → d.lay = true
  | .non, _ => rfl
  | .bl b, _ => rfl
  | .int i, _ => rfl
  | .str x, h => h
  | .tup xs, h => D.okds_lay xs h
  | .lst xs, h => D.okds_lay xs h
  | .dK _, h => by cases h
  | .dT _, h => by cases h
  | .raw _, h => by cases h
  | .scr _, h => by cases h
theorem D.okds_lay : ∀ ds : List D, D.okds ds = true → D.lays ds = true
  | [], _ => rfl
  | d :: ds, h => by
    have h' : (d.okd && D.okds ds) = true := h
    rw [Bool.and_eq_true] at h'
    show (d.lay && D.lays ds) = true
    rw [D.okd_lay d h'.1, D.okds_lay ds h'.2]; rfl
end
theorem log2_of {n : Nat} (h : n < 10 ^ 30) : n.log2 < 1920 := by
  by_cases z : n = 0
  · subst z; decide
  · rw [Nat.log2_lt z]
    exact Nat.lt_trans h (by decide +kernel)
mutual
theorem D.okd_sho : ∀ d : D, d.okd = true → d.sho = true
  | .non, _ => rfl
  | .bl b, _ => rfl
  | .int i, h => decide_eq_true (log2_of (of_decide_eq_true h))
  | .str x, h => rfl
  | .tup xs, h => D.okds_sho xs h
  | .lst xs, h => D.okds_sho xs h
  | .dK _, h => by cases h
  | .dT _, h => by cases h
  | .raw _, h => by cases h
  | .scr _, h => by cases h
theorem D.okds_sho : ∀ ds : List D, D.okds ds = true → D.shos ds = true
  | [], _ => rfl
  | d :: ds, h => by
    have h' : (d.okd && D.okds ds) = true := h
    rw [Bool.and_eq_true] at h'
    show (d.sho && D.shos ds) = true
    rw [D.okd_sho d h'.1, D.okds_sho ds h'.2]; rfl
end
theorem ofString_length (s : String) : (Str.ofString s).length = s.length := by
  rw [Str.ofString_eq_toList]
  simp [Str.length, String.length_toList]
theorem join2_len (sep : Str) : ∀ ts : List Str, (Str.join sep ts).length ≤ (ts.map fun t => t.length + sep.length).sum
  | [] => by simp [Str.join, Str.empty, Str.length]
  | [x] => by simp [Str.join]
  | x :: y :: r => by
    have ih := join2_len sep (y :: r)
    show (x ++ sep ++ Str.join sep (y :: r)).length ≤ _
    rw [Str.length_append, Str.length_append, List.map_cons, List.sum_cons]
    omega
mutual
theorem D.sz_shown : ∀ d : D, d.okd = true → d.py.shown.length ≤ d.sz
  | .non, _ => by simp only [D.py, PyData.shown, D.sz]; decide +kernel
  | .bl b, _ => by cases b <;> simp only [D.py, PyData.shown, D.sz] <;> decide +kernel
  | .int i, h => by
    simp only [D.py, PyData.shown, D.sz]
    rw [ofString_length]
    exact int_text_length_le10 (k := 30) (by decide) (of_decide_eq_true h)
  | .str x, h => by
    simp only [D.py, PyData.shown, D.sz]
    refine StrLaws.reprText_len x fun c hc => ?_
    have h1 : x.cps.all (· < 0x110000) = true := h
    rw [Array.all_eq_true'] at h1
    have h2 := of_decide_eq_true (h1 c (by simpa using hc))
    exact Nat.lt_trans h2 (by decide)
  | .tup xs, h => by
    simp only [D.py, PyData.shown, D.sz]
    have q := D.szs_shown xs h
    have z := join2_len ", " (PyData.shownAll (D.pys xs))
    have hz : ((", " : String) : Str).length = 2 := by decide +kernel
    rw [hz] at z
    unfold tupleText
    rw [Str.length_append, Str.length_append]
    have h1 : (("(" : String) : Str).length = 1 := by decide +kernel
    have h2 : (Str.ofString (if (PyData.shownAll (D.pys xs)).length == 1 then ",)" else ")")).length ≤ 2 := by split <;> decide +kernel
    omega
  | .lst xs, h => by
    simp only [D.py, PyData.shown, D.sz]
    have q := D.szs_shown xs h
    have z := listText_len_le (PyData.shownAll (D.pys xs))
    have e : ((PyData.shownAll (D.pys xs)).map fun t => t.length + 2).sum = ((PyData.shownAll (D.pys xs)).map (·.length)).sum + 2 * (PyData.shownAll (D.pys xs)).length := by
      generalize PyData.shownAll (D.pys xs) = l
      induction l with
      | nil => rfl
      | cons a l ih => simp only [List.map_cons, List.sum_cons, List.length_cons, ih]; omega
    omega
  | .dK _, h => by cases h
  | .dT _, h => by cases h
  | .raw _, h => by cases h
  | .scr _, h => by cases h
theorem D.szs_shown : ∀ ds : List D, D.okds ds = true → ((PyData.shownAll (D.pys ds)).map fun t => t.length + 2).sum ≤ D.szs ds
  | [], _ => by simp [D.pys, PyData.shownAll, D.szs]
  | d :: ds, h => by
    have h' : (d.okd && D.okds ds) = true := h
    rw [Bool.and_eq_true] at h'
    have a := D.sz_shown d h'.1
    have b := D.szs_shown ds h'.2
    simp only [D.pys, PyData.shownAll, List.map_cons, List.sum_cons, D.szs]
    omega
end
/-- small: may be compared and shown in n signs, not deeper than k -/
structure D.sm (k n : Nat) (d : D) : Prop where
  ok : d.okd = true
  sz : d.sz ≤ n
  dep : d.dep ≤ k
theorem D.sm.cm {k n : Nat} {d : D} (h : d.sm k n) (hk : k ≤ 64 := by decide) : d.cm := ⟨D.okd_lay d h.ok, Nat.le_trans h.dep hk⟩
theorem D.sm.sw {k n : Nat} {d : D} (h : d.sm k n) (hk : k ≤ 64 := by decide) (hn : n ≤ 2 ^ 24 := by decide) : d.sw := ⟨D.okd_lay d h.ok, Nat.le_trans h.dep hk, D.okd_sho d h.ok, Nat.le_trans (D.sz_shown d h.ok) (Nat.le_trans h.sz hn)⟩
theorem D.sm.mono {k n k' n' : Nat} {d : D} (h : d.sm k n) (hk : k ≤ k') (hn : n ≤ n') : d.sm k' n' := ⟨h.ok, Nat.le_trans h.sz hn, Nat.le_trans h.dep hk⟩
/-- each of them small -/
structure D.sms (k n : Nat) (ds : List D) : Prop where
  ok : D.okds ds = true
  sz : D.szs ds ≤ n
  dep : D.deps ds ≤ k
theorem D.sms.nil {k n : Nat} : D.sms k n [] := ⟨rfl, Nat.zero_le _, Nat.zero_le _⟩
theorem D.sms.cons {k n m : Nat} {d : D} {ds : List D} (h : d.sm k n) (hs : D.sms k m ds) : D.sms k (n + 2 + m) (d :: ds) :=
  ⟨by show (d.okd && D.okds ds) = true; rw [h.ok, hs.ok]; rfl, by have := h.sz; have := hs.sz; show d.sz + 2 + D.szs ds ≤ _; omega, Nat.max_le.mpr ⟨h.dep, hs.dep⟩⟩
theorem D.sms.all {k n m : Nat} : ∀ {ds : List D}, (∀ d ∈ ds, d.sm k n) → ds.length ≤ m → D.sms k ((n + 2) * m) ds
  | [], _, _ => .nil
  | d :: ds, h, hl => by
    cases m with
    | zero => simp at hl
    | succ m =>
      have q := D.sms.cons (h d List.mem_cons_self) (D.sms.all (m := m) (fun z hz => h z (List.mem_cons_of_mem _ hz)) (by simpa using hl))
      refine ⟨q.ok, Nat.le_trans q.sz ?_, q.dep⟩
      rw [Nat.mul_succ]; omega
theorem D.sms.mono {k n k' n' : Nat} {d : List D} (h : D.sms k n d) (hk : k ≤ k') (hn : n ≤ n') : D.sms k' n' d := ⟨h.ok, Nat.le_trans h.sz hn, Nat.le_trans h.dep hk⟩
theorem D.sm.tup {k n : Nat} {ds : List D} (h : D.sms k n ds) : (D.tup ds).sm (k + 1) (n + 5) := ⟨h.ok, by have := h.sz; show D.szs ds + 5 ≤ _; omega, by have := h.dep; show D.deps ds + 1 ≤ _; omega⟩
theorem D.sm.lst {k n : Nat} {ds : List D} (h : D.sms k n ds) : (D.lst ds).sm (k + 1) (n + 5) := ⟨h.ok, by have := h.sz; show D.szs ds + 5 ≤ _; omega, by have := h.dep; show D.deps ds + 1 ≤ _; omega⟩
theorem D.sm.int {k : Nat} {i : Int} (h : i.natAbs < 10 ^ 30) : (D.int i).sm k 31 := ⟨decide_eq_true h, Nat.le_refl _, Nat.zero_le _⟩
theorem D.sm.str {k n : Nat} {x : Str} (h : PyData.strOk x = true) (hn : x.length ≤ n) : (D.str x).sm k (10 * n + 2) := ⟨h, by show 10 * x.length + 2 ≤ _; omega, Nat.zero_le _⟩
theorem D.sm.non {k : Nat} : D.non.sm k 5 := ⟨rfl, Nat.le_refl _, Nat.zero_le _⟩
theorem D.sm.bl {k : Nat} {b : Bool} : (D.bl b).sm k 5 := ⟨rfl, Nat.le_refl _, Nat.zero_le _⟩
/-! ### texts -/
theorem strOk_lit (s : String) : PyData.strOk (Str.ofString s) = true := by
  rw [Str.ofString_eq_toList]
  unfold PyData.strOk
  rw [Array.all_eq_true']
  intro c hc
  simp at hc
  obtain ⟨ch, _, rfl⟩ := hc
  have := ch.valid
  rcases ch.valid with h | h
  · exact decide_eq_true (by have : ch.toNat = ch.val.toNat := rfl; omega)
  · exact decide_eq_true (by have : ch.toNat = ch.val.toNat := rfl; omega)
theorem strOk_append {a b : Str} (h1 : PyData.strOk a = true) (h2 : PyData.strOk b = true) : PyData.strOk (a ++ b) = true := by
  unfold PyData.strOk at *
  rw [Str.cps_append, Array.all_append, h1, h2]; rfl
theorem strOk_join {sep : Str} (h : PyData.strOk sep = true) : ∀ ts : List Str, (∀ t ∈ ts, PyData.strOk t = true) → PyData.strOk (Str.join sep ts) = true
  | [], _ => by simp [Str.join, PyData.strOk, Str.empty]
  | [x], hx => hx x List.mem_cons_self
  | x :: y :: r, hx => strOk_append (strOk_append (hx x List.mem_cons_self) h) (strOk_join h (y :: r) fun t ht => hx t (List.mem_cons_of_mem _ ht))
theorem toNat_inj : ∀ l m : List Char, l.map Char.toNat = m.map Char.toNat → l = m
  | [], [], _ => rfl
  | a :: l, b :: m, h => by
    simp only [List.map_cons, List.cons.injEq] at h
    have : a = b := Char.ext (UInt32.toNat.inj h.1)
    rw [this, toNat_inj l m h.2]
  | [], _ :: _, h => by simp at h
  | _ :: _, [], h => by simp at h
theorem lit_eq {a b : String} : (Str.ofString a = Str.ofString b) ↔ a = b := by
  constructor
  · intro h
    rw [Str.ofString_eq_toList, Str.ofString_eq_toList] at h
    have h1 := congrArg (fun s : Str => s.cps.toList) h
    simp only at h1
    have := toNat_inj _ _ h1
    exact String.toList_inj.mp this
  · intro h; rw [h]
theorem txt_join (sep : Str) (ts : List Str) : Txt.join sep ts = Str.join sep ts := StrLaws.glued_eq_join sep ts
theorem join_nil (sep : Str) : Str.join sep [] = Str.empty := rfl
theorem join_one (sep x : Str) : Str.join sep [x] = x := rfl
theorem join_two (sep x y : Str) (r : List Str) : Str.join sep (x :: y :: r) = x ++ sep ++ Str.join sep (y :: r) := rfl
theorem strsOf_map : ∀ bs : List Str, strsOf (bs.map D.str) = some bs
  | [] => rfl
  | b :: bs => by simp [strsOf, strsOf_map bs]
theorem strsOf_mapf {α : Type} (f : α → Str) : ∀ bs : List α, strsOf (bs.map fun a => D.str (f a)) = some (bs.map f)
  | [] => rfl
  | b :: bs => by simp [strsOf, strsOf_mapf f bs]
/-- the law's own promise -/
theorem law_sp {sp : dSp} {H : Hp} {a : Addr} {ns : List Int} (h : ∀ ns : List Int, ns.length ≤ 63 → sp [.scr ns] none (fun x _ => x = .bl true) fun _ _ => False) (hl : ns.length ≤ 63) (hS : SqL K H a (ns.map V.int)) (ht : Sb H H := Sb.same) : spD K 1 sp [.ref a] H (fun v _ => v = .bl true) fun _ _ _ => False := by
  refine ⟨H, [.scr ns], none, _, _, ht, trivial, .cons (.scr hS) .nil, rfl, h ns hl, fun x p' v S' H' e _ n => ?_, fun c p' cls od S' H' w _ _ => w⟩
  subst e
  cases n
  rfl
/-! ### places by numbers that are written -/
theorem atI_nn {α : Type} {xs : List α} {i : Int} (h : 0 ≤ i) : atI xs i = xs[i.toNat]? := by
  unfold atI ixN
  rw [if_pos h]
  by_cases h1 : i < (xs.length : Int)
  · rw [if_pos h1]; rfl
  · rw [if_neg h1, List.getElem?_eq_none (by omega)]; rfl
theorem atI_ofNat {α : Type} {xs : List α} {n : Nat} : atI xs (no_index (@OfNat.ofNat Int n instOfNat)) = xs[(@OfNat.ofNat Nat n (instOfNatNat n))]? := atI_nn (Int.natCast_nonneg n)
theorem atI_cast {α : Type} {xs : List α} {n : Nat} : atI xs (n : Int) = xs[n]? := atI_nn (Int.natCast_nonneg n)
theorem atI_neg1 {α : Type} {xs : List α} : atI xs (-1) = xs[xs.length - 1]? := by
  unfold atI ixN
  rw [if_neg (by decide)]
  by_cases h1 : -(xs.length : Int) ≤ -1
  · rw [if_pos h1]
    show xs[(-1 + (xs.length : Int)).toNat]? = _
    congr 1; omega
  · rw [if_neg h1, List.getElem?_eq_none (by omega)]; rfl
theorem ixN_ofNat {m n : Nat} : ixN m (no_index (@OfNat.ofNat Int n instOfNat)) = if n < m then some n else none := by
  show (if (0 : Int) ≤ (n : Int) then (if (n : Int) < (m : Int) then some n else none) else _) = _
  rw [if_pos (Int.natCast_nonneg n)]
  by_cases h : n < m
  · rw [if_pos h, if_pos (show (n : Int) < (m : Int) by omega)]
  · rw [if_neg h, if_neg (show ¬((n : Int) < (m : Int)) by omega)]
theorem mul_bnd {a b A B : Int} (h1 : 0 ≤ a) (h2 : a ≤ A) (h3 : 0 ≤ b) (h4 : b ≤ B) : 0 ≤ a * b ∧ a * b ≤ A * B :=
  ⟨Int.mul_nonneg h1 h3, Int.mul_le_mul h2 h4 h3 (Int.le_trans h1 h2)⟩
/-- the cell that the k-th draw reads -/
theorem cell_at {ns : List Int} {k : Int} (h0 : (0 : Int) < ns.length) : ∃ c, atI (ns.map D.int) (k % ns.length) = some (.int c) := by
  have h1 := Int.emod_nonneg k (show (ns.length : Int) ≠ 0 by omega)
  have h2 := Int.emod_lt_of_pos k h0
  have h3 : (k % (ns.length : Int)).toNat < ns.length := by omega
  exact ⟨ns[(k % (ns.length : Int)).toNat], by rw [atI_nn h1, List.getElem?_map, List.getElem?_eq_getElem h3]; rfl⟩
theorem lays_ints : ∀ zs : List Int, D.lays (zs.map D.int) = true
  | [] => rfl
  | z :: zs => by show (true && D.lays (zs.map D.int)) = true; rw [lays_ints zs]; rfl
theorem deps_ints : ∀ zs : List Int, D.deps (zs.map D.int) = 0
  | [] => rfl
  | z :: zs => by show max 0 (D.deps (zs.map D.int)) = 0; rw [deps_ints zs]; rfl
theorem lays_map {α : Type} {f : α → D} : ∀ {l : List α}, (∀ a ∈ l, (f a).lay = true) → D.lays (l.map f) = true
  | [], _ => rfl
  | a :: l, h => by
    show ((f a).lay && D.lays (l.map f)) = true
    rw [h a List.mem_cons_self, lays_map fun b hb => h b (List.mem_cons_of_mem _ hb)]; rfl
theorem deps_map {α : Type} {f : α → D} {n : Nat} : ∀ {l : List α}, (∀ a ∈ l, (f a).dep ≤ n) → D.deps (l.map f) ≤ n
  | [], _ => Nat.zero_le _
  | a :: l, h => Nat.max_le.mpr ⟨h a List.mem_cons_self, deps_map fun b hb => h b (List.mem_cons_of_mem _ hb)⟩
theorem cut_to {α : Type} {xs : List α} {n : Nat} : Ev.cutD xs none (some (n : Int)) = xs.take n := by
  unfold Ev.cutD
  rw [HT.sIx_none, HT.sIx_nat]
  simp
theorem cut_from {α : Type} {xs : List α} {n : Nat} : Ev.cutD xs (some (n : Int)) none = xs.drop n := by
  unfold Ev.cutD
  rw [HT.sIx_none, HT.sIx_nat]
  by_cases h : n ≤ xs.length
  · rw [Nat.min_eq_left h, List.take_of_length_le (by simp)]
  · rw [Nat.min_eq_right (by omega), List.drop_of_length_le (l := xs) (i := n) (by omega), List.drop_of_length_le (l := xs) (i := xs.length) (by omega)]; simp
theorem cut_mid {α : Type} {xs : List α} {m n : Nat} : Ev.cutD xs (some (m : Int)) (some (n : Int)) = (xs.take n).drop m := by
  unfold Ev.cutD
  rw [HT.sIx_nat, HT.sIx_nat]
  apply List.ext_getElem?
  intro i
  simp only [List.getElem?_take, List.getElem?_drop]
  by_cases h : i < min n xs.length - min m xs.length
  · rw [if_pos h, if_pos (by omega), Nat.min_eq_left (by omega)]
  · rw [if_neg h]
    by_cases h2 : m + i < n
    · rw [if_pos h2, List.getElem?_eq_none (by omega)]
    · rw [if_neg h2]
theorem cut_toN {α : Type} {xs : List α} {n : Nat} : Ev.cutD xs none (some (no_index (@OfNat.ofNat Int n instOfNat))) = xs.take n := cut_to
theorem cut_fromN {α : Type} {xs : List α} {n : Nat} : Ev.cutD xs (some (no_index (@OfNat.ofNat Int n instOfNat))) none = xs.drop n := cut_from
theorem kit_tab : kitB "NoneType" "bool" = some false ∧
  kitB "NoneType" "int" = some false ∧
  kitB "NoneType" "str" = some false ∧
  kitB "NoneType" "tuple" = some false ∧
  kitB "NoneType" "list" = some false ∧
  kitB "NoneType" "dict" = some false ∧
  kitB "bool" "bool" = some true ∧
  kitB "bool" "int" = some true ∧
  kitB "bool" "str" = some false ∧
  kitB "bool" "tuple" = some false ∧
  kitB "bool" "list" = some false ∧
  kitB "bool" "dict" = some false ∧
  kitB "int" "bool" = some false ∧
  kitB "int" "int" = some true ∧
  kitB "int" "str" = some false ∧
  kitB "int" "tuple" = some false ∧
  kitB "int" "list" = some false ∧
  kitB "int" "dict" = some false ∧
  kitB "str" "bool" = some false ∧
  kitB "str" "int" = some false ∧
  kitB "str" "str" = some true ∧
  kitB "str" "tuple" = some false ∧
  kitB "str" "list" = some false ∧
  kitB "str" "dict" = some false ∧
  kitB "tuple" "bool" = some false ∧
  kitB "tuple" "int" = some false ∧
  kitB "tuple" "str" = some false ∧
  kitB "tuple" "tuple" = some true ∧
  kitB "tuple" "list" = some false ∧
  kitB "tuple" "dict" = some false ∧
  kitB "list" "bool" = some false ∧
  kitB "list" "int" = some false ∧
  kitB "list" "str" = some false ∧
  kitB "list" "tuple" = some false ∧
  kitB "list" "list" = some true ∧
  kitB "list" "dict" = some false ∧
  kitB "dict" "bool" = some false ∧
  kitB "dict" "int" = some false ∧
  kitB "dict" "str" = some false ∧
  kitB "dict" "tuple" = some false ∧
  kitB "dict" "list" = some false ∧
  kitB "dict" "dict" = some true := by
  refine ⟨?_, ?_, ?_, ?_, ?_, ?_, ?_, ?_, ?_, ?_, ?_, ?_, ?_, ?_, ?_, ?_, ?_, ?_, ?_, ?_, ?_, ?_, ?_, ?_, ?_, ?_, ?_, ?_, ?_, ?_, ?_, ?_, ?_, ?_, ?_, ?_, ?_, ?_, ?_, ?_, ?_, ?_⟩ <;> decide +kernel
/-- a comprehension over what is ι a for each a of l, that makes f a of it, nothing else changed -/
theorem wLC_maps {α : Type} {g : dG} {tt : dT} {te : dE} {vs : List Nat} {Q : List D → DS → Prop} {δ0 : DS} {ι f : α → D} : ∀ {l : List α}, (∀ a ∈ l, ∀ acc (k : List D → DS → Prop), acc.length < sizeLine → k (acc ++ [f a]) δ0 → g (ι a) δ0 fun δ1 => tt W0 δ1 fun z δ2 => match z with
      | true => te W0 δ2 fun y δ3 => acc.length < sizeLine ∧ k (acc ++ [y]) (wipeD δ3 vs)
      | false => k acc (wipeD δ2 vs)) → l.length ≤ sizeLine → Q (l.map f) δ0 → wLC g tt te vs Q (l.map ι) [] δ0 := by
  intro l h hl h0
  have go : ∀ (r : List α) (acc : List D), (∀ a ∈ r, a ∈ l) → acc.length + r.length ≤ sizeLine → acc ++ r.map f = l.map f → wLC g tt te vs Q (r.map ι) acc δ0 := by
    intro r
    induction r with
    | nil => intro acc _ _ e; rw [List.map_nil, List.append_nil] at e; subst e; exact h0
    | cons a r ih =>
      intro acc hm hz e
      rw [List.length_cons] at hz
      exact h a (hm a List.mem_cons_self) acc (fun acc' δ' => wLC g tt te vs Q (r.map ι) acc' δ') (by omega) (ih (acc ++ [f a]) (fun b hb => hm b (List.mem_cons_of_mem _ hb)) (by simp; omega) (by rw [← e]; simp))
  exact go l [] (fun _ h => h) (by simpa using hl) rfl
theorem intsFrom_len {lo : Int} {n : Nat} : (Ev.intsFrom lo n).length = n := by simp [Ev.intsFrom]
/-! ### a repr is a text of true signs -/
def sgn (c : Nat) : Prop := c < 0x110000
theorem hex_sgn {n : Nat} : ∀ x ∈ (Nat.toDigits 16 n).map Char.toNat, sgn x := fun x h => by
  obtain ⟨ch, _, rfl⟩ := List.mem_map.mp h
  have e : ch.toNat = ch.val.toNat := rfl
  rcases ch.valid with h | h <;> (unfold sgn; omega)
theorem pad_sgn {w : Nat} {l : List Nat} (h : ∀ x ∈ l, sgn x) : ∀ x ∈ List.replicate (w - l.length) 48 ++ l, sgn x := fun x hx => by
  rcases List.mem_append.mp hx with hx | hx
  · rw [(List.mem_replicate.mp hx).2]; unfold sgn; omega
  · exact h x hx
theorem reprChar_sgn {q c : Nat} (hc : sgn c) : ∀ x ∈ Builtin.Str.reprChar q c, sgn x := by
  have two : ∀ {a b : Nat}, sgn a → sgn b → ∀ x ∈ [a, b], sgn x := fun ha hb x hx => by
    rcases List.mem_cons.mp hx with rfl | hx
    · exact ha
    · rw [List.mem_singleton] at hx; subst hx; exact hb
  have lit : ∀ n : Nat, n < 200 → sgn n := fun n h => by unfold sgn; omega
  have app : ∀ {l m : List Nat}, (∀ x ∈ l, sgn x) → (∀ x ∈ m, sgn x) → ∀ x ∈ l ++ m, sgn x := fun h1 h2 x hx => (List.mem_append.mp hx).elim (h1 x) (h2 x)
  unfold Builtin.Str.reprChar
  split
  · exact two (lit 92 (by decide)) hc
  split
  · exact two (lit 92 (by decide)) (lit _ (by decide))
  split
  · exact two (lit 92 (by decide)) (lit _ (by decide))
  split
  · exact two (lit 92 (by decide)) (lit _ (by decide))
  split
  · intro x hx; rw [List.mem_singleton] at hx; subst hx; exact hc
  split
  · exact app (two (lit _ (by decide)) (lit _ (by decide))) (pad_sgn hex_sgn)
  split
  · exact app (two (lit _ (by decide)) (lit _ (by decide))) (pad_sgn hex_sgn)
  · exact app (two (lit _ (by decide)) (lit _ (by decide))) (pad_sgn hex_sgn)
theorem strOk_iff {x : Str} : PyData.strOk x = true ↔ ∀ c ∈ x.cps, sgn c := by
  unfold PyData.strOk sgn
  rw [Array.all_eq_true']
  exact ⟨fun h c hc => of_decide_eq_true (h c hc), fun h c hc => decide_eq_true (h c hc)⟩
theorem strOk_repr {x : Str} (h : PyData.strOk x = true) : PyData.strOk (reprText x) = true := by
  rw [strOk_iff] at h ⊢
  have hq : sgn (reprQuote x) := by unfold reprQuote; split <;> (unfold sgn; omega)
  have go : ∀ (l : List Nat) (acc : Array Nat), (∀ c ∈ l, sgn c) → (∀ c ∈ acc, sgn c) → ∀ c ∈ l.foldl (fun out c => out ++ (Builtin.Str.reprChar (reprQuote x) c).toArray) acc, sgn c := by
    intro l
    induction l with
    | nil => intro acc _ h2; exact h2
    | cons a l ih =>
      intro acc h1 h2
      refine ih _ (fun c hc => h1 c (List.mem_cons_of_mem _ hc)) fun c hc => ?_
      rcases Array.mem_append.mp hc with hc | hc
      · exact h2 c hc
      · exact reprChar_sgn (h1 a List.mem_cons_self) c (by simpa using hc)
  intro c hc
  unfold reprText at hc
  rcases Array.mem_push.mp hc with hc | hc
  · rw [← Array.foldl_toList] at hc
    exact go x.cps.toList _ (fun c hc => h c (by simpa using hc)) (fun c hc => by
      have : c = reprQuote x := by simpa using hc
      rw [this]; exact hq) c hc
  · rw [hc]; exact hq
mutual
theorem D.okd_rep : ∀ d : D, d.okd = true → PyData.strOk d.py.shown = true
  | .non, _ => by simp only [D.py, PyData.shown]; exact strOk_lit _
  | .bl b, _ => by simp only [D.py, PyData.shown]; split <;> exact strOk_lit _
  | .int i, _ => by simp only [D.py, PyData.shown]; exact strOk_lit _
  | .str x, h => by simp only [D.py, PyData.shown]; exact strOk_repr h
  | .tup xs, h => by
    simp only [D.py, PyData.shown]
    unfold tupleText
    exact strOk_append (strOk_append (strOk_lit _) (strOk_join (strOk_lit _) _ (D.okds_rep xs h))) (strOk_lit _)
  | .lst xs, h => by
    simp only [D.py, PyData.shown]
    rw [listText_eq_join]
    exact strOk_append (strOk_append (strOk_lit _) (strOk_join (strOk_lit _) _ (D.okds_rep xs h))) (strOk_lit _)
  | .dK _, h => by cases h
  | .dT _, h => by cases h
  | .raw _, h => by cases h
  | .scr _, h => by cases h
theorem D.okds_rep : ∀ ds : List D, D.okds ds = true → ∀ t ∈ PyData.shownAll (D.pys ds), PyData.strOk t = true
  | [], _ => by simp [D.pys, PyData.shownAll]
  | d :: ds, h => by
    have h' : (d.okd && D.okds ds) = true := h
    rw [Bool.and_eq_true] at h'
    intro t ht
    simp only [D.pys, PyData.shownAll, List.mem_cons] at ht
    rcases ht with rfl | ht
    · exact D.okd_rep d h'.1
    · exact D.okds_rep ds h'.2 t ht
end
theorem D.sm.rep {k n : Nat} {d : D} (h : d.sm k n) : PyData.strOk d.rep = true := D.okd_rep d h.ok
theorem eqs_nil {ds : List D} : D.eqs ds [] = decide (ds = []) := by
  cases ds <;> simp [D.eqs]
theorem lst_nil {ds : List D} : D.eq (.lst ds) (.lst []) = decide (ds = []) := by rw [eq_lst, eqs_nil]
theorem tup_nil {ds : List D} : D.eq (.tup ds) (.tup []) = decide (ds = []) := by rw [eq_tup, eqs_nil]
end Ev

/-! # sorted of data; dicts of one's own -/
namespace Ev
open PySem PySem.Spec PyProof.Rows L2
variable {K : PySem.W.Frag} {S S' H H' : Hp} {B : Bs} {δ : DS} {σ : L2.St}
/-! ### sorted, whatever the items are taken from -/
section
variable {prog : Program} {w : World} {A : Around} {E : Value → Shared → Prop} {s : Shared} {β : Type} {R : Value → β → Prop} {enc : β → PyData} {vs : List Value} {bs : List β}
/-- what is walked by a source's own iterator, collected: the heap is not smaller behind -/
theorem collect_src {T : String} {r d : Addr} {n : Nat} {P : Nat → Value → Prop} {OK : Heap → Prop} {C : List Value → Shared → Prop} (KS : PySem.W.KdlSrc prog w T r d n P OK) (hh : A.handled = none) (ok : OK s.heap) (hn : n ≤ sizeLine)
    (h : ∀ (h' : Heap) (tk : Nat) (acc : Array Value), (∀ b o, s.heap.get? b = some o → h'.get? b = some o) → s.heap.objs.size ≤ h'.objs.size → ItemsOf P acc n → C acc.toList { s with heap := h', toks := tk }) : wpAny (model prog w) A (collect (.ref r)) C E s := by
  have lt := KS.there _ ok
  unfold collect
  refine wpAny_bind (wpAny_runValue (codeAny_builtin PyProof.Rows.entry_proto_collect' ?_)); rw [Around.under_plainId PySem.F.plain_proto_collect _]
  show wpAny _ A.in1 (newList [] >>= fun z => again (.builtin "list.__iadd__" ⟨[z, .ref r], []⟩)) _ _ s
  refine wpAny_bind (wpAny_newObj_type (wpAny_pure ⟨plainId_quiet PySem.F.plain_list_iadd _, codeAny_builtin PyProof.Rows.entry_list_iadd' ?_⟩)); rw [Around.under_plainId PySem.F.plain_list_iadd _]
  have new : (s.heap.push { cls := .type "list", data := .seq ([] : List Value).toArray }).get? s.heap.objs.size = some { cls := .type "list", data := .seq #[] } := Heap.get?_push_size _ rfl
  have key := PySem.W.kdl_extend (prog := prog) (w := w) (A := A) (s := { s with heap := s.heap.push { cls := .type "list", data := .seq ([] : List Value).toArray } })
    (R := fun (q : Result) (s' : Shared) => ∃ (h' : Heap) (tk : Nat) (acc : Array Value) (c : Nat), q = .ok (.ret (.ref s.heap.objs.size)) ∧ s' = { s with heap := h', toks := tk } ∧ (∀ b o, s.heap.get? b = some o → h'.get? b = some o) ∧
      h'.get? s.heap.objs.size = some { cls := .type "list", dict := none, data := .seq acc c, slots := #[] } ∧ ItemsOf P acc n)
    KS hh (KS.keep _ _ ok fun b _ o z => Heap.get?_push_of_some _ z) s.heap.objs.size (Nat.ne_of_gt lt.1) (Nat.ne_of_gt lt.2) (.ref s.heap.objs.size) 0 new
    (fun h' tk acc c k at_ it => ⟨h', tk, acc, c, rfl, rfl, fun b o z => k b o (Nat.ne_of_lt (Heap.lt_size z)) (Heap.get?_push_of_some _ z), at_, it⟩) hn
  have fin : ∀ (q : Result) (s' : Shared), (∃ (h' : Heap) (tk : Nat) (acc : Array Value) (c : Nat), q = .ok (.ret (.ref s.heap.objs.size)) ∧ s' = { s with heap := h', toks := tk } ∧ (∀ b o, s.heap.get? b = some o → h'.get? b = some o) ∧
      h'.get? s.heap.objs.size = some { cls := .type "list", dict := none, data := .seq acc c, slots := #[] } ∧ ItemsOf P acc n) → ∃ u, q = .ok (.ret u) ∧ wpAny (model prog w) A (match u with
      | .ref a => do match (← load a).data with
          | .seq xs _ => pure xs.toList
          | _ => unsupported "internal:collect"
      | _ => unsupported "internal:collect") C E s' := by
    rintro q s' ⟨h', tk, acc, c, rfl, rfl, k, at_, it⟩
    refine ⟨_, rfl, ?_⟩
    show wpAny _ A (load s.heap.objs.size >>= _) _ _ _
    exact wpAny_bind (wpAny_load at_ (wpAny_pure (h h' tk acc k (Nat.le_of_lt (Heap.lt_size at_)) it)))
  refine wpAny_mono key (fun g s' x => ?_) fun e s' x => ?_
  · match g, x with
    | .done f, x =>
      obtain ⟨u, e, q⟩ := fin _ _ x
      cases e
      exact q
    | .again c1, x =>
      refine ⟨x.1, codeAny_mono x.2 fun q s2 y => ?_⟩
      obtain ⟨u, rfl, z⟩ := fin _ _ y
      exact z
  · obtain ⟨u, e, _⟩ := fin _ _ x
    cases e
theorem sorted_col {v : Value} {Q : Value → Shared → Prop} (hcol : ∀ (C : List Value → Shared → Prop) (E' : Value → Shared → Prop), (∀ h' tk, (∀ b o, s.heap.get? b = some o → h'.get? b = some o) → s.heap.objs.size ≤ h'.objs.size → C vs { s with heap := h', toks := tk }) → wpAny (model prog w) A.in1 (collect v) C E' s)
    (e : PySem.W.EachIs R vs bs) (er : PySem.W.EachIs (fun v b => ∃ as, Reads s.heap v (enc b) as) vs bs) (hal : PySem.W.AllAlike (bs.map enc)) (hk : PySem.W.Sortable (bs.map enc)) (hL : bs.length ≤ sizeLine) (hu : ∀ b, b ∈ bs → A.units + 2 + (enc b).depth < cLine)
    (h : ∀ (h' : Heap) (tk : Nat) (d : Addr) (n : Nat) (out : List Value), out.length = bs.length → PySem.W.EachIs R out (bs.mergeSort (PySem.W.dataLe false enc)) → (∀ b o, s.heap.get? b = some o → h'.get? b = some o) → s.heap.objs.size ≤ d → h'.get? d = some (seqObj "list" out.toArray n) → Q (.ref d) { s with heap := h', toks := tk }) :
    wpAny (model prog w) A (call (.builtin "sorted") [v]) Q E s := by
  have hz : vs.length ≤ sizeLine := by rw [e.length]; exact hL
  refine PySem.Calls.call_function_entry kind_sorted plain_sorted entry_sorted (args_sorted1 _) ?_
  unfold Builtin.«sorted»
  refine wpAny_bind (m := checkCount "sorted" 1 1 _) (wpAny_pure ?_)
  refine wpAny_bind (hcol _ _ fun h1 tk k1 hs => ?_)
  refine wpAny_bind (wpAny_newList ?_ hz)
  have ho : (h1.push (seqObj "list" vs.toArray 0)).get? h1.objs.size = some (seqObj "list" vs.toArray 0) := Heap.get?_push_size _ rfl
  have k2 : ∀ b o, s.heap.get? b = some o → (h1.push (seqObj "list" vs.toArray 0)).get? b = some o := fun b o q => Heap.get?_push_of_some _ (k1 b o q)
  have ne : ∀ b o, s.heap.get? b = some o → b ≠ h1.objs.size := fun b o q => Nat.ne_of_lt (Heap.lt_size (k1 b o q))
  have er' : PySem.W.EachIs (fun v b => ∃ as, Reads (PySem.W.sortingHeap (h1.push (seqObj "list" vs.toArray 0)) h1.objs.size vs) v (enc b) as) vs bs := er.mono fun _ _ ⟨as, r⟩ => ⟨as, PyProof.Rows.Reads.keeps (fun b o q => PySem.W.sortingHeap_old (ne b o q) (k2 b o q)) r⟩
  refine wpAny_bind (wpAny_holding (wpAny_call_entry slot_list_sort ⟨_, ho, rfl⟩ entry_list_sort ?body (args_list_sort _)))
  case body =>
    refine PySem.W.list_sort_vals (κ := PySem.W.dataKind (PySem.W.sortingHeap (h1.push (seqObj "list" vs.toArray 0)) h1.objs.size vs) (bs.map enc)) (s := { s with heap := h1.push (seqObj "list" vs.toArray 0), toks := tk }) ho
      (PySem.W.SortsAt.data (s := { s with heap := PySem.W.sortingHeap (h1.push (seqObj "list" vs.toArray 0)) h1.objs.size vs, toks := tk }) (PySem.W.each_map (R := fun v d => ∃ as, Reads (PySem.W.sortingHeap (h1.push (seqObj "list" vs.toArray 0)) h1.objs.size vs) v d as) enc er') hal hk (PySem.W.bound_map hu)) hz ⟨_, rfl, ?_⟩
    refine wpAny_pure ⟨_, rfl, ?_⟩
    obtain ⟨n, at_⟩ := sortedHeap_at (out := (PySem.W.sortVals (PySem.W.dataKind (PySem.W.sortingHeap (h1.push (seqObj "list" vs.toArray 0)) h1.objs.size vs) (bs.map enc)) false vs vs).toArray) ho
    exact h _ _ _ n _ (by rw [PySem.W.sortVals_length false rfl]; exact e.length) (PySem.W.sortVals_data false e er' hal) (fun b o q => (sortedHeap_old (ne b o q) (Heap.lt_size (k2 b o q))).trans (k2 b o q)) hs at_
/-- a list's, a tuple's items, collected -/
theorem collect_seqS {T : String} {a : Addr} {o : Obj} {n : Nat} {C : List Value → Shared → Prop} (hT : T = "list" ∨ T = "tuple") (ho : s.heap.get? a = some o) (hc : o.cls = .type T) (hd : o.data = .seq vs.toArray n) (hz : vs.length ≤ sizeLine)
    (h : ∀ (h' : Heap) (tk : Nat), (∀ b o, s.heap.get? b = some o → h'.get? b = some o) → s.heap.objs.size ≤ h'.objs.size → C vs { s with heap := h', toks := tk }) : wpAny (model prog w) A (collect (.ref a)) C E s := by
  unfold collect
  refine wpAny_bind (wpAny_runValue (codeAny_builtin PyProof.Rows.entry_proto_collect' ?_)); rw [Around.under_plainId PySem.F.plain_proto_collect _]
  show wpAny _ A.in1 (newList [] >>= fun z => again (.builtin "list.__iadd__" ⟨[z, .ref a], []⟩)) _ _ s
  refine wpAny_bind (wpAny_newObj_type (wpAny_pure ⟨plainId_quiet PySem.F.plain_list_iadd _, codeAny_builtin PyProof.Rows.entry_list_iadd' ?_⟩)); rw [Around.under_plainId PySem.F.plain_list_iadd _]
  have new : (s.heap.push { cls := .type "list", data := .seq ([] : List Value).toArray }).get? s.heap.objs.size = some { cls := .type "list", data := .seq #[] 0 } := Heap.get?_push_size _ rfl
  have at_ := Heap.get?_update_self (Obj.mapSeq (· ++ vs.toArray)) new rfl
  have key := wpAny_extend_seq (prog := prog) (w := w) (hsz := by rw [List.size_toArray]; exact hz) (A := A) (s := { s with heap := s.heap.push { cls := .type "list", data := .seq ([] : List Value).toArray } })
    (R := fun (q : Result) (s' : Shared) => q = .ok (.ret (.ref s.heap.objs.size)) ∧ s' = { s with heap := (s.heap.push { cls := .type "list", data := .seq ([] : List Value).toArray }).update s.heap.objs.size (Obj.mapSeq (· ++ vs.toArray)) })
    s.heap.objs.size a (.ref s.heap.objs.size) 0 hT new (Heap.get?_push_of_some _ ho) hc hd ⟨rfl, rfl⟩
  have fin : ∀ (q : Result) (s' : Shared), (q = .ok (.ret (.ref s.heap.objs.size)) ∧ s' = { s with heap := (s.heap.push { cls := .type "list", data := .seq ([] : List Value).toArray }).update s.heap.objs.size (Obj.mapSeq (· ++ vs.toArray)) }) →
      ∃ u, q = .ok (.ret u) ∧ wpAny (model prog w) A (match u with
      | .ref a => do match (← load a).data with
          | .seq xs _ => pure xs.toList
          | _ => unsupported "internal:collect"
      | _ => unsupported "internal:collect") C E s' := by
    rintro q s' ⟨rfl, rfl⟩
    refine ⟨_, rfl, ?_⟩
    show wpAny _ A (load s.heap.objs.size >>= _) _ _ _
    refine wpAny_bind (wpAny_load at_ (wpAny_pure ?_))
    show C ((#[] : Array Value) ++ vs.toArray).toList _
    rw [show ((#[] : Array Value) ++ vs.toArray).toList = vs by simp]
    exact h _ s.toks (fun b o' z => (Heap.get?_update_other _ _ (Nat.ne_of_gt (Heap.lt_size z))).trans (Heap.get?_push_of_some _ z)) (Nat.le_of_lt (Heap.lt_size at_))
  refine wpAny_mono key (fun g s' x => ?_) fun e s' x => ?_
  · match g, x with
    | .done f, x =>
      obtain ⟨u, e, q⟩ := fin _ _ x
      cases e
      exact q
    | .again c1, x =>
      refine ⟨x.1, codeAny_mono x.2 fun q s2 y => ?_⟩
      obtain ⟨u, rfl, z⟩ := fin _ _ y
      exact z
  · obtain ⟨u, e, _⟩ := fin _ _ x
    cases e
end
/-! ### sorted over data -/
/-- may be sorted: every two of one form, tuples that are not empty, or no tuple and no None -/
def srtOk (ds : List D) : Prop := D.lays ds = true ∧ (∀ d ∈ ds, d.dep ≤ 64) ∧ PySem.W.AllAlike (ds.map D.py) ∧ PySem.W.Sortable (ds.map D.py) ∧ ds.length ≤ sizeLine
def sortD (ds : List D) : List D := ds.mergeSort (PySem.W.dataLe false D.py)
theorem lays_mem : ∀ {ds : List D}, D.lays ds = true → ∀ d ∈ ds, d.lay = true
  | d :: ds, h, x, hx => by
    have h' : (d.lay && D.lays ds) = true := h
    rw [Bool.and_eq_true] at h'
    rcases List.mem_cons.mp hx with rfl | hx
    · exact h'.1
    · exact lays_mem h'.2 x hx
section
variable {X : Cx} {pins : List (Addr × Obj)} {s : Shared}
theorem each_dn {S : Hp} : ∀ {vs : List V} {us : List Value} {ds : List D}, Vals vs us → DnA K S vs ds → PySem.W.EachIs (fun u d => ∃ v, RelV v u ∧ Dn K S v d) us ds
  | [], _, _, r, .nil => by rw [r.zero]; exact .nil
  | v :: vs, us, _, r, .cons h t => by
    cases r with
    | cons r1 r2 => exact .cons ⟨v, r1, h⟩ (each_dn r2 t)
theorem dn_each {S : Hp} : ∀ {us : List Value} {ds : List D}, PySem.W.EachIs (fun u d => ∃ v, RelV v u ∧ Dn K S v d) us ds → ∃ vs, Vals vs us ∧ DnA K S vs ds
  | _, _, .nil => ⟨[], .nil, .nil⟩
  | _, _, .cons ⟨v, r, h⟩ t => by
    obtain ⟨vs, r2, a⟩ := dn_each t
    exact ⟨v :: vs, .cons r r2, .cons h a⟩
theorem each_reads (I : Inv X pins σ H s) (ex : Ex S H) : ∀ {vs : List V} {us : List Value} {ds : List D}, Vals vs us → DnA X.K S vs ds → D.lays ds = true → PySem.W.EachIs (fun u d => ∃ as, Reads s.heap u d.py as) us ds
  | [], _, _, r, .nil, _ => by rw [r.zero]; exact .nil
  | v :: vs, us, d :: ds, r, .cons h t, l => by
    have h' : (d.lay && D.lays ds) = true := l
    rw [Bool.and_eq_true] at h'
    cases r with
    | cons r1 r2 => exact .cons (Dp.reads I _ _ _ ((h.mono ex).dp h'.1) r1) (each_reads I ex r2 t h'.2)
/-- the end of every sorted -/
theorem sorted_end (I : Inv X pins σ H s) (hu : X.A.units + 66 < cLine) (ex : Ex S H) {v : Value} {us : List Value} {vs : List V} {ds : List D} {Q : VK} (r : Vals vs us) (a : DnA X.K S vs ds) (ok : srtOk ds)
    (hcol : ∀ (C : List Value → Shared → Prop) (E' : Value → Shared → Prop), (∀ h' tk, (∀ b o, s.heap.get? b = some o → h'.get? b = some o) → s.heap.objs.size ≤ h'.objs.size → C us { s with heap := h', toks := tk }) → wpAny (model X.prog X.w) X.A.in1 (collect v) C E' s)
    (q : ∀ ws p, H p = none → DnA X.K S ws (sortD ds) → Q (.ref p) (upd H p (.lst ws))) : wpAny (model X.prog X.w) X.A (call (.builtin "sorted") [v]) (EP X pins σ Q) X.xe s := by
  obtain ⟨l, dp, al, so, hz⟩ := ok
  refine sorted_col (R := fun u d => ∃ v, RelV v u ∧ Dn X.K S v d) (enc := D.py) hcol (each_dn r a) (each_reads I ex r a l) al so hz (fun d hd => ?_) fun h' tk d n out hl eo kp sz at_ => ?_
  · rw [D.py_dep]; have := dp d hd; omega
  · obtain ⟨ws, rw_, aw⟩ := dn_each eo
    exact ⟨.ref d, upd H d (.lst ws), I.laid (t' := tk) kp sz ⟨by rw [rw_.length, hl]; exact hz, out, n, rw_, at_⟩, rfl, q ws d (I.hok.fresh sz) aw⟩
def rSrt : DRF := fun xs Q => match xs with | [.lst ds] => srtOk ds ∧ Q (sortD ds) | [.tup ds] => srtOk ds ∧ Q (sortD ds) | _ => False
theorem cd_sorted (hu : X.A.units + 66 < cLine) : CallR X (.builtin "sorted") (liftCF X.K rSrt) := fun pins s σ H vs us Q I r ⟨S, ds, Q', ex, n, q, post⟩ => by
  match ds, n, q with
  | [.lst ds], n, q =>
    obtain ⟨v, rfl, n1⟩ := n.one
    obtain ⟨u, rfl, ru⟩ := vals1 r
    cases n1 with
    | lst h a =>
      obtain rfl : u = Value.ref _ := ru
      obtain ⟨its, rv, hl, hz⟩ := I.list (SqL.of (ex _ _ h))
      obtain ⟨o, ho, hc, m, hd⟩ := hl.isList
      exact sorted_end I hu ex rv a q.1 (fun C E' hC => collect_seqS (.inl rfl) ho hc hd (by rw [← rv.length]; exact hz) hC) fun ws p hp aw => post _ _ _ q.2 hp aw
  | [.tup ds], n, q =>
    obtain ⟨v, rfl, n1⟩ := n.one
    obtain ⟨u, rfl, ru⟩ := vals1 r
    cases n1 with
    | tup h a =>
      obtain rfl : u = Value.ref _ := ru
      obtain ⟨hz, its, rv, o, ho, hc, m, hd⟩ := I.hok _ _ (ex _ _ h)
      exact sorted_end I hu ex rv a q.1 (fun C E' hC => collect_seqS (.inr rfl) ho hc hd (by rw [← rv.length]; exact hz) hC) fun ws p hp aw => post _ _ _ q.2 hp aw
end
end Ev

/-! # Dicts of one's own: keys numbers and texts, or tuples of these -/
namespace Ev
open PySem PySem.Spec PyProof.Rows L2
variable {K : PySem.W.Frag} {S S' H H' : Hp} {B : Bs} {δ : DS} {σ : L2.St}
section
variable {κ : Type} [DecidableEq κ]
def valD (es : List (κ × D)) (k : κ) : Option D := (es.find? fun e => decide (e.1 = k)).map (·.2)
def putD (es : List (κ × D)) (k : κ) (d : D) : List (κ × D) := if (es.any fun e => decide (e.1 = k)) = true then es.map (fun e => if e.1 = k then (e.1, d) else e) else es ++ [(k, d)]
def KvR (K : PySem.W.Frag) (S : Hp) (kvs : List (κ × V)) (es : List (κ × D)) : Prop := kvs.map (·.1) = es.map (·.1) ∧ DnA K S (kvs.map (·.2)) (es.map (·.2))
theorem KvR.mono {kvs : List (κ × V)} {es : List (κ × D)} (h : KvR K S kvs es) (e : Ex S S') : KvR K S' kvs es := ⟨h.1, h.2.mono e⟩
theorem KvR.get {k : κ} : ∀ {kvs : List (κ × V)} {es : List (κ × D)}, KvR K S kvs es → (valV kvs k = none ∧ valD es k = none) ∨ ∃ v d, valV kvs k = some v ∧ valD es k = some d ∧ Dn K S v d
  | [], [], _ => .inl ⟨rfl, rfl⟩
  | [], _ :: _, h => by cases h.1
  | _ :: _, [], h => by cases h.1
  | (a, v) :: kvs, (b, d) :: es, h => by
    obtain ⟨h1, h2⟩ := h
    simp only [List.map_cons, List.cons.injEq] at h1
    simp only [List.map_cons] at h2
    cases h2 with
    | cons h2 h3 =>
      obtain ⟨rfl, h1⟩ := h1
      by_cases e : a = k
      · exact .inr ⟨v, d, by simp [valV, e], by simp [valD, e], h2⟩
      · rcases KvR.get (k := k) ⟨h1, h3⟩ with ⟨q1, q2⟩ | ⟨v', d', q1, q2, q3⟩
        · exact .inl ⟨by simpa [valV, e] using q1, by simpa [valD, e] using q2⟩
        · exact .inr ⟨v', d', by simpa [valV, e] using q1, by simpa [valD, e] using q2, q3⟩
theorem KvR.any {kvs : List (κ × V)} {es : List (κ × D)} (h : KvR K S kvs es) (k : κ) : (kvs.any fun e => decide (e.1 = k)) = es.any fun e => decide (e.1 = k) := by
  have e1 : (kvs.any fun e => decide (e.1 = k)) = (kvs.map (·.1)).any fun e => decide (e = k) := by rw [List.any_map]; rfl
  have e2 : (es.any fun e => decide (e.1 = k)) = (es.map (·.1)).any fun e => decide (e = k) := by rw [List.any_map]; rfl
  rw [e1, e2, h.1]
theorem KvR.map {v : V} {d : D} (dn : Dn K S v d) (k : κ) : ∀ {kvs : List (κ × V)} {es : List (κ × D)}, KvR K S kvs es → KvR K S (kvs.map fun e => if e.1 = k then (e.1, v) else e) (es.map fun e => if e.1 = k then (e.1, d) else e)
  | [], [], _ => ⟨rfl, .nil⟩
  | [], _ :: _, h => by cases h.1
  | _ :: _, [], h => by cases h.1
  | (a, x) :: kvs, (b, y) :: es, h => by
    obtain ⟨h1, h2⟩ := h
    simp only [List.map_cons, List.cons.injEq] at h1
    simp only [List.map_cons] at h2
    cases h2 with
    | cons h2 h3 =>
      obtain ⟨rfl, h1⟩ := h1
      have ih := KvR.map dn k (kvs := kvs) (es := es) ⟨h1, h3⟩
      by_cases e : a = k
      · simp only [List.map_cons, e, if_true]
        exact ⟨by simp only [List.map_cons]; exact congrArg _ ih.1, .cons dn ih.2⟩
      · simp only [List.map_cons, e, if_false]
        exact ⟨by simp only [List.map_cons]; exact congrArg _ ih.1, .cons h2 ih.2⟩
theorem KvR.put {v : V} {d : D} {kvs : List (κ × V)} {es : List (κ × D)} (h : KvR K S kvs es) (dn : Dn K S v d) (k : κ) : KvR K S (putK kvs k v) (putD es k d) := by
  unfold putK putD
  rw [h.any k]
  split
  · exact h.map dn k
  · exact ⟨by rw [List.map_append, List.map_append, h.1]; rfl, by rw [List.map_append, List.map_append]; exact h.2.append (.cons dn .nil)⟩
end
/-! ### keys -/
def D.key : D → Option Key
  | .int i => some (.inl i)
  | .str x => some (.inr x)
  | _ => none
def keysOf : List D → Option (List Key)
  | [] => some []
  | d :: ds => match d.key, keysOf ds with
    | some k, some ks => some (k :: ks)
    | _, _ => none
def D.keyT : D → Option (List Key)
  | .tup ds => keysOf ds
  | _ => none
def kD : Key → D
  | .inl i => .int i
  | .inr x => .str x
theorem Dn.key {v : V} {d : D} {k : Key} (h : Dn K S v d) (e : d.key = some k) : v = kV k := by
  cases h <;> first | (cases e; rfl) | cases e
theorem DnA.keys : ∀ {vs : List V} {ds : List D} {ks : List Key}, DnA K S vs ds → keysOf ds = some ks → vs = ks.map kV
  | [], _, _, .nil, e => by cases e; rfl
  | v :: vs, d :: ds, ks, .cons h a, e => by
    unfold keysOf at e
    split at e
    · rename_i k ks' e1 e2
      cases e
      rw [h.key e1, a.keys e2]; rfl
    · cases e
theorem Dn.keyT {v : V} {d : D} {ks : List Key} (h : Dn K S v d) (e : d.keyT = some ks) : ∃ b, v = .ref b ∧ S b = some (.tup (ks.map kV)) := by
  cases h with
  | tup h1 h2 =>
    have := h2.keys e
    subst this
    exact ⟨_, rfl, h1⟩
  | _ => cases e
theorem Dn.kd (k : Key) : Dn K S (kV k) (kD k) := by cases k <;> constructor
theorem DnA.kds : ∀ ks : List Key, DnA K S (ks.map kV) (ks.map kD)
  | [] => .nil
  | k :: ks => .cons (.kd k) (DnA.kds ks)

section
variable {X : Cx} {E : EK} {e a b c : Expr} {es : List Expr} {pos p ap cp : Pos} {da db : dE} {x : Str}
/-- name = {}: keys tuples; keys numbers and texts -/
def dNewDT (i : Nat) : dS := fun _ N δ => N.nx (setSl δ i (.ownT []))
def dNewDK (i : Nat) : dS := fun _ N δ => N.nx (setSl δ i (.ownK []))
theorem ds_newT {i : Nat} {x : Str} {pos' p2 : Pos} (hN : X.N.Nodup) (hi : X.N[i]? = some x) (hx : Loc X.env.scope x) (hs : swapsWith (.Dict [] [] p2) (some (.Name x pos')) pos.line X.env = pure false := by rfl) (hf : X.fn x = true ∨ X.env.scope.names.lookup x = some .local := by first | exact .inl rfl | exact .inr rfl | assumption) :
    DSt X E (.Assign [.Name x pos'] (.Dict [] [] p2) pos) (dNewDT i) := ⟨fun B => ps_mono (ps_set hN hi hx pe_dnewT hs hf) fun Z σ H q => by
  obtain ⟨δ, S, W, N, R, q, xo, h1, _⟩ := q
  exact fun p hp => h1 _ _ _ _ q (Ex.refl _) (R.setNew hp (fun vs z => HO.noConfusion z) fun H1 e1 a b => ⟨p, [], rfl, a, b, rfl, e1, rfl, .nil⟩)⟩
theorem ds_newK {i : Nat} {x : Str} {pos' p2 : Pos} (hN : X.N.Nodup) (hi : X.N[i]? = some x) (hx : Loc X.env.scope x) (hs : swapsWith (.Dict [] [] p2) (some (.Name x pos')) pos.line X.env = pure false := by rfl) (hf : X.fn x = true ∨ X.env.scope.names.lookup x = some .local := by first | exact .inl rfl | exact .inr rfl | assumption) :
    DSt X E (.Assign [.Name x pos'] (.Dict [] [] p2) pos) (dNewDK i) := ⟨fun B => ps_mono (ps_set hN hi hx pe_dnewK hs hf) fun Z σ H q => by
  obtain ⟨δ, S, W, N, R, q, xo, h1, _⟩ := q
  exact fun p hp => h1 _ _ _ _ q (Ex.refl _) (R.setNew hp (fun vs z => HO.noConfusion z) fun H1 e1 a b => ⟨p, [], rfl, a, b, rfl, e1, rfl, .nil⟩)⟩
/-- what the dict in slot i holds at y -/
def dictGet (δ : DS) (i : Nat) (y : D) : Option (Option D) := match δ.sl[i]? with
  | some (.ownT es) => y.keyT.map (valD es)
  | some (.ownK es) => y.key.map (valD es)
  | some (.dat (.dT es)) => y.keyT.map (valD es)
  | some (.dat (.dK es)) => y.key.map (valD es)
  | _ => none
theorem DGet.rk {a : Addr} {kvs : List (Key × V)} {k : Key} (e : H a = some (.dK kvs)) : DGet H a (kV k) (valV kvs k) := DGet.k e
theorem Rel.dget (R : Rel K B δ S σ H) {i : Nat} {y : D} {u : V} {r : Option D} (n : Dn K S u y) (h : dictGet δ i y = some r) : ∃ a o, σ[i]? = some (some (.ref a)) ∧ DGet H a u o ∧ ((o = none ∧ r = none) ∨ ∃ v d, o = some v ∧ r = some d ∧ Dn K S v d) := by
  have fk : ∀ {a : Addr} {kvs : List (Key × V)} {es : List (Key × D)}, σ[i]? = some (some (.ref a)) → H a = some (.dK kvs) → KvR K S kvs es → y.key.map (valD es) = some r → ∃ a o, σ[i]? = some (some (.ref a)) ∧ DGet H a u o ∧ ((o = none ∧ r = none) ∨ ∃ v d, o = some v ∧ r = some d ∧ Dn K S v d) := by
    intro a kvs es h1 h2 h3 h4
    cases hk : y.key with
    | none => rw [hk] at h4; cases h4
    | some k =>
      rw [hk] at h4
      cases h4
      rw [n.key hk]
      refine ⟨a, _, h1, DGet.k h2, ?_⟩
      rcases h3.get (k := k) with ⟨q1, q2⟩ | ⟨v, d, q1, q2, q3⟩
      · exact .inl ⟨q1, q2⟩
      · exact .inr ⟨v, d, q1, q2, q3⟩
  have ft : ∀ {a : Addr} {kvs : List (List Key × V)} {es : List (List Key × D)}, σ[i]? = some (some (.ref a)) → H a = some (.dT kvs) → KvR K S kvs es → y.keyT.map (valD es) = some r → ∃ a o, σ[i]? = some (some (.ref a)) ∧ DGet H a u o ∧ ((o = none ∧ r = none) ∨ ∃ v d, o = some v ∧ r = some d ∧ Dn K S v d) := by
    intro a kvs es h1 h2 h3 h4
    cases hk : y.keyT with
    | none => rw [hk] at h4; cases h4
    | some k =>
      rw [hk] at h4
      cases h4
      obtain ⟨b, rfl, hb⟩ := n.keyT hk
      refine ⟨a, _, h1, DGet.t h2 (R.ex _ _ hb), ?_⟩
      rcases h3.get (k := k) with ⟨q1, q2⟩ | ⟨v, d, q1, q2, q3⟩
      · exact .inl ⟨q1, q2⟩
      · exact .inr ⟨v, d, q1, q2, q3⟩
  obtain ⟨ow, h1, _⟩ := R.sl
  unfold dictGet at h
  split at h
  · rename_i es hs
    obtain ⟨a, kvs, r1, r2, r3, r4, r5, r6, r7⟩ := h1 i _ hs
    exact ft r4 r5 ⟨r6, r7⟩ h
  · rename_i es hs
    obtain ⟨a, kvs, r1, r2, r3, r4, r5, r6, r7⟩ := h1 i _ hs
    exact fk r4 r5 ⟨r6, r7⟩ h
  · rename_i es hs
    obtain ⟨v, e1, e2⟩ := R.dat hs
    cases e2 with
    | dT h1 h2 h3 => exact ft e1 (R.ex _ _ h1) ⟨h2, h3⟩ h
  · rename_i es hs
    obtain ⟨v, e1, e2⟩ := R.dat hs
    cases e2 with
    | dK h1 h2 h3 => exact fk e1 (R.ex _ _ h1) ⟨h2, h3⟩ h
  · cases h
/-- slot i holds a dict: where -/
def isDict (δ : DS) (i : Nat) : Prop := ∃ x, δ.sl[i]? = some x ∧ match x with | .ownT _ => True | .ownK _ => True | .dat (.dT _) => True | .dat (.dK _) => True | _ => False
theorem Rel.dict_at (R : Rel K B δ S σ H) {i : Nat} (h : isDict δ i) : ∃ a, σ[i]? = some (some (.ref a)) := by
  obtain ⟨x, hx, h⟩ := h
  obtain ⟨ow, h1, _⟩ := R.sl
  match x, hx, h with
  | .ownT es, hx, _ => obtain ⟨a, kvs, r1, r2, r3, r4, _⟩ := h1 i _ hx; exact ⟨a, r4⟩
  | .ownK es, hx, _ => obtain ⟨a, kvs, r1, r2, r3, r4, _⟩ := h1 i _ hx; exact ⟨a, r4⟩
  | .dat (.dT es), hx, _ =>
    obtain ⟨v, e1, e2⟩ := R.dat hx
    cases e2; exact ⟨_, e1⟩
  | .dat (.dK es), hx, _ =>
    obtain ⟨v, e1, e2⟩ := R.dat hx
    cases e2; exact ⟨_, e1⟩
/-- name[e] of a dict -/
def dDGet (i : Nat) (d : dE) : dE := fun W δ Q => isDict δ i ∧ d W δ fun y δ1 => optQ (dictGet δ1 i y) fun r => optQ r fun z => Q z δ1
theorem de_dget {i : Nat} {x : Str} (hu : X.A.units + 1 < cLine) (hv : PE X (.Name x p) (tVar i)) (hb : DE X E b db) (hs : NoSl b) : DE X E (.Subscript (.Name x p) b pos) (dDGet i db) := ⟨fun B => pe_mono (pe_dget hu hv (hb.run B) hs) fun σ H Q q => by
  obtain ⟨δ, S, W, Q', R, ⟨hd, q⟩, xo, post⟩ := q
  obtain ⟨a, ha⟩ := R.dict_at hd
  refine ⟨.ref a, ha, δ, S, W, _, R, q, xo, fun y δ1 v S1 H1 q1 e1 R1 n1 => ?_⟩
  obtain ⟨r, h1, q1⟩ := optQ_ex q1
  obtain ⟨z, rfl, q1⟩ := optQ_ex q1
  obtain ⟨a', o, ha', g, w⟩ := R1.dget n1 h1
  rw [ha] at ha'; cases ha'
  rcases w with ⟨_, w⟩ | ⟨v', d', rfl, w, dn⟩
  · cases w
  · cases w
    exact ⟨a, v', rfl, g, post _ _ _ _ _ q1 e1 R1 dn⟩⟩
/-- e in name, e not in name -/
def dDIn (neg : Bool) (d : dE) (i : Nat) : dE := fun W δ Q => d W δ fun y δ1 => optQ (dictGet δ1 i y) fun r => Q (.bl (if neg then !r.isSome else r.isSome)) δ1
theorem isSome_of {o : Option V} {r : Option D} (w : (o = none ∧ r = none) ∨ ∃ v d, o = some v ∧ r = some d ∧ Dn K S v d) : o.isSome = r.isSome := by
  rcases w with ⟨rfl, rfl⟩ | ⟨_, _, rfl, rfl, _⟩ <;> rfl
theorem din_read {i : Nat} {Q : VK} (q : liftE K B E (dDIn false db i) σ H Q) : tDIn (liftE K B E db) (tVar i) σ H Q := by
  obtain ⟨δ, S, W, Q', R, q, xo, post⟩ := q
  refine ⟨δ, S, W, _, R, q, xo, fun y δ1 v S1 H1 q1 e1 R1 n1 => ?_⟩
  obtain ⟨r, h1, q1⟩ := optQ_ex q1
  obtain ⟨a', o, ha', g, w⟩ := R1.dget n1 h1
  exact ⟨.ref a', ha', a', o, rfl, g, by rw [isSome_of w]; exact post _ _ _ _ _ q1 e1 R1 (.bl _)⟩
theorem dnin_read {i : Nat} {Q : VK} (q : liftE K B E (dDIn true db i) σ H Q) : tDNotIn (liftE K B E db) (tVar i) σ H Q := by
  obtain ⟨δ, S, W, Q', R, q, xo, post⟩ := q
  refine ⟨δ, S, W, _, R, q, xo, fun y δ1 v S1 H1 q1 e1 R1 n1 => ?_⟩
  obtain ⟨r, h1, q1⟩ := optQ_ex q1
  obtain ⟨a', o, ha', g, w⟩ := R1.dget n1 h1
  exact ⟨.ref a', ha', a', o, rfl, g, by rw [isSome_of w]; exact post _ _ _ _ _ q1 e1 R1 (.bl _)⟩
theorem tB_of {t : TE} {Q : Bool → Hp → Prop} (h : t σ H fun x H' => ∃ k, x = .bl k ∧ Q k H') : tB t σ H Q := h
theorem de_din {i : Nat} {x : Str} (hu : X.A.units + 1 < cLine) (hb : DE X E b db) (hv : PE X (.Name x p) (tVar i)) : DE X E (.Compare b [.In] [.Name x p] pos) (dDIn false db i) := ⟨fun B => pe_mono (pe_cmp (pc_din hu (hb.run B) hv) rfl) fun σ H Q q => din_read q⟩
theorem de_dnin {i : Nat} {x : Str} (hu : X.A.units + 1 < cLine) (hb : DE X E b db) (hv : PE X (.Name x p) (tVar i)) : DE X E (.Compare b [.NotIn] [.Name x p] pos) (dDIn true db i) := ⟨fun B => pe_mono (pe_cmp (pc_dnotin hu (hb.run B) hv) rfl) fun σ H Q q => dnin_read q⟩
theorem dt_din {i : Nat} {x : Str} (hu : X.A.units + 1 < cLine) (hb : DE X E b db) (hv : PE X (.Name x p) (tVar i)) : DT X E (.Compare b [.In] [.Name x p] pos) (dB (dDIn false db i)) := ⟨fun B => pt_mono (pt_cmp (pc_din hu (hb.run B) hv) rfl) fun σ H Q q => by
  have q := lift_B q
  exact din_read (Q := fun x H' => ∃ k, x = .bl k ∧ Q k H') q⟩
theorem dt_dnin {i : Nat} {x : Str} (hu : X.A.units + 1 < cLine) (hb : DE X E b db) (hv : PE X (.Name x p) (tVar i)) : DT X E (.Compare b [.NotIn] [.Name x p] pos) (dB (dDIn true db i)) := ⟨fun B => pt_mono (pt_cmp (pc_dnotin hu (hb.run B) hv) rfl) fun σ H Q q => by
  have q := lift_B q
  exact dnin_read (Q := fun x H' => ∃ k, x = .bl k ∧ Q k H') q⟩
/-- name[i] = e -/
def dictPut (δ : DS) (i : Nat) (y z : D) : Option DS := match δ.sl[i]? with
  | some (.ownT es) => match y.keyT with | some k => if es.length < sizeLine then some (setSl δ i (.ownT (putD es k z))) else none | none => none
  | some (.ownK es) => match y.key with | some k => if es.length < sizeLine then some (setSl δ i (.ownK (putD es k z))) else none | none => none
  | _ => none
theorem Rel.dput (R : Rel K B δ S σ H) {i : Nat} {y z : D} {u v : V} {δ' : DS} (n : Dn K S u y) (m : Dn K S v z) (h : dictPut δ i y z = some δ') : ∃ a H1, σ[i]? = some (some (.ref a)) ∧ DPut H a u v H1 ∧ Rel K B δ' S σ H1 := by
  unfold dictPut at h
  split at h
  · rename_i es hs
    split at h
    · rename_i k hk
      split at h
      · rename_i hz
        cases h
        obtain ⟨ow, h1, _⟩ := id R.sl
        obtain ⟨a, kvs, r1, r2, r3, r4, r5, r6, r7⟩ := h1 i _ hs
        obtain ⟨b, rfl, hb⟩ := n.keyT hk
        have hl : kvs.length = es.length := by simpa using congrArg List.length r6
        refine ⟨a, _, r4, DPut.t r5 (R.ex _ _ hb) (by omega), R.mut (fun vs z => HO.noConfusion z) hs (fun oa q => ?_) fun H1 e => ?_⟩
        · obtain ⟨a', _, t1, _, _, t4, _⟩ := q
          rw [r4] at t4; cases t4
          exact t1
        · have w := KvR.put ⟨r6, r7⟩ m k
          exact ⟨a, _, rfl, r2, r3, r4, e, w.1, w.2⟩
      · cases h
    · cases h
  · rename_i es hs
    split at h
    · rename_i k hk
      split at h
      · rename_i hz
        cases h
        obtain ⟨ow, h1, _⟩ := id R.sl
        obtain ⟨a, kvs, r1, r2, r3, r4, r5, r6, r7⟩ := h1 i _ hs
        have hl : kvs.length = es.length := by simpa using congrArg List.length r6
        rw [n.key hk]
        refine ⟨a, _, r4, DPut.k r5 (by omega), R.mut (fun vs z => HO.noConfusion z) hs (fun oa q => ?_) fun H1 e => ?_⟩
        · obtain ⟨a', _, t1, _, _, t4, _⟩ := q
          rw [r4] at t4; cases t4
          exact t1
        · have w := KvR.put ⟨r6, r7⟩ m k
          exact ⟨a, _, rfl, r2, r3, r4, e, w.1, w.2⟩
      · cases h
    · cases h
  · cases h
def dDPut (i : Nat) (dk dv : dE) : dS := fun W N δ => dv W δ fun z δ1 => isDict δ1 i ∧ dk W δ1 fun y δ2 => optQ (dictPut δ2 i y z) N.nx
theorem ds_dput {i : Nat} {x : Str} {tp : Pos} (hu : X.A.units + 1 < cLine) (hv : PE X (.Name x p) (tVar i)) (hk : DE X E b db) (he : DE X E e da) (hs : swapsWith e (some (.Subscript (.Name x p) b tp)) pos.line X.env = pure false := by rfl) : DSt X E (.Assign [.Subscript (.Name x p) b tp] e pos) (dDPut i db da) :=
  ⟨fun B => ps_mono (ps_dput hu hv (hk.run B) (he.run B) hs) fun Z σ H q => by
    obtain ⟨δ, S, W, N, R, q, xo, p1, _⟩ := q
    refine ⟨δ, S, W, _, R, q, xo, fun z δ1 v S1 H1 q1 e1 R1 n1 => ?_⟩
    obtain ⟨hd, q1⟩ := q1
    obtain ⟨a, ha⟩ := R1.dict_at hd
    refine ⟨.ref a, ha, δ1, S1, W, _, R1, q1, xo.mono e1, fun y δ2 u S2 H2 q2 e2 R2 n2 => ?_⟩
    obtain ⟨δ3, h3, q2⟩ := optQ_ex q2
    obtain ⟨a', H3, ha', g, R3⟩ := R2.dput n2 (n1.mono e2) h3
    rw [ha] at ha'; cases ha'
    exact ⟨a, H3, rfl, g, p1 _ _ _ _ q2 (e1.trans e2) R3⟩⟩
/-- the keys of a dict with tuple keys, sorted -/
def keyD (es : List (List Key × D)) : List D := es.map fun e => .tup (e.1.map kD)
def rSrtT (K : PySem.W.Frag) : List V → Hp → VK → Prop := fun vs H Q => ∃ S a kvs, vs = [.ref a] ∧ Sb S H ∧ H a = some (.dT kvs) ∧ srtOk (kvs.map fun e => D.tup (e.1.map kD)) ∧ ∀ ws p, H p = none → DnA K S ws (sortD (kvs.map fun e => D.tup (e.1.map kD))) → Q (.ref p) (upd H p (.lst ws))
theorem keys_dn (sb : Sb S H) : ∀ {kvs : List (List Key × V)} {xs : List (List Key × Addr × Value)}, Paired (fun (p : List Key × V) (q : List Key × Addr × Value) => p.1 = q.1 ∧ H q.2.1 = some (.tup (p.1.map kV)) ∧ RelV p.2 q.2.2) kvs xs →
    DnA K S (xs.map fun q => V.ref q.2.1) (kvs.map fun e => D.tup (e.1.map kD))
  | _, _, .nil => .nil
  | _, _, .cons h t => .cons (.tup (sb.tp _ _ h.2.1) (DnA.kds _)) (keys_dn sb t)
theorem cd_sortedT (hc : X.calm = true) (hu : X.A.units + 66 < cLine) : CallR X (.builtin "sorted") (rSrtT X.K) := fun pins s σ H vs us Q I r ⟨S, a, kvs, e, sb, ha, ok, q⟩ => by
  subst e
  obtain ⟨u, rfl, ru⟩ := vals1 r
  obtain rfl : u = Value.ref a := ru
  obtain ⟨hz, hs, ks, pr, o, es, ep, ho, hx, hdt, he, hn⟩ := I.hok _ _ ha
  have l1 : es.size = ks.length := by rw [← Array.length_toList, he, List.length_map]
  have l2 : kvs.length = ks.length := Paired.length pr
  refine sorted_end I hu sb (us := ks.map fun q => Value.ref q.2.1) (vs := ks.map fun q => V.ref q.2.1) ?_ (keys_dn sb pr) ok (fun C E' hC => ?_) fun ws p hp aw => q ws p hp aw
  · clear pr he hn l1 l2
    induction ks with
    | nil => exact .nil
    | cons k ks ih => exact .cons rfl ih
  · refine collect_src (kdl_raw hs hx hdt) (I.ok.hd hc) ho (by omega) fun h' tk acc kp sz it => ?_
    have ea : acc.toList = ks.map fun q => Value.ref q.2.1 := by
      have hl : acc.toList.length = ks.length := by rw [Array.length_toList, it.1, l1]
      apply List.ext_getElem?
      intro j
      rw [List.getElem?_map]
      by_cases hj : j < ks.length
      · have hj2 : j < acc.size := by rw [← Array.length_toList]; omega
        obtain ⟨en, h1, h2⟩ := it.2 j acc[j] (Array.getElem?_eq_getElem hj2)
        have h3 : es.toList[j]? = some en := by rw [Array.getElem?_toList]; exact h1
        rw [he, List.getElem?_map, List.getElem?_eq_getElem hj] at h3
        rw [Array.getElem?_toList, Array.getElem?_eq_getElem hj2, List.getElem?_eq_getElem hj, h2, ← Option.some.inj h3]
        rfl
      · rw [List.getElem?_eq_none (by omega), List.getElem?_eq_none (by omega)]; rfl
    rw [ea]
    exact hC h' tk kp sz
def dSortT (i : Nat) : dF := fun _ δ Q => match δ.sl[i]? with
  | some (.ownT es) => srtOk (keyD es) ∧ Q (sortD (keyD es)) δ
  | some (.dat (.dT es)) => srtOk (keyD es) ∧ Q (sortD (keyD es)) δ
  | _ => False
theorem keyD_of {kvs : List (List Key × V)} {es : List (List Key × D)} (h : kvs.map (·.1) = es.map (·.1)) : (kvs.map fun e => D.tup (e.1.map kD)) = keyD es := by
  have e1 : (kvs.map fun e => D.tup (e.1.map kD)) = (kvs.map (·.1)).map fun k => D.tup (k.map kD) := by rw [List.map_map]; rfl
  have e2 : keyD es = (es.map (·.1)).map fun k => D.tup (k.map kD) := by unfold keyD; rw [List.map_map]; rfl
  rw [e1, e2, h]
theorem df_sortedT {i : Nat} {y : Str} {py : Pos} (hc : X.calm = true) (hu : X.A.units + 66 < cLine) (hv : PE X (.Name y py) (tVar i)) (gl : Gl X x) (hm : X.mg x = none) (hb : bootBuiltins x = some (.builtin "sorted")) (hn : x ≠ "__name__" := by decide) (hdb : (x == ("__debug__" : Str)) = false := by decide)
    (he : starEach [.Name y py] X.env = (false, eval (.Name y py) X.env) :: starEach [] X.env := by rfl) (hpl : (backTo pos (starEach [] X.env)).any (·.1) = false := by rfl) : DF X E (.Call (.Name x p) [.Name y py] [] pos) (dSortT i) :=
  ⟨fun B => pe_mono (pe_callB (cd_sortedT hc hu) gl hm hb (pa_cons hv pa_nil he) hn hdb he hpl) fun σ H Q q => by
    obtain ⟨δ, S, W, Q', R, q, xo, post⟩ := q
    unfold dSortT at q
    split at q
    · rename_i es hs
      obtain ⟨ow, h1, _⟩ := id R.sl
      obtain ⟨a, kvs, r1, r2, r3, r4, r5, r6, r7⟩ := h1 i _ hs
      refine ⟨.ref a, r4, S, a, kvs, rfl, R.ex, r5, by rw [keyD_of r6]; exact q.1, fun ws p hp aw => ?_⟩
      rw [keyD_of r6] at aw
      exact post _ _ _ _ _ _ q.2 (Ex.refl _) R hp aw
    · rename_i es hs
      obtain ⟨v, e1, e2⟩ := R.dat hs
      cases e2 with
      | dT h1 h2 h3 =>
        refine ⟨_, e1, S, _, _, rfl, R.ex, R.ex _ _ h1, by rw [keyD_of h2]; exact q.1, fun ws p hp aw => ?_⟩
        rw [keyD_of h2] at aw
        exact post _ _ _ _ _ _ q.2 (Ex.refl _) R hp aw
    · exact q.elim⟩
end
/-- a comprehension with a test, nothing else changed -/
theorem wLC_filt {α : Type} {g : dG} {tt : dT} {te : dE} {vs : List Nat} {Q : List D → DS → Prop} {δ0 : DS} {ι f : α → D} {t : α → Bool} : ∀ {l : List α}, (∀ a ∈ l, ∀ acc (k : List D → DS → Prop), acc.length < sizeLine → (t a = true → k (acc ++ [f a]) δ0) → (t a = false → k acc δ0) → g (ι a) δ0 fun δ1 => tt W0 δ1 fun z δ2 => match z with
      | true => te W0 δ2 fun y δ3 => acc.length < sizeLine ∧ k (acc ++ [y]) (wipeD δ3 vs)
      | false => k acc (wipeD δ2 vs)) → l.length ≤ sizeLine → Q ((l.filter t).map f) δ0 → wLC g tt te vs Q (l.map ι) [] δ0 := by
  intro l h hl h0
  have go : ∀ (r : List α) (acc : List D), (∀ a ∈ r, a ∈ l) → acc.length + r.length ≤ sizeLine → acc ++ (r.filter t).map f = (l.filter t).map f → wLC g tt te vs Q (r.map ι) acc δ0 := by
    intro r
    induction r with
    | nil => intro acc _ _ e; rw [List.filter_nil, List.map_nil, List.append_nil] at e; subst e; exact h0
    | cons a r ih =>
      intro acc hm hz e
      rw [List.length_cons] at hz
      refine h a (hm a List.mem_cons_self) acc (fun acc' δ' => wLC g tt te vs Q (r.map ι) acc' δ') (by omega) (fun ha => ih (acc ++ [f a]) (fun b hb => hm b (List.mem_cons_of_mem _ hb)) (by simp; omega) ?_) (fun ha => ih acc (fun b hb => hm b (List.mem_cons_of_mem _ hb)) (by omega) ?_)
      · rw [← e, List.filter_cons_of_pos ha]; simp
      · rw [← e, List.filter_cons_of_neg (by rw [ha]; decide)]
  exact go l [] (fun _ h => h) (by simpa using hl) rfl
theorem from_zero {lo : Int} : Ev.intsFrom lo 0 = [] := rfl
theorem from_succ {lo : Int} {n : Nat} : Ev.intsFrom lo (n + 1) = .int lo :: Ev.intsFrom (lo + 1) n := by
  unfold Ev.intsFrom
  rw [List.range_succ_eq_map, List.map_cons, List.map_map]
  congr 1
  · simp
  · apply List.map_congr_left
    intro i _
    show D.int (lo + ((i + 1 : Nat) : Int)) = D.int (lo + 1 + (i : Int))
    congr 1; omega
theorem putD_mem {κ : Type} [DecidableEq κ] {es : List (κ × D)} {k : κ} {d : D} {e : κ × D} (h : e ∈ putD es k d) : e ∈ es ∨ e = (k, d) := by
  unfold putD at h
  split at h
  · obtain ⟨x, hx, rfl⟩ := List.mem_map.mp h
    split
    · rename_i q; rw [q]; exact .inr rfl
    · exact .inl hx
  · rcases List.mem_append.mp h with h | h
    · exact .inl h
    · exact .inr (List.mem_singleton.mp h)
theorem putD_len {κ : Type} [DecidableEq κ] {es : List (κ × D)} {k : κ} {d : D} : (putD es k d).length ≤ es.length + 1 := by
  unfold putD
  split
  · rw [List.length_map]; omega
  · rw [List.length_append]; exact Nat.le_refl _
theorem valD_some {κ : Type} [DecidableEq κ] {es : List (κ × D)} {k : κ} (h : k ∈ es.map (·.1)) : ∃ d, valD es k = some d ∧ (k, d) ∈ es := by
  induction es with
  | nil => simp at h
  | cons e es ih =>
    by_cases q : e.1 = k
    · exact ⟨e.2, by simp [valD, q], by rw [← q]; exact List.mem_cons_self⟩
    · simp only [List.map_cons, List.mem_cons] at h
      obtain ⟨d, h1, h2⟩ := ih (h.resolve_left fun z => q z.symm)
      exact ⟨d, by simpa [valD, q] using h1, List.mem_cons_of_mem _ h2⟩
/-- what is made of things of one form stays of that form -/
theorem mem_form {α : Type} {f : α → D} {l : List α} : ∀ {ds : List D}, (∀ d ∈ ds, ∃ a ∈ l, d = f a) → ∃ l' : List α, ds = l'.map f ∧ ∀ a ∈ l', a ∈ l
  | [], _ => ⟨[], rfl, fun _ h => nomatch h⟩
  | d :: ds, h => by
    obtain ⟨a, ha, rfl⟩ := h d List.mem_cons_self
    obtain ⟨l', rfl, hl⟩ := mem_form (ds := ds) fun x hx => h x (List.mem_cons_of_mem _ hx)
    exact ⟨a :: l', rfl, fun b hb => (List.mem_cons.mp hb).elim (fun z => z ▸ ha) (hl b)⟩
theorem sortD_perm (ds : List D) : (sortD ds).Perm ds := List.mergeSort_perm ..
theorem sortD_form {α : Type} {f : α → D} {l : List α} : ∃ l' : List α, sortD (l.map f) = l'.map f ∧ (∀ a ∈ l', a ∈ l) ∧ l'.length = l.length := by
  obtain ⟨l', e, h⟩ := mem_form (f := f) (l := l) (ds := sortD (l.map f)) fun d hd => by
    have := (sortD_perm (l.map f)).mem_iff.mp hd
    obtain ⟨a, ha, e⟩ := List.mem_map.mp this
    exact ⟨a, ha, e.symm⟩
  refine ⟨l', e, h, ?_⟩
  have := (sortD_perm (l.map f)).length_eq
  rw [e] at this
  simpa using this
end Ev

namespace Ev33
open PySem PySem.Spec PyProof.Rows L2 Ev
def topS (i : Nat) : Stmt := PySem.Challenge.pw_eventrooms_k33_who_hears_in_a_room_alone.main.body.getD i (.Pass ⟨0, 0, 0, 0⟩)
def sp__law_pen : dSp := fun ds p Q _ => ∃ ns, ds = [.scr ns] ∧ ns.length ≤ 63 ∧ p = none ∧ ∀ a, Q (.raw (.ref a)) (some (a, 0))
abbrev s__law_pen : Stmt := topS 3
abbrev n__law_pen : List Str := ["_law_script"]
theorem sc__law_pen : FnScope n__law_pen ["_law_script"] (defScope s__law_pen) := ⟨rfl, rfl, rfl, by decide +kernel, rfl, by decide +kernel, by decide +kernel⟩
def b__law_pen : dS := (dRet (dBorn (dLst (dCons (dFz (dCBF rList (dCons (dFz (dSlL (dVar 0) oNone (oSome (dC (.int 63))))) dNil))) (dCons (dC (.int 0)) (dCons (dC (.int 0)) dNil))))))
theorem run__law_pen {P : Program} {w : World} {K : PySem.W.Frag} {mg : Str → Option Value} {base : Heap} (m_list : mg "list" = none) {f : Addr} (cdv : Value) (A : Around) (out : List Env) (s : Shared) (H : Hp) (E : XK) (g : A.guards = some []) (hrA : Room 0 (A.deeper (envOfC "_law_pen" (defScope s__law_pen) s.heap.objs.size f cdv))) :
  DSs (cx0 P w K mg base n__law_pen "_law_pen" (defScope s__law_pen) f cdv A out s H E) E00 (defBody s__law_pen) b__law_pen := by
 have hgA : (A.deeper (envOfC "_law_pen" (defScope s__law_pen) s.heap.objs.size f cdv)).guards = some [] := g
 have hun := hrA.un
 exact (dss_one (ds_ret (de_born (df_lst (da_cons (de_fz (df_callTy cd_list (by rfl) m_list (by decide +kernel) (da_cons (de_fz (df_slL (de_var (pv 0)) do_none (do_some de_int))) da_nil))) (da_cons de_int (da_cons de_int da_nil)))))))
theorem hsp__law_pen : ∀ ds p Q W, ds.length = 1 → sp__law_pen ds p Q W → b__law_pen W0 (endsD Q) (startD n__law_pen.length ds p) := by
  rintro _ p Q W - ⟨ns, rfl, hl, rfl, q⟩
  simp only [dSeq, dNext, dSet, dSetF, setSl, dVar, dTake, dC, dBin, dBinF, dB, dIfS, dIf, dRet, dRetN, dExpr, dNil, dCons, dTup, dLst, dFz, dAnd, dOr, dNot, dAndV, dOrV, dNotV, dCallD, dCallK, dCB, dCBF, dFor, dLC, dYes, dRng1, dRng2, dSeqI, gN, gT, gsNil, gsCons, dAsg, dNeg, dJoin, dFs, dJs, dFmt, dApp, dExt, dPop, dPopAt, dOwnIx, dOwnCB, dOwnL, dOwnR, dOwnSl, dSetIx, dSlT, dSlL, oNone, oSome, dBorn, optQ, ownAt, setOwnAt, lookAt, wipeD, dNewDT, dNewDK, dDGet, dDIn, dDPut, dSortT, rSrt, dNever, dBrk, dCnt, D.flat, rAddD, rSubI, rIO, rMulI, rDivI, rModI, rPowI, rCI, rIxD, rIsN, rNotN, D.isN, rLen, rTuple, rList, rAbs, rInt, rStr, Ev.rRepr, Ev.rIsi, D.ty, kit_tab, startD, endsD, List.map_cons, List.map_nil, List.length_cons, List.length_nil, List.append_nil, List.nil_append, List.cons_append, List.getElem?_cons_zero, List.getElem?_cons_succ, List.getElem?_nil, List.set_cons_zero, List.set_cons_succ, List.replicate, List.replicate_succ, Nat.zero_add, Nat.zero_le, sizeLine, true_and, and_true, if_true, Ev.eq_int, Ev.eq_str, Ev.eq_bl, Ev.eq_non, lst_nil, tup_nil, List.map_eq_nil_iff, txt_join, rLt, rLe, rGt, rGe, atI_ofNat, atI_last, wLC, strsOf, intsOf, blsOf, Option.map_some, Ev.join_two, Ev.join_one, Ev.join_nil, List.sum_cons, List.sum_nil, PySem.Str.empty_append, ixN_ofNat, Option.some.injEq, exists_eq', List.length_map, decide_true, decide_false, Bool.not_true, Bool.not_false, Bool.true_eq_false, Bool.false_eq_true, false_and, and_false, if_false, ite_true, ite_false, Nat.reduceAdd, Nat.reduceSub, Nat.reduceMul, Nat.reduceLT, Nat.reduceLeDiff, Nat.reduceEqDiff, Nat.reducePow, Int.reduceToNat, Int.reducePow, pickL, List.filterMap_cons, List.filterMap_nil, and_self, Int.reduceLT, Int.reduceLE, Int.reduceNeg, Int.reduceAdd, Int.reduceMul, Int.reduceSub, Int.reduceEq, reduceIte, reduceCtorEq, lit_eq, String.reduceEq, Ev.rEq, Ev.rNe, Ev.rInD, cut_toN, cut_fromN, List.map_take, List.forall_mem_cons, List.forall_mem_nil, List.not_mem_nil, false_imp_iff, implies_true, forall_const, D.cm, D.lay, D.lays, D.dep, D.deps, strOk_lit, lays_ints, deps_ints, Nat.max_self, Nat.max_zero, Nat.zero_max, Bool.and_self, Bool.true_and, Bool.and_true, Bool.and_false, Bool.false_and, Bool.or_false, Bool.or_true, Bool.true_or, Bool.false_or, List.any_cons, List.any_nil, decide_eq_true_eq, eq_self, b__law_pen, n__law_pen]
  exact ⟨ns.take 63, 0, 0, 0, by rw [penD, List.map_take], by simp; omega, by decide, by decide, by decide, q⟩
theorem ok__law_pen {P : Program} {w : World} {K : PySem.W.Frag} {mg : Str → Option Value} {base : Heap} (m_list : mg "list" = none) {f : Addr} {fd : FuncData} (F : Fun K "_law_pen" "_law_pen" s__law_pen f fd) : FnG P w K mg base CX0 1 f fd ["_law_script"] (spD K 1 sp__law_pen) :=
 fn_d0 F sc__law_pen rfl (fun cdv A out s H E g r => run__law_pen m_list cdv A out s H E g r) hsp__law_pen
def sp__law_pick : dSp := spDraw 65536
abbrev s__law_pick : Stmt := topS 4
abbrev n__law_pick : List Str := ["_law_pen_here", "_law_upto", "_law_digit", "_law_turn", "_law_cell", "_law_great", "_law_stirred"]
theorem sc__law_pick : FnScope n__law_pick ["_law_pen_here", "_law_upto"] (defScope s__law_pick) := ⟨rfl, rfl, rfl, by decide +kernel, rfl, by decide +kernel, by decide +kernel⟩
def p__law_pick_x2_0 : dS := (dSet 2 (dBin rModI (dOwnIx 0 (dC (.int 2))) (dVar 1)))
def p__law_pick_x2_1 : dS := (dSetIx 0 (dC (.int 2)) (dBin rDivI (dOwnIx 0 (dC (.int 2))) (dVar 1)))
def p__law_pick_x2_2 : dS := (dRet (dVar 2))
def b__law_pick_x2_2 : dS := p__law_pick_x2_2
def b__law_pick_x2_1 : dS := dSeq p__law_pick_x2_1 b__law_pick_x2_2
def b__law_pick_x2_0 : dS := dSeq p__law_pick_x2_0 b__law_pick_x2_1
def p__law_pick_x3_0 : dS := (dSet 5 (dBin rAddD (dBin rMulI (dC (.int 2)) (dCB rAbs (dCons (dVar 4) dNil))) (dCB rInt (dCons (dBin (rLt) (dVar 4) (dC (.int 0))) dNil))))
def p__law_pick_x3_1 : dS := (dSetIx 0 (dC (.int 2)) (dBin rDivI (dVar 5) (dVar 1)))
def p__law_pick_x3_2 : dS := (dRet (dBin rModI (dVar 5) (dVar 1)))
def b__law_pick_x3_2 : dS := p__law_pick_x3_2
def b__law_pick_x3_1 : dS := dSeq p__law_pick_x3_1 b__law_pick_x3_2
def b__law_pick_x3_0 : dS := dSeq p__law_pick_x3_0 b__law_pick_x3_1
def p__law_pick_0 : dS := (dIfS (dB (dBin (rGt) (dOwnIx 0 (dC (.int 2))) (dC (.int 0)))) b__law_pick_x2_0 dNext)
def p__law_pick_1 : dS := (dSet 3 (dOwnIx 0 (dC (.int 1))))
def p__law_pick_2 : dS := (dSetIx 0 (dC (.int 1)) (dBin rAddD (dVar 3) (dC (.int 1))))
def p__law_pick_3 : dS := (dSet 4 (dBin rAddD (dBin rMulI (dC (.int 2371)) (dVar 3)) (dC (.int 127))))
def p__law_pick_4 : dS := (dIfS (dB (dBin (rNe) (dOwnIx 0 (dC (.int 0))) (dFz (dLst dNil)))) (dSet 4 (dBin rIxD (dOwnIx 0 (dC (.int 0))) (dBin rModI (dVar 3) (dCB rLen (dCons (dOwnIx 0 (dC (.int 0))) dNil))))) dNext)
def p__law_pick_5 : dS := (dIfS (dAnd (dB (dBin (rLt) (dVar 3) (dCB rLen (dCons (dOwnIx 0 (dC (.int 0))) dNil)))) (dB (dBin (rGe) (dCB rAbs (dCons (dVar 4) dNil)) (dBin rPowI (dC (.int 10)) (dC (.int 18)))))) b__law_pick_x3_0 dNext)
def p__law_pick_6 : dS := (dSet 6 (dBin rModI (dBin rPowI (dBin rAddD (dBin rAddD (dBin rModI (dVar 4) (dC (.int 2147483587))) (dBin rMulI (dC (.int 44773)) (dVar 3))) (dC (.int 107))) (dC (.int 5))) (dC (.int 2147483647))))
def p__law_pick_7 : dS := (dSet 6 (dBin rModI (dBin rPowI (dBin rAddD (dBin rMulI (dVar 6) (dBin rAddD (dVar 3) (dC (.int 38803)))) (dBin rMulI (dBin rMulI (dC (.int 85009)) (dVar 3)) (dVar 3))) (dC (.int 3))) (dC (.int 2147483563))))
def p__law_pick_8 : dS := (dRet (dBin rModI (dBin rDivI (dVar 6) (dC (.int 32))) (dVar 1)))
def b__law_pick_8 : dS := p__law_pick_8
def b__law_pick_7 : dS := dSeq p__law_pick_7 b__law_pick_8
def b__law_pick_6 : dS := dSeq p__law_pick_6 b__law_pick_7
def b__law_pick_5 : dS := dSeq p__law_pick_5 b__law_pick_6
def b__law_pick_4 : dS := dSeq p__law_pick_4 b__law_pick_5
def b__law_pick_3 : dS := dSeq p__law_pick_3 b__law_pick_4
def b__law_pick_2 : dS := dSeq p__law_pick_2 b__law_pick_3
def b__law_pick_1 : dS := dSeq p__law_pick_1 b__law_pick_2
def b__law_pick_0 : dS := dSeq p__law_pick_0 b__law_pick_1
def b__law_pick : dS := b__law_pick_0
theorem run__law_pick {P : Program} {w : World} {K : PySem.W.Frag} {mg : Str → Option Value} {base : Heap} (m_abs : mg "abs" = none) (m_int : mg "int" = none) (m_len : mg "len" = none) {f : Addr} (cdv : Value) (A : Around) (out : List Env) (s : Shared) (H : Hp) (E : XK) (g : A.guards = some []) (hrA : Room 0 (A.deeper (envOfC "_law_pick" (defScope s__law_pick) s.heap.objs.size f cdv))) :
  DSs (cx0 P w K mg base n__law_pick "_law_pick" (defScope s__law_pick) f cdv A out s H E) E00 (defBody s__law_pick) b__law_pick := by
 have hgA : (A.deeper (envOfC "_law_pick" (defScope s__law_pick) s.heap.objs.size f cdv)).guards = some [] := g
 have hun := hrA.un
 exact (dss_cons (t := p__law_pick_0) (u := b__law_pick_1) (ds_if (dt_cmp (od_gt) (de_ownIx (pv 0) de_int (fun _ _ => rfl)) de_int (nomark _)) (dss_cons (t := p__law_pick_x2_0) (u := b__law_pick_x2_1) (ds_set (i := 2) sc__law_pick.nd rfl (by first | exact .inl rfl | exact .inr rfl) (de_op od_mod (de_ownIx (pv 0) de_int (fun _ _ => rfl)) (de_var (pv 1))))
  (dss_cons (t := p__law_pick_x2_1) (u := b__law_pick_x2_2) (ds_setIx (pv 0) de_int (de_op od_div (de_ownIx (pv 0) de_int (fun _ _ => rfl)) (de_var (pv 1))))
  (dss_one (t := p__law_pick_x2_2) (ds_ret (de_var (pv 2)))))) dss_nil)
  (dss_cons (t := p__law_pick_1) (u := b__law_pick_2) (ds_set (i := 3) sc__law_pick.nd rfl (by first | exact .inl rfl | exact .inr rfl) (de_ownIx (pv 0) de_int (fun _ _ => rfl)))
  (dss_cons (t := p__law_pick_2) (u := b__law_pick_3) (ds_setIx (pv 0) de_int (de_op od_add (de_var (pv 3)) de_int))
  (dss_cons (t := p__law_pick_3) (u := b__law_pick_4) (ds_set (i := 4) sc__law_pick.nd rfl (by first | exact .inl rfl | exact .inr rfl) (de_op od_add (de_op od_mul de_int (de_var (pv 3))) de_int))
  (dss_cons (t := p__law_pick_4) (u := b__law_pick_5) (ds_if (dt_cmp (od_ne (Nat.lt_of_le_of_lt (Nat.add_le_add_left (by decide) _) hun)) (de_ownIx (pv 0) de_int (fun _ _ => rfl)) (de_fz (df_lst da_nil)) (nomark _)) (dss_one (ds_set (i := 4) sc__law_pick.nd rfl (by first | exact .inl rfl | exact .inr rfl) (de_ix (de_ownIx (pv 0) de_int (fun _ _ => rfl)) (de_op od_mod (de_var (pv 3)) (de_callB (cd_len) (by rfl) m_len PySem.boot_len (da_cons (de_ownIx (pv 0) de_int (fun _ _ => rfl)) da_nil))) (fun _ _ => rfl)))) dss_nil)
  (dss_cons (t := p__law_pick_5) (u := b__law_pick_6) (ds_if ((dw_and (dt_cmp (od_lt) (de_var (pv 3)) (de_callB (cd_len) (by rfl) m_len PySem.boot_len (da_cons (de_ownIx (pv 0) de_int (fun _ _ => rfl)) da_nil)) (nomark _)) (dw_and1 (dt_cmp (od_ge) (de_callB (cd_abs) (by rfl) m_abs (by decide +kernel) (da_cons (de_var (pv 4)) da_nil)) (de_op od_pow de_int de_int) (nomark _))))).dt (dss_cons (t := p__law_pick_x3_0) (u := b__law_pick_x3_1) (ds_set (i := 5) sc__law_pick.nd rfl (by first | exact .inl rfl | exact .inr rfl) (de_op od_add (de_op od_mul de_int (de_callB (cd_abs) (by rfl) m_abs (by decide +kernel) (da_cons (de_var (pv 4)) da_nil))) (de_callTy (cd_int) (by rfl) m_int (by decide +kernel) (da_cons (de_cmp (od_lt) (de_var (pv 4)) de_int (nomark _)) da_nil))))
  (dss_cons (t := p__law_pick_x3_1) (u := b__law_pick_x3_2) (ds_setIx (pv 0) de_int (de_op od_div (de_var (pv 5)) (de_var (pv 1))))
  (dss_one (t := p__law_pick_x3_2) (ds_ret (de_op od_mod (de_var (pv 5)) (de_var (pv 1))))))) dss_nil)
  (dss_cons (t := p__law_pick_6) (u := b__law_pick_7) (ds_set (i := 6) sc__law_pick.nd rfl (by first | exact .inl rfl | exact .inr rfl) (de_op od_mod (de_op od_pow (de_op od_add (de_op od_add (de_op od_mod (de_var (pv 4)) de_int) (de_op od_mul de_int (de_var (pv 3)))) de_int) de_int) de_int))
  (dss_cons (t := p__law_pick_7) (u := b__law_pick_8) (ds_set (i := 6) sc__law_pick.nd rfl (by first | exact .inl rfl | exact .inr rfl) (de_op od_mod (de_op od_pow (de_op od_add (de_op od_mul (de_var (pv 6)) (de_op od_add (de_var (pv 3)) de_int)) (de_op od_mul (de_op od_mul de_int (de_var (pv 3))) (de_var (pv 3)))) de_int) de_int))
  (dss_one (t := p__law_pick_8) (ds_ret (de_op od_mod (de_op od_div (de_var (pv 6)) de_int) (de_var (pv 1)))))))))))))
theorem hsp__law_pick : ∀ (ns : List Int) (k m n : Int), ns.length ≤ 63 → 0 ≤ k → k < (65536 : Nat) → 0 ≤ m → 0 < n → n < 1000000 →
      b__law_pick W0 { nx := fun _ => False, rt := fun x δ => ∃ r k' m' : Int, x = .int r ∧ 0 ≤ r ∧ r < n ∧ 0 ≤ k' ∧ k' ≤ k + 1 ∧ 0 ≤ m' ∧ δ.sl[0]? = some (.hp (penD ns k' m')) } ⟨.hp (penD ns k m) :: .dat (.int n) :: List.replicate (n__law_pick.length - 2) .un, none⟩ := by
  intro ns k m n hl k0 k1 m0 n0 n1
  have ab : ∀ i : Int, 0 ≤ (if i < 0 then -i else i) := fun i => by split <;> omega
  have dv : ∀ i : Int, 0 ≤ i → 0 ≤ i / n := fun i h => Int.ediv_nonneg h (by omega)
  by_cases hm : 0 < m
  · simp only [dSeq, dNext, dSet, dSetF, setSl, dVar, dTake, dC, dBin, dBinF, dB, dIfS, dIf, dRet, dRetN, dExpr, dNil, dCons, dTup, dLst, dFz, dAnd, dOr, dNot, dAndV, dOrV, dNotV, dCallD, dCallK, dCB, dCBF, dFor, dLC, dYes, dRng1, dRng2, dSeqI, gN, gT, gsNil, gsCons, dAsg, dNeg, dJoin, dFs, dJs, dFmt, dApp, dExt, dPop, dPopAt, dOwnIx, dOwnCB, dOwnL, dOwnR, dOwnSl, dSetIx, dSlT, dSlL, oNone, oSome, dBorn, optQ, ownAt, setOwnAt, lookAt, wipeD, dNewDT, dNewDK, dDGet, dDIn, dDPut, dSortT, rSrt, dNever, dBrk, dCnt, D.flat, rAddD, rSubI, rIO, rMulI, rDivI, rModI, rPowI, rCI, rIxD, rIsN, rNotN, D.isN, rLen, rTuple, rList, rAbs, rInt, rStr, Ev.rRepr, Ev.rIsi, D.ty, kit_tab, startD, endsD, List.map_cons, List.map_nil, List.length_cons, List.length_nil, List.append_nil, List.nil_append, List.cons_append, List.getElem?_cons_zero, List.getElem?_cons_succ, List.getElem?_nil, List.set_cons_zero, List.set_cons_succ, List.replicate, List.replicate_succ, Nat.zero_add, Nat.zero_le, sizeLine, true_and, and_true, if_true, Ev.eq_int, Ev.eq_str, Ev.eq_bl, Ev.eq_non, lst_nil, tup_nil, List.map_eq_nil_iff, txt_join, rLt, rLe, rGt, rGe, atI_ofNat, atI_last, wLC, strsOf, intsOf, blsOf, Option.map_some, Ev.join_two, Ev.join_one, Ev.join_nil, List.sum_cons, List.sum_nil, PySem.Str.empty_append, ixN_ofNat, Option.some.injEq, exists_eq', List.length_map, decide_true, decide_false, Bool.not_true, Bool.not_false, Bool.true_eq_false, Bool.false_eq_true, false_and, and_false, if_false, ite_true, ite_false, Nat.reduceAdd, Nat.reduceSub, Nat.reduceMul, Nat.reduceLT, Nat.reduceLeDiff, Nat.reduceEqDiff, Nat.reducePow, Int.reduceToNat, Int.reducePow, pickL, List.filterMap_cons, List.filterMap_nil, and_self, Int.reduceLT, Int.reduceLE, Int.reduceNeg, Int.reduceAdd, Int.reduceMul, Int.reduceSub, Int.reduceEq, reduceIte, reduceCtorEq, lit_eq, String.reduceEq, Ev.rEq, Ev.rNe, Ev.rInD, cut_toN, cut_fromN, List.map_take, List.forall_mem_cons, List.forall_mem_nil, List.not_mem_nil, false_imp_iff, implies_true, forall_const, D.cm, D.lay, D.lays, D.dep, D.deps, strOk_lit, lays_ints, deps_ints, Nat.max_self, Nat.max_zero, Nat.zero_max, Bool.and_self, Bool.true_and, Bool.and_true, Bool.and_false, Bool.false_and, Bool.or_false, Bool.or_true, Bool.true_or, Bool.false_or, List.any_cons, List.any_nil, decide_eq_true_eq, eq_self, b__law_pick, n__law_pick, p__law_pick_x2_0, p__law_pick_x2_1, p__law_pick_x2_2, b__law_pick_x2_2, b__law_pick_x2_1, b__law_pick_x2_0, p__law_pick_x3_0, p__law_pick_x3_1, p__law_pick_x3_2, b__law_pick_x3_2, b__law_pick_x3_1, b__law_pick_x3_0, p__law_pick_0, p__law_pick_1, p__law_pick_2, p__law_pick_3, p__law_pick_4, p__law_pick_5, p__law_pick_6, p__law_pick_7, p__law_pick_8, b__law_pick_8, b__law_pick_7, b__law_pick_6, b__law_pick_5, b__law_pick_4, b__law_pick_3, b__law_pick_2, b__law_pick_1, b__law_pick_0, penD, hm]
    refine ⟨n0, ⟨n0, by omega⟩, _, _, _, rfl, Int.emod_nonneg _ (by omega), Int.emod_lt_of_pos _ n0, k0, by omega, dv _ m0, rfl⟩
  · have t0 := mul_bnd (a := 85009 * k) (b := k) (A := 85009 * 65536) (B := 65536) (by omega) (by omega) k0 (by omega)
    have leaf : ∀ c : Int, CMul 44773 k ∧ CPow (c % 2147483587 + 44773 * k + 107) 5 ∧ CMul 85009 k ∧ CMul (85009 * k) k ∧ ∀ low : Int, 0 ≤ low → low < 2147483647 → CMul low (k + 38803) ∧ CPow (low * (k + 38803) + 85009 * k * k) 3 := fun c =>
      ⟨.inl ⟨by decide, by decide⟩, ⟨by decide, by decide, by omega⟩, .inl ⟨by decide, by decide⟩, .inr ⟨by omega, by omega⟩, fun low h1 h2 => by
        have t1 := mul_bnd (a := low) (b := k + 38803) (A := 2147483647) (B := 104339) h1 (by omega) (by omega) (by omega)
        exact ⟨.inl ⟨by omega, by omega⟩, ⟨by decide, by decide, by omega⟩⟩⟩
    have fin : ∀ c : Int, ∃ r k' m' : Int, D.int (c % n) = D.int r ∧ 0 ≤ r ∧ r < n ∧ 0 ≤ k' ∧ k' ≤ k + 1 ∧ 0 ≤ m' ∧ Sl.hp [D.lst (ns.map D.int), D.int (k + 1), D.int m] = Sl.hp [D.lst (ns.map D.int), D.int k', D.int m'] := fun c =>
      ⟨_, _, _, rfl, Int.emod_nonneg _ (by omega), Int.emod_lt_of_pos _ n0, by omega, by omega, m0, rfl⟩
    have cm : CMul 2371 k := .inl ⟨by decide, by decide⟩
    have cm2 : ∀ z : Int, CMul 2 z := fun z => .inl ⟨by decide, by decide⟩
    have cd : ∀ z : Int, CDiv z 32 := fun _ => ⟨by decide, by decide⟩
    have low : ∀ z : Int, 0 ≤ z % 2147483647 ∧ z % 2147483647 < 2147483647 := fun z => ⟨Int.emod_nonneg _ (by decide), Int.emod_lt_of_pos _ (by decide)⟩
    by_cases hn : ns = []
    · have hk : ¬ k < ns.length := by rw [hn]; simp; omega
      obtain ⟨l1, l2, l3, l4, l5⟩ := leaf (2371 * k + 127)
      simp only [dSeq, dNext, dSet, dSetF, setSl, dVar, dTake, dC, dBin, dBinF, dB, dIfS, dIf, dRet, dRetN, dExpr, dNil, dCons, dTup, dLst, dFz, dAnd, dOr, dNot, dAndV, dOrV, dNotV, dCallD, dCallK, dCB, dCBF, dFor, dLC, dYes, dRng1, dRng2, dSeqI, gN, gT, gsNil, gsCons, dAsg, dNeg, dJoin, dFs, dJs, dFmt, dApp, dExt, dPop, dPopAt, dOwnIx, dOwnCB, dOwnL, dOwnR, dOwnSl, dSetIx, dSlT, dSlL, oNone, oSome, dBorn, optQ, ownAt, setOwnAt, lookAt, wipeD, dNewDT, dNewDK, dDGet, dDIn, dDPut, dSortT, rSrt, dNever, dBrk, dCnt, D.flat, rAddD, rSubI, rIO, rMulI, rDivI, rModI, rPowI, rCI, rIxD, rIsN, rNotN, D.isN, rLen, rTuple, rList, rAbs, rInt, rStr, Ev.rRepr, Ev.rIsi, D.ty, kit_tab, startD, endsD, List.map_cons, List.map_nil, List.length_cons, List.length_nil, List.append_nil, List.nil_append, List.cons_append, List.getElem?_cons_zero, List.getElem?_cons_succ, List.getElem?_nil, List.set_cons_zero, List.set_cons_succ, List.replicate, List.replicate_succ, Nat.zero_add, Nat.zero_le, sizeLine, true_and, and_true, if_true, Ev.eq_int, Ev.eq_str, Ev.eq_bl, Ev.eq_non, lst_nil, tup_nil, List.map_eq_nil_iff, txt_join, rLt, rLe, rGt, rGe, atI_ofNat, atI_last, wLC, strsOf, intsOf, blsOf, Option.map_some, Ev.join_two, Ev.join_one, Ev.join_nil, List.sum_cons, List.sum_nil, PySem.Str.empty_append, ixN_ofNat, Option.some.injEq, exists_eq', List.length_map, decide_true, decide_false, Bool.not_true, Bool.not_false, Bool.true_eq_false, Bool.false_eq_true, false_and, and_false, if_false, ite_true, ite_false, Nat.reduceAdd, Nat.reduceSub, Nat.reduceMul, Nat.reduceLT, Nat.reduceLeDiff, Nat.reduceEqDiff, Nat.reducePow, Int.reduceToNat, Int.reducePow, pickL, List.filterMap_cons, List.filterMap_nil, and_self, Int.reduceLT, Int.reduceLE, Int.reduceNeg, Int.reduceAdd, Int.reduceMul, Int.reduceSub, Int.reduceEq, reduceIte, reduceCtorEq, lit_eq, String.reduceEq, Ev.rEq, Ev.rNe, Ev.rInD, cut_toN, cut_fromN, List.map_take, List.forall_mem_cons, List.forall_mem_nil, List.not_mem_nil, false_imp_iff, implies_true, forall_const, D.cm, D.lay, D.lays, D.dep, D.deps, strOk_lit, lays_ints, deps_ints, Nat.max_self, Nat.max_zero, Nat.zero_max, Bool.and_self, Bool.true_and, Bool.and_true, Bool.and_false, Bool.false_and, Bool.or_false, Bool.or_true, Bool.true_or, Bool.false_or, List.any_cons, List.any_nil, decide_eq_true_eq, eq_self, b__law_pick, n__law_pick, p__law_pick_x2_0, p__law_pick_x2_1, p__law_pick_x2_2, b__law_pick_x2_2, b__law_pick_x2_1, b__law_pick_x2_0, p__law_pick_x3_0, p__law_pick_x3_1, p__law_pick_x3_2, b__law_pick_x3_2, b__law_pick_x3_1, b__law_pick_x3_0, p__law_pick_0, p__law_pick_1, p__law_pick_2, p__law_pick_3, p__law_pick_4, p__law_pick_5, p__law_pick_6, p__law_pick_7, p__law_pick_8, b__law_pick_8, b__law_pick_7, b__law_pick_6, b__law_pick_5, b__law_pick_4, b__law_pick_3, b__law_pick_2, b__law_pick_1, b__law_pick_0, penD, hm, eq_true hn, hk]
      exact ⟨cm, l1, l2, (l5 _ (low _).1 (low _).2).1, l3, l4, (l5 _ (low _).1 (low _).2).2, cd _, n0, fin _⟩
    · have h0 : (0 : Int) < ns.length := by
        cases ns with
        | nil => exact absurd rfl hn
        | cons x r => simp only [List.length_cons]; omega
      obtain ⟨c, hc⟩ := cell_at (k := k) h0
      obtain ⟨l1, l2, l3, l4, l5⟩ := leaf c
      by_cases hk : k < ns.length
      · by_cases hb : 1000000000000000000 ≤ (if c < 0 then -c else c)
        · simp only [dSeq, dNext, dSet, dSetF, setSl, dVar, dTake, dC, dBin, dBinF, dB, dIfS, dIf, dRet, dRetN, dExpr, dNil, dCons, dTup, dLst, dFz, dAnd, dOr, dNot, dAndV, dOrV, dNotV, dCallD, dCallK, dCB, dCBF, dFor, dLC, dYes, dRng1, dRng2, dSeqI, gN, gT, gsNil, gsCons, dAsg, dNeg, dJoin, dFs, dJs, dFmt, dApp, dExt, dPop, dPopAt, dOwnIx, dOwnCB, dOwnL, dOwnR, dOwnSl, dSetIx, dSlT, dSlL, oNone, oSome, dBorn, optQ, ownAt, setOwnAt, lookAt, wipeD, dNewDT, dNewDK, dDGet, dDIn, dDPut, dSortT, rSrt, dNever, dBrk, dCnt, D.flat, rAddD, rSubI, rIO, rMulI, rDivI, rModI, rPowI, rCI, rIxD, rIsN, rNotN, D.isN, rLen, rTuple, rList, rAbs, rInt, rStr, Ev.rRepr, Ev.rIsi, D.ty, kit_tab, startD, endsD, List.map_cons, List.map_nil, List.length_cons, List.length_nil, List.append_nil, List.nil_append, List.cons_append, List.getElem?_cons_zero, List.getElem?_cons_succ, List.getElem?_nil, List.set_cons_zero, List.set_cons_succ, List.replicate, List.replicate_succ, Nat.zero_add, Nat.zero_le, sizeLine, true_and, and_true, if_true, Ev.eq_int, Ev.eq_str, Ev.eq_bl, Ev.eq_non, lst_nil, tup_nil, List.map_eq_nil_iff, txt_join, rLt, rLe, rGt, rGe, atI_ofNat, atI_last, wLC, strsOf, intsOf, blsOf, Option.map_some, Ev.join_two, Ev.join_one, Ev.join_nil, List.sum_cons, List.sum_nil, PySem.Str.empty_append, ixN_ofNat, Option.some.injEq, exists_eq', List.length_map, decide_true, decide_false, Bool.not_true, Bool.not_false, Bool.true_eq_false, Bool.false_eq_true, false_and, and_false, if_false, ite_true, ite_false, Nat.reduceAdd, Nat.reduceSub, Nat.reduceMul, Nat.reduceLT, Nat.reduceLeDiff, Nat.reduceEqDiff, Nat.reducePow, Int.reduceToNat, Int.reducePow, pickL, List.filterMap_cons, List.filterMap_nil, and_self, Int.reduceLT, Int.reduceLE, Int.reduceNeg, Int.reduceAdd, Int.reduceMul, Int.reduceSub, Int.reduceEq, reduceIte, reduceCtorEq, lit_eq, String.reduceEq, Ev.rEq, Ev.rNe, Ev.rInD, cut_toN, cut_fromN, List.map_take, List.forall_mem_cons, List.forall_mem_nil, List.not_mem_nil, false_imp_iff, implies_true, forall_const, D.cm, D.lay, D.lays, D.dep, D.deps, strOk_lit, lays_ints, deps_ints, Nat.max_self, Nat.max_zero, Nat.zero_max, Bool.and_self, Bool.true_and, Bool.and_true, Bool.and_false, Bool.false_and, Bool.or_false, Bool.or_true, Bool.true_or, Bool.false_or, List.any_cons, List.any_nil, decide_eq_true_eq, eq_self, b__law_pick, n__law_pick, p__law_pick_x2_0, p__law_pick_x2_1, p__law_pick_x2_2, b__law_pick_x2_2, b__law_pick_x2_1, b__law_pick_x2_0, p__law_pick_x3_0, p__law_pick_x3_1, p__law_pick_x3_2, b__law_pick_x3_2, b__law_pick_x3_1, b__law_pick_x3_0, p__law_pick_0, p__law_pick_1, p__law_pick_2, p__law_pick_3, p__law_pick_4, p__law_pick_5, p__law_pick_6, p__law_pick_7, p__law_pick_8, b__law_pick_8, b__law_pick_7, b__law_pick_6, b__law_pick_5, b__law_pick_4, b__law_pick_3, b__law_pick_2, b__law_pick_1, b__law_pick_0, penD, hm, eq_false hn, hc, hk, hb]
          have g0 : 0 ≤ 2 * (if c < 0 then -c else c) + (if c < 0 then 1 else 0) := by have := ab c; split <;> omega
          exact ⟨cm, h0, ⟨by decide, by decide, by decide⟩, cm2 _, ⟨n0, by omega⟩, n0, _, _, _, rfl, Int.emod_nonneg _ (by omega), Int.emod_lt_of_pos _ n0, by omega, by omega, dv _ g0, rfl⟩
        · simp only [dSeq, dNext, dSet, dSetF, setSl, dVar, dTake, dC, dBin, dBinF, dB, dIfS, dIf, dRet, dRetN, dExpr, dNil, dCons, dTup, dLst, dFz, dAnd, dOr, dNot, dAndV, dOrV, dNotV, dCallD, dCallK, dCB, dCBF, dFor, dLC, dYes, dRng1, dRng2, dSeqI, gN, gT, gsNil, gsCons, dAsg, dNeg, dJoin, dFs, dJs, dFmt, dApp, dExt, dPop, dPopAt, dOwnIx, dOwnCB, dOwnL, dOwnR, dOwnSl, dSetIx, dSlT, dSlL, oNone, oSome, dBorn, optQ, ownAt, setOwnAt, lookAt, wipeD, dNewDT, dNewDK, dDGet, dDIn, dDPut, dSortT, rSrt, dNever, dBrk, dCnt, D.flat, rAddD, rSubI, rIO, rMulI, rDivI, rModI, rPowI, rCI, rIxD, rIsN, rNotN, D.isN, rLen, rTuple, rList, rAbs, rInt, rStr, Ev.rRepr, Ev.rIsi, D.ty, kit_tab, startD, endsD, List.map_cons, List.map_nil, List.length_cons, List.length_nil, List.append_nil, List.nil_append, List.cons_append, List.getElem?_cons_zero, List.getElem?_cons_succ, List.getElem?_nil, List.set_cons_zero, List.set_cons_succ, List.replicate, List.replicate_succ, Nat.zero_add, Nat.zero_le, sizeLine, true_and, and_true, if_true, Ev.eq_int, Ev.eq_str, Ev.eq_bl, Ev.eq_non, lst_nil, tup_nil, List.map_eq_nil_iff, txt_join, rLt, rLe, rGt, rGe, atI_ofNat, atI_last, wLC, strsOf, intsOf, blsOf, Option.map_some, Ev.join_two, Ev.join_one, Ev.join_nil, List.sum_cons, List.sum_nil, PySem.Str.empty_append, ixN_ofNat, Option.some.injEq, exists_eq', List.length_map, decide_true, decide_false, Bool.not_true, Bool.not_false, Bool.true_eq_false, Bool.false_eq_true, false_and, and_false, if_false, ite_true, ite_false, Nat.reduceAdd, Nat.reduceSub, Nat.reduceMul, Nat.reduceLT, Nat.reduceLeDiff, Nat.reduceEqDiff, Nat.reducePow, Int.reduceToNat, Int.reducePow, pickL, List.filterMap_cons, List.filterMap_nil, and_self, Int.reduceLT, Int.reduceLE, Int.reduceNeg, Int.reduceAdd, Int.reduceMul, Int.reduceSub, Int.reduceEq, reduceIte, reduceCtorEq, lit_eq, String.reduceEq, Ev.rEq, Ev.rNe, Ev.rInD, cut_toN, cut_fromN, List.map_take, List.forall_mem_cons, List.forall_mem_nil, List.not_mem_nil, false_imp_iff, implies_true, forall_const, D.cm, D.lay, D.lays, D.dep, D.deps, strOk_lit, lays_ints, deps_ints, Nat.max_self, Nat.max_zero, Nat.zero_max, Bool.and_self, Bool.true_and, Bool.and_true, Bool.and_false, Bool.false_and, Bool.or_false, Bool.or_true, Bool.true_or, Bool.false_or, List.any_cons, List.any_nil, decide_eq_true_eq, eq_self, b__law_pick, n__law_pick, p__law_pick_x2_0, p__law_pick_x2_1, p__law_pick_x2_2, b__law_pick_x2_2, b__law_pick_x2_1, b__law_pick_x2_0, p__law_pick_x3_0, p__law_pick_x3_1, p__law_pick_x3_2, b__law_pick_x3_2, b__law_pick_x3_1, b__law_pick_x3_0, p__law_pick_0, p__law_pick_1, p__law_pick_2, p__law_pick_3, p__law_pick_4, p__law_pick_5, p__law_pick_6, p__law_pick_7, p__law_pick_8, b__law_pick_8, b__law_pick_7, b__law_pick_6, b__law_pick_5, b__law_pick_4, b__law_pick_3, b__law_pick_2, b__law_pick_1, b__law_pick_0, penD, hm, eq_false hn, hc, hk, hb]
          exact ⟨cm, h0, ⟨by decide, by decide, by decide⟩, l1, l2, (l5 _ (low _).1 (low _).2).1, l3, l4, (l5 _ (low _).1 (low _).2).2, cd _, n0, fin _⟩
      · simp only [dSeq, dNext, dSet, dSetF, setSl, dVar, dTake, dC, dBin, dBinF, dB, dIfS, dIf, dRet, dRetN, dExpr, dNil, dCons, dTup, dLst, dFz, dAnd, dOr, dNot, dAndV, dOrV, dNotV, dCallD, dCallK, dCB, dCBF, dFor, dLC, dYes, dRng1, dRng2, dSeqI, gN, gT, gsNil, gsCons, dAsg, dNeg, dJoin, dFs, dJs, dFmt, dApp, dExt, dPop, dPopAt, dOwnIx, dOwnCB, dOwnL, dOwnR, dOwnSl, dSetIx, dSlT, dSlL, oNone, oSome, dBorn, optQ, ownAt, setOwnAt, lookAt, wipeD, dNewDT, dNewDK, dDGet, dDIn, dDPut, dSortT, rSrt, dNever, dBrk, dCnt, D.flat, rAddD, rSubI, rIO, rMulI, rDivI, rModI, rPowI, rCI, rIxD, rIsN, rNotN, D.isN, rLen, rTuple, rList, rAbs, rInt, rStr, Ev.rRepr, Ev.rIsi, D.ty, kit_tab, startD, endsD, List.map_cons, List.map_nil, List.length_cons, List.length_nil, List.append_nil, List.nil_append, List.cons_append, List.getElem?_cons_zero, List.getElem?_cons_succ, List.getElem?_nil, List.set_cons_zero, List.set_cons_succ, List.replicate, List.replicate_succ, Nat.zero_add, Nat.zero_le, sizeLine, true_and, and_true, if_true, Ev.eq_int, Ev.eq_str, Ev.eq_bl, Ev.eq_non, lst_nil, tup_nil, List.map_eq_nil_iff, txt_join, rLt, rLe, rGt, rGe, atI_ofNat, atI_last, wLC, strsOf, intsOf, blsOf, Option.map_some, Ev.join_two, Ev.join_one, Ev.join_nil, List.sum_cons, List.sum_nil, PySem.Str.empty_append, ixN_ofNat, Option.some.injEq, exists_eq', List.length_map, decide_true, decide_false, Bool.not_true, Bool.not_false, Bool.true_eq_false, Bool.false_eq_true, false_and, and_false, if_false, ite_true, ite_false, Nat.reduceAdd, Nat.reduceSub, Nat.reduceMul, Nat.reduceLT, Nat.reduceLeDiff, Nat.reduceEqDiff, Nat.reducePow, Int.reduceToNat, Int.reducePow, pickL, List.filterMap_cons, List.filterMap_nil, and_self, Int.reduceLT, Int.reduceLE, Int.reduceNeg, Int.reduceAdd, Int.reduceMul, Int.reduceSub, Int.reduceEq, reduceIte, reduceCtorEq, lit_eq, String.reduceEq, Ev.rEq, Ev.rNe, Ev.rInD, cut_toN, cut_fromN, List.map_take, List.forall_mem_cons, List.forall_mem_nil, List.not_mem_nil, false_imp_iff, implies_true, forall_const, D.cm, D.lay, D.lays, D.dep, D.deps, strOk_lit, lays_ints, deps_ints, Nat.max_self, Nat.max_zero, Nat.zero_max, Bool.and_self, Bool.true_and, Bool.and_true, Bool.and_false, Bool.false_and, Bool.or_false, Bool.or_true, Bool.true_or, Bool.false_or, List.any_cons, List.any_nil, decide_eq_true_eq, eq_self, b__law_pick, n__law_pick, p__law_pick_x2_0, p__law_pick_x2_1, p__law_pick_x2_2, b__law_pick_x2_2, b__law_pick_x2_1, b__law_pick_x2_0, p__law_pick_x3_0, p__law_pick_x3_1, p__law_pick_x3_2, b__law_pick_x3_2, b__law_pick_x3_1, b__law_pick_x3_0, p__law_pick_0, p__law_pick_1, p__law_pick_2, p__law_pick_3, p__law_pick_4, p__law_pick_5, p__law_pick_6, p__law_pick_7, p__law_pick_8, b__law_pick_8, b__law_pick_7, b__law_pick_6, b__law_pick_5, b__law_pick_4, b__law_pick_3, b__law_pick_2, b__law_pick_1, b__law_pick_0, penD, hm, eq_false hn, hc, hk]
        exact ⟨cm, h0, l1, l2, (l5 _ (low _).1 (low _).2).1, l3, l4, (l5 _ (low _).1 (low _).2).2, cd _, n0, fin _⟩
theorem ok__law_pick {P : Program} {w : World} {K : PySem.W.Frag} {mg : Str → Option Value} {base : Heap} (m_abs : mg "abs" = none) (m_int : mg "int" = none) (m_len : mg "len" = none) {f : Addr} {fd : FuncData} (F : Fun K "_law_pick" "_law_pick" s__law_pick f fd) : FnG P w K mg base CX0 1 f fd ["_law_pen_here", "_law_upto"] (spD K 2 sp__law_pick) :=
 fn_pen (top := 65536) F sc__law_pick rfl (fun cdv A out s H E g r => run__law_pick m_abs m_int m_len cdv A out s H E g r) hsp__law_pick

abbrev Row := Int × Int × List Str
def rowD (r : Row) : D := .tup [.int r.1, .int r.2.1, .tup (r.2.2.map .str)]
def kinds8 : List Str := ["enter", "exposed", "focus", "key", "leave", "motion", "press", "release"]
/-- small: numbers of a row, kinds out of the eight -/
structure rowOk (r : Row) : Prop where
  a : r.1.natAbs < 100
  n : r.2.1.natAbs < 100
  k : ∀ x ∈ r.2.2, x ∈ kinds8
  l : r.2.2.length ≤ 8
def heard (rows : List Row) (k : Str) (n : Int) : List Int := (rows.filter fun r => decide (r.2.1 = n) && decide (k ∈ r.2.2)).map (·.1)
def sp_hears_in : dSp := fun ds p Q _ => ∃ rows k n, ds = [.tup (rows.map rowD), .str k, .int n] ∧ rows.length ≤ 40 ∧ (∀ r ∈ rows, rowOk r) ∧ k ∈ kinds8 ∧ Q (.tup ((heard rows k n).map .int)) p
def sp__law_wished : dSp := sp_hears_in
abbrev s_hears_in : Stmt := topS 1
abbrev n_hears_in : List Str := ["wishes", "kind", "room", "asker", "other", "kinds"]
theorem sc_hears_in : FnScope n_hears_in ["wishes", "kind", "room"] (defScope s_hears_in) := ⟨rfl, rfl, rfl, by decide +kernel, rfl, by decide +kernel, by decide +kernel⟩
def b_hears_in : dS := (dRet (dCB rTuple (dCons (dFz (dLC (dSeqI (dVar 0)) (gT 3 (gsCons (gN 3) (gsCons (gN 4) (gsCons (gN 5) gsNil)))) (dAnd (dB (dBin (rEq) (dVar 4) (dVar 2))) (dB (dBin (rInD false) (dVar 1) (dVar 5)))) (dVar 3) [3, 4, 5])) dNil)))
theorem run_hears_in {P : Program} {w : World} {K : PySem.W.Frag} {mg : Str → Option Value} {base : Heap} (m_tuple : mg "tuple" = none) {f : Addr} (cdv : Value) (A : Around) (out : List Env) (s : Shared) (H : Hp) (E : XK) (g : A.guards = some []) (hrA : Room 0 (A.deeper (envOfC "hears_in" (defScope s_hears_in) s.heap.objs.size f cdv))) :
  DSs (cx0 P w K mg base n_hears_in "hears_in" (defScope s_hears_in) f cdv A out s H E) E00 (defBody s_hears_in) b_hears_in := by
 have hgA : (A.deeper (envOfC "hears_in" (defScope s_hears_in) s.heap.objs.size f cdv)).guards = some [] := g
 have hun := hrA.un
 exact (dss_one (ds_ret (de_callTy (cd_tuple) (by rfl) m_tuple (by decide +kernel) (da_cons (de_fz (df_lc (E2 := E00) (own := [("asker", 3), ("other", 4), ("kinds", 5)]) rfl sc_hears_in.nd (di_seq (de_var (pv 0))) (blkOk_by (N := n_hears_in) (sc := (defScope s_hears_in)) (own := [("asker", 3), ("other", 4), ("kinds", 5)]) (by decide +kernel)) (by decide) (fun _ _ _ _ _ => (dg_tup rfl (dgs_cons (dg_name (pg_name (i := 3) sc_hears_in.nd rfl (by first | exact .inl rfl | exact .inr rfl))) (dgs_cons (dg_name (pg_name (i := 4) sc_hears_in.nd rfl (by first | exact .inl rfl | exact .inr rfl))) (dgs_cons (dg_name (pg_name (i := 5) sc_hears_in.nd rfl (by first | exact .inl rfl | exact .inr rfl))) dgs_nil))))) (fun _ _ _ _ _ => (dts_one ((dw_and (dt_cmp (od_eq (Nat.lt_of_le_of_lt (Nat.add_le_add_left (by decide) _) hun)) (de_var (pv 4)) (de_var (pv 2)) (nomark _)) (dw_and1 (dt_cmp (od_in (Nat.lt_of_le_of_lt (Nat.add_le_add_left (by decide) _) hun)) (de_var (pv 1)) (de_var (pv 5)) (by with_unfolding_all rfl))))).dt)) (fun _ _ _ _ _ => (de_var (pv 3))))) da_nil))))
theorem kind_ok : ∀ x ∈ kinds8, PyData.strOk x = true ∧ x.length ≤ 10 := by decide +kernel
theorem lays_strs : ∀ {ks : List Str}, (∀ x ∈ ks, PyData.strOk x = true) → D.lays (ks.map D.str) = true := fun h => lays_map h
theorem deps_strs (ks : List Str) : D.deps (ks.map D.str) = 0 := Nat.le_zero.mp (deps_map fun _ _ => Nat.le_refl 0)
theorem any_str (k : Str) (ks : List Str) : ((ks.map D.str).any fun z => z.eq (.str k)) = decide (k ∈ ks) := by
  induction ks with
  | nil => rfl
  | cons x ks ih =>
    rw [List.map_cons, List.any_cons, ih, Ev.eq_str]
    by_cases e : x = k
    · subst e; simp
    · have e2 : ¬ k = x := fun z => e z.symm
      simp [e, e2]
theorem hsp_hears_in : ∀ ds p Q W, ds.length = 3 → sp_hears_in ds p Q W → b_hears_in W0 (endsD Q) (startD n_hears_in.length ds p) := by
  rintro _ p Q W - ⟨rows, k, n, rfl, hl, ok, hk, q⟩
  simp only [dSeq, dNext, dSet, dSetF, setSl, dVar, dTake, dC, dBin, dBinF, dB, dIfS, dIf, dRet, dRetN, dExpr, dNil, dCons, dTup, dLst, dFz, dAnd, dOr, dNot, dAndV, dOrV, dNotV, dCallD, dCallK, dCB, dCBF, dFor, dLC, dYes, dRng1, dRng2, dSeqI, gN, gT, gsNil, gsCons, dAsg, dNeg, dJoin, dFs, dJs, dFmt, dApp, dExt, dPop, dPopAt, dOwnIx, dOwnCB, dOwnL, dOwnR, dOwnSl, dSetIx, dSlT, dSlL, oNone, oSome, dBorn, optQ, ownAt, setOwnAt, lookAt, wipeD, dNewDT, dNewDK, dDGet, dDIn, dDPut, dSortT, rSrt, dNever, dBrk, dCnt, D.flat, rAddD, rSubI, rIO, rMulI, rDivI, rModI, rPowI, rCI, rIxD, rIsN, rNotN, D.isN, rLen, rTuple, rList, rAbs, rInt, rStr, Ev.rRepr, Ev.rIsi, D.ty, kit_tab, startD, endsD, List.map_cons, List.map_nil, List.length_cons, List.length_nil, List.append_nil, List.nil_append, List.cons_append, List.getElem?_cons_zero, List.getElem?_cons_succ, List.getElem?_nil, List.set_cons_zero, List.set_cons_succ, List.replicate, List.replicate_succ, Nat.zero_add, Nat.zero_le, sizeLine, true_and, and_true, if_true, Ev.eq_int, Ev.eq_str, Ev.eq_bl, Ev.eq_non, lst_nil, tup_nil, List.map_eq_nil_iff, txt_join, rLt, rLe, rGt, rGe, atI_ofNat, atI_last, wLC, strsOf, intsOf, blsOf, Option.map_some, Ev.join_two, Ev.join_one, Ev.join_nil, List.sum_cons, List.sum_nil, PySem.Str.empty_append, ixN_ofNat, Option.some.injEq, exists_eq', List.length_map, decide_true, decide_false, Bool.not_true, Bool.not_false, Bool.true_eq_false, Bool.false_eq_true, false_and, and_false, if_false, ite_true, ite_false, Nat.reduceAdd, Nat.reduceSub, Nat.reduceMul, Nat.reduceLT, Nat.reduceLeDiff, Nat.reduceEqDiff, Nat.reducePow, Int.reduceToNat, Int.reducePow, pickL, List.filterMap_cons, List.filterMap_nil, and_self, Int.reduceLT, Int.reduceLE, Int.reduceNeg, Int.reduceAdd, Int.reduceMul, Int.reduceSub, Int.reduceEq, reduceIte, reduceCtorEq, lit_eq, String.reduceEq, Ev.rEq, Ev.rNe, Ev.rInD, cut_toN, cut_fromN, List.map_take, List.forall_mem_cons, List.forall_mem_nil, List.not_mem_nil, false_imp_iff, implies_true, forall_const, D.cm, D.lay, D.lays, D.dep, D.deps, strOk_lit, lays_ints, deps_ints, Nat.max_self, Nat.max_zero, Nat.zero_max, Bool.and_self, Bool.true_and, Bool.and_true, Bool.and_false, Bool.false_and, Bool.or_false, Bool.or_true, Bool.true_or, Bool.false_or, List.any_cons, List.any_nil, decide_eq_true_eq, eq_self, n_hears_in, b_hears_in]
  refine wLC_filt (l := rows) (ι := rowD) (f := fun r => .int r.1) (t := fun r => decide (r.2.1 = n) && decide (k ∈ r.2.2)) (fun r hr acc kk hz h1 h2 => ?_) (by rw [sizeLine_eq]; omega) ?_
  · have w := ok r hr
    have ks := fun x hx => (kind_ok x (w.k x hx)).1
    simp only [dSeq, dNext, dSet, dSetF, setSl, dVar, dTake, dC, dBin, dBinF, dB, dIfS, dIf, dRet, dRetN, dExpr, dNil, dCons, dTup, dLst, dFz, dAnd, dOr, dNot, dAndV, dOrV, dNotV, dCallD, dCallK, dCB, dCBF, dFor, dLC, dYes, dRng1, dRng2, dSeqI, gN, gT, gsNil, gsCons, dAsg, dNeg, dJoin, dFs, dJs, dFmt, dApp, dExt, dPop, dPopAt, dOwnIx, dOwnCB, dOwnL, dOwnR, dOwnSl, dSetIx, dSlT, dSlL, oNone, oSome, dBorn, optQ, ownAt, setOwnAt, lookAt, wipeD, dNewDT, dNewDK, dDGet, dDIn, dDPut, dSortT, rSrt, dNever, dBrk, dCnt, D.flat, rAddD, rSubI, rIO, rMulI, rDivI, rModI, rPowI, rCI, rIxD, rIsN, rNotN, D.isN, rLen, rTuple, rList, rAbs, rInt, rStr, Ev.rRepr, Ev.rIsi, D.ty, kit_tab, startD, endsD, List.map_cons, List.map_nil, List.length_cons, List.length_nil, List.append_nil, List.nil_append, List.cons_append, List.getElem?_cons_zero, List.getElem?_cons_succ, List.getElem?_nil, List.set_cons_zero, List.set_cons_succ, List.replicate, List.replicate_succ, Nat.zero_add, Nat.zero_le, sizeLine, true_and, and_true, if_true, Ev.eq_int, Ev.eq_str, Ev.eq_bl, Ev.eq_non, lst_nil, tup_nil, List.map_eq_nil_iff, txt_join, rLt, rLe, rGt, rGe, atI_ofNat, atI_last, wLC, strsOf, intsOf, blsOf, Option.map_some, Ev.join_two, Ev.join_one, Ev.join_nil, List.sum_cons, List.sum_nil, PySem.Str.empty_append, ixN_ofNat, Option.some.injEq, exists_eq', List.length_map, decide_true, decide_false, Bool.not_true, Bool.not_false, Bool.true_eq_false, Bool.false_eq_true, false_and, and_false, if_false, ite_true, ite_false, Nat.reduceAdd, Nat.reduceSub, Nat.reduceMul, Nat.reduceLT, Nat.reduceLeDiff, Nat.reduceEqDiff, Nat.reducePow, Int.reduceToNat, Int.reducePow, pickL, List.filterMap_cons, List.filterMap_nil, and_self, Int.reduceLT, Int.reduceLE, Int.reduceNeg, Int.reduceAdd, Int.reduceMul, Int.reduceSub, Int.reduceEq, reduceIte, reduceCtorEq, lit_eq, String.reduceEq, Ev.rEq, Ev.rNe, Ev.rInD, cut_toN, cut_fromN, List.map_take, List.forall_mem_cons, List.forall_mem_nil, List.not_mem_nil, false_imp_iff, implies_true, forall_const, D.cm, D.lay, D.lays, D.dep, D.deps, strOk_lit, lays_ints, deps_ints, Nat.max_self, Nat.max_zero, Nat.zero_max, Bool.and_self, Bool.true_and, Bool.and_true, Bool.and_false, Bool.false_and, Bool.or_false, Bool.or_true, Bool.true_or, Bool.false_or, List.any_cons, List.any_nil, decide_eq_true_eq, eq_self, rowD, lays_strs ks, deps_strs, any_str, (kind_ok k hk).1]
    by_cases e1 : r.2.1 = n
    · by_cases e2 : k ∈ r.2.2
      · simp only [dSeq, dNext, dSet, dSetF, setSl, dVar, dTake, dC, dBin, dBinF, dB, dIfS, dIf, dRet, dRetN, dExpr, dNil, dCons, dTup, dLst, dFz, dAnd, dOr, dNot, dAndV, dOrV, dNotV, dCallD, dCallK, dCB, dCBF, dFor, dLC, dYes, dRng1, dRng2, dSeqI, gN, gT, gsNil, gsCons, dAsg, dNeg, dJoin, dFs, dJs, dFmt, dApp, dExt, dPop, dPopAt, dOwnIx, dOwnCB, dOwnL, dOwnR, dOwnSl, dSetIx, dSlT, dSlL, oNone, oSome, dBorn, optQ, ownAt, setOwnAt, lookAt, wipeD, dNewDT, dNewDK, dDGet, dDIn, dDPut, dSortT, rSrt, dNever, dBrk, dCnt, D.flat, rAddD, rSubI, rIO, rMulI, rDivI, rModI, rPowI, rCI, rIxD, rIsN, rNotN, D.isN, rLen, rTuple, rList, rAbs, rInt, rStr, Ev.rRepr, Ev.rIsi, D.ty, kit_tab, startD, endsD, List.map_cons, List.map_nil, List.length_cons, List.length_nil, List.append_nil, List.nil_append, List.cons_append, List.getElem?_cons_zero, List.getElem?_cons_succ, List.getElem?_nil, List.set_cons_zero, List.set_cons_succ, List.replicate, List.replicate_succ, Nat.zero_add, Nat.zero_le, sizeLine, true_and, and_true, if_true, Ev.eq_int, Ev.eq_str, Ev.eq_bl, Ev.eq_non, lst_nil, tup_nil, List.map_eq_nil_iff, txt_join, rLt, rLe, rGt, rGe, atI_ofNat, atI_last, wLC, strsOf, intsOf, blsOf, Option.map_some, Ev.join_two, Ev.join_one, Ev.join_nil, List.sum_cons, List.sum_nil, PySem.Str.empty_append, ixN_ofNat, Option.some.injEq, exists_eq', List.length_map, decide_true, decide_false, Bool.not_true, Bool.not_false, Bool.true_eq_false, Bool.false_eq_true, false_and, and_false, if_false, ite_true, ite_false, Nat.reduceAdd, Nat.reduceSub, Nat.reduceMul, Nat.reduceLT, Nat.reduceLeDiff, Nat.reduceEqDiff, Nat.reducePow, Int.reduceToNat, Int.reducePow, pickL, List.filterMap_cons, List.filterMap_nil, and_self, Int.reduceLT, Int.reduceLE, Int.reduceNeg, Int.reduceAdd, Int.reduceMul, Int.reduceSub, Int.reduceEq, reduceIte, reduceCtorEq, lit_eq, String.reduceEq, Ev.rEq, Ev.rNe, Ev.rInD, cut_toN, cut_fromN, List.map_take, List.forall_mem_cons, List.forall_mem_nil, List.not_mem_nil, false_imp_iff, implies_true, forall_const, D.cm, D.lay, D.lays, D.dep, D.deps, strOk_lit, lays_ints, deps_ints, Nat.max_self, Nat.max_zero, Nat.zero_max, Bool.and_self, Bool.true_and, Bool.and_true, Bool.and_false, Bool.false_and, Bool.or_false, Bool.or_true, Bool.true_or, Bool.false_or, List.any_cons, List.any_nil, decide_eq_true_eq, eq_self, e1, e2]
        exact ⟨hz, h1 (by simp [e1, e2])⟩
      · simp only [dSeq, dNext, dSet, dSetF, setSl, dVar, dTake, dC, dBin, dBinF, dB, dIfS, dIf, dRet, dRetN, dExpr, dNil, dCons, dTup, dLst, dFz, dAnd, dOr, dNot, dAndV, dOrV, dNotV, dCallD, dCallK, dCB, dCBF, dFor, dLC, dYes, dRng1, dRng2, dSeqI, gN, gT, gsNil, gsCons, dAsg, dNeg, dJoin, dFs, dJs, dFmt, dApp, dExt, dPop, dPopAt, dOwnIx, dOwnCB, dOwnL, dOwnR, dOwnSl, dSetIx, dSlT, dSlL, oNone, oSome, dBorn, optQ, ownAt, setOwnAt, lookAt, wipeD, dNewDT, dNewDK, dDGet, dDIn, dDPut, dSortT, rSrt, dNever, dBrk, dCnt, D.flat, rAddD, rSubI, rIO, rMulI, rDivI, rModI, rPowI, rCI, rIxD, rIsN, rNotN, D.isN, rLen, rTuple, rList, rAbs, rInt, rStr, Ev.rRepr, Ev.rIsi, D.ty, kit_tab, startD, endsD, List.map_cons, List.map_nil, List.length_cons, List.length_nil, List.append_nil, List.nil_append, List.cons_append, List.getElem?_cons_zero, List.getElem?_cons_succ, List.getElem?_nil, List.set_cons_zero, List.set_cons_succ, List.replicate, List.replicate_succ, Nat.zero_add, Nat.zero_le, sizeLine, true_and, and_true, if_true, Ev.eq_int, Ev.eq_str, Ev.eq_bl, Ev.eq_non, lst_nil, tup_nil, List.map_eq_nil_iff, txt_join, rLt, rLe, rGt, rGe, atI_ofNat, atI_last, wLC, strsOf, intsOf, blsOf, Option.map_some, Ev.join_two, Ev.join_one, Ev.join_nil, List.sum_cons, List.sum_nil, PySem.Str.empty_append, ixN_ofNat, Option.some.injEq, exists_eq', List.length_map, decide_true, decide_false, Bool.not_true, Bool.not_false, Bool.true_eq_false, Bool.false_eq_true, false_and, and_false, if_false, ite_true, ite_false, Nat.reduceAdd, Nat.reduceSub, Nat.reduceMul, Nat.reduceLT, Nat.reduceLeDiff, Nat.reduceEqDiff, Nat.reducePow, Int.reduceToNat, Int.reducePow, pickL, List.filterMap_cons, List.filterMap_nil, and_self, Int.reduceLT, Int.reduceLE, Int.reduceNeg, Int.reduceAdd, Int.reduceMul, Int.reduceSub, Int.reduceEq, reduceIte, reduceCtorEq, lit_eq, String.reduceEq, Ev.rEq, Ev.rNe, Ev.rInD, cut_toN, cut_fromN, List.map_take, List.forall_mem_cons, List.forall_mem_nil, List.not_mem_nil, false_imp_iff, implies_true, forall_const, D.cm, D.lay, D.lays, D.dep, D.deps, strOk_lit, lays_ints, deps_ints, Nat.max_self, Nat.max_zero, Nat.zero_max, Bool.and_self, Bool.true_and, Bool.and_true, Bool.and_false, Bool.false_and, Bool.or_false, Bool.or_true, Bool.true_or, Bool.false_or, List.any_cons, List.any_nil, decide_eq_true_eq, eq_self, e1, e2]
        exact h2 (by simp [e1, e2])
    · simp only [dSeq, dNext, dSet, dSetF, setSl, dVar, dTake, dC, dBin, dBinF, dB, dIfS, dIf, dRet, dRetN, dExpr, dNil, dCons, dTup, dLst, dFz, dAnd, dOr, dNot, dAndV, dOrV, dNotV, dCallD, dCallK, dCB, dCBF, dFor, dLC, dYes, dRng1, dRng2, dSeqI, gN, gT, gsNil, gsCons, dAsg, dNeg, dJoin, dFs, dJs, dFmt, dApp, dExt, dPop, dPopAt, dOwnIx, dOwnCB, dOwnL, dOwnR, dOwnSl, dSetIx, dSlT, dSlL, oNone, oSome, dBorn, optQ, ownAt, setOwnAt, lookAt, wipeD, dNewDT, dNewDK, dDGet, dDIn, dDPut, dSortT, rSrt, dNever, dBrk, dCnt, D.flat, rAddD, rSubI, rIO, rMulI, rDivI, rModI, rPowI, rCI, rIxD, rIsN, rNotN, D.isN, rLen, rTuple, rList, rAbs, rInt, rStr, Ev.rRepr, Ev.rIsi, D.ty, kit_tab, startD, endsD, List.map_cons, List.map_nil, List.length_cons, List.length_nil, List.append_nil, List.nil_append, List.cons_append, List.getElem?_cons_zero, List.getElem?_cons_succ, List.getElem?_nil, List.set_cons_zero, List.set_cons_succ, List.replicate, List.replicate_succ, Nat.zero_add, Nat.zero_le, sizeLine, true_and, and_true, if_true, Ev.eq_int, Ev.eq_str, Ev.eq_bl, Ev.eq_non, lst_nil, tup_nil, List.map_eq_nil_iff, txt_join, rLt, rLe, rGt, rGe, atI_ofNat, atI_last, wLC, strsOf, intsOf, blsOf, Option.map_some, Ev.join_two, Ev.join_one, Ev.join_nil, List.sum_cons, List.sum_nil, PySem.Str.empty_append, ixN_ofNat, Option.some.injEq, exists_eq', List.length_map, decide_true, decide_false, Bool.not_true, Bool.not_false, Bool.true_eq_false, Bool.false_eq_true, false_and, and_false, if_false, ite_true, ite_false, Nat.reduceAdd, Nat.reduceSub, Nat.reduceMul, Nat.reduceLT, Nat.reduceLeDiff, Nat.reduceEqDiff, Nat.reducePow, Int.reduceToNat, Int.reducePow, pickL, List.filterMap_cons, List.filterMap_nil, and_self, Int.reduceLT, Int.reduceLE, Int.reduceNeg, Int.reduceAdd, Int.reduceMul, Int.reduceSub, Int.reduceEq, reduceIte, reduceCtorEq, lit_eq, String.reduceEq, Ev.rEq, Ev.rNe, Ev.rInD, cut_toN, cut_fromN, List.map_take, List.forall_mem_cons, List.forall_mem_nil, List.not_mem_nil, false_imp_iff, implies_true, forall_const, D.cm, D.lay, D.lays, D.dep, D.deps, strOk_lit, lays_ints, deps_ints, Nat.max_self, Nat.max_zero, Nat.zero_max, Bool.and_self, Bool.true_and, Bool.and_true, Bool.and_false, Bool.false_and, Bool.or_false, Bool.or_true, Bool.true_or, Bool.false_or, List.any_cons, List.any_nil, decide_eq_true_eq, eq_self, e1]
      exact h2 (by simp [e1])
  · have e : (heard rows k n).map D.int = (rows.filter fun r => decide (r.2.1 = n) && decide (k ∈ r.2.2)).map fun r => .int r.1 := by unfold heard; rw [List.map_map]; rfl
    rw [← e]; exact q
theorem ok_hears_in {P : Program} {w : World} {K : PySem.W.Frag} {mg : Str → Option Value} {base : Heap} (m_tuple : mg "tuple" = none) {f : Addr} {fd : FuncData} (F : Fun K "hears_in" "hears_in" s_hears_in f fd) : FnG P w K mg base CX0 1 f fd ["wishes", "kind", "room"] (spD K 3 sp_hears_in) :=
 fn_d0 F sc_hears_in rfl (fun cdv A out s H E g r => run_hears_in m_tuple cdv A out s H E g r) hsp_hears_in
abbrev s__law_wished : Stmt := topS 9
abbrev n__law_wished : List Str := ["_law_rows", "_law_sort", "_law_number", "_law_asker", "_law_other", "_law_kinds"]
theorem sc__law_wished : FnScope n__law_wished ["_law_rows", "_law_sort", "_law_number"] (defScope s__law_wished) := ⟨rfl, rfl, rfl, by decide +kernel, rfl, by decide +kernel, by decide +kernel⟩
def b__law_wished : dS := (dRet (dCB rTuple (dCons (dFz (dLC (dSeqI (dVar 0)) (gT 3 (gsCons (gN 3) (gsCons (gN 4) (gsCons (gN 5) gsNil)))) (dAnd (dB (dBin (rEq) (dVar 4) (dVar 2))) (dB (dBin (rInD false) (dVar 1) (dVar 5)))) (dVar 3) [3, 4, 5])) dNil)))
theorem run__law_wished {P : Program} {w : World} {K : PySem.W.Frag} {mg : Str → Option Value} {base : Heap} (m_tuple : mg "tuple" = none) {f : Addr} (cdv : Value) (A : Around) (out : List Env) (s : Shared) (H : Hp) (E : XK) (g : A.guards = some []) (hrA : Room 0 (A.deeper (envOfC "_law_wished" (defScope s__law_wished) s.heap.objs.size f cdv))) :
  DSs (cx0 P w K mg base n__law_wished "_law_wished" (defScope s__law_wished) f cdv A out s H E) E00 (defBody s__law_wished) b__law_wished := by
 have hgA : (A.deeper (envOfC "_law_wished" (defScope s__law_wished) s.heap.objs.size f cdv)).guards = some [] := g
 have hun := hrA.un
 exact (dss_one (ds_ret (de_callTy (cd_tuple) (by rfl) m_tuple (by decide +kernel) (da_cons (de_fz (df_lc (E2 := E00) (own := [("_law_asker", 3), ("_law_other", 4), ("_law_kinds", 5)]) rfl sc__law_wished.nd (di_seq (de_var (pv 0))) (blkOk_by (N := n__law_wished) (sc := (defScope s__law_wished)) (own := [("_law_asker", 3), ("_law_other", 4), ("_law_kinds", 5)]) (by decide +kernel)) (by decide) (fun _ _ _ _ _ => (dg_tup rfl (dgs_cons (dg_name (pg_name (i := 3) sc__law_wished.nd rfl (by first | exact .inl rfl | exact .inr rfl))) (dgs_cons (dg_name (pg_name (i := 4) sc__law_wished.nd rfl (by first | exact .inl rfl | exact .inr rfl))) (dgs_cons (dg_name (pg_name (i := 5) sc__law_wished.nd rfl (by first | exact .inl rfl | exact .inr rfl))) dgs_nil))))) (fun _ _ _ _ _ => (dts_one ((dw_and (dt_cmp (od_eq (Nat.lt_of_le_of_lt (Nat.add_le_add_left (by decide) _) hun)) (de_var (pv 4)) (de_var (pv 2)) (nomark _)) (dw_and1 (dt_cmp (od_in (Nat.lt_of_le_of_lt (Nat.add_le_add_left (by decide) _) hun)) (de_var (pv 1)) (de_var (pv 5)) (by with_unfolding_all rfl))))).dt)) (fun _ _ _ _ _ => (de_var (pv 3))))) da_nil))))
theorem hsp__law_wished : ∀ ds p Q W, ds.length = 3 → sp__law_wished ds p Q W → b__law_wished W0 (endsD Q) (startD n__law_wished.length ds p) := by
  rintro _ p Q W - ⟨rows, k, n, rfl, hl, ok, hk, q⟩
  simp only [dSeq, dNext, dSet, dSetF, setSl, dVar, dTake, dC, dBin, dBinF, dB, dIfS, dIf, dRet, dRetN, dExpr, dNil, dCons, dTup, dLst, dFz, dAnd, dOr, dNot, dAndV, dOrV, dNotV, dCallD, dCallK, dCB, dCBF, dFor, dLC, dYes, dRng1, dRng2, dSeqI, gN, gT, gsNil, gsCons, dAsg, dNeg, dJoin, dFs, dJs, dFmt, dApp, dExt, dPop, dPopAt, dOwnIx, dOwnCB, dOwnL, dOwnR, dOwnSl, dSetIx, dSlT, dSlL, oNone, oSome, dBorn, optQ, ownAt, setOwnAt, lookAt, wipeD, dNewDT, dNewDK, dDGet, dDIn, dDPut, dSortT, rSrt, dNever, dBrk, dCnt, D.flat, rAddD, rSubI, rIO, rMulI, rDivI, rModI, rPowI, rCI, rIxD, rIsN, rNotN, D.isN, rLen, rTuple, rList, rAbs, rInt, rStr, Ev.rRepr, Ev.rIsi, D.ty, kit_tab, startD, endsD, List.map_cons, List.map_nil, List.length_cons, List.length_nil, List.append_nil, List.nil_append, List.cons_append, List.getElem?_cons_zero, List.getElem?_cons_succ, List.getElem?_nil, List.set_cons_zero, List.set_cons_succ, List.replicate, List.replicate_succ, Nat.zero_add, Nat.zero_le, sizeLine, true_and, and_true, if_true, Ev.eq_int, Ev.eq_str, Ev.eq_bl, Ev.eq_non, lst_nil, tup_nil, List.map_eq_nil_iff, txt_join, rLt, rLe, rGt, rGe, atI_ofNat, atI_last, wLC, strsOf, intsOf, blsOf, Option.map_some, Ev.join_two, Ev.join_one, Ev.join_nil, List.sum_cons, List.sum_nil, PySem.Str.empty_append, ixN_ofNat, Option.some.injEq, exists_eq', List.length_map, decide_true, decide_false, Bool.not_true, Bool.not_false, Bool.true_eq_false, Bool.false_eq_true, false_and, and_false, if_false, ite_true, ite_false, Nat.reduceAdd, Nat.reduceSub, Nat.reduceMul, Nat.reduceLT, Nat.reduceLeDiff, Nat.reduceEqDiff, Nat.reducePow, Int.reduceToNat, Int.reducePow, pickL, List.filterMap_cons, List.filterMap_nil, and_self, Int.reduceLT, Int.reduceLE, Int.reduceNeg, Int.reduceAdd, Int.reduceMul, Int.reduceSub, Int.reduceEq, reduceIte, reduceCtorEq, lit_eq, String.reduceEq, Ev.rEq, Ev.rNe, Ev.rInD, cut_toN, cut_fromN, List.map_take, List.forall_mem_cons, List.forall_mem_nil, List.not_mem_nil, false_imp_iff, implies_true, forall_const, D.cm, D.lay, D.lays, D.dep, D.deps, strOk_lit, lays_ints, deps_ints, Nat.max_self, Nat.max_zero, Nat.zero_max, Bool.and_self, Bool.true_and, Bool.and_true, Bool.and_false, Bool.false_and, Bool.or_false, Bool.or_true, Bool.true_or, Bool.false_or, List.any_cons, List.any_nil, decide_eq_true_eq, eq_self, n__law_wished, b__law_wished]
  refine wLC_filt (l := rows) (ι := rowD) (f := fun r => .int r.1) (t := fun r => decide (r.2.1 = n) && decide (k ∈ r.2.2)) (fun r hr acc kk hz h1 h2 => ?_) (by rw [sizeLine_eq]; omega) ?_
  · have w := ok r hr
    have ks := fun x hx => (kind_ok x (w.k x hx)).1
    simp only [dSeq, dNext, dSet, dSetF, setSl, dVar, dTake, dC, dBin, dBinF, dB, dIfS, dIf, dRet, dRetN, dExpr, dNil, dCons, dTup, dLst, dFz, dAnd, dOr, dNot, dAndV, dOrV, dNotV, dCallD, dCallK, dCB, dCBF, dFor, dLC, dYes, dRng1, dRng2, dSeqI, gN, gT, gsNil, gsCons, dAsg, dNeg, dJoin, dFs, dJs, dFmt, dApp, dExt, dPop, dPopAt, dOwnIx, dOwnCB, dOwnL, dOwnR, dOwnSl, dSetIx, dSlT, dSlL, oNone, oSome, dBorn, optQ, ownAt, setOwnAt, lookAt, wipeD, dNewDT, dNewDK, dDGet, dDIn, dDPut, dSortT, rSrt, dNever, dBrk, dCnt, D.flat, rAddD, rSubI, rIO, rMulI, rDivI, rModI, rPowI, rCI, rIxD, rIsN, rNotN, D.isN, rLen, rTuple, rList, rAbs, rInt, rStr, Ev.rRepr, Ev.rIsi, D.ty, kit_tab, startD, endsD, List.map_cons, List.map_nil, List.length_cons, List.length_nil, List.append_nil, List.nil_append, List.cons_append, List.getElem?_cons_zero, List.getElem?_cons_succ, List.getElem?_nil, List.set_cons_zero, List.set_cons_succ, List.replicate, List.replicate_succ, Nat.zero_add, Nat.zero_le, sizeLine, true_and, and_true, if_true, Ev.eq_int, Ev.eq_str, Ev.eq_bl, Ev.eq_non, lst_nil, tup_nil, List.map_eq_nil_iff, txt_join, rLt, rLe, rGt, rGe, atI_ofNat, atI_last, wLC, strsOf, intsOf, blsOf, Option.map_some, Ev.join_two, Ev.join_one, Ev.join_nil, List.sum_cons, List.sum_nil, PySem.Str.empty_append, ixN_ofNat, Option.some.injEq, exists_eq', List.length_map, decide_true, decide_false, Bool.not_true, Bool.not_false, Bool.true_eq_false, Bool.false_eq_true, false_and, and_false, if_false, ite_true, ite_false, Nat.reduceAdd, Nat.reduceSub, Nat.reduceMul, Nat.reduceLT, Nat.reduceLeDiff, Nat.reduceEqDiff, Nat.reducePow, Int.reduceToNat, Int.reducePow, pickL, List.filterMap_cons, List.filterMap_nil, and_self, Int.reduceLT, Int.reduceLE, Int.reduceNeg, Int.reduceAdd, Int.reduceMul, Int.reduceSub, Int.reduceEq, reduceIte, reduceCtorEq, lit_eq, String.reduceEq, Ev.rEq, Ev.rNe, Ev.rInD, cut_toN, cut_fromN, List.map_take, List.forall_mem_cons, List.forall_mem_nil, List.not_mem_nil, false_imp_iff, implies_true, forall_const, D.cm, D.lay, D.lays, D.dep, D.deps, strOk_lit, lays_ints, deps_ints, Nat.max_self, Nat.max_zero, Nat.zero_max, Bool.and_self, Bool.true_and, Bool.and_true, Bool.and_false, Bool.false_and, Bool.or_false, Bool.or_true, Bool.true_or, Bool.false_or, List.any_cons, List.any_nil, decide_eq_true_eq, eq_self, rowD, lays_strs ks, deps_strs, any_str, (kind_ok k hk).1]
    by_cases e1 : r.2.1 = n
    · by_cases e2 : k ∈ r.2.2
      · simp only [dSeq, dNext, dSet, dSetF, setSl, dVar, dTake, dC, dBin, dBinF, dB, dIfS, dIf, dRet, dRetN, dExpr, dNil, dCons, dTup, dLst, dFz, dAnd, dOr, dNot, dAndV, dOrV, dNotV, dCallD, dCallK, dCB, dCBF, dFor, dLC, dYes, dRng1, dRng2, dSeqI, gN, gT, gsNil, gsCons, dAsg, dNeg, dJoin, dFs, dJs, dFmt, dApp, dExt, dPop, dPopAt, dOwnIx, dOwnCB, dOwnL, dOwnR, dOwnSl, dSetIx, dSlT, dSlL, oNone, oSome, dBorn, optQ, ownAt, setOwnAt, lookAt, wipeD, dNewDT, dNewDK, dDGet, dDIn, dDPut, dSortT, rSrt, dNever, dBrk, dCnt, D.flat, rAddD, rSubI, rIO, rMulI, rDivI, rModI, rPowI, rCI, rIxD, rIsN, rNotN, D.isN, rLen, rTuple, rList, rAbs, rInt, rStr, Ev.rRepr, Ev.rIsi, D.ty, kit_tab, startD, endsD, List.map_cons, List.map_nil, List.length_cons, List.length_nil, List.append_nil, List.nil_append, List.cons_append, List.getElem?_cons_zero, List.getElem?_cons_succ, List.getElem?_nil, List.set_cons_zero, List.set_cons_succ, List.replicate, List.replicate_succ, Nat.zero_add, Nat.zero_le, sizeLine, true_and, and_true, if_true, Ev.eq_int, Ev.eq_str, Ev.eq_bl, Ev.eq_non, lst_nil, tup_nil, List.map_eq_nil_iff, txt_join, rLt, rLe, rGt, rGe, atI_ofNat, atI_last, wLC, strsOf, intsOf, blsOf, Option.map_some, Ev.join_two, Ev.join_one, Ev.join_nil, List.sum_cons, List.sum_nil, PySem.Str.empty_append, ixN_ofNat, Option.some.injEq, exists_eq', List.length_map, decide_true, decide_false, Bool.not_true, Bool.not_false, Bool.true_eq_false, Bool.false_eq_true, false_and, and_false, if_false, ite_true, ite_false, Nat.reduceAdd, Nat.reduceSub, Nat.reduceMul, Nat.reduceLT, Nat.reduceLeDiff, Nat.reduceEqDiff, Nat.reducePow, Int.reduceToNat, Int.reducePow, pickL, List.filterMap_cons, List.filterMap_nil, and_self, Int.reduceLT, Int.reduceLE, Int.reduceNeg, Int.reduceAdd, Int.reduceMul, Int.reduceSub, Int.reduceEq, reduceIte, reduceCtorEq, lit_eq, String.reduceEq, Ev.rEq, Ev.rNe, Ev.rInD, cut_toN, cut_fromN, List.map_take, List.forall_mem_cons, List.forall_mem_nil, List.not_mem_nil, false_imp_iff, implies_true, forall_const, D.cm, D.lay, D.lays, D.dep, D.deps, strOk_lit, lays_ints, deps_ints, Nat.max_self, Nat.max_zero, Nat.zero_max, Bool.and_self, Bool.true_and, Bool.and_true, Bool.and_false, Bool.false_and, Bool.or_false, Bool.or_true, Bool.true_or, Bool.false_or, List.any_cons, List.any_nil, decide_eq_true_eq, eq_self, e1, e2]
        exact ⟨hz, h1 (by simp [e1, e2])⟩
      · simp only [dSeq, dNext, dSet, dSetF, setSl, dVar, dTake, dC, dBin, dBinF, dB, dIfS, dIf, dRet, dRetN, dExpr, dNil, dCons, dTup, dLst, dFz, dAnd, dOr, dNot, dAndV, dOrV, dNotV, dCallD, dCallK, dCB, dCBF, dFor, dLC, dYes, dRng1, dRng2, dSeqI, gN, gT, gsNil, gsCons, dAsg, dNeg, dJoin, dFs, dJs, dFmt, dApp, dExt, dPop, dPopAt, dOwnIx, dOwnCB, dOwnL, dOwnR, dOwnSl, dSetIx, dSlT, dSlL, oNone, oSome, dBorn, optQ, ownAt, setOwnAt, lookAt, wipeD, dNewDT, dNewDK, dDGet, dDIn, dDPut, dSortT, rSrt, dNever, dBrk, dCnt, D.flat, rAddD, rSubI, rIO, rMulI, rDivI, rModI, rPowI, rCI, rIxD, rIsN, rNotN, D.isN, rLen, rTuple, rList, rAbs, rInt, rStr, Ev.rRepr, Ev.rIsi, D.ty, kit_tab, startD, endsD, List.map_cons, List.map_nil, List.length_cons, List.length_nil, List.append_nil, List.nil_append, List.cons_append, List.getElem?_cons_zero, List.getElem?_cons_succ, List.getElem?_nil, List.set_cons_zero, List.set_cons_succ, List.replicate, List.replicate_succ, Nat.zero_add, Nat.zero_le, sizeLine, true_and, and_true, if_true, Ev.eq_int, Ev.eq_str, Ev.eq_bl, Ev.eq_non, lst_nil, tup_nil, List.map_eq_nil_iff, txt_join, rLt, rLe, rGt, rGe, atI_ofNat, atI_last, wLC, strsOf, intsOf, blsOf, Option.map_some, Ev.join_two, Ev.join_one, Ev.join_nil, List.sum_cons, List.sum_nil, PySem.Str.empty_append, ixN_ofNat, Option.some.injEq, exists_eq', List.length_map, decide_true, decide_false, Bool.not_true, Bool.not_false, Bool.true_eq_false, Bool.false_eq_true, false_and, and_false, if_false, ite_true, ite_false, Nat.reduceAdd, Nat.reduceSub, Nat.reduceMul, Nat.reduceLT, Nat.reduceLeDiff, Nat.reduceEqDiff, Nat.reducePow, Int.reduceToNat, Int.reducePow, pickL, List.filterMap_cons, List.filterMap_nil, and_self, Int.reduceLT, Int.reduceLE, Int.reduceNeg, Int.reduceAdd, Int.reduceMul, Int.reduceSub, Int.reduceEq, reduceIte, reduceCtorEq, lit_eq, String.reduceEq, Ev.rEq, Ev.rNe, Ev.rInD, cut_toN, cut_fromN, List.map_take, List.forall_mem_cons, List.forall_mem_nil, List.not_mem_nil, false_imp_iff, implies_true, forall_const, D.cm, D.lay, D.lays, D.dep, D.deps, strOk_lit, lays_ints, deps_ints, Nat.max_self, Nat.max_zero, Nat.zero_max, Bool.and_self, Bool.true_and, Bool.and_true, Bool.and_false, Bool.false_and, Bool.or_false, Bool.or_true, Bool.true_or, Bool.false_or, List.any_cons, List.any_nil, decide_eq_true_eq, eq_self, e1, e2]
        exact h2 (by simp [e1, e2])
    · simp only [dSeq, dNext, dSet, dSetF, setSl, dVar, dTake, dC, dBin, dBinF, dB, dIfS, dIf, dRet, dRetN, dExpr, dNil, dCons, dTup, dLst, dFz, dAnd, dOr, dNot, dAndV, dOrV, dNotV, dCallD, dCallK, dCB, dCBF, dFor, dLC, dYes, dRng1, dRng2, dSeqI, gN, gT, gsNil, gsCons, dAsg, dNeg, dJoin, dFs, dJs, dFmt, dApp, dExt, dPop, dPopAt, dOwnIx, dOwnCB, dOwnL, dOwnR, dOwnSl, dSetIx, dSlT, dSlL, oNone, oSome, dBorn, optQ, ownAt, setOwnAt, lookAt, wipeD, dNewDT, dNewDK, dDGet, dDIn, dDPut, dSortT, rSrt, dNever, dBrk, dCnt, D.flat, rAddD, rSubI, rIO, rMulI, rDivI, rModI, rPowI, rCI, rIxD, rIsN, rNotN, D.isN, rLen, rTuple, rList, rAbs, rInt, rStr, Ev.rRepr, Ev.rIsi, D.ty, kit_tab, startD, endsD, List.map_cons, List.map_nil, List.length_cons, List.length_nil, List.append_nil, List.nil_append, List.cons_append, List.getElem?_cons_zero, List.getElem?_cons_succ, List.getElem?_nil, List.set_cons_zero, List.set_cons_succ, List.replicate, List.replicate_succ, Nat.zero_add, Nat.zero_le, sizeLine, true_and, and_true, if_true, Ev.eq_int, Ev.eq_str, Ev.eq_bl, Ev.eq_non, lst_nil, tup_nil, List.map_eq_nil_iff, txt_join, rLt, rLe, rGt, rGe, atI_ofNat, atI_last, wLC, strsOf, intsOf, blsOf, Option.map_some, Ev.join_two, Ev.join_one, Ev.join_nil, List.sum_cons, List.sum_nil, PySem.Str.empty_append, ixN_ofNat, Option.some.injEq, exists_eq', List.length_map, decide_true, decide_false, Bool.not_true, Bool.not_false, Bool.true_eq_false, Bool.false_eq_true, false_and, and_false, if_false, ite_true, ite_false, Nat.reduceAdd, Nat.reduceSub, Nat.reduceMul, Nat.reduceLT, Nat.reduceLeDiff, Nat.reduceEqDiff, Nat.reducePow, Int.reduceToNat, Int.reducePow, pickL, List.filterMap_cons, List.filterMap_nil, and_self, Int.reduceLT, Int.reduceLE, Int.reduceNeg, Int.reduceAdd, Int.reduceMul, Int.reduceSub, Int.reduceEq, reduceIte, reduceCtorEq, lit_eq, String.reduceEq, Ev.rEq, Ev.rNe, Ev.rInD, cut_toN, cut_fromN, List.map_take, List.forall_mem_cons, List.forall_mem_nil, List.not_mem_nil, false_imp_iff, implies_true, forall_const, D.cm, D.lay, D.lays, D.dep, D.deps, strOk_lit, lays_ints, deps_ints, Nat.max_self, Nat.max_zero, Nat.zero_max, Bool.and_self, Bool.true_and, Bool.and_true, Bool.and_false, Bool.false_and, Bool.or_false, Bool.or_true, Bool.true_or, Bool.false_or, List.any_cons, List.any_nil, decide_eq_true_eq, eq_self, e1]
      exact h2 (by simp [e1])
  · have e : (heard rows k n).map D.int = (rows.filter fun r => decide (r.2.1 = n) && decide (k ∈ r.2.2)).map fun r => .int r.1 := by unfold heard; rw [List.map_map]; rfl
    rw [← e]; exact q
theorem ok__law_wished {P : Program} {w : World} {K : PySem.W.Frag} {mg : Str → Option Value} {base : Heap} (m_tuple : mg "tuple" = none) {f : Addr} {fd : FuncData} (F : Fun K "_law_wished" "_law_wished" s__law_wished f fd) : FnG P w K mg base CX0 1 f fd ["_law_rows", "_law_sort", "_law_number"] (spD K 3 sp__law_wished) :=
 fn_d0 F sc__law_wished rfl (fun cdv A out s H E g r => run__law_wished m_tuple cdv A out s H E g r) hsp__law_wished
/-- a pen that has come along by at most n draws -/
def sp__law_square : dSp := fun ds p Q _ => match ds, p with
  | [.raw (.ref a), .int m], some (b, c) => a = b ∧ c + 20 < 65536 ∧ 0 < m ∧ m < 1000 ∧ ∀ d c', c' ≤ c + 20 → Q d (some (a, c'))
  | _, _ => False
abbrev s__law_square : Stmt := topS 5
abbrev n__law_square : List Str := ["_law_pen_here", "_law_near", "_law_spot", "_law_k"]
theorem sc__law_square : FnScope n__law_square ["_law_pen_here", "_law_near"] (defScope s__law_square) := ⟨rfl, rfl, rfl, by decide +kernel, rfl, by decide +kernel, by decide +kernel⟩
def p__law_square_0 : dS := (dSetF 2 (dLC (dRng1 (dCons (dC (.int 2)) dNil)) (gN 3) dYes (dBin rIxD (dFz (dLst (dCons (dCallD 2 [] sp__law_pick (dCons (dVar 0) (dCons (dVar 1) dNil))) (dCons (dBin rSubI (dCallD 2 [] sp__law_pick (dCons (dVar 0) (dCons (dBin rMulI (dC (.int 2)) (dVar 1)) dNil))) (dVar 1)) (dCons (dC (.int 0)) dNil))))) (dCallD 2 [] sp__law_pick (dCons (dVar 0) (dCons (dC (.int 3)) dNil)))) [3]))
def p__law_square_1 : dS := (dRet (dBin rAddD (dCB rTuple (dCons (dTake 2) dNil)) (dTup (dCons (dBin rAddD (dC (.int 1)) (dCallD 2 [] sp__law_pick (dCons (dVar 0) (dCons (dVar 1) dNil)))) (dCons (dBin rAddD (dC (.int 1)) (dCallD 2 [] sp__law_pick (dCons (dVar 0) (dCons (dVar 1) dNil)))) dNil)))))
def b__law_square_1 : dS := p__law_square_1
def b__law_square_0 : dS := dSeq p__law_square_0 b__law_square_1
def b__law_square : dS := b__law_square_0
theorem run__law_square {P : Program} {w : World} {K : PySem.W.Frag} {mg : Str → Option Value} {base : Heap} (m_range : mg "range" = none) (m_tuple : mg "tuple" = none) (K__law_pick_2 : Def P w K mg base 1 "_law_pick" 2 sp__law_pick []) {f : Addr} (cdv : Value) (A : Around) (out : List Env) (s : Shared) (H : Hp) (E : XK) (g : A.guards = some []) (hrA : Room 1 (A.deeper (envOfC "_law_square" (defScope s__law_square) s.heap.objs.size f cdv))) :
  DSs (cx0 P w K mg base n__law_square "_law_square" (defScope s__law_square) f cdv A out s H E) E00 (defBody s__law_square) b__law_square := by
 have hgA : (A.deeper (envOfC "_law_square" (defScope s__law_square) s.heap.objs.size f cdv)).guards = some [] := g
 have hun := hrA.un
 exact (dss_cons (t := p__law_square_0) (u := b__law_square_1) (ds_setLc (E2 := E00) (own := [("_law_k", 3)]) (i := 2) rfl sc__law_square.nd rfl rfl (sw_true rfl rfl rfl (by decide +kernel)) (di_range1 (by rfl) m_range (da_cons de_int da_nil)) (blkOk_by (N := n__law_square) (sc := (defScope s__law_square)) (own := [("_law_k", 3)]) (by decide +kernel)) (by decide) (fun _ _ _ _ _ => (dg_name (pg_name (i := 3) sc__law_square.nd rfl (by first | exact .inl rfl | exact .inr rfl)))) (fun _ _ _ _ _ => dts_nil) (fun _ _ _ _ _ => (de_ix (de_fz (df_lst (da_cons (de_callD K__law_pick_2 hgA hrA (by rfl) (da_cons (de_var (pv 0)) (da_cons (de_var (pv 1)) da_nil))) (da_cons (de_op od_sub (de_callD K__law_pick_2 hgA hrA (by rfl) (da_cons (de_var (pv 0)) (da_cons (de_op od_mul de_int (de_var (pv 1))) da_nil))) (de_var (pv 1))) (da_cons de_int da_nil))))) (de_callD K__law_pick_2 hgA hrA (by rfl) (da_cons (de_var (pv 0)) (da_cons de_int da_nil))) (fun _ _ => rfl))))
  (dss_one (t := p__law_square_1) (ds_ret (de_op od_add (de_callTy (cd_tuple) (by rfl) m_tuple (by decide +kernel) (da_cons (de_take (pv 2)) da_nil)) (de_tup (da_cons (de_op od_add de_int (de_callD K__law_pick_2 hgA hrA (by rfl) (da_cons (de_var (pv 0)) (da_cons (de_var (pv 1)) da_nil)))) (da_cons (de_op od_add de_int (de_callD K__law_pick_2 hgA hrA (by rfl) (da_cons (de_var (pv 0)) (da_cons (de_var (pv 1)) da_nil)))) da_nil)))))))
theorem hsp__law_square : ∀ ds p Q W, ds.length = 2 → sp__law_square ds p Q W → b__law_square W0 (endsD Q) (startD n__law_square.length ds p) := by
  intro ds p Q W _ h
  match ds, p, h with
  | [.raw (.ref a), .int m], some (b, c), ⟨e, hc, m0, m1, q⟩ =>
    subst e
    have at3 : ∀ (x y z r : Int), 0 ≤ r → r < 3 → ∃ i : Int, atI [D.int x, D.int y, D.int z] r = some (.int i) := fun x y z r r0 r1 => by
      have h : r = 0 ∨ r = 1 ∨ r = 2 := by omega
      rcases h with rfl | rfl | rfl
      · exact ⟨x, rfl⟩
      · exact ⟨y, rfl⟩
      · exact ⟨z, rfl⟩
    have cm : CMul 2 m := .inl ⟨by decide, by decide⟩
    have l2 : (2 : Nat) ≤ sizeLine := by rw [sizeLine_eq]; decide
    simp only [dSeq, dNext, dSet, dSetF, setSl, dVar, dTake, dC, dBin, dBinF, dB, dIfS, dIf, dRet, dRetN, dExpr, dNil, dCons, dTup, dLst, dFz, dAnd, dOr, dNot, dAndV, dOrV, dNotV, dCallD, dCallK, dCB, dCBF, dFor, dLC, dYes, dRng1, dRng2, dSeqI, gN, gT, gsNil, gsCons, dAsg, dNeg, dJoin, dFs, dJs, dFmt, dApp, dExt, dPop, dPopAt, dOwnIx, dOwnCB, dOwnL, dOwnR, dOwnSl, dSetIx, dSlT, dSlL, oNone, oSome, dBorn, optQ, ownAt, setOwnAt, lookAt, wipeD, dNewDT, dNewDK, dDGet, dDIn, dDPut, dSortT, rSrt, dNever, dBrk, dCnt, D.flat, rAddD, rSubI, rIO, rMulI, rDivI, rModI, rPowI, rCI, rIxD, rIsN, rNotN, D.isN, rLen, rTuple, rList, rAbs, rInt, rStr, Ev.rRepr, Ev.rIsi, D.ty, kit_tab, startD, endsD, List.map_cons, List.map_nil, List.length_cons, List.length_nil, List.append_nil, List.nil_append, List.cons_append, List.getElem?_cons_zero, List.getElem?_cons_succ, List.getElem?_nil, List.set_cons_zero, List.set_cons_succ, List.replicate, List.replicate_succ, Nat.zero_add, Nat.zero_le, sizeLine, true_and, and_true, if_true, Ev.eq_int, Ev.eq_str, Ev.eq_bl, Ev.eq_non, lst_nil, tup_nil, List.map_eq_nil_iff, txt_join, rLt, rLe, rGt, rGe, atI_ofNat, atI_last, wLC, strsOf, intsOf, blsOf, Option.map_some, Ev.join_two, Ev.join_one, Ev.join_nil, List.sum_cons, List.sum_nil, PySem.Str.empty_append, ixN_ofNat, Option.some.injEq, exists_eq', List.length_map, decide_true, decide_false, Bool.not_true, Bool.not_false, Bool.true_eq_false, Bool.false_eq_true, false_and, and_false, if_false, ite_true, ite_false, Nat.reduceAdd, Nat.reduceSub, Nat.reduceMul, Nat.reduceLT, Nat.reduceLeDiff, Nat.reduceEqDiff, Nat.reducePow, Int.reduceToNat, Int.reducePow, pickL, List.filterMap_cons, List.filterMap_nil, and_self, Int.reduceLT, Int.reduceLE, Int.reduceNeg, Int.reduceAdd, Int.reduceMul, Int.reduceSub, Int.reduceEq, reduceIte, reduceCtorEq, lit_eq, String.reduceEq, Ev.rEq, Ev.rNe, Ev.rInD, cut_toN, cut_fromN, List.map_take, List.forall_mem_cons, List.forall_mem_nil, List.not_mem_nil, false_imp_iff, implies_true, forall_const, D.cm, D.lay, D.lays, D.dep, D.deps, strOk_lit, lays_ints, deps_ints, Nat.max_self, Nat.max_zero, Nat.zero_max, Bool.and_self, Bool.true_and, Bool.and_true, Bool.and_false, Bool.false_and, Bool.or_false, Bool.or_true, Bool.true_or, Bool.false_or, List.any_cons, List.any_nil, decide_eq_true_eq, eq_self, n__law_square, b__law_square, b__law_square_0, p__law_square_0, b__law_square_1, p__law_square_1, sp__law_pick, spDraw, from_zero, from_succ]
    refine ⟨by omega, by omega, by omega, fun r r0 r1 => ⟨cm, by omega, by omega, by omega, fun s s0 s1 => ⟨by omega, fun t t0 t1 => ?_⟩⟩⟩
    obtain ⟨i, hi⟩ := at3 r (s - m) 0 t t0 t1
    rw [hi]
    refine ⟨by omega, by omega, by omega, fun r r0 r1 => ⟨cm, by omega, by omega, by omega, fun s s0 s1 => ⟨by omega, fun t t0 t1 => ?_⟩⟩⟩
    obtain ⟨j, hj⟩ := at3 r (s - m) 0 t t0 t1
    rw [hj]
    exact ⟨by omega, by omega, by omega, fun r r0 r1 => ⟨by omega, by omega, by omega, fun s s0 s1 => q _ _ (by omega)⟩⟩
theorem ok__law_square {P : Program} {w : World} {K : PySem.W.Frag} {mg : Str → Option Value} {base : Heap} (m_range : mg "range" = none) (m_tuple : mg "tuple" = none) (K__law_pick_2 : Def P w K mg base 1 "_law_pick" 2 sp__law_pick []) {f : Addr} {fd : FuncData} (F : Fun K "_law_square" "_law_square" s__law_square f fd) : FnG P w K mg base CX0 2 f fd ["_law_pen_here", "_law_near"] (spD K 2 sp__law_square) :=
 fn_d0 F sc__law_square rfl (fun cdv A out s H E g r => run__law_square m_range m_tuple K__law_pick_2 cdv A out s H E g r) hsp__law_square
/-- a line of a book: its number ahead -/
def lineOk (d : D) : Prop := ∃ (n : Int) (r : List D), d = .tup (.int n :: r) ∧ n.natAbs < 100
def sp__law_some_book : dSp := fun ds p Q _ => match ds, p with
  | [.raw (.ref a), .int u, .int m], some (b, c) => a = b ∧ c + 500 < 65536 ∧ 0 < m ∧ m < 1000 ∧ 0 ≤ u ∧ u ≤ 9 ∧ ∀ ls c', ls ≠ [] → ls.length ≤ 10 → (∀ d ∈ ls, lineOk d) → c' ≤ c + 500 → Q (.tup ls) (some (a, c'))
  | _, _ => False
abbrev s__law_some_book : Stmt := topS 6
abbrev n__law_some_book : List Str := ["_law_pen_here", "_law_upto", "_law_near", "_law_lines", "_law_left", "_law_stack", "_law_k", "_law_keep", "_law_number"]
theorem sc__law_some_book : FnScope n__law_some_book ["_law_pen_here", "_law_upto", "_law_near"] (defScope s__law_some_book) := ⟨rfl, rfl, rfl, by decide +kernel, rfl, by decide +kernel, by decide +kernel⟩
def p__law_some_book_x2_0 : dS := (dSetF 5 (dOwnSl 5 oNone (oSome (dC (.int 4)))))
def p__law_some_book_x2_1 : dS := (dSet 7 (dBin rIxD (dFz (dLst (dCons (dOwnCB 5 rLen) (dCons (dBin rAddD (dC (.int 1)) (dCallD 2 [] sp__law_pick (dCons (dVar 0) (dCons (dOwnCB 5 rLen) dNil)))) (dCons (dC (.int 1)) dNil))))) (dCallD 2 [] sp__law_pick (dCons (dVar 0) (dCons (dC (.int 3)) dNil)))))
def p__law_some_book_x2_2 : dS := (dSetF 5 (dOwnSl 5 oNone (oSome (dVar 7))))
def p__law_some_book_x2_3 : dS := (dSet 8 (dPopAt 4 (dCallD 2 [] sp__law_pick (dCons (dVar 0) (dCons (dOwnCB 4 rLen) dNil)))))
def p__law_some_book_x2_4 : dS := (dApp 3 (dTup (dCons (dVar 8) (dCons (dOwnIx 5 (dC (.int (-1)))) (dCons (dCallD 2 [] sp__law_square (dCons (dVar 0) (dCons (dVar 2) dNil))) (dCons (dBin (rGt) (dCallD 2 [] sp__law_pick (dCons (dVar 0) (dCons (dC (.int 5)) dNil))) (dC (.int 0))) (dCons (dBin rAddD (dC (.int 1)) (dCallD 2 [] sp__law_pick (dCons (dVar 0) (dCons (dC (.int 4)) dNil)))) dNil)))))))
def p__law_some_book_x2_5 : dS := (dApp 5 (dVar 8))
def b__law_some_book_x2_5 : dS := p__law_some_book_x2_5
def b__law_some_book_x2_4 : dS := dSeq p__law_some_book_x2_4 b__law_some_book_x2_5
def b__law_some_book_x2_3 : dS := dSeq p__law_some_book_x2_3 b__law_some_book_x2_4
def b__law_some_book_x2_2 : dS := dSeq p__law_some_book_x2_2 b__law_some_book_x2_3
def b__law_some_book_x2_1 : dS := dSeq p__law_some_book_x2_1 b__law_some_book_x2_2
def b__law_some_book_x2_0 : dS := dSeq p__law_some_book_x2_0 b__law_some_book_x2_1
def p__law_some_book_0 : dS := (dSetF 3 (dLst (dCons (dTup (dCons (dC (.int 0)) (dCons (dC .non) (dCons (dTup (dCons (dC (.int 0)) (dCons (dC (.int 0)) (dCons (dBin rAddD (dC (.int 1)) (dCallD 2 [] sp__law_pick (dCons (dVar 0) (dCons (dVar 2) dNil)))) (dCons (dBin rAddD (dC (.int 1)) (dCallD 2 [] sp__law_pick (dCons (dVar 0) (dCons (dVar 2) dNil)))) dNil))))) (dCons (dC (.bl true)) (dCons (dC (.int 0)) dNil)))))) dNil)))
def p__law_some_book_1 : dS := (dSetF 4 (dLst (dCons (dC (.int 1)) (dCons (dC (.int 2)) (dCons (dC (.int 3)) (dCons (dC (.int 4)) (dCons (dC (.int 5)) (dCons (dC (.int 6)) (dCons (dC (.int 7)) (dCons (dC (.int 8)) (dCons (dC (.int 9)) dNil)))))))))))
def p__law_some_book_2 : dS := (dSetF 5 (dLst (dCons (dC (.int 0)) dNil)))
def p__law_some_book_3 : dS := (dFor (dRng1 (dCons (dBin rIxD (dFz (dLst (dCons (dVar 1) (dCons (dCallD 2 [] sp__law_pick (dCons (dVar 0) (dCons (dBin rAddD (dVar 1) (dC (.int 1))) dNil))) dNil)))) (dCallD 2 [] sp__law_pick (dCons (dVar 0) (dCons (dC (.int 2)) dNil)))) dNil)) (gN 6) b__law_some_book_x2_0)
def p__law_some_book_4 : dS := (dRet (dCB rTuple (dCons (dTake 3) dNil)))
def b__law_some_book_4 : dS := p__law_some_book_4
def b__law_some_book_3 : dS := dSeq p__law_some_book_3 b__law_some_book_4
def b__law_some_book_2 : dS := dSeq p__law_some_book_2 b__law_some_book_3
def b__law_some_book_1 : dS := dSeq p__law_some_book_1 b__law_some_book_2
def b__law_some_book_0 : dS := dSeq p__law_some_book_0 b__law_some_book_1
def b__law_some_book : dS := b__law_some_book_0
theorem run__law_some_book {P : Program} {w : World} {K : PySem.W.Frag} {mg : Str → Option Value} {base : Heap} (m_len : mg "len" = none) (m_range : mg "range" = none) (m_tuple : mg "tuple" = none) (K__law_pick_2 : Def P w K mg base 1 "_law_pick" 2 sp__law_pick []) (K__law_square_2 : Def P w K mg base 2 "_law_square" 2 sp__law_square []) {f : Addr} (cdv : Value) (A : Around) (out : List Env) (s : Shared) (H : Hp) (E : XK) (g : A.guards = some []) (hrA : Room 2 (A.deeper (envOfC "_law_some_book" (defScope s__law_some_book) s.heap.objs.size f cdv))) :
  DSs (cx0 P w K mg base n__law_some_book "_law_some_book" (defScope s__law_some_book) f cdv A out s H E) E00 (defBody s__law_some_book) b__law_some_book := by
 have hgA : (A.deeper (envOfC "_law_some_book" (defScope s__law_some_book) s.heap.objs.size f cdv)).guards = some [] := g
 have hun := hrA.un
 exact (dss_cons (t := p__law_some_book_0) (u := b__law_some_book_1) (ds_setF (i := 3) sc__law_some_book.nd rfl (by first | exact .inl rfl | exact .inr rfl) (df_lst (da_cons (de_tup (da_cons de_int (da_cons de_non (da_cons (de_tup (da_cons de_int (da_cons de_int (da_cons (de_op od_add de_int (de_callD K__law_pick_2 hgA hrA (by rfl) (da_cons (de_var (pv 0)) (da_cons (de_var (pv 2)) da_nil)))) (da_cons (de_op od_add de_int (de_callD K__law_pick_2 hgA hrA (by rfl) (da_cons (de_var (pv 0)) (da_cons (de_var (pv 2)) da_nil)))) da_nil))))) (da_cons de_bl (da_cons de_int da_nil)))))) da_nil)))
  (dss_cons (t := p__law_some_book_1) (u := b__law_some_book_2) (ds_setF (i := 4) sc__law_some_book.nd rfl (by first | exact .inl rfl | exact .inr rfl) (df_lst (da_cons de_int (da_cons de_int (da_cons de_int (da_cons de_int (da_cons de_int (da_cons de_int (da_cons de_int (da_cons de_int (da_cons de_int da_nil)))))))))))
  (dss_cons (t := p__law_some_book_2) (u := b__law_some_book_3) (ds_setF (i := 5) sc__law_some_book.nd rfl (by first | exact .inl rfl | exact .inr rfl) (df_lst (da_cons de_int da_nil)))
  (dss_cons (t := p__law_some_book_3) (u := b__law_some_book_4) (ds_for PassesOwn.never rfl (di_range1 (by rfl) m_range (da_cons (de_ix (de_fz (df_lst (da_cons (de_var (pv 1)) (da_cons (de_callD K__law_pick_2 hgA hrA (by rfl) (da_cons (de_var (pv 0)) (da_cons (de_op od_add (de_var (pv 1)) de_int) da_nil))) da_nil)))) (de_callD K__law_pick_2 hgA hrA (by rfl) (da_cons (de_var (pv 0)) (da_cons de_int da_nil))) (fun _ _ => rfl)) da_nil)) (dg_name (pg_name (i := 6) sc__law_some_book.nd rfl (by first | exact .inl rfl | exact .inr rfl))) (dss_cons (t := p__law_some_book_x2_0) (u := b__law_some_book_x2_1) (ds_setF (i := 5) sc__law_some_book.nd rfl (by first | exact .inl rfl | exact .inr rfl) (df_ownSl (pv 5) do_none (do_some de_int)))
  (dss_cons (t := p__law_some_book_x2_1) (u := b__law_some_book_x2_2) (ds_set (i := 7) sc__law_some_book.nd rfl (by first | exact .inl rfl | exact .inr rfl) (de_ix (de_fz (df_lst (da_cons (de_ownB (cd_len) (pv 5) (by rfl) m_len PySem.boot_len) (da_cons (de_op od_add de_int (de_callD K__law_pick_2 hgA hrA (by rfl) (da_cons (de_var (pv 0)) (da_cons (de_ownB (cd_len) (pv 5) (by rfl) m_len PySem.boot_len) da_nil)))) (da_cons de_int da_nil))))) (de_callD K__law_pick_2 hgA hrA (by rfl) (da_cons (de_var (pv 0)) (da_cons de_int da_nil))) (fun _ _ => rfl)))
  (dss_cons (t := p__law_some_book_x2_2) (u := b__law_some_book_x2_3) (ds_setF (i := 5) sc__law_some_book.nd rfl (by first | exact .inl rfl | exact .inr rfl) (df_ownSl (pv 5) do_none (do_some (de_var (pv 7)))))
  (dss_cons (t := p__law_some_book_x2_3) (u := b__law_some_book_x2_4) (ds_set (i := 8) sc__law_some_book.nd rfl (by first | exact .inl rfl | exact .inr rfl) (de_popAt (pv 4) (de_callD K__law_pick_2 hgA hrA (by rfl) (da_cons (de_var (pv 0)) (da_cons (de_ownB (cd_len) (pv 4) (by rfl) m_len PySem.boot_len) da_nil)))))
  (dss_cons (t := p__law_some_book_x2_4) (u := b__law_some_book_x2_5) (ds_app (pv 3) (de_tup (da_cons (de_var (pv 8)) (da_cons (de_ownIx (pv 5) de_neg (fun _ _ => rfl)) (da_cons (de_callD K__law_square_2 hgA hrA (by rfl) (da_cons (de_var (pv 0)) (da_cons (de_var (pv 2)) da_nil))) (da_cons (de_cmp (od_gt) (de_callD K__law_pick_2 hgA hrA (by rfl) (da_cons (de_var (pv 0)) (da_cons de_int da_nil))) de_int (nomark _)) (da_cons (de_op od_add de_int (de_callD K__law_pick_2 hgA hrA (by rfl) (da_cons (de_var (pv 0)) (da_cons de_int da_nil)))) da_nil)))))))
  (dss_one (t := p__law_some_book_x2_5) (ds_app (pv 5) (de_var (pv 8))))))))))
  (dss_one (t := p__law_some_book_4) (ds_ret (de_callTy (cd_tuple) (by rfl) m_tuple (by decide +kernel) (da_cons (de_take (pv 3)) da_nil))))))))
theorem atI_int {xs : List Int} {r : Int} (h0 : 0 ≤ r) (h1 : r < (xs.length : Nat)) : ∃ x ∈ xs, atI (xs.map D.int) r = some (.int x) := by
  have h2 : r.toNat < xs.length := by omega
  exact ⟨xs[r.toNat], List.getElem_mem h2, by rw [atI_nn h0, List.getElem?_map, List.getElem?_eq_getElem h2]; rfl⟩
theorem atI_lastI {xs : List Int} (h : xs ≠ []) : ∃ x, atI (xs.map D.int) (-1) = some (.int x) := by
  rw [atI_neg1, List.getElem?_map, List.length_map]
  have h2 : xs.length - 1 < xs.length := by
    cases xs with
    | nil => exact absurd rfl h
    | cons x r => simp
  exact ⟨xs[xs.length - 1], by rw [List.getElem?_eq_getElem h2]; rfl⟩
theorem ixN_in {n : Nat} {r : Int} (h0 : 0 ≤ r) (h1 : r < n) : ixN n r = some r.toNat := by
  unfold ixN
  rw [if_pos h0, if_pos h1]
theorem erase_map {α β : Type} (f : α → β) : ∀ (l : List α) (i : Nat), (l.map f).eraseIdx i = (l.eraseIdx i).map f
  | [], _ => rfl
  | _ :: _, 0 => rfl
  | x :: l, i + 1 => congrArg (f x :: ·) (erase_map f l i)
theorem loop_book {a : Addr} {u m : Int} {N : dEnds} {c0 : Nat} (hc : c0 + 500 < 65536) (m0 : 0 < m) (m1 : m < 1000) (hN : ∀ (ls : List D) (s4 s5 s6 s7 s8 : Sl) (c' : Nat), ls ≠ [] → ls.length ≤ 10 → (∀ d ∈ ls, lineOk d) → c' ≤ c0 + 500 →
      N.nx ⟨[.dat (.raw (.ref a)), .dat (.int u), .dat (.int m), .own ls, s4, s5, s6, s7, s8], some (a, c')⟩) :
    ∀ (rest ls : List D) (xs st : List Int) (s6 s7 s8 : Sl) (c' : Nat), ls ≠ [] → ls.length + rest.length ≤ 10 → (∀ d ∈ ls, lineOk d) → (∀ x ∈ xs, x.natAbs < 100) → rest.length ≤ xs.length → xs.length < 100 → st ≠ [] → st.length < 100 → c' + 40 * rest.length ≤ c0 + 500 →
    wFor (gN 6) b__law_some_book_x2_0 W0 N rest ⟨[.dat (.raw (.ref a)), .dat (.int u), .dat (.int m), .own ls, .own (xs.map .int), .own (st.map .int), s6, s7, s8], some (a, c')⟩
  | [], ls, xs, st, s6, s7, s8, c', h1, h2, h3, h4, h5, h5b, h6, h6b, h7 => hN ls _ _ _ _ _ c' h1 (by simpa using h2) h3 (by simpa using h7)
  | d :: rest, ls, xs, st, s6, s7, s8, c', h1, h2, h3, h4, h5, h5b, h6, h6b, h7 => by
    rw [List.length_cons] at h2 h5 h7
    have ih := loop_book hc m0 m1 hN rest
    rw [wFor]
    generalize wFor (gN 6) b__law_some_book_x2_0 W0 N rest = k at ih ⊢
    have g4 : 1 ≤ (st.take 4).length ∧ (st.take 4).length ≤ 4 := by
      rw [List.length_take]
      have : 1 ≤ st.length := by
        cases st with
        | nil => exact absurd rfl h6
        | cons x r => simp
      omega
    have gx : 1 ≤ xs.length := by omega
    simp only [dSeq, dNext, dSet, dSetF, setSl, dVar, dTake, dC, dBin, dBinF, dB, dIfS, dIf, dRet, dRetN, dExpr, dNil, dCons, dTup, dLst, dFz, dAnd, dOr, dNot, dAndV, dOrV, dNotV, dCallD, dCallK, dCB, dCBF, dFor, dLC, dYes, dRng1, dRng2, dSeqI, gN, gT, gsNil, gsCons, dAsg, dNeg, dJoin, dFs, dJs, dFmt, dApp, dExt, dPop, dPopAt, dOwnIx, dOwnCB, dOwnL, dOwnR, dOwnSl, dSetIx, dSlT, dSlL, oNone, oSome, dBorn, optQ, ownAt, setOwnAt, lookAt, wipeD, dNewDT, dNewDK, dDGet, dDIn, dDPut, dSortT, rSrt, dNever, dBrk, dCnt, D.flat, rAddD, rSubI, rIO, rMulI, rDivI, rModI, rPowI, rCI, rIxD, rIsN, rNotN, D.isN, rLen, rTuple, rList, rAbs, rInt, rStr, Ev.rRepr, Ev.rIsi, D.ty, kit_tab, startD, endsD, List.map_cons, List.map_nil, List.length_cons, List.length_nil, List.append_nil, List.nil_append, List.cons_append, List.getElem?_cons_zero, List.getElem?_cons_succ, List.getElem?_nil, List.set_cons_zero, List.set_cons_succ, List.replicate, List.replicate_succ, Nat.zero_add, Nat.zero_le, sizeLine, true_and, and_true, if_true, Ev.eq_int, Ev.eq_str, Ev.eq_bl, Ev.eq_non, lst_nil, tup_nil, List.map_eq_nil_iff, txt_join, rLt, rLe, rGt, rGe, atI_ofNat, atI_last, wLC, strsOf, intsOf, blsOf, Option.map_some, Ev.join_two, Ev.join_one, Ev.join_nil, List.sum_cons, List.sum_nil, PySem.Str.empty_append, ixN_ofNat, Option.some.injEq, exists_eq', List.length_map, decide_true, decide_false, Bool.not_true, Bool.not_false, Bool.true_eq_false, Bool.false_eq_true, false_and, and_false, if_false, ite_true, ite_false, Nat.reduceAdd, Nat.reduceSub, Nat.reduceMul, Nat.reduceLT, Nat.reduceLeDiff, Nat.reduceEqDiff, Nat.reducePow, Int.reduceToNat, Int.reducePow, pickL, List.filterMap_cons, List.filterMap_nil, and_self, Int.reduceLT, Int.reduceLE, Int.reduceNeg, Int.reduceAdd, Int.reduceMul, Int.reduceSub, Int.reduceEq, reduceIte, reduceCtorEq, lit_eq, String.reduceEq, Ev.rEq, Ev.rNe, Ev.rInD, cut_toN, cut_fromN, List.map_take, List.forall_mem_cons, List.forall_mem_nil, List.not_mem_nil, false_imp_iff, implies_true, forall_const, D.cm, D.lay, D.lays, D.dep, D.deps, strOk_lit, lays_ints, deps_ints, Nat.max_self, Nat.max_zero, Nat.zero_max, Bool.and_self, Bool.true_and, Bool.and_true, Bool.and_false, Bool.false_and, Bool.or_false, Bool.or_true, Bool.true_or, Bool.false_or, List.any_cons, List.any_nil, decide_eq_true_eq, eq_self, b__law_some_book_x2_0, p__law_some_book_x2_0, b__law_some_book_x2_1, p__law_some_book_x2_1, sp__law_pick, spDraw]
    rw [← List.map_take]
    simp only [List.length_map]
    generalize st.take 4 = st4 at g4
    refine ⟨by omega, by omega, by omega, fun r r0 r1 => ⟨by omega, fun s s0 s1 => ?_⟩⟩
    obtain ⟨kp, k1, hk⟩ : ∃ kp : Nat, 1 ≤ kp ∧ atI [D.int (st4.length : Nat), D.int (1 + r), D.int 1] s = some (.int kp) := by
      have h : s = 0 ∨ s = 1 ∨ s = 2 := by omega
      rcases h with rfl | rfl | rfl
      · exact ⟨st4.length, g4.1, rfl⟩
      · exact ⟨(1 + r).toNat, by omega, by rw [show ((1 + r).toNat : Int) = 1 + r by omega]; rfl⟩
      · exact ⟨1, by omega, rfl⟩
    rw [hk]
    simp only [dSeq, dNext, dSet, dSetF, setSl, dVar, dTake, dC, dBin, dBinF, dB, dIfS, dIf, dRet, dRetN, dExpr, dNil, dCons, dTup, dLst, dFz, dAnd, dOr, dNot, dAndV, dOrV, dNotV, dCallD, dCallK, dCB, dCBF, dFor, dLC, dYes, dRng1, dRng2, dSeqI, gN, gT, gsNil, gsCons, dAsg, dNeg, dJoin, dFs, dJs, dFmt, dApp, dExt, dPop, dPopAt, dOwnIx, dOwnCB, dOwnL, dOwnR, dOwnSl, dSetIx, dSlT, dSlL, oNone, oSome, dBorn, optQ, ownAt, setOwnAt, lookAt, wipeD, dNewDT, dNewDK, dDGet, dDIn, dDPut, dSortT, rSrt, dNever, dBrk, dCnt, D.flat, rAddD, rSubI, rIO, rMulI, rDivI, rModI, rPowI, rCI, rIxD, rIsN, rNotN, D.isN, rLen, rTuple, rList, rAbs, rInt, rStr, Ev.rRepr, Ev.rIsi, D.ty, kit_tab, startD, endsD, List.map_cons, List.map_nil, List.length_cons, List.length_nil, List.append_nil, List.nil_append, List.cons_append, List.getElem?_cons_zero, List.getElem?_cons_succ, List.getElem?_nil, List.set_cons_zero, List.set_cons_succ, List.replicate, List.replicate_succ, Nat.zero_add, Nat.zero_le, sizeLine, true_and, and_true, if_true, Ev.eq_int, Ev.eq_str, Ev.eq_bl, Ev.eq_non, lst_nil, tup_nil, List.map_eq_nil_iff, txt_join, rLt, rLe, rGt, rGe, atI_ofNat, atI_last, wLC, strsOf, intsOf, blsOf, Option.map_some, Ev.join_two, Ev.join_one, Ev.join_nil, List.sum_cons, List.sum_nil, PySem.Str.empty_append, ixN_ofNat, Option.some.injEq, exists_eq', List.length_map, decide_true, decide_false, Bool.not_true, Bool.not_false, Bool.true_eq_false, Bool.false_eq_true, false_and, and_false, if_false, ite_true, ite_false, Nat.reduceAdd, Nat.reduceSub, Nat.reduceMul, Nat.reduceLT, Nat.reduceLeDiff, Nat.reduceEqDiff, Nat.reducePow, Int.reduceToNat, Int.reducePow, pickL, List.filterMap_cons, List.filterMap_nil, and_self, Int.reduceLT, Int.reduceLE, Int.reduceNeg, Int.reduceAdd, Int.reduceMul, Int.reduceSub, Int.reduceEq, reduceIte, reduceCtorEq, lit_eq, String.reduceEq, Ev.rEq, Ev.rNe, Ev.rInD, cut_toN, cut_fromN, List.map_take, List.forall_mem_cons, List.forall_mem_nil, List.not_mem_nil, false_imp_iff, implies_true, forall_const, D.cm, D.lay, D.lays, D.dep, D.deps, strOk_lit, lays_ints, deps_ints, Nat.max_self, Nat.max_zero, Nat.zero_max, Bool.and_self, Bool.true_and, Bool.and_true, Bool.and_false, Bool.false_and, Bool.or_false, Bool.or_true, Bool.true_or, Bool.false_or, List.any_cons, List.any_nil, decide_eq_true_eq, eq_self, b__law_some_book_x2_2, p__law_some_book_x2_2, b__law_some_book_x2_3, p__law_some_book_x2_3, sp__law_pick, spDraw, cut_to]
    rw [← List.map_take]
    refine ⟨by omega, by omega, by omega, fun t t0 t1 => ⟨by omega, by omega, ?_⟩⟩
    have ht : t.toNat < xs.length := by omega
    rw [ixN_in t0 t1]
    simp only [List.getElem?_map, List.getElem?_eq_getElem ht, Option.map_some]
    have g5 : 1 ≤ (st4.take kp).length ∧ (st4.take kp).length ≤ 4 := by rw [List.length_take]; omega
    generalize st4.take kp = st5 at g5
    have n5 : st5 ≠ [] := fun z => by rw [z] at g5; simp at g5
    obtain ⟨la, hla⟩ := atI_lastI n5
    have hx := h4 _ (List.getElem_mem ht)
    simp only [dSeq, dNext, dSet, dSetF, setSl, dVar, dTake, dC, dBin, dBinF, dB, dIfS, dIf, dRet, dRetN, dExpr, dNil, dCons, dTup, dLst, dFz, dAnd, dOr, dNot, dAndV, dOrV, dNotV, dCallD, dCallK, dCB, dCBF, dFor, dLC, dYes, dRng1, dRng2, dSeqI, gN, gT, gsNil, gsCons, dAsg, dNeg, dJoin, dFs, dJs, dFmt, dApp, dExt, dPop, dPopAt, dOwnIx, dOwnCB, dOwnL, dOwnR, dOwnSl, dSetIx, dSlT, dSlL, oNone, oSome, dBorn, optQ, ownAt, setOwnAt, lookAt, wipeD, dNewDT, dNewDK, dDGet, dDIn, dDPut, dSortT, rSrt, dNever, dBrk, dCnt, D.flat, rAddD, rSubI, rIO, rMulI, rDivI, rModI, rPowI, rCI, rIxD, rIsN, rNotN, D.isN, rLen, rTuple, rList, rAbs, rInt, rStr, Ev.rRepr, Ev.rIsi, D.ty, kit_tab, startD, endsD, List.map_cons, List.map_nil, List.length_cons, List.length_nil, List.append_nil, List.nil_append, List.cons_append, List.getElem?_cons_zero, List.getElem?_cons_succ, List.getElem?_nil, List.set_cons_zero, List.set_cons_succ, List.replicate, List.replicate_succ, Nat.zero_add, Nat.zero_le, sizeLine, true_and, and_true, if_true, Ev.eq_int, Ev.eq_str, Ev.eq_bl, Ev.eq_non, lst_nil, tup_nil, List.map_eq_nil_iff, txt_join, rLt, rLe, rGt, rGe, atI_ofNat, atI_last, wLC, strsOf, intsOf, blsOf, Option.map_some, Ev.join_two, Ev.join_one, Ev.join_nil, List.sum_cons, List.sum_nil, PySem.Str.empty_append, ixN_ofNat, Option.some.injEq, exists_eq', List.length_map, decide_true, decide_false, Bool.not_true, Bool.not_false, Bool.true_eq_false, Bool.false_eq_true, false_and, and_false, if_false, ite_true, ite_false, Nat.reduceAdd, Nat.reduceSub, Nat.reduceMul, Nat.reduceLT, Nat.reduceLeDiff, Nat.reduceEqDiff, Nat.reducePow, Int.reduceToNat, Int.reducePow, pickL, List.filterMap_cons, List.filterMap_nil, and_self, Int.reduceLT, Int.reduceLE, Int.reduceNeg, Int.reduceAdd, Int.reduceMul, Int.reduceSub, Int.reduceEq, reduceIte, reduceCtorEq, lit_eq, String.reduceEq, Ev.rEq, Ev.rNe, Ev.rInD, cut_toN, cut_fromN, List.map_take, List.forall_mem_cons, List.forall_mem_nil, List.not_mem_nil, false_imp_iff, implies_true, forall_const, D.cm, D.lay, D.lays, D.dep, D.deps, strOk_lit, lays_ints, deps_ints, Nat.max_self, Nat.max_zero, Nat.zero_max, Bool.and_self, Bool.true_and, Bool.and_true, Bool.and_false, Bool.false_and, Bool.or_false, Bool.or_true, Bool.true_or, Bool.false_or, List.any_cons, List.any_nil, decide_eq_true_eq, eq_self, b__law_some_book_x2_4, p__law_some_book_x2_4, b__law_some_book_x2_5, p__law_some_book_x2_5, sp__law_pick, spDraw, sp__law_square, hla]
    refine ⟨by omega, m0, m1, fun sq c'' hc'' => ⟨by omega, fun v v0 v1 => ⟨by omega, fun w w0 w1 => ⟨by omega, by omega, ?_⟩⟩⟩⟩
    have e : (List.map D.int xs).eraseIdx t.toNat = (xs.eraseIdx t.toNat).map D.int := erase_map D.int xs t.toNat
    have e2 : List.map D.int st5 ++ [D.int xs[t.toNat]] = (st5 ++ [xs[t.toNat]]).map D.int := by rw [List.map_append]; rfl
    simp only [e, e2]
    refine ih _ _ _ _ _ _ _ (by simp) (by simp; omega) (fun z hz => ?_) (fun x hx => h4 x (List.mem_of_mem_eraseIdx hx)) (by rw [List.length_eraseIdx]; split <;> omega) (by rw [List.length_eraseIdx]; split <;> omega) (by simp) (by simp; omega) (by omega)
    rcases List.mem_append.mp hz with hz | hz
    · exact h3 z hz
    · rw [List.mem_singleton] at hz
      subst hz
      exact ⟨_, _, rfl, hx⟩
theorem hsp__law_some_book : ∀ ds p Q W, ds.length = 3 → sp__law_some_book ds p Q W → b__law_some_book W0 (endsD Q) (startD n__law_some_book.length ds p) := by
  intro ds p Q W _ h
  match ds, p, h with
  | [.raw (.ref a), .int u, .int m], some (b, c), ⟨e, hc, m0, m1, u0, u9, q⟩ =>
    subst e
    have lo : lineOk (D.tup [.int 0, .non, .non]) := ⟨0, _, rfl, by decide⟩
    simp only [dSeq, dNext, dSet, dSetF, setSl, dVar, dTake, dC, dBin, dBinF, dB, dIfS, dIf, dRet, dRetN, dExpr, dNil, dCons, dTup, dLst, dFz, dAnd, dOr, dNot, dAndV, dOrV, dNotV, dCallD, dCallK, dCB, dCBF, dFor, dLC, dYes, dRng1, dRng2, dSeqI, gN, gT, gsNil, gsCons, dAsg, dNeg, dJoin, dFs, dJs, dFmt, dApp, dExt, dPop, dPopAt, dOwnIx, dOwnCB, dOwnL, dOwnR, dOwnSl, dSetIx, dSlT, dSlL, oNone, oSome, dBorn, optQ, ownAt, setOwnAt, lookAt, wipeD, dNewDT, dNewDK, dDGet, dDIn, dDPut, dSortT, rSrt, dNever, dBrk, dCnt, D.flat, rAddD, rSubI, rIO, rMulI, rDivI, rModI, rPowI, rCI, rIxD, rIsN, rNotN, D.isN, rLen, rTuple, rList, rAbs, rInt, rStr, Ev.rRepr, Ev.rIsi, D.ty, kit_tab, startD, endsD, List.map_cons, List.map_nil, List.length_cons, List.length_nil, List.append_nil, List.nil_append, List.cons_append, List.getElem?_cons_zero, List.getElem?_cons_succ, List.getElem?_nil, List.set_cons_zero, List.set_cons_succ, List.replicate, List.replicate_succ, Nat.zero_add, Nat.zero_le, sizeLine, true_and, and_true, if_true, Ev.eq_int, Ev.eq_str, Ev.eq_bl, Ev.eq_non, lst_nil, tup_nil, List.map_eq_nil_iff, txt_join, rLt, rLe, rGt, rGe, atI_ofNat, atI_last, wLC, strsOf, intsOf, blsOf, Option.map_some, Ev.join_two, Ev.join_one, Ev.join_nil, List.sum_cons, List.sum_nil, PySem.Str.empty_append, ixN_ofNat, Option.some.injEq, exists_eq', List.length_map, decide_true, decide_false, Bool.not_true, Bool.not_false, Bool.true_eq_false, Bool.false_eq_true, false_and, and_false, if_false, ite_true, ite_false, Nat.reduceAdd, Nat.reduceSub, Nat.reduceMul, Nat.reduceLT, Nat.reduceLeDiff, Nat.reduceEqDiff, Nat.reducePow, Int.reduceToNat, Int.reducePow, pickL, List.filterMap_cons, List.filterMap_nil, and_self, Int.reduceLT, Int.reduceLE, Int.reduceNeg, Int.reduceAdd, Int.reduceMul, Int.reduceSub, Int.reduceEq, reduceIte, reduceCtorEq, lit_eq, String.reduceEq, Ev.rEq, Ev.rNe, Ev.rInD, cut_toN, cut_fromN, List.map_take, List.forall_mem_cons, List.forall_mem_nil, List.not_mem_nil, false_imp_iff, implies_true, forall_const, D.cm, D.lay, D.lays, D.dep, D.deps, strOk_lit, lays_ints, deps_ints, Nat.max_self, Nat.max_zero, Nat.zero_max, Bool.and_self, Bool.true_and, Bool.and_true, Bool.and_false, Bool.false_and, Bool.or_false, Bool.or_true, Bool.true_or, Bool.false_or, List.any_cons, List.any_nil, decide_eq_true_eq, eq_self, n__law_some_book, b__law_some_book, b__law_some_book_0, p__law_some_book_0, b__law_some_book_1, p__law_some_book_1, b__law_some_book_2, p__law_some_book_2, b__law_some_book_3, p__law_some_book_3, sp__law_pick, spDraw]
    refine ⟨m0, by omega, by omega, fun r r0 r1 => ⟨m0, by omega, by omega, fun s s0 s1 => ⟨by omega, by omega, by omega, fun t t0 t1 => ⟨by omega, fun v v0 v1 => ?_⟩⟩⟩⟩
    obtain ⟨k, hk, k0, k9⟩ : ∃ k : Int, atI [D.int u, D.int t] v = some (.int k) ∧ 0 ≤ k ∧ k ≤ 9 := by
      have h : v = 0 ∨ v = 1 := by omega
      rcases h with rfl | rfl
      · exact ⟨u, rfl, u0, u9⟩
      · exact ⟨t, rfl, t0, by omega⟩
    rw [hk]
    refine ⟨by omega, by omega, ?_⟩
    refine loop_book (c0 := c) hc m0 m1 (fun ls s4 s5 s6 s7 s8 c' h1 h2 h3 h4 => ?_) _ _ [1, 2, 3, 4, 5, 6, 7, 8, 9] [0] _ _ _ _ (by simp) (by rw [intsFrom_len]; simp; omega) (fun d hd => ?_) (by decide) (by rw [intsFrom_len]; simp; omega) (by decide) (by simp) (by decide) (by rw [intsFrom_len]; omega)
    · simp only [dSeq, dNext, dSet, dSetF, setSl, dVar, dTake, dC, dBin, dBinF, dB, dIfS, dIf, dRet, dRetN, dExpr, dNil, dCons, dTup, dLst, dFz, dAnd, dOr, dNot, dAndV, dOrV, dNotV, dCallD, dCallK, dCB, dCBF, dFor, dLC, dYes, dRng1, dRng2, dSeqI, gN, gT, gsNil, gsCons, dAsg, dNeg, dJoin, dFs, dJs, dFmt, dApp, dExt, dPop, dPopAt, dOwnIx, dOwnCB, dOwnL, dOwnR, dOwnSl, dSetIx, dSlT, dSlL, oNone, oSome, dBorn, optQ, ownAt, setOwnAt, lookAt, wipeD, dNewDT, dNewDK, dDGet, dDIn, dDPut, dSortT, rSrt, dNever, dBrk, dCnt, D.flat, rAddD, rSubI, rIO, rMulI, rDivI, rModI, rPowI, rCI, rIxD, rIsN, rNotN, D.isN, rLen, rTuple, rList, rAbs, rInt, rStr, Ev.rRepr, Ev.rIsi, D.ty, kit_tab, startD, endsD, List.map_cons, List.map_nil, List.length_cons, List.length_nil, List.append_nil, List.nil_append, List.cons_append, List.getElem?_cons_zero, List.getElem?_cons_succ, List.getElem?_nil, List.set_cons_zero, List.set_cons_succ, List.replicate, List.replicate_succ, Nat.zero_add, Nat.zero_le, sizeLine, true_and, and_true, if_true, Ev.eq_int, Ev.eq_str, Ev.eq_bl, Ev.eq_non, lst_nil, tup_nil, List.map_eq_nil_iff, txt_join, rLt, rLe, rGt, rGe, atI_ofNat, atI_last, wLC, strsOf, intsOf, blsOf, Option.map_some, Ev.join_two, Ev.join_one, Ev.join_nil, List.sum_cons, List.sum_nil, PySem.Str.empty_append, ixN_ofNat, Option.some.injEq, exists_eq', List.length_map, decide_true, decide_false, Bool.not_true, Bool.not_false, Bool.true_eq_false, Bool.false_eq_true, false_and, and_false, if_false, ite_true, ite_false, Nat.reduceAdd, Nat.reduceSub, Nat.reduceMul, Nat.reduceLT, Nat.reduceLeDiff, Nat.reduceEqDiff, Nat.reducePow, Int.reduceToNat, Int.reducePow, pickL, List.filterMap_cons, List.filterMap_nil, and_self, Int.reduceLT, Int.reduceLE, Int.reduceNeg, Int.reduceAdd, Int.reduceMul, Int.reduceSub, Int.reduceEq, reduceIte, reduceCtorEq, lit_eq, String.reduceEq, Ev.rEq, Ev.rNe, Ev.rInD, cut_toN, cut_fromN, List.map_take, List.forall_mem_cons, List.forall_mem_nil, List.not_mem_nil, false_imp_iff, implies_true, forall_const, D.cm, D.lay, D.lays, D.dep, D.deps, strOk_lit, lays_ints, deps_ints, Nat.max_self, Nat.max_zero, Nat.zero_max, Bool.and_self, Bool.true_and, Bool.and_true, Bool.and_false, Bool.false_and, Bool.or_false, Bool.or_true, Bool.true_or, Bool.false_or, List.any_cons, List.any_nil, decide_eq_true_eq, eq_self, b__law_some_book_4, p__law_some_book_4]
      exact q ls c' h1 h2 h3 h4
    · rw [List.mem_singleton] at hd
      subst hd
      exact ⟨0, _, rfl, by decide⟩
theorem ok__law_some_book {P : Program} {w : World} {K : PySem.W.Frag} {mg : Str → Option Value} {base : Heap} (m_len : mg "len" = none) (m_range : mg "range" = none) (m_tuple : mg "tuple" = none) (K__law_pick_2 : Def P w K mg base 1 "_law_pick" 2 sp__law_pick []) (K__law_square_2 : Def P w K mg base 2 "_law_square" 2 sp__law_square []) {f : Addr} {fd : FuncData} (F : Fun K "_law_some_book" "_law_some_book" s__law_some_book f fd) : FnG P w K mg base CX0 3 f fd ["_law_pen_here", "_law_upto", "_law_near"] (spD K 3 sp__law_some_book) :=
 fn_d0 F sc__law_some_book rfl (fun cdv A out s H E g r => run__law_some_book m_len m_range m_tuple K__law_pick_2 K__law_square_2 cdv A out s H E g r) hsp__law_some_book
end Ev33

namespace Ev33
open PySem PySem.Spec PyProof.Rows L2 Ev
def sp__law_some_kinds : dSp := fun ds p Q _ => ∃ a c ss, ds = [.raw (.ref a), .tup (ss.map .str)] ∧ p = some (a, c) ∧ c + 12 < 65536 ∧ ss ≠ [] ∧ ss.length ≤ 8 ∧ (∀ x ∈ ss, x ∈ kinds8) ∧
  ∀ (ks : List Str) (c' : Nat), (∀ x ∈ ks, x ∈ ss) → ks.length ≤ ss.length → c' ≤ c + 12 → Q (.tup (ks.map .str)) (some (a, c'))
abbrev s__law_some_kinds : Stmt := topS 7
abbrev n__law_some_kinds : List Str := ["_law_pen_here", "_law_some", "_law_one", "_law_way", "_law_found", "_law_sort"]
theorem sc__law_some_kinds : FnScope n__law_some_kinds ["_law_pen_here", "_law_some"] (defScope s__law_some_kinds) := ⟨rfl, rfl, rfl, by decide +kernel, rfl, by decide +kernel, by decide +kernel⟩
def p__law_some_kinds_0 : dS := (dSet 2 (dBin rIxD (dVar 1) (dCallD 2 [] sp__law_pick (dCons (dVar 0) (dCons (dCB rLen (dCons (dVar 1) dNil)) dNil)))))
def p__law_some_kinds_1 : dS := (dSet 3 (dCallD 2 [] sp__law_pick (dCons (dVar 0) (dCons (dC (.int 4)) dNil))))
def p__law_some_kinds_2 : dS := (dSetF 4 (dLC (dSeqI (dVar 1)) (gN 5) (dOr (dB (dBin (rEq) (dCallD 2 [] sp__law_pick (dCons (dVar 0) (dCons (dC (.int 3)) dNil))) (dC (.int 0)))) (dOr (dB (dBin (rEq) (dVar 5) (dVar 2))) (dB (dBin (rEq) (dVar 3) (dC (.int 0)))))) (dVar 5) [5]))
def p__law_some_kinds_3 : dS := (dRet (dCB rTuple (dCons (dBin rIxD (dFz (dLst (dCons (dFz (dLst (dCons (dVar 2) dNil))) (dCons (dTake 4) dNil)))) (dCB rInt (dCons (dBin (rLt) (dVar 3) (dC (.int 3))) dNil))) dNil)))
def b__law_some_kinds_3 : dS := p__law_some_kinds_3
def b__law_some_kinds_2 : dS := dSeq p__law_some_kinds_2 b__law_some_kinds_3
def b__law_some_kinds_1 : dS := dSeq p__law_some_kinds_1 b__law_some_kinds_2
def b__law_some_kinds_0 : dS := dSeq p__law_some_kinds_0 b__law_some_kinds_1
def b__law_some_kinds : dS := b__law_some_kinds_0
theorem run__law_some_kinds {P : Program} {w : World} {K : PySem.W.Frag} {mg : Str → Option Value} {base : Heap} (m_int : mg "int" = none) (m_len : mg "len" = none) (m_tuple : mg "tuple" = none) (K__law_pick_2 : Def P w K mg base 1 "_law_pick" 2 sp__law_pick []) {f : Addr} (cdv : Value) (A : Around) (out : List Env) (s : Shared) (H : Hp) (E : XK) (g : A.guards = some []) (hrA : Room 1 (A.deeper (envOfC "_law_some_kinds" (defScope s__law_some_kinds) s.heap.objs.size f cdv))) :
  DSs (cx0 P w K mg base n__law_some_kinds "_law_some_kinds" (defScope s__law_some_kinds) f cdv A out s H E) E00 (defBody s__law_some_kinds) b__law_some_kinds := by
 have hgA : (A.deeper (envOfC "_law_some_kinds" (defScope s__law_some_kinds) s.heap.objs.size f cdv)).guards = some [] := g
 have hun := hrA.un
 exact (dss_cons (t := p__law_some_kinds_0) (u := b__law_some_kinds_1) (ds_set (i := 2) sc__law_some_kinds.nd rfl (by first | exact .inl rfl | exact .inr rfl) (de_ix (de_var (pv 1)) (de_callD K__law_pick_2 hgA hrA (by rfl) (da_cons (de_var (pv 0)) (da_cons (de_callB (cd_len) (by rfl) m_len PySem.boot_len (da_cons (de_var (pv 1)) da_nil)) da_nil))) (fun _ _ => rfl)))
  (dss_cons (t := p__law_some_kinds_1) (u := b__law_some_kinds_2) (ds_set (i := 3) sc__law_some_kinds.nd rfl (by first | exact .inl rfl | exact .inr rfl) (de_callD K__law_pick_2 hgA hrA (by rfl) (da_cons (de_var (pv 0)) (da_cons de_int da_nil))))
  (dss_cons (t := p__law_some_kinds_2) (u := b__law_some_kinds_3) (ds_setLc (E2 := E00) (own := [("_law_sort", 5)]) (i := 4) rfl sc__law_some_kinds.nd rfl rfl (sw_true rfl rfl rfl (by decide +kernel)) (di_seq (de_var (pv 1))) (blkOk_by (N := n__law_some_kinds) (sc := (defScope s__law_some_kinds)) (own := [("_law_sort", 5)]) (by decide +kernel)) (by decide) (fun _ _ _ _ _ => (dg_name (pg_name (i := 5) sc__law_some_kinds.nd rfl (by first | exact .inl rfl | exact .inr rfl)))) (fun _ _ _ _ _ => (dts_one ((dw_or (dt_cmp (od_eq (Nat.lt_of_le_of_lt (Nat.add_le_add_left (by decide) _) hun)) (de_callD K__law_pick_2 hgA hrA (by rfl) (da_cons (de_var (pv 0)) (da_cons de_int da_nil))) de_int (nomark _)) (dw_or (dt_cmp (od_eq (Nat.lt_of_le_of_lt (Nat.add_le_add_left (by decide) _) hun)) (de_var (pv 5)) (de_var (pv 2)) (nomark _)) (dw_or1 (dt_cmp (od_eq (Nat.lt_of_le_of_lt (Nat.add_le_add_left (by decide) _) hun)) (de_var (pv 3)) de_int (nomark _)))))).dt)) (fun _ _ _ _ _ => (de_var (pv 5))))
  (dss_one (t := p__law_some_kinds_3) (ds_ret (de_callTy (cd_tuple) (by rfl) m_tuple (by decide +kernel) (da_cons (de_ix (de_fz (df_lst (da_cons (de_fz (df_lst (da_cons (de_var (pv 2)) da_nil))) (da_cons (de_take (pv 4)) da_nil)))) (de_callTy (cd_int) (by rfl) m_int (by decide +kernel) (da_cons (de_cmp (od_lt) (de_var (pv 3)) de_int (nomark _)) da_nil)) (fun _ _ => rfl)) da_nil)))))))
theorem hsp__law_some_kinds : ∀ ds p Q W, ds.length = 2 → sp__law_some_kinds ds p Q W → b__law_some_kinds W0 (endsD Q) (startD n__law_some_kinds.length ds p) := by
  rintro _ _ Q W - ⟨a, c, ss, rfl, rfl, hc, h0, hl, hk, q⟩
  have hne : 0 < ss.length := by
    cases ss with
    | nil => exact absurd rfl h0
    | cons x r => simp
  have h8 : ss.length ≤ sizeLine := by rw [sizeLine_eq]; omega
  have so := fun x hx => (kind_ok x (hk x hx)).1
  simp only [dSeq, dNext, dSet, dSetF, setSl, dVar, dTake, dC, dBin, dBinF, dB, dIfS, dIf, dRet, dRetN, dExpr, dNil, dCons, dTup, dLst, dFz, dAnd, dOr, dNot, dAndV, dOrV, dNotV, dCallD, dCallK, dCB, dCBF, dFor, dLC, dYes, dRng1, dRng2, dSeqI, gN, gT, gsNil, gsCons, dAsg, dNeg, dJoin, dFs, dJs, dFmt, dApp, dExt, dPop, dPopAt, dOwnIx, dOwnCB, dOwnL, dOwnR, dOwnSl, dSetIx, dSlT, dSlL, oNone, oSome, dBorn, optQ, ownAt, setOwnAt, lookAt, wipeD, dNewDT, dNewDK, dDGet, dDIn, dDPut, dSortT, rSrt, isDict, Ev.dictGet, Ev.dictPut, Option.isSome_none, Option.isSome_some, D.keyT, keysOf, D.key, exists_eq_left', exists_eq_left, Option.isSome, rRepL, rCatL, dNever, dBrk, dCnt, D.flat, rAddD, rSubI, rIO, rMulI, rDivI, rModI, rPowI, rCI, rIxD, rIsN, rNotN, D.isN, rLen, rTuple, rList, rAbs, rInt, rStr, Ev.rRepr, Ev.rIsi, D.ty, kit_tab, startD, endsD, List.map_cons, List.map_nil, List.length_cons, List.length_nil, List.append_nil, List.nil_append, List.cons_append, List.getElem?_cons_zero, List.getElem?_cons_succ, List.getElem?_nil, List.set_cons_zero, List.set_cons_succ, List.replicate, List.replicate_succ, Nat.zero_add, Nat.zero_le, sizeLine, true_and, and_true, if_true, Ev.eq_int, Ev.eq_str, Ev.eq_bl, Ev.eq_non, lst_nil, tup_nil, List.map_eq_nil_iff, txt_join, rLt, rLe, rGt, rGe, atI_ofNat, atI_last, wLC, strsOf, intsOf, blsOf, Option.map_some, Ev.join_two, Ev.join_one, Ev.join_nil, List.sum_cons, List.sum_nil, PySem.Str.empty_append, ixN_ofNat, Option.some.injEq, exists_eq', List.length_map, decide_true, decide_false, Bool.not_true, Bool.not_false, Bool.true_eq_false, Bool.false_eq_true, false_and, and_false, if_false, ite_true, ite_false, Nat.reduceAdd, Nat.reduceSub, Nat.reduceMul, Nat.reduceLT, Nat.reduceLeDiff, Nat.reduceEqDiff, Nat.reducePow, Int.reduceToNat, Int.reducePow, pickL, List.filterMap_cons, List.filterMap_nil, and_self, Int.reduceLT, Int.reduceLE, Int.reduceNeg, Int.reduceAdd, Int.reduceMul, Int.reduceSub, Int.reduceEq, reduceIte, reduceCtorEq, lit_eq, String.reduceEq, Ev.rEq, Ev.rNe, Ev.rInD, cut_toN, cut_fromN, List.map_take, List.forall_mem_cons, List.forall_mem_nil, List.not_mem_nil, false_imp_iff, implies_true, forall_const, D.cm, D.lay, D.lays, D.dep, D.deps, strOk_lit, lays_ints, deps_ints, Nat.max_self, Nat.max_zero, Nat.zero_max, Bool.and_self, Bool.true_and, Bool.and_true, Bool.and_false, Bool.false_and, Bool.or_false, Bool.or_true, Bool.true_or, Bool.false_or, List.any_cons, List.any_nil, decide_eq_true_eq, eq_self, n__law_some_kinds, b__law_some_kinds, b__law_some_kinds_0, p__law_some_kinds_0, b__law_some_kinds_1, p__law_some_kinds_1, b__law_some_kinds_2, p__law_some_kinds_2, sp__law_pick, spDraw]
  refine ⟨by omega, by omega, by omega, fun r r0 r1 => ?_⟩
  have hr : r.toNat < ss.length := by omega
  have hone : atI (ss.map D.str) r = some (.str ss[r.toNat]) := by rw [atI_nn r0, List.getElem?_map, List.getElem?_eq_getElem hr]; rfl
  have hm := List.getElem_mem hr
  generalize ss[r.toNat] = one at hone hm
  rw [hone]
  refine ⟨by omega, fun way w0 w1 => ?_⟩
  -- the comprehension: some of the words, a draw each
  have go : ∀ (rest : List Str) (acc : List Str) (c' : Nat), (∀ x ∈ rest, x ∈ ss) → (∀ x ∈ acc, x ∈ ss) → acc.length + rest.length ≤ ss.length → c' + rest.length ≤ c + 12 → 
      wLC (gN 5) (dOr (dB (dBin rEq (dCallD 2 [] (spDraw 65536) (dCons (dVar 0) (dCons (dC (.int 3)) dNil))) (dC (.int 0)))) (dOr (dB (dBin rEq (dVar 5) (dVar 2))) (dB (dBin rEq (dVar 3) (dC (.int 0)))))) (dVar 5) [5]
        (fun xs δ1 => b__law_some_kinds_3 W0 (endsD Q) { sl := δ1.sl.set 4 (.own xs), pen := δ1.pen }) (rest.map .str) (acc.map .str) ⟨[.dat (.raw (.ref a)), .dat (.tup (ss.map .str)), .dat (.str one), .dat (.int way), .un, .un], some (a, c')⟩ := by
    intro rest
    induction rest with
    | nil =>
      intro acc c' _ h2 h3 h4
      rw [List.map_nil, wLC]
      simp only [dSeq, dNext, dSet, dSetF, setSl, dVar, dTake, dC, dBin, dBinF, dB, dIfS, dIf, dRet, dRetN, dExpr, dNil, dCons, dTup, dLst, dFz, dAnd, dOr, dNot, dAndV, dOrV, dNotV, dCallD, dCallK, dCB, dCBF, dFor, dLC, dYes, dRng1, dRng2, dSeqI, gN, gT, gsNil, gsCons, dAsg, dNeg, dJoin, dFs, dJs, dFmt, dApp, dExt, dPop, dPopAt, dOwnIx, dOwnCB, dOwnL, dOwnR, dOwnSl, dSetIx, dSlT, dSlL, oNone, oSome, dBorn, optQ, ownAt, setOwnAt, lookAt, wipeD, dNewDT, dNewDK, dDGet, dDIn, dDPut, dSortT, rSrt, isDict, Ev.dictGet, Ev.dictPut, Option.isSome_none, Option.isSome_some, D.keyT, keysOf, D.key, exists_eq_left', exists_eq_left, Option.isSome, rRepL, rCatL, dNever, dBrk, dCnt, D.flat, rAddD, rSubI, rIO, rMulI, rDivI, rModI, rPowI, rCI, rIxD, rIsN, rNotN, D.isN, rLen, rTuple, rList, rAbs, rInt, rStr, Ev.rRepr, Ev.rIsi, D.ty, kit_tab, startD, endsD, List.map_cons, List.map_nil, List.length_cons, List.length_nil, List.append_nil, List.nil_append, List.cons_append, List.getElem?_cons_zero, List.getElem?_cons_succ, List.getElem?_nil, List.set_cons_zero, List.set_cons_succ, List.replicate, List.replicate_succ, Nat.zero_add, Nat.zero_le, sizeLine, true_and, and_true, if_true, Ev.eq_int, Ev.eq_str, Ev.eq_bl, Ev.eq_non, lst_nil, tup_nil, List.map_eq_nil_iff, txt_join, rLt, rLe, rGt, rGe, atI_ofNat, atI_last, wLC, strsOf, intsOf, blsOf, Option.map_some, Ev.join_two, Ev.join_one, Ev.join_nil, List.sum_cons, List.sum_nil, PySem.Str.empty_append, ixN_ofNat, Option.some.injEq, exists_eq', List.length_map, decide_true, decide_false, Bool.not_true, Bool.not_false, Bool.true_eq_false, Bool.false_eq_true, false_and, and_false, if_false, ite_true, ite_false, Nat.reduceAdd, Nat.reduceSub, Nat.reduceMul, Nat.reduceLT, Nat.reduceLeDiff, Nat.reduceEqDiff, Nat.reducePow, Int.reduceToNat, Int.reducePow, pickL, List.filterMap_cons, List.filterMap_nil, and_self, Int.reduceLT, Int.reduceLE, Int.reduceNeg, Int.reduceAdd, Int.reduceMul, Int.reduceSub, Int.reduceEq, reduceIte, reduceCtorEq, lit_eq, String.reduceEq, Ev.rEq, Ev.rNe, Ev.rInD, cut_toN, cut_fromN, List.map_take, List.forall_mem_cons, List.forall_mem_nil, List.not_mem_nil, false_imp_iff, implies_true, forall_const, D.cm, D.lay, D.lays, D.dep, D.deps, strOk_lit, lays_ints, deps_ints, Nat.max_self, Nat.max_zero, Nat.zero_max, Bool.and_self, Bool.true_and, Bool.and_true, Bool.and_false, Bool.false_and, Bool.or_false, Bool.or_true, Bool.true_or, Bool.false_or, List.any_cons, List.any_nil, decide_eq_true_eq, eq_self, b__law_some_kinds_3, p__law_some_kinds_3]
      by_cases hw : way < 3
      · simp only [dSeq, dNext, dSet, dSetF, setSl, dVar, dTake, dC, dBin, dBinF, dB, dIfS, dIf, dRet, dRetN, dExpr, dNil, dCons, dTup, dLst, dFz, dAnd, dOr, dNot, dAndV, dOrV, dNotV, dCallD, dCallK, dCB, dCBF, dFor, dLC, dYes, dRng1, dRng2, dSeqI, gN, gT, gsNil, gsCons, dAsg, dNeg, dJoin, dFs, dJs, dFmt, dApp, dExt, dPop, dPopAt, dOwnIx, dOwnCB, dOwnL, dOwnR, dOwnSl, dSetIx, dSlT, dSlL, oNone, oSome, dBorn, optQ, ownAt, setOwnAt, lookAt, wipeD, dNewDT, dNewDK, dDGet, dDIn, dDPut, dSortT, rSrt, isDict, Ev.dictGet, Ev.dictPut, Option.isSome_none, Option.isSome_some, D.keyT, keysOf, D.key, exists_eq_left', exists_eq_left, Option.isSome, rRepL, rCatL, dNever, dBrk, dCnt, D.flat, rAddD, rSubI, rIO, rMulI, rDivI, rModI, rPowI, rCI, rIxD, rIsN, rNotN, D.isN, rLen, rTuple, rList, rAbs, rInt, rStr, Ev.rRepr, Ev.rIsi, D.ty, kit_tab, startD, endsD, List.map_cons, List.map_nil, List.length_cons, List.length_nil, List.append_nil, List.nil_append, List.cons_append, List.getElem?_cons_zero, List.getElem?_cons_succ, List.getElem?_nil, List.set_cons_zero, List.set_cons_succ, List.replicate, List.replicate_succ, Nat.zero_add, Nat.zero_le, sizeLine, true_and, and_true, if_true, Ev.eq_int, Ev.eq_str, Ev.eq_bl, Ev.eq_non, lst_nil, tup_nil, List.map_eq_nil_iff, txt_join, rLt, rLe, rGt, rGe, atI_ofNat, atI_last, wLC, strsOf, intsOf, blsOf, Option.map_some, Ev.join_two, Ev.join_one, Ev.join_nil, List.sum_cons, List.sum_nil, PySem.Str.empty_append, ixN_ofNat, Option.some.injEq, exists_eq', List.length_map, decide_true, decide_false, Bool.not_true, Bool.not_false, Bool.true_eq_false, Bool.false_eq_true, false_and, and_false, if_false, ite_true, ite_false, Nat.reduceAdd, Nat.reduceSub, Nat.reduceMul, Nat.reduceLT, Nat.reduceLeDiff, Nat.reduceEqDiff, Nat.reducePow, Int.reduceToNat, Int.reducePow, pickL, List.filterMap_cons, List.filterMap_nil, and_self, Int.reduceLT, Int.reduceLE, Int.reduceNeg, Int.reduceAdd, Int.reduceMul, Int.reduceSub, Int.reduceEq, reduceIte, reduceCtorEq, lit_eq, String.reduceEq, Ev.rEq, Ev.rNe, Ev.rInD, cut_toN, cut_fromN, List.map_take, List.forall_mem_cons, List.forall_mem_nil, List.not_mem_nil, false_imp_iff, implies_true, forall_const, D.cm, D.lay, D.lays, D.dep, D.deps, strOk_lit, lays_ints, deps_ints, Nat.max_self, Nat.max_zero, Nat.zero_max, Bool.and_self, Bool.true_and, Bool.and_true, Bool.and_false, Bool.false_and, Bool.or_false, Bool.or_true, Bool.true_or, Bool.false_or, List.any_cons, List.any_nil, decide_eq_true_eq, eq_self, hw]
        exact q acc c' h2 (by simpa using h3) (by simpa using h4)
      · simp only [dSeq, dNext, dSet, dSetF, setSl, dVar, dTake, dC, dBin, dBinF, dB, dIfS, dIf, dRet, dRetN, dExpr, dNil, dCons, dTup, dLst, dFz, dAnd, dOr, dNot, dAndV, dOrV, dNotV, dCallD, dCallK, dCB, dCBF, dFor, dLC, dYes, dRng1, dRng2, dSeqI, gN, gT, gsNil, gsCons, dAsg, dNeg, dJoin, dFs, dJs, dFmt, dApp, dExt, dPop, dPopAt, dOwnIx, dOwnCB, dOwnL, dOwnR, dOwnSl, dSetIx, dSlT, dSlL, oNone, oSome, dBorn, optQ, ownAt, setOwnAt, lookAt, wipeD, dNewDT, dNewDK, dDGet, dDIn, dDPut, dSortT, rSrt, isDict, Ev.dictGet, Ev.dictPut, Option.isSome_none, Option.isSome_some, D.keyT, keysOf, D.key, exists_eq_left', exists_eq_left, Option.isSome, rRepL, rCatL, dNever, dBrk, dCnt, D.flat, rAddD, rSubI, rIO, rMulI, rDivI, rModI, rPowI, rCI, rIxD, rIsN, rNotN, D.isN, rLen, rTuple, rList, rAbs, rInt, rStr, Ev.rRepr, Ev.rIsi, D.ty, kit_tab, startD, endsD, List.map_cons, List.map_nil, List.length_cons, List.length_nil, List.append_nil, List.nil_append, List.cons_append, List.getElem?_cons_zero, List.getElem?_cons_succ, List.getElem?_nil, List.set_cons_zero, List.set_cons_succ, List.replicate, List.replicate_succ, Nat.zero_add, Nat.zero_le, sizeLine, true_and, and_true, if_true, Ev.eq_int, Ev.eq_str, Ev.eq_bl, Ev.eq_non, lst_nil, tup_nil, List.map_eq_nil_iff, txt_join, rLt, rLe, rGt, rGe, atI_ofNat, atI_last, wLC, strsOf, intsOf, blsOf, Option.map_some, Ev.join_two, Ev.join_one, Ev.join_nil, List.sum_cons, List.sum_nil, PySem.Str.empty_append, ixN_ofNat, Option.some.injEq, exists_eq', List.length_map, decide_true, decide_false, Bool.not_true, Bool.not_false, Bool.true_eq_false, Bool.false_eq_true, false_and, and_false, if_false, ite_true, ite_false, Nat.reduceAdd, Nat.reduceSub, Nat.reduceMul, Nat.reduceLT, Nat.reduceLeDiff, Nat.reduceEqDiff, Nat.reducePow, Int.reduceToNat, Int.reducePow, pickL, List.filterMap_cons, List.filterMap_nil, and_self, Int.reduceLT, Int.reduceLE, Int.reduceNeg, Int.reduceAdd, Int.reduceMul, Int.reduceSub, Int.reduceEq, reduceIte, reduceCtorEq, lit_eq, String.reduceEq, Ev.rEq, Ev.rNe, Ev.rInD, cut_toN, cut_fromN, List.map_take, List.forall_mem_cons, List.forall_mem_nil, List.not_mem_nil, false_imp_iff, implies_true, forall_const, D.cm, D.lay, D.lays, D.dep, D.deps, strOk_lit, lays_ints, deps_ints, Nat.max_self, Nat.max_zero, Nat.zero_max, Bool.and_self, Bool.true_and, Bool.and_true, Bool.and_false, Bool.false_and, Bool.or_false, Bool.or_true, Bool.true_or, Bool.false_or, List.any_cons, List.any_nil, decide_eq_true_eq, eq_self, hw]
        exact q [one] c' (fun z hz => by rw [List.mem_singleton] at hz; subst hz; exact hm) (by simp; omega) (by simpa using h4)
    | cons x rest ih =>
      intro acc c' h1 h2 h3 h4
      rw [List.length_cons] at h3 h4
      have sx := so x (h1 x List.mem_cons_self)
      have yes : ∀ c'', c'' = c' + 1 → _ := fun c'' e => ih (acc ++ [x]) c'' (fun z hz => h1 z (List.mem_cons_of_mem _ hz)) (fun z hz => by
        rcases List.mem_append.mp hz with hz | hz
        · exact h2 z hz
        · rw [List.mem_singleton] at hz; subst hz; exact h1 z List.mem_cons_self) (by simp; omega) (by omega)
      have no : ∀ c'', c'' = c' + 1 → _ := fun c'' e => ih acc c'' (fun z hz => h1 z (List.mem_cons_of_mem _ hz)) h2 (by omega) (by omega)
      rw [List.map_cons, wLC]
      generalize wLC (gN 5) (dOr (dB (dBin rEq (dCallD 2 [] (spDraw 65536) (dCons (dVar 0) (dCons (dC (.int 3)) dNil))) (dC (.int 0)))) (dOr (dB (dBin rEq (dVar 5) (dVar 2))) (dB (dBin rEq (dVar 3) (dC (.int 0)))))) (dVar 5) [5]
        (fun xs δ1 => b__law_some_kinds_3 W0 (endsD Q) { sl := δ1.sl.set 4 (.own xs), pen := δ1.pen }) (rest.map .str) = k at yes no ⊢
      simp only [dSeq, dNext, dSet, dSetF, setSl, dVar, dTake, dC, dBin, dBinF, dB, dIfS, dIf, dRet, dRetN, dExpr, dNil, dCons, dTup, dLst, dFz, dAnd, dOr, dNot, dAndV, dOrV, dNotV, dCallD, dCallK, dCB, dCBF, dFor, dLC, dYes, dRng1, dRng2, dSeqI, gN, gT, gsNil, gsCons, dAsg, dNeg, dJoin, dFs, dJs, dFmt, dApp, dExt, dPop, dPopAt, dOwnIx, dOwnCB, dOwnL, dOwnR, dOwnSl, dSetIx, dSlT, dSlL, oNone, oSome, dBorn, optQ, ownAt, setOwnAt, lookAt, wipeD, dNewDT, dNewDK, dDGet, dDIn, dDPut, dSortT, rSrt, isDict, Ev.dictGet, Ev.dictPut, Option.isSome_none, Option.isSome_some, D.keyT, keysOf, D.key, exists_eq_left', exists_eq_left, Option.isSome, rRepL, rCatL, dNever, dBrk, dCnt, D.flat, rAddD, rSubI, rIO, rMulI, rDivI, rModI, rPowI, rCI, rIxD, rIsN, rNotN, D.isN, rLen, rTuple, rList, rAbs, rInt, rStr, Ev.rRepr, Ev.rIsi, D.ty, kit_tab, startD, endsD, List.map_cons, List.map_nil, List.length_cons, List.length_nil, List.append_nil, List.nil_append, List.cons_append, List.getElem?_cons_zero, List.getElem?_cons_succ, List.getElem?_nil, List.set_cons_zero, List.set_cons_succ, List.replicate, List.replicate_succ, Nat.zero_add, Nat.zero_le, sizeLine, true_and, and_true, if_true, Ev.eq_int, Ev.eq_str, Ev.eq_bl, Ev.eq_non, lst_nil, tup_nil, List.map_eq_nil_iff, txt_join, rLt, rLe, rGt, rGe, atI_ofNat, atI_last, wLC, strsOf, intsOf, blsOf, Option.map_some, Ev.join_two, Ev.join_one, Ev.join_nil, List.sum_cons, List.sum_nil, PySem.Str.empty_append, ixN_ofNat, Option.some.injEq, exists_eq', List.length_map, decide_true, decide_false, Bool.not_true, Bool.not_false, Bool.true_eq_false, Bool.false_eq_true, false_and, and_false, if_false, ite_true, ite_false, Nat.reduceAdd, Nat.reduceSub, Nat.reduceMul, Nat.reduceLT, Nat.reduceLeDiff, Nat.reduceEqDiff, Nat.reducePow, Int.reduceToNat, Int.reducePow, pickL, List.filterMap_cons, List.filterMap_nil, and_self, Int.reduceLT, Int.reduceLE, Int.reduceNeg, Int.reduceAdd, Int.reduceMul, Int.reduceSub, Int.reduceEq, reduceIte, reduceCtorEq, lit_eq, String.reduceEq, Ev.rEq, Ev.rNe, Ev.rInD, cut_toN, cut_fromN, List.map_take, List.forall_mem_cons, List.forall_mem_nil, List.not_mem_nil, false_imp_iff, implies_true, forall_const, D.cm, D.lay, D.lays, D.dep, D.deps, strOk_lit, lays_ints, deps_ints, Nat.max_self, Nat.max_zero, Nat.zero_max, Bool.and_self, Bool.true_and, Bool.and_true, Bool.and_false, Bool.false_and, Bool.or_false, Bool.or_true, Bool.true_or, Bool.false_or, List.any_cons, List.any_nil, decide_eq_true_eq, eq_self, spDraw, sx, so one hm]
      have yes' : acc.length < 16777216 ∧ k (List.map D.str acc ++ [D.str x]) ⟨[.dat (.raw (.ref a)), .dat (.tup (ss.map .str)), .dat (.str one), .dat (.int way), .un, .un], some (a, c' + 1)⟩ := by
        have w := yes (c' + 1) rfl
        rw [List.map_append] at w
        exact ⟨by omega, w⟩
      refine ⟨by omega, fun r r0 r1 => ?_⟩
      split
      · exact yes'
      split
      · exact yes'
      split
      · exact yes'
      · exact no _ rfl
  exact go ss [] (c + 1 + 1) (fun _ h => h) (by simp) (by simp) (by omega)
theorem ok__law_some_kinds {P : Program} {w : World} {K : PySem.W.Frag} {mg : Str → Option Value} {base : Heap} (m_int : mg "int" = none) (m_len : mg "len" = none) (m_tuple : mg "tuple" = none) (K__law_pick_2 : Def P w K mg base 1 "_law_pick" 2 sp__law_pick []) {f : Addr} {fd : FuncData} (F : Fun K "_law_some_kinds" "_law_some_kinds" s__law_some_kinds f fd) : FnG P w K mg base CX0 2 f fd ["_law_pen_here", "_law_some"] (spD K 2 sp__law_some_kinds) :=
 fn_d0 F sc__law_some_kinds rfl (fun cdv A out s H E g r => run__law_some_kinds m_int m_len m_tuple K__law_pick_2 cdv A out s H E g r) hsp__law_some_kinds
def sp__law_some_wishes : dSp := fun ds p Q _ => ∃ a c ls m, ds = [.raw (.ref a), .tup ls, .int m] ∧ p = some (a, c) ∧ c + 300 < 65536 ∧ ls ≠ [] ∧ ls.length ≤ 10 ∧ (∀ d ∈ ls, lineOk d) ∧ 0 ≤ m ∧ m ≤ 12 ∧
  ∀ (rows : List Row) (c' : Nat), rows.length ≤ 12 → (∀ r ∈ rows, rowOk r) → c' ≤ c + 300 → Q (.tup (rows.map rowD)) (some (a, c'))
abbrev s__law_some_wishes : Stmt := topS 8
abbrev n__law_some_wishes : List Str := ["_law_pen_here", "_law_web", "_law_many", "_law_found", "_law_pressed", "_law_k", "_law_key", "_law_sorts", "_law_kinds", "_law_sort"]
theorem sc__law_some_wishes : FnScope n__law_some_wishes ["_law_pen_here", "_law_web", "_law_many"] (defScope s__law_some_wishes) := ⟨rfl, rfl, rfl, by decide +kernel, rfl, by decide +kernel, by decide +kernel⟩
def p__law_some_wishes_x3_0 : dS := (dDPut 3 (dVar 6) (dVar 8))
def p__law_some_wishes_x3_1 : dS := (dExt 4 (dFz (dBinF rRepL (dFz (dLst (dCons (dBin rIxD (dVar 6) (dC (.int 1))) dNil))) (dCB rInt (dCons (dBin (rInD false) (dC (.str "press")) (dVar 8)) dNil)))))
def b__law_some_wishes_x3_1 : dS := p__law_some_wishes_x3_1
def b__law_some_wishes_x3_0 : dS := dSeq p__law_some_wishes_x3_0 b__law_some_wishes_x3_1
def p__law_some_wishes_x2_0 : dS := (dSet 6 (dTup (dCons (dBin rAddD (dC (.int 1)) (dCallD 2 [] sp__law_pick (dCons (dVar 0) (dCons (dC (.int 4)) dNil)))) (dCons (dBin rIxD (dBin rIxD (dVar 1) (dCallD 2 [] sp__law_pick (dCons (dVar 0) (dCons (dCB rLen (dCons (dVar 1) dNil)) dNil)))) (dC (.int 0))) dNil))))
def p__law_some_wishes_x2_1 : dS := (dSet 7 (dTup (dCons (dC (.str "enter")) (dCons (dC (.str "exposed")) (dCons (dC (.str "focus")) (dCons (dC (.str "key")) (dCons (dC (.str "leave")) (dCons (dC (.str "motion")) (dCons (dC (.str "press")) (dCons (dC (.str "release")) dNil))))))))))
def p__law_some_wishes_x2_2 : dS := (dSet 8 (dCallD 2 [] sp__law_some_kinds (dCons (dVar 0) (dCons (dVar 7) dNil))))
def p__law_some_wishes_x2_3 : dS := (dIfS (dOr (dB (dOwnR 4 (rInD false) (dBin rIxD (dVar 6) (dC (.int 1))))) (dB (dDIn false (dVar 6) 3))) (dSet 8 (dCB rTuple (dCons (dFz (dLC (dSeqI (dVar 8)) (gN 9) (dB (dBin (rNe) (dVar 9) (dC (.str "press")))) (dVar 9) [9])) dNil))) dNext)
def p__law_some_wishes_x2_4 : dS := (dIfS (dAnd (dB (dBin (rNe) (dVar 8) (dTup dNil))) (dB (dDIn true (dVar 6) 3))) b__law_some_wishes_x3_0 dNext)
def b__law_some_wishes_x2_4 : dS := p__law_some_wishes_x2_4
def b__law_some_wishes_x2_3 : dS := dSeq p__law_some_wishes_x2_3 b__law_some_wishes_x2_4
def b__law_some_wishes_x2_2 : dS := dSeq p__law_some_wishes_x2_2 b__law_some_wishes_x2_3
def b__law_some_wishes_x2_1 : dS := dSeq p__law_some_wishes_x2_1 b__law_some_wishes_x2_2
def b__law_some_wishes_x2_0 : dS := dSeq p__law_some_wishes_x2_0 b__law_some_wishes_x2_1
def p__law_some_wishes_0 : dS := (dNewDT 3)
def p__law_some_wishes_1 : dS := (dSetF 4 (dLst dNil))
def p__law_some_wishes_2 : dS := (dFor (dRng1 (dCons (dVar 2) dNil)) (gN 5) b__law_some_wishes_x2_0)
def p__law_some_wishes_3 : dS := (dRet (dCB rTuple (dCons (dFz (dLC (dSeqI (dFz (dSortT 3))) (gN 6) dYes (dBin rAddD (dVar 6) (dTup (dCons (dDGet 3 (dVar 6)) dNil))) [6])) dNil)))
def b__law_some_wishes_3 : dS := p__law_some_wishes_3
def b__law_some_wishes_2 : dS := dSeq p__law_some_wishes_2 b__law_some_wishes_3
def b__law_some_wishes_1 : dS := dSeq p__law_some_wishes_1 b__law_some_wishes_2
def b__law_some_wishes_0 : dS := dSeq p__law_some_wishes_0 b__law_some_wishes_1
def b__law_some_wishes : dS := b__law_some_wishes_0
theorem run__law_some_wishes {P : Program} {w : World} {K : PySem.W.Frag} {mg : Str → Option Value} {base : Heap} (m_int : mg "int" = none) (m_len : mg "len" = none) (m_range : mg "range" = none) (m_sorted : mg "sorted" = none) (m_tuple : mg "tuple" = none) (K__law_pick_2 : Def P w K mg base 1 "_law_pick" 2 sp__law_pick []) (K__law_some_kinds_2 : Def P w K mg base 2 "_law_some_kinds" 2 sp__law_some_kinds []) {f : Addr} (cdv : Value) (A : Around) (out : List Env) (s : Shared) (H : Hp) (E : XK) (g : A.guards = some []) (hrA : Room 2 (A.deeper (envOfC "_law_some_wishes" (defScope s__law_some_wishes) s.heap.objs.size f cdv))) :
  DSs (cx0 P w K mg base n__law_some_wishes "_law_some_wishes" (defScope s__law_some_wishes) f cdv A out s H E) E00 (defBody s__law_some_wishes) b__law_some_wishes := by
 have hgA : (A.deeper (envOfC "_law_some_wishes" (defScope s__law_some_wishes) s.heap.objs.size f cdv)).guards = some [] := g
 have hun := hrA.un
 exact (dss_cons (t := p__law_some_wishes_0) (u := b__law_some_wishes_1) (ds_newT (i := 3) sc__law_some_wishes.nd rfl (by first | exact .inl rfl | exact .inr rfl))
  (dss_cons (t := p__law_some_wishes_1) (u := b__law_some_wishes_2) (ds_setF (i := 4) sc__law_some_wishes.nd rfl (by first | exact .inl rfl | exact .inr rfl) (df_lst da_nil))
  (dss_cons (t := p__law_some_wishes_2) (u := b__law_some_wishes_3) (ds_for PassesOwn.never rfl (di_range1 (by rfl) m_range (da_cons (de_var (pv 2)) da_nil)) (dg_name (pg_name (i := 5) sc__law_some_wishes.nd rfl (by first | exact .inl rfl | exact .inr rfl))) (dss_cons (t := p__law_some_wishes_x2_0) (u := b__law_some_wishes_x2_1) (ds_set (i := 6) sc__law_some_wishes.nd rfl (by first | exact .inl rfl | exact .inr rfl) (de_tup (da_cons (de_op od_add de_int (de_callD K__law_pick_2 hgA hrA (by rfl) (da_cons (de_var (pv 0)) (da_cons de_int da_nil)))) (da_cons (de_ix (de_ix (de_var (pv 1)) (de_callD K__law_pick_2 hgA hrA (by rfl) (da_cons (de_var (pv 0)) (da_cons (de_callB (cd_len) (by rfl) m_len PySem.boot_len (da_cons (de_var (pv 1)) da_nil)) da_nil))) (fun _ _ => rfl)) de_int (fun _ _ => rfl)) da_nil))))
  (dss_cons (t := p__law_some_wishes_x2_1) (u := b__law_some_wishes_x2_2) (ds_set (i := 7) sc__law_some_wishes.nd rfl (by first | exact .inl rfl | exact .inr rfl) (de_tup (da_cons de_str (da_cons de_str (da_cons de_str (da_cons de_str (da_cons de_str (da_cons de_str (da_cons de_str (da_cons de_str da_nil))))))))))
  (dss_cons (t := p__law_some_wishes_x2_2) (u := b__law_some_wishes_x2_3) (ds_set (i := 8) sc__law_some_wishes.nd rfl (by first | exact .inl rfl | exact .inr rfl) (de_callD K__law_some_kinds_2 hgA hrA (by rfl) (da_cons (de_var (pv 0)) (da_cons (de_var (pv 7)) da_nil))))
  (dss_cons (t := p__law_some_wishes_x2_3) (u := b__law_some_wishes_x2_4) (ds_if ((dw_or (dt_ownR (od_in (Nat.lt_of_le_of_lt (Nat.add_le_add_left (by decide) _) hun)) (de_ix (de_var (pv 6)) de_int (fun _ _ => rfl)) (pv 4) (by with_unfolding_all rfl)) (dw_or1 (dt_din (Nat.lt_of_le_of_lt (Nat.add_le_add_left (by decide) _) hun) (de_var (pv 6)) (pv 3))))).dt (dss_one (ds_set (i := 8) sc__law_some_wishes.nd rfl (by first | exact .inl rfl | exact .inr rfl) (de_callTy (cd_tuple) (by rfl) m_tuple (by decide +kernel) (da_cons (de_fz (df_lc (E2 := E00) (own := [("_law_sort", 9)]) rfl sc__law_some_wishes.nd (di_seq (de_var (pv 8))) (blkOk_by (N := n__law_some_wishes) (sc := (defScope s__law_some_wishes)) (own := [("_law_sort", 9)]) (by decide +kernel)) (by decide) (fun _ _ _ _ _ => (dg_name (pg_name (i := 9) sc__law_some_wishes.nd rfl (by first | exact .inl rfl | exact .inr rfl)))) (fun _ _ _ _ _ => (dts_one (dt_cmp (od_ne (Nat.lt_of_le_of_lt (Nat.add_le_add_left (by decide) _) hun)) (de_var (pv 9)) de_str (nomark _)))) (fun _ _ _ _ _ => (de_var (pv 9))))) da_nil)))) dss_nil)
  (dss_one (t := p__law_some_wishes_x2_4) (ds_if ((dw_and (dt_cmp (od_ne (Nat.lt_of_le_of_lt (Nat.add_le_add_left (by decide) _) hun)) (de_var (pv 8)) (de_tup da_nil) (nomark _)) (dw_and1 (dt_dnin (Nat.lt_of_le_of_lt (Nat.add_le_add_left (by decide) _) hun) (de_var (pv 6)) (pv 3))))).dt (dss_cons (t := p__law_some_wishes_x3_0) (u := b__law_some_wishes_x3_1) (ds_dput (Nat.lt_of_le_of_lt (Nat.add_le_add_left (by decide) _) hun) (pv 3) (de_var (pv 6)) (de_var (pv 8)))
  (dss_one (t := p__law_some_wishes_x3_1) (ds_ext (pv 4) (de_fz (df_op od_repL (de_fz (df_lst (da_cons (de_ix (de_var (pv 6)) de_int (fun _ _ => rfl)) da_nil))) (de_callTy (cd_int) (by rfl) m_int (by decide +kernel) (da_cons (de_cmp (od_in (Nat.lt_of_le_of_lt (Nat.add_le_add_left (by decide) _) hun)) de_str (de_var (pv 8)) (by with_unfolding_all rfl)) da_nil))))))) dss_nil)))))))
  (dss_one (t := p__law_some_wishes_3) (ds_ret (de_callTy (cd_tuple) (by rfl) m_tuple (by decide +kernel) (da_cons (de_fz (df_lc (E2 := E00) (own := [("_law_key", 6)]) rfl sc__law_some_wishes.nd (di_seq (de_fz (df_sortedT rfl (Nat.lt_of_le_of_lt (Nat.add_le_add_left (by decide) _) hun) (pv 3) (by rfl) m_sorted (by decide +kernel)))) (blkOk_by (N := n__law_some_wishes) (sc := (defScope s__law_some_wishes)) (own := [("_law_key", 6)]) (by decide +kernel)) (by decide) (fun _ _ _ _ _ => (dg_name (pg_name (i := 6) sc__law_some_wishes.nd rfl (by first | exact .inl rfl | exact .inr rfl)))) (fun _ _ _ _ _ => dts_nil) (fun _ _ _ _ _ => (de_op od_add (de_var (pv 6)) (de_tup (da_cons (de_dget (Nat.lt_of_le_of_lt (Nat.add_le_add_left (by decide) _) hun) (pv 3) (de_var (pv 6)) (fun _ _ => rfl)) da_nil)))))) da_nil)))))))
/-- an entry of the dict -/
structure entOk (e : List Key × D) : Prop where
  k : ∃ x y : Int, e.1 = [.inl x, .inl y] ∧ x.natAbs < 100 ∧ y.natAbs < 100
  d : ∃ ks : List Str, e.2 = .tup (ks.map .str) ∧ (∀ x ∈ ks, x ∈ kinds8) ∧ ks.length ≤ 8
theorem line_at {ls : List D} (h : ∀ d ∈ ls, lineOk d) {r : Int} (r0 : 0 ≤ r) (r1 : r < (ls.length : Nat)) : ∃ (n : Int) (z : List D), atI ls r = some (.tup (.int n :: z)) ∧ n.natAbs < 100 := by
  have h2 : r.toNat < ls.length := by omega
  obtain ⟨n, z, e, hn⟩ := h _ (List.getElem_mem h2)
  exact ⟨n, z, by rw [atI_nn r0, List.getElem?_eq_getElem h2, e], hn⟩
def wishS (a : Addr) (ls : List D) (m : Int) (es : List (List Key × D)) (ps : List Int) (s5 s6 s7 s8 s9 : Sl) : List Sl := [.dat (.raw (.ref a)), .dat (.tup ls), .dat (.int m), .ownT es, .own (ps.map .int), s5, s6, s7, s8, s9]
theorem loop_wishes {a : Addr} {ls : List D} {m : Int} {N : dEnds} {c0 : Nat} (hc : c0 + 300 < 65536) (n0 : ls ≠ []) (nl : ls.length ≤ 10) (hls : ∀ d ∈ ls, lineOk d) (hN : ∀ (es : List (List Key × D)) (ps : List Int) (s5 s6 s7 s8 s9 : Sl) (c' : Nat), es.length ≤ 12 → (∀ e ∈ es, entOk e) → c' ≤ c0 + 300 → N.nx ⟨wishS a ls m es ps s5 s6 s7 s8 s9, some (a, c')⟩) :
    ∀ (rest : List D) (es : List (List Key × D)) (ps : List Int) (s5 s6 s7 s8 s9 : Sl) (c' : Nat), s9 = .un → es.length + rest.length ≤ 12 → (∀ e ∈ es, entOk e) → ps.length + rest.length ≤ 12 → c' + 20 * rest.length ≤ c0 + 300 →
    wFor (gN 5) b__law_some_wishes_x2_0 W0 N rest ⟨wishS a ls m es ps s5 s6 s7 s8 s9, some (a, c')⟩
  | [], es, ps, s5, s6, s7, s8, s9, c', e9, h1, h2, h3, h4 => hN es ps _ _ _ _ _ c' (by simpa using h1) h2 (by simpa using h4)
  | d :: rest, es, ps, s5, s6, s7, s8, s9, c', e9, h1, h2, h3, h4 => by
    rw [List.length_cons] at h1 h3 h4
    have ih := loop_wishes hc n0 nl hls hN rest
    rw [wFor]
    generalize wFor (gN 5) b__law_some_wishes_x2_0 W0 N rest = k at ih ⊢
    have nl1 : 0 < ls.length := by
      cases ls with
      | nil => exact absurd rfl n0
      | cons x r => simp
    unfold wishS at ih ⊢
    simp only [dSeq, dNext, dSet, dSetF, setSl, dVar, dTake, dC, dBin, dBinF, dB, dIfS, dIf, dRet, dRetN, dExpr, dNil, dCons, dTup, dLst, dFz, dAnd, dOr, dNot, dAndV, dOrV, dNotV, dCallD, dCallK, dCB, dCBF, dFor, dLC, dYes, dRng1, dRng2, dSeqI, gN, gT, gsNil, gsCons, dAsg, dNeg, dJoin, dFs, dJs, dFmt, dApp, dExt, dPop, dPopAt, dOwnIx, dOwnCB, dOwnL, dOwnR, dOwnSl, dSetIx, dSlT, dSlL, oNone, oSome, dBorn, optQ, ownAt, setOwnAt, lookAt, wipeD, dNewDT, dNewDK, dDGet, dDIn, dDPut, dSortT, rSrt, isDict, Ev.dictGet, Ev.dictPut, Option.isSome_none, Option.isSome_some, D.keyT, keysOf, D.key, exists_eq_left', exists_eq_left, Option.isSome, rRepL, rCatL, dNever, dBrk, dCnt, D.flat, rAddD, rSubI, rIO, rMulI, rDivI, rModI, rPowI, rCI, rIxD, rIsN, rNotN, D.isN, rLen, rTuple, rList, rAbs, rInt, rStr, Ev.rRepr, Ev.rIsi, D.ty, kit_tab, startD, endsD, List.map_cons, List.map_nil, List.length_cons, List.length_nil, List.append_nil, List.nil_append, List.cons_append, List.getElem?_cons_zero, List.getElem?_cons_succ, List.getElem?_nil, List.set_cons_zero, List.set_cons_succ, List.replicate, List.replicate_succ, Nat.zero_add, Nat.zero_le, sizeLine, true_and, and_true, if_true, Ev.eq_int, Ev.eq_str, Ev.eq_bl, Ev.eq_non, lst_nil, tup_nil, List.map_eq_nil_iff, txt_join, rLt, rLe, rGt, rGe, atI_ofNat, atI_last, wLC, strsOf, intsOf, blsOf, Option.map_some, Ev.join_two, Ev.join_one, Ev.join_nil, List.sum_cons, List.sum_nil, PySem.Str.empty_append, ixN_ofNat, Option.some.injEq, exists_eq', List.length_map, decide_true, decide_false, Bool.not_true, Bool.not_false, Bool.true_eq_false, Bool.false_eq_true, false_and, and_false, if_false, ite_true, ite_false, Nat.reduceAdd, Nat.reduceSub, Nat.reduceMul, Nat.reduceLT, Nat.reduceLeDiff, Nat.reduceEqDiff, Nat.reducePow, Int.reduceToNat, Int.reducePow, pickL, List.filterMap_cons, List.filterMap_nil, and_self, Int.reduceLT, Int.reduceLE, Int.reduceNeg, Int.reduceAdd, Int.reduceMul, Int.reduceSub, Int.reduceEq, reduceIte, reduceCtorEq, lit_eq, String.reduceEq, Ev.rEq, Ev.rNe, Ev.rInD, cut_toN, cut_fromN, List.map_take, List.forall_mem_cons, List.forall_mem_nil, List.not_mem_nil, false_imp_iff, implies_true, forall_const, D.cm, D.lay, D.lays, D.dep, D.deps, strOk_lit, lays_ints, deps_ints, Nat.max_self, Nat.max_zero, Nat.zero_max, Bool.and_self, Bool.true_and, Bool.and_true, Bool.and_false, Bool.false_and, Bool.or_false, Bool.or_true, Bool.true_or, Bool.false_or, List.any_cons, List.any_nil, decide_eq_true_eq, eq_self, b__law_some_wishes_x2_0, p__law_some_wishes_x2_0, b__law_some_wishes_x2_1, p__law_some_wishes_x2_1, sp__law_pick, spDraw]
    refine ⟨by omega, fun r r0 r1 => ⟨by omega, by omega, by omega, fun t t0 t1 => ?_⟩⟩
    obtain ⟨n, z, hz, hn⟩ := line_at hls t0 t1
    rw [hz]
    simp only [dSeq, dNext, dSet, dSetF, setSl, dVar, dTake, dC, dBin, dBinF, dB, dIfS, dIf, dRet, dRetN, dExpr, dNil, dCons, dTup, dLst, dFz, dAnd, dOr, dNot, dAndV, dOrV, dNotV, dCallD, dCallK, dCB, dCBF, dFor, dLC, dYes, dRng1, dRng2, dSeqI, gN, gT, gsNil, gsCons, dAsg, dNeg, dJoin, dFs, dJs, dFmt, dApp, dExt, dPop, dPopAt, dOwnIx, dOwnCB, dOwnL, dOwnR, dOwnSl, dSetIx, dSlT, dSlL, oNone, oSome, dBorn, optQ, ownAt, setOwnAt, lookAt, wipeD, dNewDT, dNewDK, dDGet, dDIn, dDPut, dSortT, rSrt, isDict, Ev.dictGet, Ev.dictPut, Option.isSome_none, Option.isSome_some, D.keyT, keysOf, D.key, exists_eq_left', exists_eq_left, Option.isSome, rRepL, rCatL, dNever, dBrk, dCnt, D.flat, rAddD, rSubI, rIO, rMulI, rDivI, rModI, rPowI, rCI, rIxD, rIsN, rNotN, D.isN, rLen, rTuple, rList, rAbs, rInt, rStr, Ev.rRepr, Ev.rIsi, D.ty, kit_tab, startD, endsD, List.map_cons, List.map_nil, List.length_cons, List.length_nil, List.append_nil, List.nil_append, List.cons_append, List.getElem?_cons_zero, List.getElem?_cons_succ, List.getElem?_nil, List.set_cons_zero, List.set_cons_succ, List.replicate, List.replicate_succ, Nat.zero_add, Nat.zero_le, sizeLine, true_and, and_true, if_true, Ev.eq_int, Ev.eq_str, Ev.eq_bl, Ev.eq_non, lst_nil, tup_nil, List.map_eq_nil_iff, txt_join, rLt, rLe, rGt, rGe, atI_ofNat, atI_last, wLC, strsOf, intsOf, blsOf, Option.map_some, Ev.join_two, Ev.join_one, Ev.join_nil, List.sum_cons, List.sum_nil, PySem.Str.empty_append, ixN_ofNat, Option.some.injEq, exists_eq', List.length_map, decide_true, decide_false, Bool.not_true, Bool.not_false, Bool.true_eq_false, Bool.false_eq_true, false_and, and_false, if_false, ite_true, ite_false, Nat.reduceAdd, Nat.reduceSub, Nat.reduceMul, Nat.reduceLT, Nat.reduceLeDiff, Nat.reduceEqDiff, Nat.reducePow, Int.reduceToNat, Int.reducePow, pickL, List.filterMap_cons, List.filterMap_nil, and_self, Int.reduceLT, Int.reduceLE, Int.reduceNeg, Int.reduceAdd, Int.reduceMul, Int.reduceSub, Int.reduceEq, reduceIte, reduceCtorEq, lit_eq, String.reduceEq, Ev.rEq, Ev.rNe, Ev.rInD, cut_toN, cut_fromN, List.map_take, List.forall_mem_cons, List.forall_mem_nil, List.not_mem_nil, false_imp_iff, implies_true, forall_const, D.cm, D.lay, D.lays, D.dep, D.deps, strOk_lit, lays_ints, deps_ints, Nat.max_self, Nat.max_zero, Nat.zero_max, Bool.and_self, Bool.true_and, Bool.and_true, Bool.and_false, Bool.false_and, Bool.or_false, Bool.or_true, Bool.true_or, Bool.false_or, List.any_cons, List.any_nil, decide_eq_true_eq, eq_self, b__law_some_wishes_x2_2, p__law_some_wishes_x2_2, sp__law_some_kinds]
    refine ⟨a, _, kinds8, rfl, rfl, by omega, by decide, by decide, fun _ h => h, fun ks c'' hk hl hc'' => ?_⟩
    have tail : ∀ (ks : List Str) (c'' : Nat), (∀ x ∈ ks, x ∈ kinds8) → ks.length ≤ 8 → c'' ≤ c' + 20 → b__law_some_wishes_x2_4 W0 { nx := k, rt := N.rt, bk := N.nx, ct := k } ⟨[.dat (.raw (.ref a)), .dat (.tup ls), .dat (.int m), .ownT es, .own (ps.map .int), .dat d, .dat (.tup [.int (1 + r), .int n]), .dat (.tup (kinds8.map .str)), .dat (.tup (ks.map .str)), .un], some (a, c'')⟩ := by
      intro ks c'' hk hl hc''
      have so := fun x hx => (kind_ok x (hk x hx)).1
      by_cases hn0 : ks = []
      · simp only [dSeq, dNext, dSet, dSetF, setSl, dVar, dTake, dC, dBin, dBinF, dB, dIfS, dIf, dRet, dRetN, dExpr, dNil, dCons, dTup, dLst, dFz, dAnd, dOr, dNot, dAndV, dOrV, dNotV, dCallD, dCallK, dCB, dCBF, dFor, dLC, dYes, dRng1, dRng2, dSeqI, gN, gT, gsNil, gsCons, dAsg, dNeg, dJoin, dFs, dJs, dFmt, dApp, dExt, dPop, dPopAt, dOwnIx, dOwnCB, dOwnL, dOwnR, dOwnSl, dSetIx, dSlT, dSlL, oNone, oSome, dBorn, optQ, ownAt, setOwnAt, lookAt, wipeD, dNewDT, dNewDK, dDGet, dDIn, dDPut, dSortT, rSrt, isDict, Ev.dictGet, Ev.dictPut, Option.isSome_none, Option.isSome_some, D.keyT, keysOf, D.key, exists_eq_left', exists_eq_left, Option.isSome, rRepL, rCatL, dNever, dBrk, dCnt, D.flat, rAddD, rSubI, rIO, rMulI, rDivI, rModI, rPowI, rCI, rIxD, rIsN, rNotN, D.isN, rLen, rTuple, rList, rAbs, rInt, rStr, Ev.rRepr, Ev.rIsi, D.ty, kit_tab, startD, endsD, List.map_cons, List.map_nil, List.length_cons, List.length_nil, List.append_nil, List.nil_append, List.cons_append, List.getElem?_cons_zero, List.getElem?_cons_succ, List.getElem?_nil, List.set_cons_zero, List.set_cons_succ, List.replicate, List.replicate_succ, Nat.zero_add, Nat.zero_le, sizeLine, true_and, and_true, if_true, Ev.eq_int, Ev.eq_str, Ev.eq_bl, Ev.eq_non, lst_nil, tup_nil, List.map_eq_nil_iff, txt_join, rLt, rLe, rGt, rGe, atI_ofNat, atI_last, wLC, strsOf, intsOf, blsOf, Option.map_some, Ev.join_two, Ev.join_one, Ev.join_nil, List.sum_cons, List.sum_nil, PySem.Str.empty_append, ixN_ofNat, Option.some.injEq, exists_eq', List.length_map, decide_true, decide_false, Bool.not_true, Bool.not_false, Bool.true_eq_false, Bool.false_eq_true, false_and, and_false, if_false, ite_true, ite_false, Nat.reduceAdd, Nat.reduceSub, Nat.reduceMul, Nat.reduceLT, Nat.reduceLeDiff, Nat.reduceEqDiff, Nat.reducePow, Int.reduceToNat, Int.reducePow, pickL, List.filterMap_cons, List.filterMap_nil, and_self, Int.reduceLT, Int.reduceLE, Int.reduceNeg, Int.reduceAdd, Int.reduceMul, Int.reduceSub, Int.reduceEq, reduceIte, reduceCtorEq, lit_eq, String.reduceEq, Ev.rEq, Ev.rNe, Ev.rInD, cut_toN, cut_fromN, List.map_take, List.forall_mem_cons, List.forall_mem_nil, List.not_mem_nil, false_imp_iff, implies_true, forall_const, D.cm, D.lay, D.lays, D.dep, D.deps, strOk_lit, lays_ints, deps_ints, Nat.max_self, Nat.max_zero, Nat.zero_max, Bool.and_self, Bool.true_and, Bool.and_true, Bool.and_false, Bool.false_and, Bool.or_false, Bool.or_true, Bool.true_or, Bool.false_or, List.any_cons, List.any_nil, decide_eq_true_eq, eq_self, b__law_some_wishes_x2_4, p__law_some_wishes_x2_4, lays_strs so, deps_strs, eq_true hn0]
        exact ih es ps _ _ _ _ _ c'' rfl (by omega) h2 (by omega) (by omega)
      · cases hv : valD es [Sum.inl (1 + r), Sum.inl n] with
        | some w =>
          simp only [dSeq, dNext, dSet, dSetF, setSl, dVar, dTake, dC, dBin, dBinF, dB, dIfS, dIf, dRet, dRetN, dExpr, dNil, dCons, dTup, dLst, dFz, dAnd, dOr, dNot, dAndV, dOrV, dNotV, dCallD, dCallK, dCB, dCBF, dFor, dLC, dYes, dRng1, dRng2, dSeqI, gN, gT, gsNil, gsCons, dAsg, dNeg, dJoin, dFs, dJs, dFmt, dApp, dExt, dPop, dPopAt, dOwnIx, dOwnCB, dOwnL, dOwnR, dOwnSl, dSetIx, dSlT, dSlL, oNone, oSome, dBorn, optQ, ownAt, setOwnAt, lookAt, wipeD, dNewDT, dNewDK, dDGet, dDIn, dDPut, dSortT, rSrt, isDict, Ev.dictGet, Ev.dictPut, Option.isSome_none, Option.isSome_some, D.keyT, keysOf, D.key, exists_eq_left', exists_eq_left, Option.isSome, rRepL, rCatL, dNever, dBrk, dCnt, D.flat, rAddD, rSubI, rIO, rMulI, rDivI, rModI, rPowI, rCI, rIxD, rIsN, rNotN, D.isN, rLen, rTuple, rList, rAbs, rInt, rStr, Ev.rRepr, Ev.rIsi, D.ty, kit_tab, startD, endsD, List.map_cons, List.map_nil, List.length_cons, List.length_nil, List.append_nil, List.nil_append, List.cons_append, List.getElem?_cons_zero, List.getElem?_cons_succ, List.getElem?_nil, List.set_cons_zero, List.set_cons_succ, List.replicate, List.replicate_succ, Nat.zero_add, Nat.zero_le, sizeLine, true_and, and_true, if_true, Ev.eq_int, Ev.eq_str, Ev.eq_bl, Ev.eq_non, lst_nil, tup_nil, List.map_eq_nil_iff, txt_join, rLt, rLe, rGt, rGe, atI_ofNat, atI_last, wLC, strsOf, intsOf, blsOf, Option.map_some, Ev.join_two, Ev.join_one, Ev.join_nil, List.sum_cons, List.sum_nil, PySem.Str.empty_append, ixN_ofNat, Option.some.injEq, exists_eq', List.length_map, decide_true, decide_false, Bool.not_true, Bool.not_false, Bool.true_eq_false, Bool.false_eq_true, false_and, and_false, if_false, ite_true, ite_false, Nat.reduceAdd, Nat.reduceSub, Nat.reduceMul, Nat.reduceLT, Nat.reduceLeDiff, Nat.reduceEqDiff, Nat.reducePow, Int.reduceToNat, Int.reducePow, pickL, List.filterMap_cons, List.filterMap_nil, and_self, Int.reduceLT, Int.reduceLE, Int.reduceNeg, Int.reduceAdd, Int.reduceMul, Int.reduceSub, Int.reduceEq, reduceIte, reduceCtorEq, lit_eq, String.reduceEq, Ev.rEq, Ev.rNe, Ev.rInD, cut_toN, cut_fromN, List.map_take, List.forall_mem_cons, List.forall_mem_nil, List.not_mem_nil, false_imp_iff, implies_true, forall_const, D.cm, D.lay, D.lays, D.dep, D.deps, strOk_lit, lays_ints, deps_ints, Nat.max_self, Nat.max_zero, Nat.zero_max, Bool.and_self, Bool.true_and, Bool.and_true, Bool.and_false, Bool.false_and, Bool.or_false, Bool.or_true, Bool.true_or, Bool.false_or, List.any_cons, List.any_nil, decide_eq_true_eq, eq_self, b__law_some_wishes_x2_4, p__law_some_wishes_x2_4, lays_strs so, deps_strs, eq_false hn0, hv]
          exact ih es ps _ _ _ _ _ c'' rfl (by omega) h2 (by omega) (by omega)
        | none =>
          have hz : es.length < 16777216 := by omega
          simp only [dSeq, dNext, dSet, dSetF, setSl, dVar, dTake, dC, dBin, dBinF, dB, dIfS, dIf, dRet, dRetN, dExpr, dNil, dCons, dTup, dLst, dFz, dAnd, dOr, dNot, dAndV, dOrV, dNotV, dCallD, dCallK, dCB, dCBF, dFor, dLC, dYes, dRng1, dRng2, dSeqI, gN, gT, gsNil, gsCons, dAsg, dNeg, dJoin, dFs, dJs, dFmt, dApp, dExt, dPop, dPopAt, dOwnIx, dOwnCB, dOwnL, dOwnR, dOwnSl, dSetIx, dSlT, dSlL, oNone, oSome, dBorn, optQ, ownAt, setOwnAt, lookAt, wipeD, dNewDT, dNewDK, dDGet, dDIn, dDPut, dSortT, rSrt, isDict, Ev.dictGet, Ev.dictPut, Option.isSome_none, Option.isSome_some, D.keyT, keysOf, D.key, exists_eq_left', exists_eq_left, Option.isSome, rRepL, rCatL, dNever, dBrk, dCnt, D.flat, rAddD, rSubI, rIO, rMulI, rDivI, rModI, rPowI, rCI, rIxD, rIsN, rNotN, D.isN, rLen, rTuple, rList, rAbs, rInt, rStr, Ev.rRepr, Ev.rIsi, D.ty, kit_tab, startD, endsD, List.map_cons, List.map_nil, List.length_cons, List.length_nil, List.append_nil, List.nil_append, List.cons_append, List.getElem?_cons_zero, List.getElem?_cons_succ, List.getElem?_nil, List.set_cons_zero, List.set_cons_succ, List.replicate, List.replicate_succ, Nat.zero_add, Nat.zero_le, sizeLine, true_and, and_true, if_true, Ev.eq_int, Ev.eq_str, Ev.eq_bl, Ev.eq_non, lst_nil, tup_nil, List.map_eq_nil_iff, txt_join, rLt, rLe, rGt, rGe, atI_ofNat, atI_last, wLC, strsOf, intsOf, blsOf, Option.map_some, Ev.join_two, Ev.join_one, Ev.join_nil, List.sum_cons, List.sum_nil, PySem.Str.empty_append, ixN_ofNat, Option.some.injEq, exists_eq', List.length_map, decide_true, decide_false, Bool.not_true, Bool.not_false, Bool.true_eq_false, Bool.false_eq_true, false_and, and_false, if_false, ite_true, ite_false, Nat.reduceAdd, Nat.reduceSub, Nat.reduceMul, Nat.reduceLT, Nat.reduceLeDiff, Nat.reduceEqDiff, Nat.reducePow, Int.reduceToNat, Int.reducePow, pickL, List.filterMap_cons, List.filterMap_nil, and_self, Int.reduceLT, Int.reduceLE, Int.reduceNeg, Int.reduceAdd, Int.reduceMul, Int.reduceSub, Int.reduceEq, reduceIte, reduceCtorEq, lit_eq, String.reduceEq, Ev.rEq, Ev.rNe, Ev.rInD, cut_toN, cut_fromN, List.map_take, List.forall_mem_cons, List.forall_mem_nil, List.not_mem_nil, false_imp_iff, implies_true, forall_const, D.cm, D.lay, D.lays, D.dep, D.deps, strOk_lit, lays_ints, deps_ints, Nat.max_self, Nat.max_zero, Nat.zero_max, Bool.and_self, Bool.true_and, Bool.and_true, Bool.and_false, Bool.false_and, Bool.or_false, Bool.or_true, Bool.true_or, Bool.false_or, List.any_cons, List.any_nil, decide_eq_true_eq, eq_self, b__law_some_wishes_x2_4, p__law_some_wishes_x2_4, b__law_some_wishes_x3_0, p__law_some_wishes_x3_0, b__law_some_wishes_x3_1, p__law_some_wishes_x3_1, lays_strs so, deps_strs, eq_false hn0, hv, hz]
          have fine : ∀ (ps' : List Int), ps'.length ≤ ps.length + 1 → k ⟨[.dat (.raw (.ref a)), .dat (.tup ls), .dat (.int m), .ownT (putD es [Sum.inl (1 + r), Sum.inl n] (.tup (ks.map .str))), .own (ps'.map .int), .dat d, .dat (.tup [.int (1 + r), .int n]), .dat (.tup (kinds8.map .str)), .dat (.tup (ks.map .str)), .un], some (a, c'')⟩ := fun ps' hp =>
            ih _ ps' _ _ _ _ _ c'' rfl (by have := putD_len (es := es) (k := [Sum.inl (1 + r), Sum.inl n]) (d := .tup (ks.map .str)); omega) (fun e he => by
              rcases putD_mem he with he | rfl
              · exact h2 e he
              · exact ⟨⟨1 + r, n, rfl, by omega, hn⟩, ⟨ks, rfl, hk, hl⟩⟩) (by omega) (by omega)
          generalize ((ks.map D.str).any fun z => z.eq (D.str (Str.ofString "press"))) = pb
          cases pb with
          | false =>
            have w := fine ps (by omega)
            refine ⟨by decide, by decide, by decide, by simp; omega, ?_⟩
            simpa using w
          | true =>
            have w := fine (ps ++ [n]) (by simp)
            rw [List.map_append] at w
            refine ⟨by decide, by decide, by decide, by simp; omega, ?_⟩
            simpa using w
    have so := fun x hx => (kind_ok x (hk x hx)).1
    have filt : ∀ q : Bool, (match q with
        | true => wLC (gN 9) (dB (dBin rNe (dVar 9) (dC (.str "press")))) (dVar 9) [9] (fun xs δ1 => b__law_some_wishes_x2_4 W0 { nx := k, rt := N.rt, bk := N.nx, ct := k } ⟨δ1.sl.set 8 (.dat (.tup xs)), δ1.pen⟩) (ks.map .str) [] ⟨[.dat (.raw (.ref a)), .dat (.tup ls), .dat (.int m), .ownT es, .own (ps.map .int), .dat d, .dat (.tup [.int (1 + r), .int n]), .dat (.tup (kinds8.map .str)), .dat (.tup (ks.map .str)), .un], some (a, c'')⟩
        | false => b__law_some_wishes_x2_4 W0 { nx := k, rt := N.rt, bk := N.nx, ct := k } ⟨[.dat (.raw (.ref a)), .dat (.tup ls), .dat (.int m), .ownT es, .own (ps.map .int), .dat d, .dat (.tup [.int (1 + r), .int n]), .dat (.tup (kinds8.map .str)), .dat (.tup (ks.map .str)), .un], some (a, c'')⟩) := by
      intro q
      cases q with
      | false => exact tail ks c'' hk hl (by omega)
      | true =>
        refine wLC_filt (l := ks) (ι := D.str) (f := D.str) (t := fun x => !decide (x = Str.ofString "press")) (fun x hx acc kk hz y1 y2 => ?_) (by have : ks.length ≤ 8 := hl; rw [sizeLine_eq]; omega) ?_
        · simp only [dSeq, dNext, dSet, dSetF, setSl, dVar, dTake, dC, dBin, dBinF, dB, dIfS, dIf, dRet, dRetN, dExpr, dNil, dCons, dTup, dLst, dFz, dAnd, dOr, dNot, dAndV, dOrV, dNotV, dCallD, dCallK, dCB, dCBF, dFor, dLC, dYes, dRng1, dRng2, dSeqI, gN, gT, gsNil, gsCons, dAsg, dNeg, dJoin, dFs, dJs, dFmt, dApp, dExt, dPop, dPopAt, dOwnIx, dOwnCB, dOwnL, dOwnR, dOwnSl, dSetIx, dSlT, dSlL, oNone, oSome, dBorn, optQ, ownAt, setOwnAt, lookAt, wipeD, dNewDT, dNewDK, dDGet, dDIn, dDPut, dSortT, rSrt, isDict, Ev.dictGet, Ev.dictPut, Option.isSome_none, Option.isSome_some, D.keyT, keysOf, D.key, exists_eq_left', exists_eq_left, Option.isSome, rRepL, rCatL, dNever, dBrk, dCnt, D.flat, rAddD, rSubI, rIO, rMulI, rDivI, rModI, rPowI, rCI, rIxD, rIsN, rNotN, D.isN, rLen, rTuple, rList, rAbs, rInt, rStr, Ev.rRepr, Ev.rIsi, D.ty, kit_tab, startD, endsD, List.map_cons, List.map_nil, List.length_cons, List.length_nil, List.append_nil, List.nil_append, List.cons_append, List.getElem?_cons_zero, List.getElem?_cons_succ, List.getElem?_nil, List.set_cons_zero, List.set_cons_succ, List.replicate, List.replicate_succ, Nat.zero_add, Nat.zero_le, sizeLine, true_and, and_true, if_true, Ev.eq_int, Ev.eq_str, Ev.eq_bl, Ev.eq_non, lst_nil, tup_nil, List.map_eq_nil_iff, txt_join, rLt, rLe, rGt, rGe, atI_ofNat, atI_last, wLC, strsOf, intsOf, blsOf, Option.map_some, Ev.join_two, Ev.join_one, Ev.join_nil, List.sum_cons, List.sum_nil, PySem.Str.empty_append, ixN_ofNat, Option.some.injEq, exists_eq', List.length_map, decide_true, decide_false, Bool.not_true, Bool.not_false, Bool.true_eq_false, Bool.false_eq_true, false_and, and_false, if_false, ite_true, ite_false, Nat.reduceAdd, Nat.reduceSub, Nat.reduceMul, Nat.reduceLT, Nat.reduceLeDiff, Nat.reduceEqDiff, Nat.reducePow, Int.reduceToNat, Int.reducePow, pickL, List.filterMap_cons, List.filterMap_nil, and_self, Int.reduceLT, Int.reduceLE, Int.reduceNeg, Int.reduceAdd, Int.reduceMul, Int.reduceSub, Int.reduceEq, reduceIte, reduceCtorEq, lit_eq, String.reduceEq, Ev.rEq, Ev.rNe, Ev.rInD, cut_toN, cut_fromN, List.map_take, List.forall_mem_cons, List.forall_mem_nil, List.not_mem_nil, false_imp_iff, implies_true, forall_const, D.cm, D.lay, D.lays, D.dep, D.deps, strOk_lit, lays_ints, deps_ints, Nat.max_self, Nat.max_zero, Nat.zero_max, Bool.and_self, Bool.true_and, Bool.and_true, Bool.and_false, Bool.false_and, Bool.or_false, Bool.or_true, Bool.true_or, Bool.false_or, List.any_cons, List.any_nil, decide_eq_true_eq, eq_self, so x hx]
          by_cases hp : x = Str.ofString "press"
          · simp only [dSeq, dNext, dSet, dSetF, setSl, dVar, dTake, dC, dBin, dBinF, dB, dIfS, dIf, dRet, dRetN, dExpr, dNil, dCons, dTup, dLst, dFz, dAnd, dOr, dNot, dAndV, dOrV, dNotV, dCallD, dCallK, dCB, dCBF, dFor, dLC, dYes, dRng1, dRng2, dSeqI, gN, gT, gsNil, gsCons, dAsg, dNeg, dJoin, dFs, dJs, dFmt, dApp, dExt, dPop, dPopAt, dOwnIx, dOwnCB, dOwnL, dOwnR, dOwnSl, dSetIx, dSlT, dSlL, oNone, oSome, dBorn, optQ, ownAt, setOwnAt, lookAt, wipeD, dNewDT, dNewDK, dDGet, dDIn, dDPut, dSortT, rSrt, isDict, Ev.dictGet, Ev.dictPut, Option.isSome_none, Option.isSome_some, D.keyT, keysOf, D.key, exists_eq_left', exists_eq_left, Option.isSome, rRepL, rCatL, dNever, dBrk, dCnt, D.flat, rAddD, rSubI, rIO, rMulI, rDivI, rModI, rPowI, rCI, rIxD, rIsN, rNotN, D.isN, rLen, rTuple, rList, rAbs, rInt, rStr, Ev.rRepr, Ev.rIsi, D.ty, kit_tab, startD, endsD, List.map_cons, List.map_nil, List.length_cons, List.length_nil, List.append_nil, List.nil_append, List.cons_append, List.getElem?_cons_zero, List.getElem?_cons_succ, List.getElem?_nil, List.set_cons_zero, List.set_cons_succ, List.replicate, List.replicate_succ, Nat.zero_add, Nat.zero_le, sizeLine, true_and, and_true, if_true, Ev.eq_int, Ev.eq_str, Ev.eq_bl, Ev.eq_non, lst_nil, tup_nil, List.map_eq_nil_iff, txt_join, rLt, rLe, rGt, rGe, atI_ofNat, atI_last, wLC, strsOf, intsOf, blsOf, Option.map_some, Ev.join_two, Ev.join_one, Ev.join_nil, List.sum_cons, List.sum_nil, PySem.Str.empty_append, ixN_ofNat, Option.some.injEq, exists_eq', List.length_map, decide_true, decide_false, Bool.not_true, Bool.not_false, Bool.true_eq_false, Bool.false_eq_true, false_and, and_false, if_false, ite_true, ite_false, Nat.reduceAdd, Nat.reduceSub, Nat.reduceMul, Nat.reduceLT, Nat.reduceLeDiff, Nat.reduceEqDiff, Nat.reducePow, Int.reduceToNat, Int.reducePow, pickL, List.filterMap_cons, List.filterMap_nil, and_self, Int.reduceLT, Int.reduceLE, Int.reduceNeg, Int.reduceAdd, Int.reduceMul, Int.reduceSub, Int.reduceEq, reduceIte, reduceCtorEq, lit_eq, String.reduceEq, Ev.rEq, Ev.rNe, Ev.rInD, cut_toN, cut_fromN, List.map_take, List.forall_mem_cons, List.forall_mem_nil, List.not_mem_nil, false_imp_iff, implies_true, forall_const, D.cm, D.lay, D.lays, D.dep, D.deps, strOk_lit, lays_ints, deps_ints, Nat.max_self, Nat.max_zero, Nat.zero_max, Bool.and_self, Bool.true_and, Bool.and_true, Bool.and_false, Bool.false_and, Bool.or_false, Bool.or_true, Bool.true_or, Bool.false_or, List.any_cons, List.any_nil, decide_eq_true_eq, eq_self, hp]
            exact y2 (by simp [hp])
          · simp only [dSeq, dNext, dSet, dSetF, setSl, dVar, dTake, dC, dBin, dBinF, dB, dIfS, dIf, dRet, dRetN, dExpr, dNil, dCons, dTup, dLst, dFz, dAnd, dOr, dNot, dAndV, dOrV, dNotV, dCallD, dCallK, dCB, dCBF, dFor, dLC, dYes, dRng1, dRng2, dSeqI, gN, gT, gsNil, gsCons, dAsg, dNeg, dJoin, dFs, dJs, dFmt, dApp, dExt, dPop, dPopAt, dOwnIx, dOwnCB, dOwnL, dOwnR, dOwnSl, dSetIx, dSlT, dSlL, oNone, oSome, dBorn, optQ, ownAt, setOwnAt, lookAt, wipeD, dNewDT, dNewDK, dDGet, dDIn, dDPut, dSortT, rSrt, isDict, Ev.dictGet, Ev.dictPut, Option.isSome_none, Option.isSome_some, D.keyT, keysOf, D.key, exists_eq_left', exists_eq_left, Option.isSome, rRepL, rCatL, dNever, dBrk, dCnt, D.flat, rAddD, rSubI, rIO, rMulI, rDivI, rModI, rPowI, rCI, rIxD, rIsN, rNotN, D.isN, rLen, rTuple, rList, rAbs, rInt, rStr, Ev.rRepr, Ev.rIsi, D.ty, kit_tab, startD, endsD, List.map_cons, List.map_nil, List.length_cons, List.length_nil, List.append_nil, List.nil_append, List.cons_append, List.getElem?_cons_zero, List.getElem?_cons_succ, List.getElem?_nil, List.set_cons_zero, List.set_cons_succ, List.replicate, List.replicate_succ, Nat.zero_add, Nat.zero_le, sizeLine, true_and, and_true, if_true, Ev.eq_int, Ev.eq_str, Ev.eq_bl, Ev.eq_non, lst_nil, tup_nil, List.map_eq_nil_iff, txt_join, rLt, rLe, rGt, rGe, atI_ofNat, atI_last, wLC, strsOf, intsOf, blsOf, Option.map_some, Ev.join_two, Ev.join_one, Ev.join_nil, List.sum_cons, List.sum_nil, PySem.Str.empty_append, ixN_ofNat, Option.some.injEq, exists_eq', List.length_map, decide_true, decide_false, Bool.not_true, Bool.not_false, Bool.true_eq_false, Bool.false_eq_true, false_and, and_false, if_false, ite_true, ite_false, Nat.reduceAdd, Nat.reduceSub, Nat.reduceMul, Nat.reduceLT, Nat.reduceLeDiff, Nat.reduceEqDiff, Nat.reducePow, Int.reduceToNat, Int.reducePow, pickL, List.filterMap_cons, List.filterMap_nil, and_self, Int.reduceLT, Int.reduceLE, Int.reduceNeg, Int.reduceAdd, Int.reduceMul, Int.reduceSub, Int.reduceEq, reduceIte, reduceCtorEq, lit_eq, String.reduceEq, Ev.rEq, Ev.rNe, Ev.rInD, cut_toN, cut_fromN, List.map_take, List.forall_mem_cons, List.forall_mem_nil, List.not_mem_nil, false_imp_iff, implies_true, forall_const, D.cm, D.lay, D.lays, D.dep, D.deps, strOk_lit, lays_ints, deps_ints, Nat.max_self, Nat.max_zero, Nat.zero_max, Bool.and_self, Bool.true_and, Bool.and_true, Bool.and_false, Bool.false_and, Bool.or_false, Bool.or_true, Bool.true_or, Bool.false_or, List.any_cons, List.any_nil, decide_eq_true_eq, eq_self, hp]
            exact ⟨hz, y1 (by simp [hp])⟩
        · exact tail _ c'' (fun x hx => hk x (List.mem_filter.mp hx).1) (Nat.le_trans (List.length_filter_le _ _) hl) (by omega)
    subst e9
    simp only [dSeq, dNext, dSet, dSetF, setSl, dVar, dTake, dC, dBin, dBinF, dB, dIfS, dIf, dRet, dRetN, dExpr, dNil, dCons, dTup, dLst, dFz, dAnd, dOr, dNot, dAndV, dOrV, dNotV, dCallD, dCallK, dCB, dCBF, dFor, dLC, dYes, dRng1, dRng2, dSeqI, gN, gT, gsNil, gsCons, dAsg, dNeg, dJoin, dFs, dJs, dFmt, dApp, dExt, dPop, dPopAt, dOwnIx, dOwnCB, dOwnL, dOwnR, dOwnSl, dSetIx, dSlT, dSlL, oNone, oSome, dBorn, optQ, ownAt, setOwnAt, lookAt, wipeD, dNewDT, dNewDK, dDGet, dDIn, dDPut, dSortT, rSrt, isDict, Ev.dictGet, Ev.dictPut, Option.isSome_none, Option.isSome_some, D.keyT, keysOf, D.key, exists_eq_left', exists_eq_left, Option.isSome, rRepL, rCatL, dNever, dBrk, dCnt, D.flat, rAddD, rSubI, rIO, rMulI, rDivI, rModI, rPowI, rCI, rIxD, rIsN, rNotN, D.isN, rLen, rTuple, rList, rAbs, rInt, rStr, Ev.rRepr, Ev.rIsi, D.ty, kit_tab, startD, endsD, List.map_cons, List.map_nil, List.length_cons, List.length_nil, List.append_nil, List.nil_append, List.cons_append, List.getElem?_cons_zero, List.getElem?_cons_succ, List.getElem?_nil, List.set_cons_zero, List.set_cons_succ, List.replicate, List.replicate_succ, Nat.zero_add, Nat.zero_le, sizeLine, true_and, and_true, if_true, Ev.eq_int, Ev.eq_str, Ev.eq_bl, Ev.eq_non, lst_nil, tup_nil, List.map_eq_nil_iff, txt_join, rLt, rLe, rGt, rGe, atI_ofNat, atI_last, wLC, strsOf, intsOf, blsOf, Option.map_some, Ev.join_two, Ev.join_one, Ev.join_nil, List.sum_cons, List.sum_nil, PySem.Str.empty_append, ixN_ofNat, Option.some.injEq, exists_eq', List.length_map, decide_true, decide_false, Bool.not_true, Bool.not_false, Bool.true_eq_false, Bool.false_eq_true, false_and, and_false, if_false, ite_true, ite_false, Nat.reduceAdd, Nat.reduceSub, Nat.reduceMul, Nat.reduceLT, Nat.reduceLeDiff, Nat.reduceEqDiff, Nat.reducePow, Int.reduceToNat, Int.reducePow, pickL, List.filterMap_cons, List.filterMap_nil, and_self, Int.reduceLT, Int.reduceLE, Int.reduceNeg, Int.reduceAdd, Int.reduceMul, Int.reduceSub, Int.reduceEq, reduceIte, reduceCtorEq, lit_eq, String.reduceEq, Ev.rEq, Ev.rNe, Ev.rInD, cut_toN, cut_fromN, List.map_take, List.forall_mem_cons, List.forall_mem_nil, List.not_mem_nil, false_imp_iff, implies_true, forall_const, D.cm, D.lay, D.lays, D.dep, D.deps, strOk_lit, lays_ints, deps_ints, Nat.max_self, Nat.max_zero, Nat.zero_max, Bool.and_self, Bool.true_and, Bool.and_true, Bool.and_false, Bool.false_and, Bool.or_false, Bool.or_true, Bool.true_or, Bool.false_or, List.any_cons, List.any_nil, decide_eq_true_eq, eq_self, b__law_some_wishes_x2_3, p__law_some_wishes_x2_3]
    split
    · exact filt true
    split
    · exact filt true
    · exact filt false
def pairK (p : Int × Int) : D := .tup [.int p.1, .int p.2]
def strsD : D → List Str
  | .tup ds => ds.filterMap fun d => match d with | .str s => some s | _ => none
  | _ => []
theorem strsD_tup (ks : List Str) : strsD (.tup (ks.map .str)) = ks := by
  show (ks.map D.str).filterMap _ = ks
  rw [List.filterMap_map]
  exact List.filterMap_some
theorem pairs_ok {l : List (Int × Int)} (hl : l.length ≤ sizeLine) : srtOk (l.map pairK) := by
  refine ⟨lays_map fun a _ => rfl, fun d hd => ?_, ?_, ?_, by simpa using hl⟩
  · obtain ⟨a, _, rfl⟩ := List.mem_map.mp hd
    show 1 ≤ 64
    decide
  · rw [List.map_map]
    exact PySem.W.AllAlike.of fun a b => by simp [pairK, D.py, D.pys, PySem.W.alike, PySem.W.alikeAll]
  · rw [List.map_map]
    exact PySem.W.Sortable.tuples fun a => ⟨.int a.1, [.int a.2], by simp [pairK, D.py, D.pys]⟩
theorem hsp__law_some_wishes : ∀ ds p Q W, ds.length = 3 → sp__law_some_wishes ds p Q W → b__law_some_wishes W0 (endsD Q) (startD n__law_some_wishes.length ds p) := by
  rintro _ _ Q W - ⟨a, c, ls, m, rfl, rfl, hc, n0, nl, hls, m0, m12, q⟩
  simp only [dSeq, dNext, dSet, dSetF, setSl, dVar, dTake, dC, dBin, dBinF, dB, dIfS, dIf, dRet, dRetN, dExpr, dNil, dCons, dTup, dLst, dFz, dAnd, dOr, dNot, dAndV, dOrV, dNotV, dCallD, dCallK, dCB, dCBF, dFor, dLC, dYes, dRng1, dRng2, dSeqI, gN, gT, gsNil, gsCons, dAsg, dNeg, dJoin, dFs, dJs, dFmt, dApp, dExt, dPop, dPopAt, dOwnIx, dOwnCB, dOwnL, dOwnR, dOwnSl, dSetIx, dSlT, dSlL, oNone, oSome, dBorn, optQ, ownAt, setOwnAt, lookAt, wipeD, dNewDT, dNewDK, dDGet, dDIn, dDPut, dSortT, rSrt, isDict, Ev.dictGet, Ev.dictPut, Option.isSome_none, Option.isSome_some, D.keyT, keysOf, D.key, exists_eq_left', exists_eq_left, Option.isSome, rRepL, rCatL, dNever, dBrk, dCnt, D.flat, rAddD, rSubI, rIO, rMulI, rDivI, rModI, rPowI, rCI, rIxD, rIsN, rNotN, D.isN, rLen, rTuple, rList, rAbs, rInt, rStr, Ev.rRepr, Ev.rIsi, D.ty, kit_tab, startD, endsD, List.map_cons, List.map_nil, List.length_cons, List.length_nil, List.append_nil, List.nil_append, List.cons_append, List.getElem?_cons_zero, List.getElem?_cons_succ, List.getElem?_nil, List.set_cons_zero, List.set_cons_succ, List.replicate, List.replicate_succ, Nat.zero_add, Nat.zero_le, sizeLine, true_and, and_true, if_true, Ev.eq_int, Ev.eq_str, Ev.eq_bl, Ev.eq_non, lst_nil, tup_nil, List.map_eq_nil_iff, txt_join, rLt, rLe, rGt, rGe, atI_ofNat, atI_last, wLC, strsOf, intsOf, blsOf, Option.map_some, Ev.join_two, Ev.join_one, Ev.join_nil, List.sum_cons, List.sum_nil, PySem.Str.empty_append, ixN_ofNat, Option.some.injEq, exists_eq', List.length_map, decide_true, decide_false, Bool.not_true, Bool.not_false, Bool.true_eq_false, Bool.false_eq_true, false_and, and_false, if_false, ite_true, ite_false, Nat.reduceAdd, Nat.reduceSub, Nat.reduceMul, Nat.reduceLT, Nat.reduceLeDiff, Nat.reduceEqDiff, Nat.reducePow, Int.reduceToNat, Int.reducePow, pickL, List.filterMap_cons, List.filterMap_nil, and_self, Int.reduceLT, Int.reduceLE, Int.reduceNeg, Int.reduceAdd, Int.reduceMul, Int.reduceSub, Int.reduceEq, reduceIte, reduceCtorEq, lit_eq, String.reduceEq, Ev.rEq, Ev.rNe, Ev.rInD, cut_toN, cut_fromN, List.map_take, List.forall_mem_cons, List.forall_mem_nil, List.not_mem_nil, false_imp_iff, implies_true, forall_const, D.cm, D.lay, D.lays, D.dep, D.deps, strOk_lit, lays_ints, deps_ints, Nat.max_self, Nat.max_zero, Nat.zero_max, Bool.and_self, Bool.true_and, Bool.and_true, Bool.and_false, Bool.false_and, Bool.or_false, Bool.or_true, Bool.true_or, Bool.false_or, List.any_cons, List.any_nil, decide_eq_true_eq, eq_self, n__law_some_wishes, b__law_some_wishes, b__law_some_wishes_0, p__law_some_wishes_0, b__law_some_wishes_1, p__law_some_wishes_1, b__law_some_wishes_2, p__law_some_wishes_2]
  refine ⟨by omega, by omega, ?_⟩
  refine loop_wishes (ps := []) (c0 := c) hc n0 nl hls (fun es ps s5 s6 s7 s8 s9 c' h1 h2 h3 => ?_) _ [] _ _ _ _ _ _ rfl (by rw [intsFrom_len]; simp; omega) (by simp) (by rw [intsFrom_len]; simp; omega) (by rw [intsFrom_len]; omega)
  -- the keys, as pairs
  obtain ⟨ks, ek, hks⟩ : ∃ ks : List (Int × Int), keyD es = ks.map pairK ∧ ∀ k ∈ ks, [Sum.inl k.1, Sum.inl k.2] ∈ es.map (·.1) := by
    clear h1
    unfold keyD
    induction es with
    | nil => exact ⟨[], rfl, by simp⟩
    | cons e es ih =>
      obtain ⟨ks, e1, e2⟩ := ih fun x hx => h2 x (List.mem_cons_of_mem _ hx)
      obtain ⟨x, y, e3, _⟩ := (h2 e List.mem_cons_self).k
      refine ⟨(x, y) :: ks, ?_, fun k hk => ?_⟩
      · rw [List.map_cons, List.map_cons, e1, e3]; rfl
      · rw [List.map_cons]
        rcases List.mem_cons.mp hk with rfl | hk
        · rw [e3]; exact List.mem_cons_self
        · exact List.mem_cons_of_mem _ (e2 k hk)
  have kl : ks.length = es.length := by
    have := congrArg List.length ek
    simpa [keyD] using this.symm
  have so : srtOk (keyD es) := by rw [ek]; exact pairs_ok (by rw [sizeLine_eq]; omega)
  obtain ⟨l, el, hl, ll⟩ := sortD_form (f := pairK) (l := ks)
  have ent : ∀ k ∈ l, ∃ ss : List Str, valD es [Sum.inl k.1, Sum.inl k.2] = some (.tup (ss.map .str)) ∧ rowOk (k.1, k.2, ss) := fun k hk => by
    obtain ⟨d, e1, e2⟩ := valD_some (hks k (hl k hk))
    obtain ⟨⟨x, y, e3, hx, hy⟩, ss, e4, hs, hsl⟩ := h2 _ e2
    simp only [List.cons.injEq, Sum.inl.injEq, and_true] at e3
    exact ⟨ss, by rw [e1, ← e4], ⟨by rw [e3.1]; exact hx, by rw [e3.2]; exact hy, hs, hsl⟩⟩
  unfold wishS
  simp only [dSeq, dNext, dSet, dSetF, setSl, dVar, dTake, dC, dBin, dBinF, dB, dIfS, dIf, dRet, dRetN, dExpr, dNil, dCons, dTup, dLst, dFz, dAnd, dOr, dNot, dAndV, dOrV, dNotV, dCallD, dCallK, dCB, dCBF, dFor, dLC, dYes, dRng1, dRng2, dSeqI, gN, gT, gsNil, gsCons, dAsg, dNeg, dJoin, dFs, dJs, dFmt, dApp, dExt, dPop, dPopAt, dOwnIx, dOwnCB, dOwnL, dOwnR, dOwnSl, dSetIx, dSlT, dSlL, oNone, oSome, dBorn, optQ, ownAt, setOwnAt, lookAt, wipeD, dNewDT, dNewDK, dDGet, dDIn, dDPut, dSortT, rSrt, isDict, Ev.dictGet, Ev.dictPut, Option.isSome_none, Option.isSome_some, D.keyT, keysOf, D.key, exists_eq_left', exists_eq_left, Option.isSome, rRepL, rCatL, dNever, dBrk, dCnt, D.flat, rAddD, rSubI, rIO, rMulI, rDivI, rModI, rPowI, rCI, rIxD, rIsN, rNotN, D.isN, rLen, rTuple, rList, rAbs, rInt, rStr, Ev.rRepr, Ev.rIsi, D.ty, kit_tab, startD, endsD, List.map_cons, List.map_nil, List.length_cons, List.length_nil, List.append_nil, List.nil_append, List.cons_append, List.getElem?_cons_zero, List.getElem?_cons_succ, List.getElem?_nil, List.set_cons_zero, List.set_cons_succ, List.replicate, List.replicate_succ, Nat.zero_add, Nat.zero_le, sizeLine, true_and, and_true, if_true, Ev.eq_int, Ev.eq_str, Ev.eq_bl, Ev.eq_non, lst_nil, tup_nil, List.map_eq_nil_iff, txt_join, rLt, rLe, rGt, rGe, atI_ofNat, atI_last, wLC, strsOf, intsOf, blsOf, Option.map_some, Ev.join_two, Ev.join_one, Ev.join_nil, List.sum_cons, List.sum_nil, PySem.Str.empty_append, ixN_ofNat, Option.some.injEq, exists_eq', List.length_map, decide_true, decide_false, Bool.not_true, Bool.not_false, Bool.true_eq_false, Bool.false_eq_true, false_and, and_false, if_false, ite_true, ite_false, Nat.reduceAdd, Nat.reduceSub, Nat.reduceMul, Nat.reduceLT, Nat.reduceLeDiff, Nat.reduceEqDiff, Nat.reducePow, Int.reduceToNat, Int.reducePow, pickL, List.filterMap_cons, List.filterMap_nil, and_self, Int.reduceLT, Int.reduceLE, Int.reduceNeg, Int.reduceAdd, Int.reduceMul, Int.reduceSub, Int.reduceEq, reduceIte, reduceCtorEq, lit_eq, String.reduceEq, Ev.rEq, Ev.rNe, Ev.rInD, cut_toN, cut_fromN, List.map_take, List.forall_mem_cons, List.forall_mem_nil, List.not_mem_nil, false_imp_iff, implies_true, forall_const, D.cm, D.lay, D.lays, D.dep, D.deps, strOk_lit, lays_ints, deps_ints, Nat.max_self, Nat.max_zero, Nat.zero_max, Bool.and_self, Bool.true_and, Bool.and_true, Bool.and_false, Bool.false_and, Bool.or_false, Bool.or_true, Bool.true_or, Bool.false_or, List.any_cons, List.any_nil, decide_eq_true_eq, eq_self, b__law_some_wishes_3, p__law_some_wishes_3]
  refine ⟨so, ?_⟩
  rw [ek, el]
  refine wLC_maps (l := l) (ι := pairK) (f := fun k => rowD (k.1, k.2, strsD ((valD es [Sum.inl k.1, Sum.inl k.2]).getD .non))) (fun k hk acc kk hz y => ?_) (by rw [sizeLine_eq]; omega) ?_
  · obtain ⟨ss, e1, ok⟩ := ent k hk
    simp only [dSeq, dNext, dSet, dSetF, setSl, dVar, dTake, dC, dBin, dBinF, dB, dIfS, dIf, dRet, dRetN, dExpr, dNil, dCons, dTup, dLst, dFz, dAnd, dOr, dNot, dAndV, dOrV, dNotV, dCallD, dCallK, dCB, dCBF, dFor, dLC, dYes, dRng1, dRng2, dSeqI, gN, gT, gsNil, gsCons, dAsg, dNeg, dJoin, dFs, dJs, dFmt, dApp, dExt, dPop, dPopAt, dOwnIx, dOwnCB, dOwnL, dOwnR, dOwnSl, dSetIx, dSlT, dSlL, oNone, oSome, dBorn, optQ, ownAt, setOwnAt, lookAt, wipeD, dNewDT, dNewDK, dDGet, dDIn, dDPut, dSortT, rSrt, isDict, Ev.dictGet, Ev.dictPut, Option.isSome_none, Option.isSome_some, D.keyT, keysOf, D.key, exists_eq_left', exists_eq_left, Option.isSome, rRepL, rCatL, dNever, dBrk, dCnt, D.flat, rAddD, rSubI, rIO, rMulI, rDivI, rModI, rPowI, rCI, rIxD, rIsN, rNotN, D.isN, rLen, rTuple, rList, rAbs, rInt, rStr, Ev.rRepr, Ev.rIsi, D.ty, kit_tab, startD, endsD, List.map_cons, List.map_nil, List.length_cons, List.length_nil, List.append_nil, List.nil_append, List.cons_append, List.getElem?_cons_zero, List.getElem?_cons_succ, List.getElem?_nil, List.set_cons_zero, List.set_cons_succ, List.replicate, List.replicate_succ, Nat.zero_add, Nat.zero_le, sizeLine, true_and, and_true, if_true, Ev.eq_int, Ev.eq_str, Ev.eq_bl, Ev.eq_non, lst_nil, tup_nil, List.map_eq_nil_iff, txt_join, rLt, rLe, rGt, rGe, atI_ofNat, atI_last, wLC, strsOf, intsOf, blsOf, Option.map_some, Ev.join_two, Ev.join_one, Ev.join_nil, List.sum_cons, List.sum_nil, PySem.Str.empty_append, ixN_ofNat, Option.some.injEq, exists_eq', List.length_map, decide_true, decide_false, Bool.not_true, Bool.not_false, Bool.true_eq_false, Bool.false_eq_true, false_and, and_false, if_false, ite_true, ite_false, Nat.reduceAdd, Nat.reduceSub, Nat.reduceMul, Nat.reduceLT, Nat.reduceLeDiff, Nat.reduceEqDiff, Nat.reducePow, Int.reduceToNat, Int.reducePow, pickL, List.filterMap_cons, List.filterMap_nil, and_self, Int.reduceLT, Int.reduceLE, Int.reduceNeg, Int.reduceAdd, Int.reduceMul, Int.reduceSub, Int.reduceEq, reduceIte, reduceCtorEq, lit_eq, String.reduceEq, Ev.rEq, Ev.rNe, Ev.rInD, cut_toN, cut_fromN, List.map_take, List.forall_mem_cons, List.forall_mem_nil, List.not_mem_nil, false_imp_iff, implies_true, forall_const, D.cm, D.lay, D.lays, D.dep, D.deps, strOk_lit, lays_ints, deps_ints, Nat.max_self, Nat.max_zero, Nat.zero_max, Bool.and_self, Bool.true_and, Bool.and_true, Bool.and_false, Bool.false_and, Bool.or_false, Bool.or_true, Bool.true_or, Bool.false_or, List.any_cons, List.any_nil, decide_eq_true_eq, eq_self, pairK, e1]
    rw [e1] at y
    have w : strsD ((some (D.tup (ss.map D.str))).getD .non) = ss := strsD_tup ss
    rw [w] at y
    exact ⟨hz, y⟩
  · have w := q (l.map fun k => (k.1, k.2, strsD ((valD es [Sum.inl k.1, Sum.inl k.2]).getD .non))) c' (by rw [List.length_map]; omega) (fun r hr => by
      obtain ⟨k, hk, rfl⟩ := List.mem_map.mp hr
      obtain ⟨ss, e1, ok⟩ := ent k hk
      show rowOk (k.1, k.2, strsD ((valD es [Sum.inl k.1, Sum.inl k.2]).getD .non))
      rw [e1]
      have w : strsD ((some (D.tup (ss.map D.str))).getD .non) = ss := strsD_tup ss
      rw [w]; exact ok) h3
    rw [List.map_map] at w
    exact w
theorem ok__law_some_wishes {P : Program} {w : World} {K : PySem.W.Frag} {mg : Str → Option Value} {base : Heap} (m_int : mg "int" = none) (m_len : mg "len" = none) (m_range : mg "range" = none) (m_sorted : mg "sorted" = none) (m_tuple : mg "tuple" = none) (K__law_pick_2 : Def P w K mg base 1 "_law_pick" 2 sp__law_pick []) (K__law_some_kinds_2 : Def P w K mg base 2 "_law_some_kinds" 2 sp__law_some_kinds []) {f : Addr} {fd : FuncData} (F : Fun K "_law_some_wishes" "_law_some_wishes" s__law_some_wishes f fd) : FnG P w K mg base CX0 3 f fd ["_law_pen_here", "_law_web", "_law_many"] (spD K 3 sp__law_some_wishes) :=
 fn_d0 F sc__law_some_wishes rfl (fun cdv A out s H E g r => run__law_some_wishes m_int m_len m_range m_sorted m_tuple K__law_pick_2 K__law_some_kinds_2 cdv A out s H E g r) hsp__law_some_wishes
end Ev33

namespace Ev33
open PySem PySem.Spec PyProof.Rows L2 Ev
def sp__law_all_wishes : dSp := fun ds p Q _ => ∃ a c ls, ds = [.raw (.ref a), .tup ls] ∧ p = some (a, c) ∧ c + 600 < 65536 ∧ ls ≠ [] ∧ ls.length ≤ 10 ∧ (∀ d ∈ ls, lineOk d) ∧
  ∀ (rows : List Row) (c' : Nat), rows.length ≤ 40 → (∀ r ∈ rows, rowOk r) → c' ≤ c + 600 → Q (.tup (rows.map rowD)) (some (a, c'))
abbrev s__law_all_wishes : Stmt := topS 10
abbrev n__law_all_wishes : List Str := ["_law_pen_here", "_law_web", "_law_found", "_law_asker", "_law_row", "_law_kinds"]
theorem sc__law_all_wishes : FnScope n__law_all_wishes ["_law_pen_here", "_law_web"] (defScope s__law_all_wishes) := ⟨rfl, rfl, rfl, by decide +kernel, rfl, by decide +kernel, by decide +kernel⟩
def p__law_all_wishes_x2_0 : dS := (dSet 5 (dCallD 2 [] sp__law_some_kinds (dCons (dVar 0) (dCons (dTup (dCons (dC (.str "enter")) (dCons (dC (.str "exposed")) (dCons (dC (.str "focus")) (dCons (dC (.str "key")) (dCons (dC (.str "leave")) (dCons (dC (.str "motion")) (dCons (dC (.str "release")) dNil)))))))) dNil))))
def p__law_all_wishes_x2_1 : dS := (dIfS (dAnd (dB (dBin (rEq) (dBin rAddD (dBin rModI (dBin rIxD (dVar 4) (dC (.int 0))) (dC (.int 4))) (dC (.int 1))) (dVar 3))) (dB (dBin (rEq) (dCallD 2 [] sp__law_pick (dCons (dVar 0) (dCons (dC (.int 2)) dNil))) (dC (.int 0))))) (dSet 5 (dCB rTuple (dCons (dFz (dCBF rSrt (dCons (dBin rAddD (dVar 5) (dTup (dCons (dC (.str "press")) dNil))) dNil))) dNil))) dNext)
def p__law_all_wishes_x2_2 : dS := (dApp 2 (dTup (dCons (dVar 3) (dCons (dBin rIxD (dVar 4) (dC (.int 0))) (dCons (dVar 5) dNil)))))
def b__law_all_wishes_x2_2 : dS := p__law_all_wishes_x2_2
def b__law_all_wishes_x2_1 : dS := dSeq p__law_all_wishes_x2_1 b__law_all_wishes_x2_2
def b__law_all_wishes_x2_0 : dS := dSeq p__law_all_wishes_x2_0 b__law_all_wishes_x2_1
def p__law_all_wishes_0 : dS := (dSetF 2 (dLst dNil))
def p__law_all_wishes_1 : dS := (dFor (dSeqI (dTup (dCons (dC (.int 1)) (dCons (dC (.int 2)) (dCons (dC (.int 3)) (dCons (dC (.int 4)) dNil)))))) (gN 3) (dFor (dSeqI (dVar 1)) (gN 4) b__law_all_wishes_x2_0))
def p__law_all_wishes_2 : dS := (dRet (dCB rTuple (dCons (dFz (dCBF rSrt (dCons (dTake 2) dNil))) dNil)))
def b__law_all_wishes_2 : dS := p__law_all_wishes_2
def b__law_all_wishes_1 : dS := dSeq p__law_all_wishes_1 b__law_all_wishes_2
def b__law_all_wishes_0 : dS := dSeq p__law_all_wishes_0 b__law_all_wishes_1
def b__law_all_wishes : dS := b__law_all_wishes_0
theorem run__law_all_wishes {P : Program} {w : World} {K : PySem.W.Frag} {mg : Str → Option Value} {base : Heap} (m_sorted : mg "sorted" = none) (m_tuple : mg "tuple" = none) (K__law_pick_2 : Def P w K mg base 1 "_law_pick" 2 sp__law_pick []) (K__law_some_kinds_2 : Def P w K mg base 2 "_law_some_kinds" 2 sp__law_some_kinds []) {f : Addr} (cdv : Value) (A : Around) (out : List Env) (s : Shared) (H : Hp) (E : XK) (g : A.guards = some []) (hrA : Room 2 (A.deeper (envOfC "_law_all_wishes" (defScope s__law_all_wishes) s.heap.objs.size f cdv))) :
  DSs (cx0 P w K mg base n__law_all_wishes "_law_all_wishes" (defScope s__law_all_wishes) f cdv A out s H E) E00 (defBody s__law_all_wishes) b__law_all_wishes := by
 have hgA : (A.deeper (envOfC "_law_all_wishes" (defScope s__law_all_wishes) s.heap.objs.size f cdv)).guards = some [] := g
 have hun := hrA.un
 exact (dss_cons (t := p__law_all_wishes_0) (u := b__law_all_wishes_1) (ds_setF (i := 2) sc__law_all_wishes.nd rfl (by first | exact .inl rfl | exact .inr rfl) (df_lst da_nil))
  (dss_cons (t := p__law_all_wishes_1) (u := b__law_all_wishes_2) (ds_for PassesOwn.never rfl (di_seq (de_tup (da_cons de_int (da_cons de_int (da_cons de_int (da_cons de_int da_nil)))))) (dg_name (pg_name (i := 3) sc__law_all_wishes.nd rfl (by first | exact .inl rfl | exact .inr rfl))) (dss_one (ds_for PassesOwn.never rfl (di_seq (de_var (pv 1))) (dg_name (pg_name (i := 4) sc__law_all_wishes.nd rfl (by first | exact .inl rfl | exact .inr rfl))) (dss_cons (t := p__law_all_wishes_x2_0) (u := b__law_all_wishes_x2_1) (ds_set (i := 5) sc__law_all_wishes.nd rfl (by first | exact .inl rfl | exact .inr rfl) (de_callD K__law_some_kinds_2 hgA hrA (by rfl) (da_cons (de_var (pv 0)) (da_cons (de_tup (da_cons de_str (da_cons de_str (da_cons de_str (da_cons de_str (da_cons de_str (da_cons de_str (da_cons de_str da_nil)))))))) da_nil))))
  (dss_cons (t := p__law_all_wishes_x2_1) (u := b__law_all_wishes_x2_2) (ds_if ((dw_and (dt_cmp (od_eq (Nat.lt_of_le_of_lt (Nat.add_le_add_left (by decide) _) hun)) (de_op od_add (de_op od_mod (de_ix (de_var (pv 4)) de_int (fun _ _ => rfl)) de_int) de_int) (de_var (pv 3)) (nomark _)) (dw_and1 (dt_cmp (od_eq (Nat.lt_of_le_of_lt (Nat.add_le_add_left (by decide) _) hun)) (de_callD K__law_pick_2 hgA hrA (by rfl) (da_cons (de_var (pv 0)) (da_cons de_int da_nil))) de_int (nomark _))))).dt (dss_one (ds_set (i := 5) sc__law_all_wishes.nd rfl (by first | exact .inl rfl | exact .inr rfl) (de_callTy (cd_tuple) (by rfl) m_tuple (by decide +kernel) (da_cons (de_fz (df_callB (cd_sorted (Nat.lt_of_le_of_lt (Nat.add_le_add_left (by decide) _) hun)) (by rfl) m_sorted (by decide +kernel) (da_cons (de_op od_add (de_var (pv 5)) (de_tup (da_cons de_str da_nil))) da_nil))) da_nil)))) dss_nil)
  (dss_one (t := p__law_all_wishes_x2_2) (ds_app (pv 2) (de_tup (da_cons (de_var (pv 3)) (da_cons (de_ix (de_var (pv 4)) de_int (fun _ _ => rfl)) (da_cons (de_var (pv 5)) da_nil)))))))))))
  (dss_one (t := p__law_all_wishes_2) (ds_ret (de_callTy (cd_tuple) (by rfl) m_tuple (by decide +kernel) (da_cons (de_fz (df_callB (cd_sorted (Nat.lt_of_le_of_lt (Nat.add_le_add_left (by decide) _) hun)) (by rfl) m_sorted (by decide +kernel) (da_cons (de_take (pv 2)) da_nil))) da_nil))))))
theorem alike_strs : ∀ xs ys : List Str, PySem.W.alikeAll (D.pys (xs.map D.str)) (D.pys (ys.map D.str)) = true
  | [], _ => by simp [D.pys, PySem.W.alikeAll]
  | x :: xs, [] => by simp [D.pys, PySem.W.alikeAll]
  | x :: xs, y :: ys => by simp [D.pys, D.py, PySem.W.alikeAll, PySem.W.alike, alike_strs xs ys]
theorem strs_ok {l : List Str} (hk : ∀ x ∈ l, x ∈ kinds8) (hl : l.length ≤ sizeLine) : srtOk (l.map D.str) := by
  refine ⟨lays_strs fun x hx => (kind_ok x (hk x hx)).1, fun d hd => ?_, ?_, ?_, by simpa using hl⟩
  · obtain ⟨a, _, rfl⟩ := List.mem_map.mp hd
    show 0 ≤ 64
    decide
  · rw [List.map_map]
    exact PySem.W.AllAlike.of fun a b => by simp [D.py, PySem.W.alike]
  · rw [List.map_map]
    exact PySem.W.Sortable.others fun a => ⟨by simp [D.py], fun xs => by simp [D.py]⟩
theorem rows_ok {l : List Row} (ok : ∀ r ∈ l, rowOk r) (hl : l.length ≤ sizeLine) : srtOk (l.map rowD) := by
  refine ⟨lays_map fun a ha => ?_, fun d hd => ?_, ?_, ?_, by simpa using hl⟩
  · have w := ok a ha
    simp only [rowD, D.lay, D.lays, lays_strs fun x hx => (kind_ok x (w.k x hx)).1, Bool.and_self]
  · obtain ⟨a, _, rfl⟩ := List.mem_map.mp hd
    simp only [rowD, D.dep, D.deps, deps_strs]
    decide
  · rw [List.map_map]
    exact PySem.W.AllAlike.of fun a b => by simp [rowD, D.py, D.pys, PySem.W.alike, PySem.W.alikeAll, alike_strs]
  · rw [List.map_map]
    exact PySem.W.Sortable.tuples fun a => ⟨.int a.1, [.int a.2.1, .tuple (D.pys (a.2.2.map D.str))], by simp [rowD, D.pys, D.py]⟩
def sorts7 : List Str := ["enter", "exposed", "focus", "key", "leave", "motion", "release"]
def allS (a : Addr) (ls : List D) (rows : List Row) (s3 s4 s5 : Sl) : List Sl := [.dat (.raw (.ref a)), .dat (.tup ls), .own (rows.map rowD), s3, s4, s5]
/-- a turn: one asker, one room -/
theorem turn_all {a : Addr} {ls : List D} {N : dEnds} {c : Nat} {rows : List Row} {as : Int} {n : Int} {z : List D} {s5 : Sl} (hc : c + 20 < 65536) (ha : as.natAbs < 100) (hn : n.natAbs < 100) (hz : rows.length < 40) (hr : ∀ r ∈ rows, rowOk r)
    (hN : ∀ (rows' : List Row) (s5 : Sl) (c' : Nat), rows'.length = rows.length + 1 → (∀ r ∈ rows', rowOk r) → c' ≤ c + 13 → N.nx ⟨allS a ls rows' (.dat (.int as)) (.dat (.tup (.int n :: z))) s5, some (a, c')⟩) :
    b__law_all_wishes_x2_0 W0 N ⟨allS a ls rows (.dat (.int as)) (.dat (.tup (.int n :: z))) s5, some (a, c)⟩ := by
  unfold allS at hN ⊢
  simp only [dSeq, dNext, dSet, dSetF, setSl, dVar, dTake, dC, dBin, dBinF, dB, dIfS, dIf, dRet, dRetN, dExpr, dNil, dCons, dTup, dLst, dFz, dAnd, dOr, dNot, dAndV, dOrV, dNotV, dCallD, dCallK, dCB, dCBF, dFor, dLC, dYes, dRng1, dRng2, dSeqI, gN, gT, gsNil, gsCons, dAsg, dNeg, dJoin, dFs, dJs, dFmt, dApp, dExt, dPop, dPopAt, dOwnIx, dOwnCB, dOwnL, dOwnR, dOwnSl, dSetIx, dSlT, dSlL, oNone, oSome, dBorn, optQ, ownAt, setOwnAt, lookAt, wipeD, dNewDT, dNewDK, dDGet, dDIn, dDPut, dSortT, rSrt, isDict, Ev.dictGet, Ev.dictPut, Option.isSome_none, Option.isSome_some, D.keyT, keysOf, D.key, exists_eq_left', exists_eq_left, Option.isSome, rRepL, rCatL, dNever, dBrk, dCnt, D.flat, rAddD, rSubI, rIO, rMulI, rDivI, rModI, rPowI, rCI, rIxD, rIsN, rNotN, D.isN, rLen, rTuple, rList, rAbs, rInt, rStr, Ev.rRepr, Ev.rIsi, D.ty, kit_tab, startD, endsD, List.map_cons, List.map_nil, List.length_cons, List.length_nil, List.append_nil, List.nil_append, List.cons_append, List.getElem?_cons_zero, List.getElem?_cons_succ, List.getElem?_nil, List.set_cons_zero, List.set_cons_succ, List.replicate, List.replicate_succ, Nat.zero_add, Nat.zero_le, sizeLine, true_and, and_true, if_true, Ev.eq_int, Ev.eq_str, Ev.eq_bl, Ev.eq_non, lst_nil, tup_nil, List.map_eq_nil_iff, txt_join, rLt, rLe, rGt, rGe, atI_ofNat, atI_last, wLC, strsOf, intsOf, blsOf, Option.map_some, Ev.join_two, Ev.join_one, Ev.join_nil, List.sum_cons, List.sum_nil, PySem.Str.empty_append, ixN_ofNat, Option.some.injEq, exists_eq', List.length_map, decide_true, decide_false, Bool.not_true, Bool.not_false, Bool.true_eq_false, Bool.false_eq_true, false_and, and_false, if_false, ite_true, ite_false, Nat.reduceAdd, Nat.reduceSub, Nat.reduceMul, Nat.reduceLT, Nat.reduceLeDiff, Nat.reduceEqDiff, Nat.reducePow, Int.reduceToNat, Int.reducePow, pickL, List.filterMap_cons, List.filterMap_nil, and_self, Int.reduceLT, Int.reduceLE, Int.reduceNeg, Int.reduceAdd, Int.reduceMul, Int.reduceSub, Int.reduceEq, reduceIte, reduceCtorEq, lit_eq, String.reduceEq, Ev.rEq, Ev.rNe, Ev.rInD, cut_toN, cut_fromN, List.map_take, List.forall_mem_cons, List.forall_mem_nil, List.not_mem_nil, false_imp_iff, implies_true, forall_const, D.cm, D.lay, D.lays, D.dep, D.deps, strOk_lit, lays_ints, deps_ints, Nat.max_self, Nat.max_zero, Nat.zero_max, Bool.and_self, Bool.true_and, Bool.and_true, Bool.and_false, Bool.false_and, Bool.or_false, Bool.or_true, Bool.true_or, Bool.false_or, List.any_cons, List.any_nil, decide_eq_true_eq, eq_self, b__law_all_wishes_x2_0, p__law_all_wishes_x2_0, sp__law_some_kinds]
  refine ⟨a, c, sorts7, rfl, rfl, by omega, by decide, by decide, by decide, fun ks c' hk hl hc' => ?_⟩
  have k8 : ∀ x ∈ ks, x ∈ kinds8 := fun x hx => (show ∀ y ∈ sorts7, y ∈ kinds8 by decide) x (hk x hx)
  have l7 : ks.length ≤ 7 := hl
  have fine : ∀ (ks : List Str) (c'' : Nat), (∀ x ∈ ks, x ∈ kinds8) → ks.length ≤ 8 → c'' ≤ c + 13 → b__law_all_wishes_x2_2 W0 N ⟨[.dat (.raw (.ref a)), .dat (.tup ls), .own (rows.map rowD), .dat (.int as), .dat (.tup (.int n :: z)), .dat (.tup (ks.map .str))], some (a, c'')⟩ := fun ks c'' k8 l8 h => by
    have w := hN (rows ++ [(as, n, ks)]) (.dat (.tup (ks.map .str))) c'' (by simp) (fun r h => by
      rcases List.mem_append.mp h with h | h
      · exact hr r h
      · rw [List.mem_singleton] at h; subst h; exact ⟨ha, hn, k8, l8⟩) h
    rw [List.map_append] at w
    have h40 : rows.length < 16777216 := by omega
    simp only [dSeq, dNext, dSet, dSetF, setSl, dVar, dTake, dC, dBin, dBinF, dB, dIfS, dIf, dRet, dRetN, dExpr, dNil, dCons, dTup, dLst, dFz, dAnd, dOr, dNot, dAndV, dOrV, dNotV, dCallD, dCallK, dCB, dCBF, dFor, dLC, dYes, dRng1, dRng2, dSeqI, gN, gT, gsNil, gsCons, dAsg, dNeg, dJoin, dFs, dJs, dFmt, dApp, dExt, dPop, dPopAt, dOwnIx, dOwnCB, dOwnL, dOwnR, dOwnSl, dSetIx, dSlT, dSlL, oNone, oSome, dBorn, optQ, ownAt, setOwnAt, lookAt, wipeD, dNewDT, dNewDK, dDGet, dDIn, dDPut, dSortT, rSrt, isDict, Ev.dictGet, Ev.dictPut, Option.isSome_none, Option.isSome_some, D.keyT, keysOf, D.key, exists_eq_left', exists_eq_left, Option.isSome, rRepL, rCatL, dNever, dBrk, dCnt, D.flat, rAddD, rSubI, rIO, rMulI, rDivI, rModI, rPowI, rCI, rIxD, rIsN, rNotN, D.isN, rLen, rTuple, rList, rAbs, rInt, rStr, Ev.rRepr, Ev.rIsi, D.ty, kit_tab, startD, endsD, List.map_cons, List.map_nil, List.length_cons, List.length_nil, List.append_nil, List.nil_append, List.cons_append, List.getElem?_cons_zero, List.getElem?_cons_succ, List.getElem?_nil, List.set_cons_zero, List.set_cons_succ, List.replicate, List.replicate_succ, Nat.zero_add, Nat.zero_le, sizeLine, true_and, and_true, if_true, Ev.eq_int, Ev.eq_str, Ev.eq_bl, Ev.eq_non, lst_nil, tup_nil, List.map_eq_nil_iff, txt_join, rLt, rLe, rGt, rGe, atI_ofNat, atI_last, wLC, strsOf, intsOf, blsOf, Option.map_some, Ev.join_two, Ev.join_one, Ev.join_nil, List.sum_cons, List.sum_nil, PySem.Str.empty_append, ixN_ofNat, Option.some.injEq, exists_eq', List.length_map, decide_true, decide_false, Bool.not_true, Bool.not_false, Bool.true_eq_false, Bool.false_eq_true, false_and, and_false, if_false, ite_true, ite_false, Nat.reduceAdd, Nat.reduceSub, Nat.reduceMul, Nat.reduceLT, Nat.reduceLeDiff, Nat.reduceEqDiff, Nat.reducePow, Int.reduceToNat, Int.reducePow, pickL, List.filterMap_cons, List.filterMap_nil, and_self, Int.reduceLT, Int.reduceLE, Int.reduceNeg, Int.reduceAdd, Int.reduceMul, Int.reduceSub, Int.reduceEq, reduceIte, reduceCtorEq, lit_eq, String.reduceEq, Ev.rEq, Ev.rNe, Ev.rInD, cut_toN, cut_fromN, List.map_take, List.forall_mem_cons, List.forall_mem_nil, List.not_mem_nil, false_imp_iff, implies_true, forall_const, D.cm, D.lay, D.lays, D.dep, D.deps, strOk_lit, lays_ints, deps_ints, Nat.max_self, Nat.max_zero, Nat.zero_max, Bool.and_self, Bool.true_and, Bool.and_true, Bool.and_false, Bool.false_and, Bool.or_false, Bool.or_true, Bool.true_or, Bool.false_or, List.any_cons, List.any_nil, decide_eq_true_eq, eq_self, b__law_all_wishes_x2_2, p__law_all_wishes_x2_2]
    exact ⟨h40, w⟩
  simp only [dSeq, dNext, dSet, dSetF, setSl, dVar, dTake, dC, dBin, dBinF, dB, dIfS, dIf, dRet, dRetN, dExpr, dNil, dCons, dTup, dLst, dFz, dAnd, dOr, dNot, dAndV, dOrV, dNotV, dCallD, dCallK, dCB, dCBF, dFor, dLC, dYes, dRng1, dRng2, dSeqI, gN, gT, gsNil, gsCons, dAsg, dNeg, dJoin, dFs, dJs, dFmt, dApp, dExt, dPop, dPopAt, dOwnIx, dOwnCB, dOwnL, dOwnR, dOwnSl, dSetIx, dSlT, dSlL, oNone, oSome, dBorn, optQ, ownAt, setOwnAt, lookAt, wipeD, dNewDT, dNewDK, dDGet, dDIn, dDPut, dSortT, rSrt, isDict, Ev.dictGet, Ev.dictPut, Option.isSome_none, Option.isSome_some, D.keyT, keysOf, D.key, exists_eq_left', exists_eq_left, Option.isSome, rRepL, rCatL, dNever, dBrk, dCnt, D.flat, rAddD, rSubI, rIO, rMulI, rDivI, rModI, rPowI, rCI, rIxD, rIsN, rNotN, D.isN, rLen, rTuple, rList, rAbs, rInt, rStr, Ev.rRepr, Ev.rIsi, D.ty, kit_tab, startD, endsD, List.map_cons, List.map_nil, List.length_cons, List.length_nil, List.append_nil, List.nil_append, List.cons_append, List.getElem?_cons_zero, List.getElem?_cons_succ, List.getElem?_nil, List.set_cons_zero, List.set_cons_succ, List.replicate, List.replicate_succ, Nat.zero_add, Nat.zero_le, sizeLine, true_and, and_true, if_true, Ev.eq_int, Ev.eq_str, Ev.eq_bl, Ev.eq_non, lst_nil, tup_nil, List.map_eq_nil_iff, txt_join, rLt, rLe, rGt, rGe, atI_ofNat, atI_last, wLC, strsOf, intsOf, blsOf, Option.map_some, Ev.join_two, Ev.join_one, Ev.join_nil, List.sum_cons, List.sum_nil, PySem.Str.empty_append, ixN_ofNat, Option.some.injEq, exists_eq', List.length_map, decide_true, decide_false, Bool.not_true, Bool.not_false, Bool.true_eq_false, Bool.false_eq_true, false_and, and_false, if_false, ite_true, ite_false, Nat.reduceAdd, Nat.reduceSub, Nat.reduceMul, Nat.reduceLT, Nat.reduceLeDiff, Nat.reduceEqDiff, Nat.reducePow, Int.reduceToNat, Int.reducePow, pickL, List.filterMap_cons, List.filterMap_nil, and_self, Int.reduceLT, Int.reduceLE, Int.reduceNeg, Int.reduceAdd, Int.reduceMul, Int.reduceSub, Int.reduceEq, reduceIte, reduceCtorEq, lit_eq, String.reduceEq, Ev.rEq, Ev.rNe, Ev.rInD, cut_toN, cut_fromN, List.map_take, List.forall_mem_cons, List.forall_mem_nil, List.not_mem_nil, false_imp_iff, implies_true, forall_const, D.cm, D.lay, D.lays, D.dep, D.deps, strOk_lit, lays_ints, deps_ints, Nat.max_self, Nat.max_zero, Nat.zero_max, Bool.and_self, Bool.true_and, Bool.and_true, Bool.and_false, Bool.false_and, Bool.or_false, Bool.or_true, Bool.true_or, Bool.false_or, List.any_cons, List.any_nil, decide_eq_true_eq, eq_self, b__law_all_wishes_x2_1, p__law_all_wishes_x2_1, sp__law_pick, spDraw]
  have sorted_ : srtOk (ks.map D.str ++ [D.str (Str.ofString "press")]) ∧ ∀ c'', c'' ≤ c + 13 → b__law_all_wishes_x2_2 W0 N ⟨[.dat (.raw (.ref a)), .dat (.tup ls), .own (rows.map rowD), .dat (.int as), .dat (.tup (.int n :: z)), .dat (.tup (sortD (ks.map D.str ++ [D.str (Str.ofString "press")])))], some (a, c'')⟩ := by
    have e : ks.map D.str ++ [D.str (Str.ofString "press")] = (ks ++ [Str.ofString "press"]).map D.str := by rw [List.map_append]; rfl
    have kp : ∀ x ∈ ks ++ [Str.ofString "press"], x ∈ kinds8 := fun x hx => by
      rcases List.mem_append.mp hx with hx | hx
      · exact k8 x hx
      · rw [List.mem_singleton] at hx; subst hx; decide
    rw [e]
    refine ⟨strs_ok kp (by rw [sizeLine_eq]; simp; omega), fun c'' h => ?_⟩
    obtain ⟨l', e2, h1, h2⟩ := sortD_form (f := D.str) (l := ks ++ [Str.ofString "press"])
    rw [e2]
    exact fine l' c'' (fun x hx => kp x (h1 x hx)) (by rw [h2]; simp; omega) h
  have ksz : ks.length ≤ 16777215 := by omega
  split
  · refine ⟨by omega, fun r r0 r1 => ?_⟩
    split
    · exact ⟨ksz, sorted_.1, sorted_.2 _ (by omega)⟩
    · exact fine ks _ k8 (by omega) (by omega)
  · exact fine ks _ k8 (by omega) (by omega)
theorem loop_in {a : Addr} {ls : List D} {N : dEnds} {as : Int} {M C : Nat} (hC : C + 10 < 65536) (hM : M ≤ 40) (ha : as.natAbs < 100) (hN : ∀ (rows : List Row) (s4 s5 : Sl) (c' : Nat), rows.length ≤ M → (∀ r ∈ rows, rowOk r) → c' ≤ C → N.nx ⟨allS a ls rows (.dat (.int as)) s4 s5, some (a, c')⟩) :
    ∀ (rest : List D) (rows : List Row) (s4 s5 : Sl) (c' : Nat), (∀ d ∈ rest, lineOk d) → (∀ r ∈ rows, rowOk r) → rows.length + rest.length ≤ M → c' + 13 * rest.length ≤ C →
    wFor (gN 4) b__law_all_wishes_x2_0 W0 N rest ⟨allS a ls rows (.dat (.int as)) s4 s5, some (a, c')⟩
  | [], rows, s4, s5, c', _, h2, h3, h4 => hN rows _ _ c' (by simpa using h3) h2 (by simpa using h4)
  | d :: rest, rows, s4, s5, c', h1, h2, h3, h4 => by
    rw [List.length_cons] at h3 h4
    obtain ⟨n, z, rfl, hn⟩ := h1 d List.mem_cons_self
    exact turn_all (c := c') (N := { N with nx := wFor (gN 4) b__law_all_wishes_x2_0 W0 N rest, ct := wFor (gN 4) b__law_all_wishes_x2_0 W0 N rest, bk := N.nx }) (by omega) ha hn (by omega) h2 fun rows' s5 c'' hl hr hc'' => loop_in hC hM ha hN rest rows' _ s5 c'' (fun d hd => h1 d (List.mem_cons_of_mem _ hd)) hr (by omega) (by omega)
theorem loop_out {a : Addr} {ls : List D} {N : dEnds} {C : Nat} (hC : C + 10 < 65536) (hl : ls.length ≤ 10) (hls : ∀ d ∈ ls, lineOk d) (hN : ∀ (rows : List Row) (s3 s4 s5 : Sl) (c' : Nat), rows.length ≤ 40 → (∀ r ∈ rows, rowOk r) → c' ≤ C → N.nx ⟨allS a ls rows s3 s4 s5, some (a, c')⟩) :
    ∀ (rest : List Int) (rows : List Row) (s3 s4 s5 : Sl) (c' : Nat), (∀ x ∈ rest, x.natAbs < 100) → (∀ r ∈ rows, rowOk r) → rows.length + 10 * rest.length ≤ 40 → c' + 130 * rest.length ≤ C →
    wFor (gN 3) (dFor (dSeqI (dVar 1)) (gN 4) b__law_all_wishes_x2_0) W0 N (rest.map .int) ⟨allS a ls rows s3 s4 s5, some (a, c')⟩
  | [], rows, s3, s4, s5, c', _, h2, h3, h4 => hN rows _ _ _ c' (by simpa using h3) h2 (by simpa using h4)
  | x :: rest, rows, s3, s4, s5, c', h1, h2, h3, h4 => by
    rw [List.length_cons] at h3 h4
    show wFor (gN 4) b__law_all_wishes_x2_0 W0 { N with nx := wFor (gN 3) (dFor (dSeqI (dVar 1)) (gN 4) b__law_all_wishes_x2_0) W0 N (rest.map .int), ct := wFor (gN 3) (dFor (dSeqI (dVar 1)) (gN 4) b__law_all_wishes_x2_0) W0 N (rest.map .int), bk := N.nx } ls ⟨allS a ls rows (.dat (.int x)) s4 s5, some (a, c')⟩
    exact loop_in (M := rows.length + 10) (C := c' + 130) (by omega) (by omega) (h1 x List.mem_cons_self) (fun rows' s4 s5 c'' hr1 hr2 hc'' => loop_out hC hl hls hN rest rows' _ s4 s5 c'' (fun y hy => h1 y (List.mem_cons_of_mem _ hy)) hr2 (by omega) (by omega)) ls rows _ _ _ hls h2 (by omega) (by omega)
theorem hsp__law_all_wishes : ∀ ds p Q W, ds.length = 2 → sp__law_all_wishes ds p Q W → b__law_all_wishes W0 (endsD Q) (startD n__law_all_wishes.length ds p) := by
  rintro _ _ Q W - ⟨a, c, ls, rfl, rfl, hc, n0, nl, hls, q⟩
  simp only [dSeq, dNext, dSet, dSetF, setSl, dVar, dTake, dC, dBin, dBinF, dB, dIfS, dIf, dRet, dRetN, dExpr, dNil, dCons, dTup, dLst, dFz, dAnd, dOr, dNot, dAndV, dOrV, dNotV, dCallD, dCallK, dCB, dCBF, dFor, dLC, dYes, dRng1, dRng2, dSeqI, gN, gT, gsNil, gsCons, dAsg, dNeg, dJoin, dFs, dJs, dFmt, dApp, dExt, dPop, dPopAt, dOwnIx, dOwnCB, dOwnL, dOwnR, dOwnSl, dSetIx, dSlT, dSlL, oNone, oSome, dBorn, optQ, ownAt, setOwnAt, lookAt, wipeD, dNewDT, dNewDK, dDGet, dDIn, dDPut, dSortT, rSrt, isDict, Ev.dictGet, Ev.dictPut, Option.isSome_none, Option.isSome_some, D.keyT, keysOf, D.key, exists_eq_left', exists_eq_left, Option.isSome, rRepL, rCatL, dNever, dBrk, dCnt, D.flat, rAddD, rSubI, rIO, rMulI, rDivI, rModI, rPowI, rCI, rIxD, rIsN, rNotN, D.isN, rLen, rTuple, rList, rAbs, rInt, rStr, Ev.rRepr, Ev.rIsi, D.ty, kit_tab, startD, endsD, List.map_cons, List.map_nil, List.length_cons, List.length_nil, List.append_nil, List.nil_append, List.cons_append, List.getElem?_cons_zero, List.getElem?_cons_succ, List.getElem?_nil, List.set_cons_zero, List.set_cons_succ, List.replicate, List.replicate_succ, Nat.zero_add, Nat.zero_le, sizeLine, true_and, and_true, if_true, Ev.eq_int, Ev.eq_str, Ev.eq_bl, Ev.eq_non, lst_nil, tup_nil, List.map_eq_nil_iff, txt_join, rLt, rLe, rGt, rGe, atI_ofNat, atI_last, wLC, strsOf, intsOf, blsOf, Option.map_some, Ev.join_two, Ev.join_one, Ev.join_nil, List.sum_cons, List.sum_nil, PySem.Str.empty_append, ixN_ofNat, Option.some.injEq, exists_eq', List.length_map, decide_true, decide_false, Bool.not_true, Bool.not_false, Bool.true_eq_false, Bool.false_eq_true, false_and, and_false, if_false, ite_true, ite_false, Nat.reduceAdd, Nat.reduceSub, Nat.reduceMul, Nat.reduceLT, Nat.reduceLeDiff, Nat.reduceEqDiff, Nat.reducePow, Int.reduceToNat, Int.reducePow, pickL, List.filterMap_cons, List.filterMap_nil, and_self, Int.reduceLT, Int.reduceLE, Int.reduceNeg, Int.reduceAdd, Int.reduceMul, Int.reduceSub, Int.reduceEq, reduceIte, reduceCtorEq, lit_eq, String.reduceEq, Ev.rEq, Ev.rNe, Ev.rInD, cut_toN, cut_fromN, List.map_take, List.forall_mem_cons, List.forall_mem_nil, List.not_mem_nil, false_imp_iff, implies_true, forall_const, D.cm, D.lay, D.lays, D.dep, D.deps, strOk_lit, lays_ints, deps_ints, Nat.max_self, Nat.max_zero, Nat.zero_max, Bool.and_self, Bool.true_and, Bool.and_true, Bool.and_false, Bool.false_and, Bool.or_false, Bool.or_true, Bool.true_or, Bool.false_or, List.any_cons, List.any_nil, decide_eq_true_eq, eq_self, n__law_all_wishes, b__law_all_wishes, b__law_all_wishes_0, p__law_all_wishes_0, b__law_all_wishes_1, p__law_all_wishes_1]
  refine loop_out (C := c + 520) (by omega) nl hls (fun rows s3 s4 s5 c' h1 h2 h3 => ?_) [1, 2, 3, 4] [] _ _ _ c (by decide) (by simp) (by decide) (by simp)
  unfold allS
  simp only [dSeq, dNext, dSet, dSetF, setSl, dVar, dTake, dC, dBin, dBinF, dB, dIfS, dIf, dRet, dRetN, dExpr, dNil, dCons, dTup, dLst, dFz, dAnd, dOr, dNot, dAndV, dOrV, dNotV, dCallD, dCallK, dCB, dCBF, dFor, dLC, dYes, dRng1, dRng2, dSeqI, gN, gT, gsNil, gsCons, dAsg, dNeg, dJoin, dFs, dJs, dFmt, dApp, dExt, dPop, dPopAt, dOwnIx, dOwnCB, dOwnL, dOwnR, dOwnSl, dSetIx, dSlT, dSlL, oNone, oSome, dBorn, optQ, ownAt, setOwnAt, lookAt, wipeD, dNewDT, dNewDK, dDGet, dDIn, dDPut, dSortT, rSrt, isDict, Ev.dictGet, Ev.dictPut, Option.isSome_none, Option.isSome_some, D.keyT, keysOf, D.key, exists_eq_left', exists_eq_left, Option.isSome, rRepL, rCatL, dNever, dBrk, dCnt, D.flat, rAddD, rSubI, rIO, rMulI, rDivI, rModI, rPowI, rCI, rIxD, rIsN, rNotN, D.isN, rLen, rTuple, rList, rAbs, rInt, rStr, Ev.rRepr, Ev.rIsi, D.ty, kit_tab, startD, endsD, List.map_cons, List.map_nil, List.length_cons, List.length_nil, List.append_nil, List.nil_append, List.cons_append, List.getElem?_cons_zero, List.getElem?_cons_succ, List.getElem?_nil, List.set_cons_zero, List.set_cons_succ, List.replicate, List.replicate_succ, Nat.zero_add, Nat.zero_le, sizeLine, true_and, and_true, if_true, Ev.eq_int, Ev.eq_str, Ev.eq_bl, Ev.eq_non, lst_nil, tup_nil, List.map_eq_nil_iff, txt_join, rLt, rLe, rGt, rGe, atI_ofNat, atI_last, wLC, strsOf, intsOf, blsOf, Option.map_some, Ev.join_two, Ev.join_one, Ev.join_nil, List.sum_cons, List.sum_nil, PySem.Str.empty_append, ixN_ofNat, Option.some.injEq, exists_eq', List.length_map, decide_true, decide_false, Bool.not_true, Bool.not_false, Bool.true_eq_false, Bool.false_eq_true, false_and, and_false, if_false, ite_true, ite_false, Nat.reduceAdd, Nat.reduceSub, Nat.reduceMul, Nat.reduceLT, Nat.reduceLeDiff, Nat.reduceEqDiff, Nat.reducePow, Int.reduceToNat, Int.reducePow, pickL, List.filterMap_cons, List.filterMap_nil, and_self, Int.reduceLT, Int.reduceLE, Int.reduceNeg, Int.reduceAdd, Int.reduceMul, Int.reduceSub, Int.reduceEq, reduceIte, reduceCtorEq, lit_eq, String.reduceEq, Ev.rEq, Ev.rNe, Ev.rInD, cut_toN, cut_fromN, List.map_take, List.forall_mem_cons, List.forall_mem_nil, List.not_mem_nil, false_imp_iff, implies_true, forall_const, D.cm, D.lay, D.lays, D.dep, D.deps, strOk_lit, lays_ints, deps_ints, Nat.max_self, Nat.max_zero, Nat.zero_max, Bool.and_self, Bool.true_and, Bool.and_true, Bool.and_false, Bool.false_and, Bool.or_false, Bool.or_true, Bool.true_or, Bool.false_or, List.any_cons, List.any_nil, decide_eq_true_eq, eq_self, b__law_all_wishes_2, p__law_all_wishes_2]
  obtain ⟨l', e2, g1, g2⟩ := sortD_form (f := rowD) (l := rows)
  refine ⟨rows_ok h2 (by rw [sizeLine_eq]; omega), ?_⟩
  rw [e2]
  exact q l' c' (by omega) (fun r hr => h2 r (g1 r hr)) (by omega)
theorem ok__law_all_wishes {P : Program} {w : World} {K : PySem.W.Frag} {mg : Str → Option Value} {base : Heap} (m_sorted : mg "sorted" = none) (m_tuple : mg "tuple" = none) (K__law_pick_2 : Def P w K mg base 1 "_law_pick" 2 sp__law_pick []) (K__law_some_kinds_2 : Def P w K mg base 2 "_law_some_kinds" 2 sp__law_some_kinds []) {f : Addr} {fd : FuncData} (F : Fun K "_law_all_wishes" "_law_all_wishes" s__law_all_wishes f fd) : FnG P w K mg base CX0 3 f fd ["_law_pen_here", "_law_web"] (spD K 2 sp__law_all_wishes) :=
 fn_d0 F sc__law_all_wishes rfl (fun cdv A out s H E g r => run__law_all_wishes m_sorted m_tuple K__law_pick_2 K__law_some_kinds_2 cdv A out s H E g r) hsp__law_all_wishes
def sp_law : dSp := fun ds p Q W => ∃ ns, ds = [.scr ns] ∧ ns.length ≤ 63 ∧ p = none ∧ ∀ p', Q (.bl true) p'
abbrev s_law : Stmt := topS 11
abbrev n_law : List Str := ["_law_script", "_law_pen_here", "_law_sorts", "_law_turn", "_law_web", "_law_rows", "_law_kept", "_law_row", "_law_sort", "_law_right"]
theorem sc_law : FnScope n_law ["_law_script"] (defScope s_law) := ⟨rfl, rfl, rfl, by decide +kernel, rfl, by decide +kernel, by decide +kernel⟩
def p_law_x3_0 : dS := (dSet 9 (dCB rRepr (dCons (dCallD 3 [] sp__law_wished (dCons (dVar 5) (dCons (dVar 8) (dCons (dBin rIxD (dVar 7) (dC (.int 0))) dNil)))) dNil)))
def p_law_x3_1 : dS := (dIfS (dB (dBin (rNe) (dCB rRepr (dCons (dCallD 3 [] sp_hears_in (dCons (dVar 5) (dCons (dVar 8) (dCons (dBin rIxD (dVar 7) (dC (.int 0))) dNil)))) dNil)) (dVar 9))) (dRet (dC (.bl false))) dNext)
def p_law_x3_2 : dS := (dIfS (dOr (dB (dBin (rNe) (dCB rRepr (dCons (dCallK 3 0 3 [2, 1, 0] [] sp_hears_in dNil (dCons (dBin rIxD (dVar 7) (dC (.int 0))) (dCons (dVar 8) (dCons (dVar 5) dNil)))) dNil)) (dVar 9))) (dB (dBin (rNe) (dCB rRepr (dCons (dVar 5) dNil)) (dVar 6)))) (dRet (dC (.bl false))) dNext)
def b_law_x3_2 : dS := p_law_x3_2
def b_law_x3_1 : dS := dSeq p_law_x3_1 b_law_x3_2
def b_law_x3_0 : dS := dSeq p_law_x3_0 b_law_x3_1
def p_law_x2_0 : dS := (dSet 4 (dCallD 3 [] sp__law_some_book (dCons (dVar 1) (dCons (dC (.int 9)) (dCons (dC (.int 5)) dNil)))))
def p_law_x2_1 : dS := (dSet 5 (dCallD 3 [] sp__law_some_wishes (dCons (dVar 1) (dCons (dVar 4) (dCons (dC (.int 12)) dNil)))))
def p_law_x2_2 : dS := (dIfS (dB (dBin (rEq) (dVar 3) (dC (.int 1)))) (dSet 5 (dCallD 2 [] sp__law_all_wishes (dCons (dVar 1) (dCons (dVar 4) dNil)))) dNext)
def p_law_x2_3 : dS := (dSet 6 (dCB rRepr (dCons (dVar 5) dNil)))
def p_law_x2_4 : dS := (dFor (dSeqI (dVar 4)) (gN 7) (dFor (dSeqI (dVar 2)) (gN 8) b_law_x3_0))
def b_law_x2_4 : dS := p_law_x2_4
def b_law_x2_3 : dS := dSeq p_law_x2_3 b_law_x2_4
def b_law_x2_2 : dS := dSeq p_law_x2_2 b_law_x2_3
def b_law_x2_1 : dS := dSeq p_law_x2_1 b_law_x2_2
def b_law_x2_0 : dS := dSeq p_law_x2_0 b_law_x2_1
def p_law_0 : dS := (dSet 1 (dCallD 1 [] sp__law_pen (dCons (dVar 0) dNil)))
def p_law_1 : dS := (dSet 2 (dTup (dCons (dC (.str "enter")) (dCons (dC (.str "exposed")) (dCons (dC (.str "focus")) (dCons (dC (.str "key")) (dCons (dC (.str "leave")) (dCons (dC (.str "motion")) (dCons (dC (.str "press")) (dCons (dC (.str "release")) dNil))))))))))
def p_law_2 : dS := (dFor (dRng1 (dCons (dC (.int 3)) dNil)) (gN 3) b_law_x2_0)
def p_law_3 : dS := (dRet (dC (.bl true)))
def b_law_3 : dS := p_law_3
def b_law_2 : dS := dSeq p_law_2 b_law_3
def b_law_1 : dS := dSeq p_law_1 b_law_2
def b_law_0 : dS := dSeq p_law_0 b_law_1
def b_law : dS := b_law_0
theorem run_law {P : Program} {w : World} {K : PySem.W.Frag} {mg : Str → Option Value} {base : Heap} (m_range : mg "range" = none) (m_repr : mg "repr" = none) (K__law_all_wishes_2 : Def P w K mg base 3 "_law_all_wishes" 2 sp__law_all_wishes []) (K__law_pen_1 : Def P w K mg base 1 "_law_pen" 1 sp__law_pen []) (K__law_some_book_3 : Def P w K mg base 3 "_law_some_book" 3 sp__law_some_book []) (K__law_some_wishes_3 : Def P w K mg base 3 "_law_some_wishes" 3 sp__law_some_wishes []) (K__law_wished_3 : Def P w K mg base 1 "_law_wished" 3 sp__law_wished []) (K_hears_in_3 : Def P w K mg base 1 "hears_in" 3 sp_hears_in []) (K_hears_in_0_room_kind_wishes : DefK P w K mg base 1 "hears_in" 3 sp_hears_in 0 3 ["room", "kind", "wishes"] [2, 1, 0] []) {f : Addr} (cdv : Value) (A : Around) (out : List Env) (s : Shared) (H : Hp) (E : XK) (g : A.guards = some []) (hrA : Room 3 (A.deeper (envOfC "law" (defScope s_law) s.heap.objs.size f cdv))) :
  DSs (cx0 P w K mg base n_law "law" (defScope s_law) f cdv A out s H E) E00 (defBody s_law) b_law := by
 have hgA : (A.deeper (envOfC "law" (defScope s_law) s.heap.objs.size f cdv)).guards = some [] := g
 have hun := hrA.un
 exact (dss_cons (t := p_law_0) (u := b_law_1) (ds_set (i := 1) sc_law.nd rfl (by first | exact .inl rfl | exact .inr rfl) (de_callD K__law_pen_1 hgA hrA (by rfl) (da_cons (de_var (pv 0)) da_nil)))
  (dss_cons (t := p_law_1) (u := b_law_2) (ds_set (i := 2) sc_law.nd rfl (by first | exact .inl rfl | exact .inr rfl) (de_tup (da_cons de_str (da_cons de_str (da_cons de_str (da_cons de_str (da_cons de_str (da_cons de_str (da_cons de_str (da_cons de_str da_nil))))))))))
  (dss_cons (t := p_law_2) (u := b_law_3) (ds_for PassesOwn.never rfl (di_range1 (by rfl) m_range (da_cons de_int da_nil)) (dg_name (pg_name (i := 3) sc_law.nd rfl (by first | exact .inl rfl | exact .inr rfl))) (dss_cons (t := p_law_x2_0) (u := b_law_x2_1) (ds_set (i := 4) sc_law.nd rfl (by first | exact .inl rfl | exact .inr rfl) (de_callD K__law_some_book_3 hgA hrA (by rfl) (da_cons (de_var (pv 1)) (da_cons de_int (da_cons de_int da_nil)))))
  (dss_cons (t := p_law_x2_1) (u := b_law_x2_2) (ds_set (i := 5) sc_law.nd rfl (by first | exact .inl rfl | exact .inr rfl) (de_callD K__law_some_wishes_3 hgA hrA (by rfl) (da_cons (de_var (pv 1)) (da_cons (de_var (pv 4)) (da_cons de_int da_nil)))))
  (dss_cons (t := p_law_x2_2) (u := b_law_x2_3) (ds_if (dt_cmp (od_eq (Nat.lt_of_le_of_lt (Nat.add_le_add_left (by decide) _) hun)) (de_var (pv 3)) de_int (nomark _)) (dss_one (ds_set (i := 5) sc_law.nd rfl (by first | exact .inl rfl | exact .inr rfl) (de_callD K__law_all_wishes_2 hgA hrA (by rfl) (da_cons (de_var (pv 1)) (da_cons (de_var (pv 4)) da_nil))))) dss_nil)
  (dss_cons (t := p_law_x2_3) (u := b_law_x2_4) (ds_set (i := 6) sc_law.nd rfl (by first | exact .inl rfl | exact .inr rfl) (de_callB (cd_repr hgA (Nat.lt_of_le_of_lt (Nat.add_le_add_left (by decide) _) hun)) (by rfl) m_repr Ev.boot_repr (da_cons (de_var (pv 5)) da_nil)))
  (dss_one (t := p_law_x2_4) (ds_for PassesOwn.never rfl (di_seq (de_var (pv 4))) (dg_name (pg_name (i := 7) sc_law.nd rfl (by first | exact .inl rfl | exact .inr rfl))) (dss_one (ds_for PassesOwn.never rfl (di_seq (de_var (pv 2))) (dg_name (pg_name (i := 8) sc_law.nd rfl (by first | exact .inl rfl | exact .inr rfl))) (dss_cons (t := p_law_x3_0) (u := b_law_x3_1) (ds_set (i := 9) sc_law.nd rfl (by first | exact .inl rfl | exact .inr rfl) (de_callB (cd_repr hgA (Nat.lt_of_le_of_lt (Nat.add_le_add_left (by decide) _) hun)) (by rfl) m_repr Ev.boot_repr (da_cons (de_callD K__law_wished_3 hgA hrA (by rfl) (da_cons (de_var (pv 5)) (da_cons (de_var (pv 8)) (da_cons (de_ix (de_var (pv 7)) de_int (fun _ _ => rfl)) da_nil)))) da_nil)))
  (dss_cons (t := p_law_x3_1) (u := b_law_x3_2) (ds_if (dt_cmp (od_ne (Nat.lt_of_le_of_lt (Nat.add_le_add_left (by decide) _) hun)) (de_callB (cd_repr hgA (Nat.lt_of_le_of_lt (Nat.add_le_add_left (by decide) _) hun)) (by rfl) m_repr Ev.boot_repr (da_cons (de_callD K_hears_in_3 hgA hrA (by rfl) (da_cons (de_var (pv 5)) (da_cons (de_var (pv 8)) (da_cons (de_ix (de_var (pv 7)) de_int (fun _ _ => rfl)) da_nil)))) da_nil)) (de_var (pv 9)) (nomark _)) (dss_one (ds_ret de_bl)) dss_nil)
  (dss_one (t := p_law_x3_2) (ds_if ((dw_or (dt_cmp (od_ne (Nat.lt_of_le_of_lt (Nat.add_le_add_left (by decide) _) hun)) (de_callB (cd_repr hgA (Nat.lt_of_le_of_lt (Nat.add_le_add_left (by decide) _) hun)) (by rfl) m_repr Ev.boot_repr (da_cons (de_callK0 K_hears_in_0_room_kind_wishes hgA hrA (by rfl) (dk_cons (de_ix (de_var (pv 7)) de_int (fun _ _ => rfl)) (dk_cons (de_var (pv 8)) (dk_cons (de_var (pv 5)) dk_nil)))) da_nil)) (de_var (pv 9)) (nomark _)) (dw_or1 (dt_cmp (od_ne (Nat.lt_of_le_of_lt (Nat.add_le_add_left (by decide) _) hun)) (de_callB (cd_repr hgA (Nat.lt_of_le_of_lt (Nat.add_le_add_left (by decide) _) hun)) (by rfl) m_repr Ev.boot_repr (da_cons (de_var (pv 5)) da_nil)) (de_var (pv 6)) (nomark _))))).dt (dss_one (ds_ret de_bl)) dss_nil)))))))))))))
  (dss_one (t := p_law_3) (ds_ret de_bl)))))
def kindsD : D := .tup (kinds8.map .str)
def lawS (a : Addr) (ns : List Int) (s3 : Sl) (ls : List D) (rows : List Row) (s6 s7 s8 s9 : Sl) : List Sl := [.dat (.scr ns), .dat (.raw (.ref a)), .dat kindsD, s3, .dat (.tup ls), .dat (.tup (rows.map rowD)), s6, s7, s8, s9]
theorem row_sm {r : Row} (h : rowOk r) : (rowD r).sm 2 950 := by
  refine (D.sm.tup (k := 1) (n := 31 + 2 + (31 + 2 + (((102 + 2) * 8 + 5) + 2 + 0))) (.cons (.int (by have := h.a; omega)) (.cons (.int (by have := h.n; omega)) (.cons (D.sm.tup (k := 0) (D.sms.all (n := 102) (fun d hd => ?_) (by simpa using h.l))) .nil)))).mono (by decide) (by decide)
  obtain ⟨x, hx, rfl⟩ := List.mem_map.mp hd
  exact D.sm.str (kind_ok x (h.k x hx)).1 (kind_ok x (h.k x hx)).2
theorem rows_sm {rows : List Row} (ok : ∀ r ∈ rows, rowOk r) (hl : rows.length ≤ 40) : (D.tup (rows.map rowD)).sm 3 ((950 + 2) * 40 + 5) :=
  D.sm.tup (D.sms.all (fun d hd => by
    obtain ⟨r, hr, rfl⟩ := List.mem_map.mp hd
    exact row_sm (ok r hr)) (by simpa using hl))
theorem heard_sm {rows : List Row} (ok : ∀ r ∈ rows, rowOk r) (hl : rows.length ≤ 40) (k : Str) (n : Int) : (D.tup ((heard rows k n).map .int)).sm 1 ((31 + 2) * 40 + 5) :=
  D.sm.tup (k := 0) (D.sms.all (fun d hd => by
    obtain ⟨x, hx, rfl⟩ := List.mem_map.mp hd
    unfold heard at hx
    obtain ⟨r, hr, rfl⟩ := List.mem_map.mp hx
    exact .int (by have := (ok r (List.mem_filter.mp hr).1).a; omega)) (by
      have := List.length_filter_le (fun r : Row => decide (r.2.1 = n) && decide (k ∈ r.2.2)) rows
      simp [heard]; omega))
theorem turn_kind {a : Addr} {ns : List Int} {N : dEnds} {ls : List D} {rows : List Row} {s3 s9 : Sl} {n : Int} {z : List D} {k : Str} {c' : Nat} (ok : ∀ r ∈ rows, rowOk r) (hl : rows.length ≤ 40) (hk : k ∈ kinds8)
    (hN : ∀ (s9 : Sl), N.nx ⟨lawS a ns s3 ls rows (.dat (.str (D.tup (rows.map rowD)).rep)) (.dat (.tup (.int n :: z))) (.dat (.str k)) s9, some (a, c')⟩) :
    b_law_x3_0 W0 N ⟨lawS a ns s3 ls rows (.dat (.str (D.tup (rows.map rowD)).rep)) (.dat (.tup (.int n :: z))) (.dat (.str k)) s9, some (a, c')⟩ := by
  unfold lawS at hN ⊢
  have w1 := heard_sm ok hl k n
  have w2 := rows_sm ok hl
  simp only [dSeq, dNext, dSet, dSetF, setSl, dVar, dTake, dC, dBin, dBinF, dB, dIfS, dIf, dRet, dRetN, dExpr, dNil, dCons, dTup, dLst, dFz, dAnd, dOr, dNot, dAndV, dOrV, dNotV, dCallD, dCallK, dCB, dCBF, dFor, dLC, dYes, dRng1, dRng2, dSeqI, gN, gT, gsNil, gsCons, dAsg, dNeg, dJoin, dFs, dJs, dFmt, dApp, dExt, dPop, dPopAt, dOwnIx, dOwnCB, dOwnL, dOwnR, dOwnSl, dSetIx, dSlT, dSlL, oNone, oSome, dBorn, optQ, ownAt, setOwnAt, lookAt, wipeD, dNewDT, dNewDK, dDGet, dDIn, dDPut, dSortT, rSrt, isDict, Ev.dictGet, Ev.dictPut, Option.isSome_none, Option.isSome_some, D.keyT, keysOf, D.key, exists_eq_left', exists_eq_left, Option.isSome, rRepL, rCatL, dNever, dBrk, dCnt, D.flat, rAddD, rSubI, rIO, rMulI, rDivI, rModI, rPowI, rCI, rIxD, rIsN, rNotN, D.isN, rLen, rTuple, rList, rAbs, rInt, rStr, Ev.rRepr, Ev.rIsi, D.ty, kit_tab, startD, endsD, List.map_cons, List.map_nil, List.length_cons, List.length_nil, List.append_nil, List.nil_append, List.cons_append, List.getElem?_cons_zero, List.getElem?_cons_succ, List.getElem?_nil, List.set_cons_zero, List.set_cons_succ, List.replicate, List.replicate_succ, Nat.zero_add, Nat.zero_le, sizeLine, true_and, and_true, if_true, Ev.eq_int, Ev.eq_str, Ev.eq_bl, Ev.eq_non, lst_nil, tup_nil, List.map_eq_nil_iff, txt_join, rLt, rLe, rGt, rGe, atI_ofNat, atI_last, wLC, strsOf, intsOf, blsOf, Option.map_some, Ev.join_two, Ev.join_one, Ev.join_nil, List.sum_cons, List.sum_nil, PySem.Str.empty_append, ixN_ofNat, Option.some.injEq, exists_eq', List.length_map, decide_true, decide_false, Bool.not_true, Bool.not_false, Bool.true_eq_false, Bool.false_eq_true, false_and, and_false, if_false, ite_true, ite_false, Nat.reduceAdd, Nat.reduceSub, Nat.reduceMul, Nat.reduceLT, Nat.reduceLeDiff, Nat.reduceEqDiff, Nat.reducePow, Int.reduceToNat, Int.reducePow, pickL, List.filterMap_cons, List.filterMap_nil, and_self, Int.reduceLT, Int.reduceLE, Int.reduceNeg, Int.reduceAdd, Int.reduceMul, Int.reduceSub, Int.reduceEq, reduceIte, reduceCtorEq, lit_eq, String.reduceEq, Ev.rEq, Ev.rNe, Ev.rInD, cut_toN, cut_fromN, List.map_take, List.forall_mem_cons, List.forall_mem_nil, List.not_mem_nil, false_imp_iff, implies_true, forall_const, D.cm, D.lay, D.lays, D.dep, D.deps, strOk_lit, lays_ints, deps_ints, Nat.max_self, Nat.max_zero, Nat.zero_max, Bool.and_self, Bool.true_and, Bool.and_true, Bool.and_false, Bool.false_and, Bool.or_false, Bool.or_true, Bool.true_or, Bool.false_or, List.any_cons, List.any_nil, decide_eq_true_eq, eq_self, b_law_x3_0, p_law_x3_0, b_law_x3_1, p_law_x3_1, b_law_x3_2, p_law_x3_2, sp__law_wished, sp_hears_in]
  refine ⟨rows, k, n, rfl, hl, ok, hk, w1.sw, rows, k, n, rfl, hl, ok, hk, w1.sw, w1.rep, w1.rep, ?_⟩
  simp only [eq_self, decide_true, Bool.not_true]
  refine ⟨rows, k, n, rfl, hl, ok, hk, w1.sw, w1.rep, w1.rep, ?_⟩
  simp only [eq_self, decide_true, Bool.not_true]
  exact ⟨w2.sw, w2.rep, w2.rep, hN _⟩
theorem loop_kinds {a : Addr} {ns : List Int} {N : dEnds} {ls : List D} {rows : List Row} {s3 : Sl} {n : Int} {z : List D} {c' : Nat} (ok : ∀ r ∈ rows, rowOk r) (hl : rows.length ≤ 40)
    (hN : ∀ (s8 s9 : Sl), N.nx ⟨lawS a ns s3 ls rows (.dat (.str (D.tup (rows.map rowD)).rep)) (.dat (.tup (.int n :: z))) s8 s9, some (a, c')⟩) : ∀ (rest : List Str) (s8 s9 : Sl), (∀ x ∈ rest, x ∈ kinds8) →
    wFor (gN 8) b_law_x3_0 W0 N (rest.map .str) ⟨lawS a ns s3 ls rows (.dat (.str (D.tup (rows.map rowD)).rep)) (.dat (.tup (.int n :: z))) s8 s9, some (a, c')⟩
  | [], s8, s9, _ => hN s8 s9
  | k :: rest, s8, s9, h => turn_kind (N := { N with nx := wFor (gN 8) b_law_x3_0 W0 N (rest.map .str), ct := wFor (gN 8) b_law_x3_0 W0 N (rest.map .str), bk := N.nx }) ok hl (h k List.mem_cons_self) fun s9 => loop_kinds ok hl hN rest _ s9 fun x hx => h x (List.mem_cons_of_mem _ hx)
theorem loop_rows {a : Addr} {ns : List Int} {N : dEnds} {ls : List D} {rows : List Row} {s3 : Sl} {c' : Nat} (ok : ∀ r ∈ rows, rowOk r) (hl : rows.length ≤ 40)
    (hN : ∀ (s7 s8 s9 : Sl), N.nx ⟨lawS a ns s3 ls rows (.dat (.str (D.tup (rows.map rowD)).rep)) s7 s8 s9, some (a, c')⟩) : ∀ (rest : List D) (s7 s8 s9 : Sl), (∀ d ∈ rest, lineOk d) →
    wFor (gN 7) (dFor (dSeqI (dVar 2)) (gN 8) b_law_x3_0) W0 N rest ⟨lawS a ns s3 ls rows (.dat (.str (D.tup (rows.map rowD)).rep)) s7 s8 s9, some (a, c')⟩
  | [], s7, s8, s9, _ => hN s7 s8 s9
  | d :: rest, s7, s8, s9, h => by
    obtain ⟨n, z, rfl, hn⟩ := h d List.mem_cons_self
    exact loop_kinds (N := { N with nx := wFor (gN 7) (dFor (dSeqI (dVar 2)) (gN 8) b_law_x3_0) W0 N rest, ct := wFor (gN 7) (dFor (dSeqI (dVar 2)) (gN 8) b_law_x3_0) W0 N rest, bk := N.nx }) ok hl (fun s8 s9 => loop_rows ok hl hN rest _ s8 s9 fun x hx => h x (List.mem_cons_of_mem _ hx)) kinds8 s8 s9 fun _ h => h
theorem turn_law {a : Addr} {ns : List Int} {N : dEnds} {t : Int} {s4 s5 s6 s7 s8 s9 : Sl} {c : Nat} (hc : c + 1500 < 65536) (hN : ∀ (s3 s4 s5 s6 s7 s8 s9 : Sl) (c' : Nat), c' ≤ c + 1400 → N.nx ⟨[.dat (.scr ns), .dat (.raw (.ref a)), .dat kindsD, s3, s4, s5, s6, s7, s8, s9], some (a, c')⟩) :
    b_law_x2_0 W0 N ⟨[.dat (.scr ns), .dat (.raw (.ref a)), .dat kindsD, .dat (.int t), s4, s5, s6, s7, s8, s9], some (a, c)⟩ := by
  simp only [dSeq, dNext, dSet, dSetF, setSl, dVar, dTake, dC, dBin, dBinF, dB, dIfS, dIf, dRet, dRetN, dExpr, dNil, dCons, dTup, dLst, dFz, dAnd, dOr, dNot, dAndV, dOrV, dNotV, dCallD, dCallK, dCB, dCBF, dFor, dLC, dYes, dRng1, dRng2, dSeqI, gN, gT, gsNil, gsCons, dAsg, dNeg, dJoin, dFs, dJs, dFmt, dApp, dExt, dPop, dPopAt, dOwnIx, dOwnCB, dOwnL, dOwnR, dOwnSl, dSetIx, dSlT, dSlL, oNone, oSome, dBorn, optQ, ownAt, setOwnAt, lookAt, wipeD, dNewDT, dNewDK, dDGet, dDIn, dDPut, dSortT, rSrt, isDict, Ev.dictGet, Ev.dictPut, Option.isSome_none, Option.isSome_some, D.keyT, keysOf, D.key, exists_eq_left', exists_eq_left, Option.isSome, rRepL, rCatL, dNever, dBrk, dCnt, D.flat, rAddD, rSubI, rIO, rMulI, rDivI, rModI, rPowI, rCI, rIxD, rIsN, rNotN, D.isN, rLen, rTuple, rList, rAbs, rInt, rStr, Ev.rRepr, Ev.rIsi, D.ty, kit_tab, startD, endsD, List.map_cons, List.map_nil, List.length_cons, List.length_nil, List.append_nil, List.nil_append, List.cons_append, List.getElem?_cons_zero, List.getElem?_cons_succ, List.getElem?_nil, List.set_cons_zero, List.set_cons_succ, List.replicate, List.replicate_succ, Nat.zero_add, Nat.zero_le, sizeLine, true_and, and_true, if_true, Ev.eq_int, Ev.eq_str, Ev.eq_bl, Ev.eq_non, lst_nil, tup_nil, List.map_eq_nil_iff, txt_join, rLt, rLe, rGt, rGe, atI_ofNat, atI_last, wLC, strsOf, intsOf, blsOf, Option.map_some, Ev.join_two, Ev.join_one, Ev.join_nil, List.sum_cons, List.sum_nil, PySem.Str.empty_append, ixN_ofNat, Option.some.injEq, exists_eq', List.length_map, decide_true, decide_false, Bool.not_true, Bool.not_false, Bool.true_eq_false, Bool.false_eq_true, false_and, and_false, if_false, ite_true, ite_false, Nat.reduceAdd, Nat.reduceSub, Nat.reduceMul, Nat.reduceLT, Nat.reduceLeDiff, Nat.reduceEqDiff, Nat.reducePow, Int.reduceToNat, Int.reducePow, pickL, List.filterMap_cons, List.filterMap_nil, and_self, Int.reduceLT, Int.reduceLE, Int.reduceNeg, Int.reduceAdd, Int.reduceMul, Int.reduceSub, Int.reduceEq, reduceIte, reduceCtorEq, lit_eq, String.reduceEq, Ev.rEq, Ev.rNe, Ev.rInD, cut_toN, cut_fromN, List.map_take, List.forall_mem_cons, List.forall_mem_nil, List.not_mem_nil, false_imp_iff, implies_true, forall_const, D.cm, D.lay, D.lays, D.dep, D.deps, strOk_lit, lays_ints, deps_ints, Nat.max_self, Nat.max_zero, Nat.zero_max, Bool.and_self, Bool.true_and, Bool.and_true, Bool.and_false, Bool.false_and, Bool.or_false, Bool.or_true, Bool.true_or, Bool.false_or, List.any_cons, List.any_nil, decide_eq_true_eq, eq_self, b_law_x2_0, p_law_x2_0, sp__law_some_book]
  refine ⟨by omega, fun ls c1 n0 nl hls hc1 => ?_⟩
  simp only [dSeq, dNext, dSet, dSetF, setSl, dVar, dTake, dC, dBin, dBinF, dB, dIfS, dIf, dRet, dRetN, dExpr, dNil, dCons, dTup, dLst, dFz, dAnd, dOr, dNot, dAndV, dOrV, dNotV, dCallD, dCallK, dCB, dCBF, dFor, dLC, dYes, dRng1, dRng2, dSeqI, gN, gT, gsNil, gsCons, dAsg, dNeg, dJoin, dFs, dJs, dFmt, dApp, dExt, dPop, dPopAt, dOwnIx, dOwnCB, dOwnL, dOwnR, dOwnSl, dSetIx, dSlT, dSlL, oNone, oSome, dBorn, optQ, ownAt, setOwnAt, lookAt, wipeD, dNewDT, dNewDK, dDGet, dDIn, dDPut, dSortT, rSrt, isDict, Ev.dictGet, Ev.dictPut, Option.isSome_none, Option.isSome_some, D.keyT, keysOf, D.key, exists_eq_left', exists_eq_left, Option.isSome, rRepL, rCatL, dNever, dBrk, dCnt, D.flat, rAddD, rSubI, rIO, rMulI, rDivI, rModI, rPowI, rCI, rIxD, rIsN, rNotN, D.isN, rLen, rTuple, rList, rAbs, rInt, rStr, Ev.rRepr, Ev.rIsi, D.ty, kit_tab, startD, endsD, List.map_cons, List.map_nil, List.length_cons, List.length_nil, List.append_nil, List.nil_append, List.cons_append, List.getElem?_cons_zero, List.getElem?_cons_succ, List.getElem?_nil, List.set_cons_zero, List.set_cons_succ, List.replicate, List.replicate_succ, Nat.zero_add, Nat.zero_le, sizeLine, true_and, and_true, if_true, Ev.eq_int, Ev.eq_str, Ev.eq_bl, Ev.eq_non, lst_nil, tup_nil, List.map_eq_nil_iff, txt_join, rLt, rLe, rGt, rGe, atI_ofNat, atI_last, wLC, strsOf, intsOf, blsOf, Option.map_some, Ev.join_two, Ev.join_one, Ev.join_nil, List.sum_cons, List.sum_nil, PySem.Str.empty_append, ixN_ofNat, Option.some.injEq, exists_eq', List.length_map, decide_true, decide_false, Bool.not_true, Bool.not_false, Bool.true_eq_false, Bool.false_eq_true, false_and, and_false, if_false, ite_true, ite_false, Nat.reduceAdd, Nat.reduceSub, Nat.reduceMul, Nat.reduceLT, Nat.reduceLeDiff, Nat.reduceEqDiff, Nat.reducePow, Int.reduceToNat, Int.reducePow, pickL, List.filterMap_cons, List.filterMap_nil, and_self, Int.reduceLT, Int.reduceLE, Int.reduceNeg, Int.reduceAdd, Int.reduceMul, Int.reduceSub, Int.reduceEq, reduceIte, reduceCtorEq, lit_eq, String.reduceEq, Ev.rEq, Ev.rNe, Ev.rInD, cut_toN, cut_fromN, List.map_take, List.forall_mem_cons, List.forall_mem_nil, List.not_mem_nil, false_imp_iff, implies_true, forall_const, D.cm, D.lay, D.lays, D.dep, D.deps, strOk_lit, lays_ints, deps_ints, Nat.max_self, Nat.max_zero, Nat.zero_max, Bool.and_self, Bool.true_and, Bool.and_true, Bool.and_false, Bool.false_and, Bool.or_false, Bool.or_true, Bool.true_or, Bool.false_or, List.any_cons, List.any_nil, decide_eq_true_eq, eq_self, b_law_x2_1, p_law_x2_1, sp__law_some_wishes]
  refine ⟨a, c1, ls, 12, rfl, rfl, by omega, n0, nl, hls, by decide, by decide, fun rows c2 hl ok hc2 => ?_⟩
  have fin : ∀ (rows : List Row) (c3 : Nat), rows.length ≤ 40 → (∀ r ∈ rows, rowOk r) → c3 ≤ c + 1400 → b_law_x2_3 W0 N ⟨[.dat (.scr ns), .dat (.raw (.ref a)), .dat kindsD, .dat (.int t), .dat (.tup ls), .dat (.tup (rows.map rowD)), s6, s7, s8, s9], some (a, c3)⟩ := fun rows c3 hl ok h => by
    simp only [dSeq, dNext, dSet, dSetF, setSl, dVar, dTake, dC, dBin, dBinF, dB, dIfS, dIf, dRet, dRetN, dExpr, dNil, dCons, dTup, dLst, dFz, dAnd, dOr, dNot, dAndV, dOrV, dNotV, dCallD, dCallK, dCB, dCBF, dFor, dLC, dYes, dRng1, dRng2, dSeqI, gN, gT, gsNil, gsCons, dAsg, dNeg, dJoin, dFs, dJs, dFmt, dApp, dExt, dPop, dPopAt, dOwnIx, dOwnCB, dOwnL, dOwnR, dOwnSl, dSetIx, dSlT, dSlL, oNone, oSome, dBorn, optQ, ownAt, setOwnAt, lookAt, wipeD, dNewDT, dNewDK, dDGet, dDIn, dDPut, dSortT, rSrt, isDict, Ev.dictGet, Ev.dictPut, Option.isSome_none, Option.isSome_some, D.keyT, keysOf, D.key, exists_eq_left', exists_eq_left, Option.isSome, rRepL, rCatL, dNever, dBrk, dCnt, D.flat, rAddD, rSubI, rIO, rMulI, rDivI, rModI, rPowI, rCI, rIxD, rIsN, rNotN, D.isN, rLen, rTuple, rList, rAbs, rInt, rStr, Ev.rRepr, Ev.rIsi, D.ty, kit_tab, startD, endsD, List.map_cons, List.map_nil, List.length_cons, List.length_nil, List.append_nil, List.nil_append, List.cons_append, List.getElem?_cons_zero, List.getElem?_cons_succ, List.getElem?_nil, List.set_cons_zero, List.set_cons_succ, List.replicate, List.replicate_succ, Nat.zero_add, Nat.zero_le, sizeLine, true_and, and_true, if_true, Ev.eq_int, Ev.eq_str, Ev.eq_bl, Ev.eq_non, lst_nil, tup_nil, List.map_eq_nil_iff, txt_join, rLt, rLe, rGt, rGe, atI_ofNat, atI_last, wLC, strsOf, intsOf, blsOf, Option.map_some, Ev.join_two, Ev.join_one, Ev.join_nil, List.sum_cons, List.sum_nil, PySem.Str.empty_append, ixN_ofNat, Option.some.injEq, exists_eq', List.length_map, decide_true, decide_false, Bool.not_true, Bool.not_false, Bool.true_eq_false, Bool.false_eq_true, false_and, and_false, if_false, ite_true, ite_false, Nat.reduceAdd, Nat.reduceSub, Nat.reduceMul, Nat.reduceLT, Nat.reduceLeDiff, Nat.reduceEqDiff, Nat.reducePow, Int.reduceToNat, Int.reducePow, pickL, List.filterMap_cons, List.filterMap_nil, and_self, Int.reduceLT, Int.reduceLE, Int.reduceNeg, Int.reduceAdd, Int.reduceMul, Int.reduceSub, Int.reduceEq, reduceIte, reduceCtorEq, lit_eq, String.reduceEq, Ev.rEq, Ev.rNe, Ev.rInD, cut_toN, cut_fromN, List.map_take, List.forall_mem_cons, List.forall_mem_nil, List.not_mem_nil, false_imp_iff, implies_true, forall_const, D.cm, D.lay, D.lays, D.dep, D.deps, strOk_lit, lays_ints, deps_ints, Nat.max_self, Nat.max_zero, Nat.zero_max, Bool.and_self, Bool.true_and, Bool.and_true, Bool.and_false, Bool.false_and, Bool.or_false, Bool.or_true, Bool.true_or, Bool.false_or, List.any_cons, List.any_nil, decide_eq_true_eq, eq_self, b_law_x2_3, p_law_x2_3, b_law_x2_4, p_law_x2_4, kindsD]
    refine ⟨(rows_sm ok hl).sw, ?_⟩
    exact loop_rows ok hl (fun s7 s8 s9 => hN _ _ _ _ _ _ _ c3 h) ls _ _ _ hls
  simp only [dSeq, dNext, dSet, dSetF, setSl, dVar, dTake, dC, dBin, dBinF, dB, dIfS, dIf, dRet, dRetN, dExpr, dNil, dCons, dTup, dLst, dFz, dAnd, dOr, dNot, dAndV, dOrV, dNotV, dCallD, dCallK, dCB, dCBF, dFor, dLC, dYes, dRng1, dRng2, dSeqI, gN, gT, gsNil, gsCons, dAsg, dNeg, dJoin, dFs, dJs, dFmt, dApp, dExt, dPop, dPopAt, dOwnIx, dOwnCB, dOwnL, dOwnR, dOwnSl, dSetIx, dSlT, dSlL, oNone, oSome, dBorn, optQ, ownAt, setOwnAt, lookAt, wipeD, dNewDT, dNewDK, dDGet, dDIn, dDPut, dSortT, rSrt, isDict, Ev.dictGet, Ev.dictPut, Option.isSome_none, Option.isSome_some, D.keyT, keysOf, D.key, exists_eq_left', exists_eq_left, Option.isSome, rRepL, rCatL, dNever, dBrk, dCnt, D.flat, rAddD, rSubI, rIO, rMulI, rDivI, rModI, rPowI, rCI, rIxD, rIsN, rNotN, D.isN, rLen, rTuple, rList, rAbs, rInt, rStr, Ev.rRepr, Ev.rIsi, D.ty, kit_tab, startD, endsD, List.map_cons, List.map_nil, List.length_cons, List.length_nil, List.append_nil, List.nil_append, List.cons_append, List.getElem?_cons_zero, List.getElem?_cons_succ, List.getElem?_nil, List.set_cons_zero, List.set_cons_succ, List.replicate, List.replicate_succ, Nat.zero_add, Nat.zero_le, sizeLine, true_and, and_true, if_true, Ev.eq_int, Ev.eq_str, Ev.eq_bl, Ev.eq_non, lst_nil, tup_nil, List.map_eq_nil_iff, txt_join, rLt, rLe, rGt, rGe, atI_ofNat, atI_last, wLC, strsOf, intsOf, blsOf, Option.map_some, Ev.join_two, Ev.join_one, Ev.join_nil, List.sum_cons, List.sum_nil, PySem.Str.empty_append, ixN_ofNat, Option.some.injEq, exists_eq', List.length_map, decide_true, decide_false, Bool.not_true, Bool.not_false, Bool.true_eq_false, Bool.false_eq_true, false_and, and_false, if_false, ite_true, ite_false, Nat.reduceAdd, Nat.reduceSub, Nat.reduceMul, Nat.reduceLT, Nat.reduceLeDiff, Nat.reduceEqDiff, Nat.reducePow, Int.reduceToNat, Int.reducePow, pickL, List.filterMap_cons, List.filterMap_nil, and_self, Int.reduceLT, Int.reduceLE, Int.reduceNeg, Int.reduceAdd, Int.reduceMul, Int.reduceSub, Int.reduceEq, reduceIte, reduceCtorEq, lit_eq, String.reduceEq, Ev.rEq, Ev.rNe, Ev.rInD, cut_toN, cut_fromN, List.map_take, List.forall_mem_cons, List.forall_mem_nil, List.not_mem_nil, false_imp_iff, implies_true, forall_const, D.cm, D.lay, D.lays, D.dep, D.deps, strOk_lit, lays_ints, deps_ints, Nat.max_self, Nat.max_zero, Nat.zero_max, Bool.and_self, Bool.true_and, Bool.and_true, Bool.and_false, Bool.false_and, Bool.or_false, Bool.or_true, Bool.true_or, Bool.false_or, List.any_cons, List.any_nil, decide_eq_true_eq, eq_self, b_law_x2_2, p_law_x2_2]
  split
  · simp only [sp__law_all_wishes]
    exact ⟨a, c2, ls, rfl, rfl, by omega, n0, nl, hls, fun rows' c3 hl' ok' h' => fin rows' c3 hl' ok' (by omega)⟩
  · exact fin rows c2 (by omega) ok (by omega)
theorem loop_law {a : Addr} {ns : List Int} {N : dEnds} (hN : ∀ (s3 s4 s5 s6 s7 s8 s9 : Sl) (c' : Nat), N.nx ⟨[.dat (.scr ns), .dat (.raw (.ref a)), .dat kindsD, s3, s4, s5, s6, s7, s8, s9], some (a, c')⟩) :
    ∀ (k : Nat) (lo : Int) (s3 s4 s5 s6 s7 s8 s9 : Sl) (c' : Nat), c' + 1500 * k < 60000 → wFor (gN 3) b_law_x2_0 W0 N (Ev.intsFrom lo k) ⟨[.dat (.scr ns), .dat (.raw (.ref a)), .dat kindsD, s3, s4, s5, s6, s7, s8, s9], some (a, c')⟩
  | 0, lo, s3, s4, s5, s6, s7, s8, s9, c', h => hN _ _ _ _ _ _ _ _
  | k + 1, lo, s3, s4, s5, s6, s7, s8, s9, c', h => by
    rw [from_succ]
    exact turn_law (N := { N with nx := wFor (gN 3) b_law_x2_0 W0 N (Ev.intsFrom (lo + 1) k), ct := wFor (gN 3) b_law_x2_0 W0 N (Ev.intsFrom (lo + 1) k), bk := N.nx }) (by omega) fun s3 s4 s5 s6 s7 s8 s9 c2 h' => loop_law hN k _ _ _ _ _ _ _ _ c2 (by omega)
theorem hsp_law : ∀ ds p Q W, ds.length = 1 → sp_law ds p Q W → b_law W0 (endsD Q) (startD n_law.length ds p) := by
  rintro _ _ Q W - ⟨ns, rfl, hl, rfl, q⟩
  simp only [dSeq, dNext, dSet, dSetF, setSl, dVar, dTake, dC, dBin, dBinF, dB, dIfS, dIf, dRet, dRetN, dExpr, dNil, dCons, dTup, dLst, dFz, dAnd, dOr, dNot, dAndV, dOrV, dNotV, dCallD, dCallK, dCB, dCBF, dFor, dLC, dYes, dRng1, dRng2, dSeqI, gN, gT, gsNil, gsCons, dAsg, dNeg, dJoin, dFs, dJs, dFmt, dApp, dExt, dPop, dPopAt, dOwnIx, dOwnCB, dOwnL, dOwnR, dOwnSl, dSetIx, dSlT, dSlL, oNone, oSome, dBorn, optQ, ownAt, setOwnAt, lookAt, wipeD, dNewDT, dNewDK, dDGet, dDIn, dDPut, dSortT, rSrt, isDict, Ev.dictGet, Ev.dictPut, Option.isSome_none, Option.isSome_some, D.keyT, keysOf, D.key, exists_eq_left', exists_eq_left, Option.isSome, rRepL, rCatL, dNever, dBrk, dCnt, D.flat, rAddD, rSubI, rIO, rMulI, rDivI, rModI, rPowI, rCI, rIxD, rIsN, rNotN, D.isN, rLen, rTuple, rList, rAbs, rInt, rStr, Ev.rRepr, Ev.rIsi, D.ty, kit_tab, startD, endsD, List.map_cons, List.map_nil, List.length_cons, List.length_nil, List.append_nil, List.nil_append, List.cons_append, List.getElem?_cons_zero, List.getElem?_cons_succ, List.getElem?_nil, List.set_cons_zero, List.set_cons_succ, List.replicate, List.replicate_succ, Nat.zero_add, Nat.zero_le, sizeLine, true_and, and_true, if_true, Ev.eq_int, Ev.eq_str, Ev.eq_bl, Ev.eq_non, lst_nil, tup_nil, List.map_eq_nil_iff, txt_join, rLt, rLe, rGt, rGe, atI_ofNat, atI_last, wLC, strsOf, intsOf, blsOf, Option.map_some, Ev.join_two, Ev.join_one, Ev.join_nil, List.sum_cons, List.sum_nil, PySem.Str.empty_append, ixN_ofNat, Option.some.injEq, exists_eq', List.length_map, decide_true, decide_false, Bool.not_true, Bool.not_false, Bool.true_eq_false, Bool.false_eq_true, false_and, and_false, if_false, ite_true, ite_false, Nat.reduceAdd, Nat.reduceSub, Nat.reduceMul, Nat.reduceLT, Nat.reduceLeDiff, Nat.reduceEqDiff, Nat.reducePow, Int.reduceToNat, Int.reducePow, pickL, List.filterMap_cons, List.filterMap_nil, and_self, Int.reduceLT, Int.reduceLE, Int.reduceNeg, Int.reduceAdd, Int.reduceMul, Int.reduceSub, Int.reduceEq, reduceIte, reduceCtorEq, lit_eq, String.reduceEq, Ev.rEq, Ev.rNe, Ev.rInD, cut_toN, cut_fromN, List.map_take, List.forall_mem_cons, List.forall_mem_nil, List.not_mem_nil, false_imp_iff, implies_true, forall_const, D.cm, D.lay, D.lays, D.dep, D.deps, strOk_lit, lays_ints, deps_ints, Nat.max_self, Nat.max_zero, Nat.zero_max, Bool.and_self, Bool.true_and, Bool.and_true, Bool.and_false, Bool.false_and, Bool.or_false, Bool.or_true, Bool.true_or, Bool.false_or, List.any_cons, List.any_nil, decide_eq_true_eq, eq_self, n_law, b_law, b_law_0, p_law_0, b_law_1, p_law_1, b_law_2, p_law_2, sp__law_pen]
  refine ⟨ns, rfl, hl, fun a => ?_⟩
  refine loop_law (fun s3 s4 s5 s6 s7 s8 s9 c' => ?_) 3 0 _ _ _ _ _ _ _ 0 (by decide)
  simp only [dSeq, dNext, dSet, dSetF, setSl, dVar, dTake, dC, dBin, dBinF, dB, dIfS, dIf, dRet, dRetN, dExpr, dNil, dCons, dTup, dLst, dFz, dAnd, dOr, dNot, dAndV, dOrV, dNotV, dCallD, dCallK, dCB, dCBF, dFor, dLC, dYes, dRng1, dRng2, dSeqI, gN, gT, gsNil, gsCons, dAsg, dNeg, dJoin, dFs, dJs, dFmt, dApp, dExt, dPop, dPopAt, dOwnIx, dOwnCB, dOwnL, dOwnR, dOwnSl, dSetIx, dSlT, dSlL, oNone, oSome, dBorn, optQ, ownAt, setOwnAt, lookAt, wipeD, dNewDT, dNewDK, dDGet, dDIn, dDPut, dSortT, rSrt, isDict, Ev.dictGet, Ev.dictPut, Option.isSome_none, Option.isSome_some, D.keyT, keysOf, D.key, exists_eq_left', exists_eq_left, Option.isSome, rRepL, rCatL, dNever, dBrk, dCnt, D.flat, rAddD, rSubI, rIO, rMulI, rDivI, rModI, rPowI, rCI, rIxD, rIsN, rNotN, D.isN, rLen, rTuple, rList, rAbs, rInt, rStr, Ev.rRepr, Ev.rIsi, D.ty, kit_tab, startD, endsD, List.map_cons, List.map_nil, List.length_cons, List.length_nil, List.append_nil, List.nil_append, List.cons_append, List.getElem?_cons_zero, List.getElem?_cons_succ, List.getElem?_nil, List.set_cons_zero, List.set_cons_succ, List.replicate, List.replicate_succ, Nat.zero_add, Nat.zero_le, sizeLine, true_and, and_true, if_true, Ev.eq_int, Ev.eq_str, Ev.eq_bl, Ev.eq_non, lst_nil, tup_nil, List.map_eq_nil_iff, txt_join, rLt, rLe, rGt, rGe, atI_ofNat, atI_last, wLC, strsOf, intsOf, blsOf, Option.map_some, Ev.join_two, Ev.join_one, Ev.join_nil, List.sum_cons, List.sum_nil, PySem.Str.empty_append, ixN_ofNat, Option.some.injEq, exists_eq', List.length_map, decide_true, decide_false, Bool.not_true, Bool.not_false, Bool.true_eq_false, Bool.false_eq_true, false_and, and_false, if_false, ite_true, ite_false, Nat.reduceAdd, Nat.reduceSub, Nat.reduceMul, Nat.reduceLT, Nat.reduceLeDiff, Nat.reduceEqDiff, Nat.reducePow, Int.reduceToNat, Int.reducePow, pickL, List.filterMap_cons, List.filterMap_nil, and_self, Int.reduceLT, Int.reduceLE, Int.reduceNeg, Int.reduceAdd, Int.reduceMul, Int.reduceSub, Int.reduceEq, reduceIte, reduceCtorEq, lit_eq, String.reduceEq, Ev.rEq, Ev.rNe, Ev.rInD, cut_toN, cut_fromN, List.map_take, List.forall_mem_cons, List.forall_mem_nil, List.not_mem_nil, false_imp_iff, implies_true, forall_const, D.cm, D.lay, D.lays, D.dep, D.deps, strOk_lit, lays_ints, deps_ints, Nat.max_self, Nat.max_zero, Nat.zero_max, Bool.and_self, Bool.true_and, Bool.and_true, Bool.and_false, Bool.false_and, Bool.or_false, Bool.or_true, Bool.true_or, Bool.false_or, List.any_cons, List.any_nil, decide_eq_true_eq, eq_self, b_law_3, p_law_3]
  exact q _
theorem ok_law {P : Program} {w : World} {K : PySem.W.Frag} {mg : Str → Option Value} {base : Heap} (m_range : mg "range" = none) (m_repr : mg "repr" = none) (K__law_all_wishes_2 : Def P w K mg base 3 "_law_all_wishes" 2 sp__law_all_wishes []) (K__law_pen_1 : Def P w K mg base 1 "_law_pen" 1 sp__law_pen []) (K__law_some_book_3 : Def P w K mg base 3 "_law_some_book" 3 sp__law_some_book []) (K__law_some_wishes_3 : Def P w K mg base 3 "_law_some_wishes" 3 sp__law_some_wishes []) (K__law_wished_3 : Def P w K mg base 1 "_law_wished" 3 sp__law_wished []) (K_hears_in_3 : Def P w K mg base 1 "hears_in" 3 sp_hears_in []) (K_hears_in_0_room_kind_wishes : DefK P w K mg base 1 "hears_in" 3 sp_hears_in 0 3 ["room", "kind", "wishes"] [2, 1, 0] []) {f : Addr} {fd : FuncData} (F : Fun K "law" "law" s_law f fd) : FnG P w K mg base CX0 4 f fd ["_law_script"] (spD K 1 sp_law) :=
 fn_d0 F sc_law rfl (fun cdv A out s H E g r => run_law m_range m_repr K__law_all_wishes_2 K__law_pen_1 K__law_some_book_3 K__law_some_wishes_3 K__law_wished_3 K_hears_in_3 K_hears_in_0_room_kind_wishes cdv A out s H E g r) hsp_law
theorem all_mk {l : PySem.W.OpenLaw} {w : World} {K : PySem.W.Frag} {h : Heap} {mg : Str → Option Value} {fa a__law_pen a__law_pick a__law_square a__law_some_book a__law_some_kinds a__law_some_wishes a__law_all_wishes a__law_wished a_hears_in a_law : Addr} (X : K.In h) (G : h.Ns mainGlobals mg) (hfa : mg "law" = some (.ref fa))
 {od__law_pen an__law_pen : Option Addr} {sl__law_pen : Array (Option Value)} {oc__law_pen kV__law_pen dc__law_pen pm__law_pen cd__law_pen ct__law_pen : Value}
 (n__law_pen_ : PySem.W.nsIn K mainGlobals "_law_pen" = some (some (.ref a__law_pen))) (l__law_pen : K.lookup a__law_pen = some ⟨oc__law_pen, od__law_pen, .func (PySem.W.fnOf "_law_pen" "_law_pen" (defArgs s__law_pen) (defBody s__law_pen) (defScope s__law_pen) .none kV__law_pen dc__law_pen pm__law_pen an__law_pen cd__law_pen ct__law_pen), sl__law_pen⟩) (c__law_pen : PySem.W.codeIn K cd__law_pen "_law_pen" = true) (k__law_pen : PySem.W.keepIn K (.ref a__law_pen) = true)
 {od__law_pick an__law_pick : Option Addr} {sl__law_pick : Array (Option Value)} {oc__law_pick kV__law_pick dc__law_pick pm__law_pick cd__law_pick ct__law_pick : Value}
 (n__law_pick_ : PySem.W.nsIn K mainGlobals "_law_pick" = some (some (.ref a__law_pick))) (l__law_pick : K.lookup a__law_pick = some ⟨oc__law_pick, od__law_pick, .func (PySem.W.fnOf "_law_pick" "_law_pick" (defArgs s__law_pick) (defBody s__law_pick) (defScope s__law_pick) .none kV__law_pick dc__law_pick pm__law_pick an__law_pick cd__law_pick ct__law_pick), sl__law_pick⟩) (c__law_pick : PySem.W.codeIn K cd__law_pick "_law_pick" = true) (k__law_pick : PySem.W.keepIn K (.ref a__law_pick) = true)
 {od__law_square an__law_square : Option Addr} {sl__law_square : Array (Option Value)} {oc__law_square kV__law_square dc__law_square pm__law_square cd__law_square ct__law_square : Value}
 (n__law_square_ : PySem.W.nsIn K mainGlobals "_law_square" = some (some (.ref a__law_square))) (l__law_square : K.lookup a__law_square = some ⟨oc__law_square, od__law_square, .func (PySem.W.fnOf "_law_square" "_law_square" (defArgs s__law_square) (defBody s__law_square) (defScope s__law_square) .none kV__law_square dc__law_square pm__law_square an__law_square cd__law_square ct__law_square), sl__law_square⟩) (c__law_square : PySem.W.codeIn K cd__law_square "_law_square" = true) (k__law_square : PySem.W.keepIn K (.ref a__law_square) = true)
 {od__law_some_book an__law_some_book : Option Addr} {sl__law_some_book : Array (Option Value)} {oc__law_some_book kV__law_some_book dc__law_some_book pm__law_some_book cd__law_some_book ct__law_some_book : Value}
 (n__law_some_book_ : PySem.W.nsIn K mainGlobals "_law_some_book" = some (some (.ref a__law_some_book))) (l__law_some_book : K.lookup a__law_some_book = some ⟨oc__law_some_book, od__law_some_book, .func (PySem.W.fnOf "_law_some_book" "_law_some_book" (defArgs s__law_some_book) (defBody s__law_some_book) (defScope s__law_some_book) .none kV__law_some_book dc__law_some_book pm__law_some_book an__law_some_book cd__law_some_book ct__law_some_book), sl__law_some_book⟩) (c__law_some_book : PySem.W.codeIn K cd__law_some_book "_law_some_book" = true) (k__law_some_book : PySem.W.keepIn K (.ref a__law_some_book) = true)
 {od__law_some_kinds an__law_some_kinds : Option Addr} {sl__law_some_kinds : Array (Option Value)} {oc__law_some_kinds kV__law_some_kinds dc__law_some_kinds pm__law_some_kinds cd__law_some_kinds ct__law_some_kinds : Value}
 (n__law_some_kinds_ : PySem.W.nsIn K mainGlobals "_law_some_kinds" = some (some (.ref a__law_some_kinds))) (l__law_some_kinds : K.lookup a__law_some_kinds = some ⟨oc__law_some_kinds, od__law_some_kinds, .func (PySem.W.fnOf "_law_some_kinds" "_law_some_kinds" (defArgs s__law_some_kinds) (defBody s__law_some_kinds) (defScope s__law_some_kinds) .none kV__law_some_kinds dc__law_some_kinds pm__law_some_kinds an__law_some_kinds cd__law_some_kinds ct__law_some_kinds), sl__law_some_kinds⟩) (c__law_some_kinds : PySem.W.codeIn K cd__law_some_kinds "_law_some_kinds" = true) (k__law_some_kinds : PySem.W.keepIn K (.ref a__law_some_kinds) = true)
 {od__law_some_wishes an__law_some_wishes : Option Addr} {sl__law_some_wishes : Array (Option Value)} {oc__law_some_wishes kV__law_some_wishes dc__law_some_wishes pm__law_some_wishes cd__law_some_wishes ct__law_some_wishes : Value}
 (n__law_some_wishes_ : PySem.W.nsIn K mainGlobals "_law_some_wishes" = some (some (.ref a__law_some_wishes))) (l__law_some_wishes : K.lookup a__law_some_wishes = some ⟨oc__law_some_wishes, od__law_some_wishes, .func (PySem.W.fnOf "_law_some_wishes" "_law_some_wishes" (defArgs s__law_some_wishes) (defBody s__law_some_wishes) (defScope s__law_some_wishes) .none kV__law_some_wishes dc__law_some_wishes pm__law_some_wishes an__law_some_wishes cd__law_some_wishes ct__law_some_wishes), sl__law_some_wishes⟩) (c__law_some_wishes : PySem.W.codeIn K cd__law_some_wishes "_law_some_wishes" = true) (k__law_some_wishes : PySem.W.keepIn K (.ref a__law_some_wishes) = true)
 {od__law_all_wishes an__law_all_wishes : Option Addr} {sl__law_all_wishes : Array (Option Value)} {oc__law_all_wishes kV__law_all_wishes dc__law_all_wishes pm__law_all_wishes cd__law_all_wishes ct__law_all_wishes : Value}
 (n__law_all_wishes_ : PySem.W.nsIn K mainGlobals "_law_all_wishes" = some (some (.ref a__law_all_wishes))) (l__law_all_wishes : K.lookup a__law_all_wishes = some ⟨oc__law_all_wishes, od__law_all_wishes, .func (PySem.W.fnOf "_law_all_wishes" "_law_all_wishes" (defArgs s__law_all_wishes) (defBody s__law_all_wishes) (defScope s__law_all_wishes) .none kV__law_all_wishes dc__law_all_wishes pm__law_all_wishes an__law_all_wishes cd__law_all_wishes ct__law_all_wishes), sl__law_all_wishes⟩) (c__law_all_wishes : PySem.W.codeIn K cd__law_all_wishes "_law_all_wishes" = true) (k__law_all_wishes : PySem.W.keepIn K (.ref a__law_all_wishes) = true)
 {od__law_wished an__law_wished : Option Addr} {sl__law_wished : Array (Option Value)} {oc__law_wished kV__law_wished dc__law_wished pm__law_wished cd__law_wished ct__law_wished : Value}
 (n__law_wished_ : PySem.W.nsIn K mainGlobals "_law_wished" = some (some (.ref a__law_wished))) (l__law_wished : K.lookup a__law_wished = some ⟨oc__law_wished, od__law_wished, .func (PySem.W.fnOf "_law_wished" "_law_wished" (defArgs s__law_wished) (defBody s__law_wished) (defScope s__law_wished) .none kV__law_wished dc__law_wished pm__law_wished an__law_wished cd__law_wished ct__law_wished), sl__law_wished⟩) (c__law_wished : PySem.W.codeIn K cd__law_wished "_law_wished" = true) (k__law_wished : PySem.W.keepIn K (.ref a__law_wished) = true)
 {od_hears_in an_hears_in : Option Addr} {sl_hears_in : Array (Option Value)} {oc_hears_in kV_hears_in dc_hears_in pm_hears_in cd_hears_in ct_hears_in : Value}
 (n_hears_in_ : PySem.W.nsIn K mainGlobals "hears_in" = some (some (.ref a_hears_in))) (l_hears_in : K.lookup a_hears_in = some ⟨oc_hears_in, od_hears_in, .func (PySem.W.fnOf "hears_in" "hears_in" (defArgs s_hears_in) (defBody s_hears_in) (defScope s_hears_in) .none kV_hears_in dc_hears_in pm_hears_in an_hears_in cd_hears_in ct_hears_in), sl_hears_in⟩) (c_hears_in : PySem.W.codeIn K cd_hears_in "hears_in" = true) (k_hears_in : PySem.W.keepIn K (.ref a_hears_in) = true)
 {od_law an_law : Option Addr} {sl_law : Array (Option Value)} {oc_law kV_law dc_law pm_law cd_law ct_law : Value}
 (n_law_ : PySem.W.nsIn K mainGlobals "law" = some (some (.ref a_law))) (l_law : K.lookup a_law = some ⟨oc_law, od_law, .func (PySem.W.fnOf "law" "law" (defArgs s_law) (defBody s_law) (defScope s_law) .none kV_law dc_law pm_law an_law cd_law ct_law), sl_law⟩) (c_law : PySem.W.codeIn K cd_law "law" = true) (k_law : PySem.W.keepIn K (.ref a_law) = true)
 (z_abs : PySem.W.nsIn K mainGlobals "abs" = some none) (z_int : PySem.W.nsIn K mainGlobals "int" = some none) (z_len : PySem.W.nsIn K mainGlobals "len" = some none) (z_list : PySem.W.nsIn K mainGlobals "list" = some none) (z_range : PySem.W.nsIn K mainGlobals "range" = some none) (z_repr : PySem.W.nsIn K mainGlobals "repr" = some none) (z_sorted : PySem.W.nsIn K mainGlobals "sorted" = some none) (z_tuple : PySem.W.nsIn K mainGlobals "tuple" = some none) :
 ∃ fd : FuncData, (∀ (s : Shared) (v : Value), BindsTo s fd ⟨[v], []⟩ [("_law_script", v)]) ∧ ∀ base : Heap, K.In base → base.Ns mainGlobals mg → FnG l.prog w K mg base CX0 4 fa fd ["_law_script"] (spD K 1 sp_law) := by
  have e := hfa.symm.trans (PySem.W.mg_of X G n_law_)
  cases e
  have m_abs := PySem.W.mg_none_of X G z_abs
  have m_int := PySem.W.mg_none_of X G z_int
  have m_len := PySem.W.mg_none_of X G z_len
  have m_list := PySem.W.mg_none_of X G z_list
  have m_range := PySem.W.mg_none_of X G z_range
  have m_repr := PySem.W.mg_none_of X G z_repr
  have m_sorted := PySem.W.mg_none_of X G z_sorted
  have m_tuple := PySem.W.mg_none_of X G z_tuple
  have F__law_pen := fun_mk (st := s__law_pen) l__law_pen c__law_pen k__law_pen
  have F__law_pick := fun_mk (st := s__law_pick) l__law_pick c__law_pick k__law_pick
  have F__law_square := fun_mk (st := s__law_square) l__law_square c__law_square k__law_square
  have F__law_some_book := fun_mk (st := s__law_some_book) l__law_some_book c__law_some_book k__law_some_book
  have F__law_some_kinds := fun_mk (st := s__law_some_kinds) l__law_some_kinds c__law_some_kinds k__law_some_kinds
  have F__law_some_wishes := fun_mk (st := s__law_some_wishes) l__law_some_wishes c__law_some_wishes k__law_some_wishes
  have F__law_all_wishes := fun_mk (st := s__law_all_wishes) l__law_all_wishes c__law_all_wishes k__law_all_wishes
  have F__law_wished := fun_mk (st := s__law_wished) l__law_wished c__law_wished k__law_wished
  have F_hears_in := fun_mk (st := s_hears_in) l_hears_in c_hears_in k_hears_in
  have F_law := fun_mk (st := s_law) l_law c_law k_law
  refine ⟨PySem.W.fnOf "law" "law" (defArgs s_law) (defBody s_law) (defScope s_law) .none kV_law dc_law pm_law an_law cd_law ct_law, fun s v => .of_eq rfl, fun base _ _ => ?_⟩
  have G__law_pen : FnG l.prog w K mg base CX0 1 a__law_pen _ ["_law_script"] (spD K 1 sp__law_pen) := ok__law_pen m_list F__law_pen
  have K__law_pen_1 : Def l.prog w K mg base 1 "_law_pen" 1 sp__law_pen [] := ⟨["_law_script"], a__law_pen, _, [], [], G__law_pen, PySem.W.mg_of X G n__law_pen_, k__law_pen, F__law_pen.binds (ps := ["_law_script"]) (fun _ _ _ _ _ _ us hl => match us, hl with | [_], _ => rfl), .nil, fun _ => .nil⟩
  have G__law_pick : FnG l.prog w K mg base CX0 1 a__law_pick _ ["_law_pen_here", "_law_upto"] (spD K 2 sp__law_pick) := ok__law_pick m_abs m_int m_len F__law_pick
  have K__law_pick_2 : Def l.prog w K mg base 1 "_law_pick" 2 sp__law_pick [] := ⟨["_law_pen_here", "_law_upto"], a__law_pick, _, [], [], G__law_pick, PySem.W.mg_of X G n__law_pick_, k__law_pick, F__law_pick.binds (ps := ["_law_pen_here", "_law_upto"]) (fun _ _ _ _ _ _ us hl => match us, hl with | [_, _], _ => rfl), .nil, fun _ => .nil⟩
  have G__law_square : FnG l.prog w K mg base CX0 2 a__law_square _ ["_law_pen_here", "_law_near"] (spD K 2 sp__law_square) := ok__law_square m_range m_tuple K__law_pick_2 F__law_square
  have K__law_square_2 : Def l.prog w K mg base 2 "_law_square" 2 sp__law_square [] := ⟨["_law_pen_here", "_law_near"], a__law_square, _, [], [], G__law_square, PySem.W.mg_of X G n__law_square_, k__law_square, F__law_square.binds (ps := ["_law_pen_here", "_law_near"]) (fun _ _ _ _ _ _ us hl => match us, hl with | [_, _], _ => rfl), .nil, fun _ => .nil⟩
  have G__law_some_book : FnG l.prog w K mg base CX0 3 a__law_some_book _ ["_law_pen_here", "_law_upto", "_law_near"] (spD K 3 sp__law_some_book) := ok__law_some_book m_len m_range m_tuple K__law_pick_2 K__law_square_2 F__law_some_book
  have K__law_some_book_3 : Def l.prog w K mg base 3 "_law_some_book" 3 sp__law_some_book [] := ⟨["_law_pen_here", "_law_upto", "_law_near"], a__law_some_book, _, [], [], G__law_some_book, PySem.W.mg_of X G n__law_some_book_, k__law_some_book, F__law_some_book.binds (ps := ["_law_pen_here", "_law_upto", "_law_near"]) (fun _ _ _ _ _ _ us hl => match us, hl with | [_, _, _], _ => rfl), .nil, fun _ => .nil⟩
  have G__law_some_kinds : FnG l.prog w K mg base CX0 2 a__law_some_kinds _ ["_law_pen_here", "_law_some"] (spD K 2 sp__law_some_kinds) := ok__law_some_kinds m_int m_len m_tuple K__law_pick_2 F__law_some_kinds
  have K__law_some_kinds_2 : Def l.prog w K mg base 2 "_law_some_kinds" 2 sp__law_some_kinds [] := ⟨["_law_pen_here", "_law_some"], a__law_some_kinds, _, [], [], G__law_some_kinds, PySem.W.mg_of X G n__law_some_kinds_, k__law_some_kinds, F__law_some_kinds.binds (ps := ["_law_pen_here", "_law_some"]) (fun _ _ _ _ _ _ us hl => match us, hl with | [_, _], _ => rfl), .nil, fun _ => .nil⟩
  have G__law_some_wishes : FnG l.prog w K mg base CX0 3 a__law_some_wishes _ ["_law_pen_here", "_law_web", "_law_many"] (spD K 3 sp__law_some_wishes) := ok__law_some_wishes m_int m_len m_range m_sorted m_tuple K__law_pick_2 K__law_some_kinds_2 F__law_some_wishes
  have K__law_some_wishes_3 : Def l.prog w K mg base 3 "_law_some_wishes" 3 sp__law_some_wishes [] := ⟨["_law_pen_here", "_law_web", "_law_many"], a__law_some_wishes, _, [], [], G__law_some_wishes, PySem.W.mg_of X G n__law_some_wishes_, k__law_some_wishes, F__law_some_wishes.binds (ps := ["_law_pen_here", "_law_web", "_law_many"]) (fun _ _ _ _ _ _ us hl => match us, hl with | [_, _, _], _ => rfl), .nil, fun _ => .nil⟩
  have G__law_all_wishes : FnG l.prog w K mg base CX0 3 a__law_all_wishes _ ["_law_pen_here", "_law_web"] (spD K 2 sp__law_all_wishes) := ok__law_all_wishes m_sorted m_tuple K__law_pick_2 K__law_some_kinds_2 F__law_all_wishes
  have K__law_all_wishes_2 : Def l.prog w K mg base 3 "_law_all_wishes" 2 sp__law_all_wishes [] := ⟨["_law_pen_here", "_law_web"], a__law_all_wishes, _, [], [], G__law_all_wishes, PySem.W.mg_of X G n__law_all_wishes_, k__law_all_wishes, F__law_all_wishes.binds (ps := ["_law_pen_here", "_law_web"]) (fun _ _ _ _ _ _ us hl => match us, hl with | [_, _], _ => rfl), .nil, fun _ => .nil⟩
  have G__law_wished : FnG l.prog w K mg base CX0 1 a__law_wished _ ["_law_rows", "_law_sort", "_law_number"] (spD K 3 sp__law_wished) := ok__law_wished m_tuple F__law_wished
  have K__law_wished_3 : Def l.prog w K mg base 1 "_law_wished" 3 sp__law_wished [] := ⟨["_law_rows", "_law_sort", "_law_number"], a__law_wished, _, [], [], G__law_wished, PySem.W.mg_of X G n__law_wished_, k__law_wished, F__law_wished.binds (ps := ["_law_rows", "_law_sort", "_law_number"]) (fun _ _ _ _ _ _ us hl => match us, hl with | [_, _, _], _ => rfl), .nil, fun _ => .nil⟩
  have G_hears_in : FnG l.prog w K mg base CX0 1 a_hears_in _ ["wishes", "kind", "room"] (spD K 3 sp_hears_in) := ok_hears_in m_tuple F_hears_in
  have K_hears_in_3 : Def l.prog w K mg base 1 "hears_in" 3 sp_hears_in [] := ⟨["wishes", "kind", "room"], a_hears_in, _, [], [], G_hears_in, PySem.W.mg_of X G n_hears_in_, k_hears_in, F_hears_in.binds (ps := ["wishes", "kind", "room"]) (fun _ _ _ _ _ _ us hl => match us, hl with | [_, _, _], _ => rfl), .nil, fun _ => .nil⟩
  have K_hears_in_0_room_kind_wishes : DefK l.prog w K mg base 1 "hears_in" 3 sp_hears_in 0 3 ["room", "kind", "wishes"] [2, 1, 0] [] := ⟨["wishes", "kind", "room"], a_hears_in, _, [], [], G_hears_in, PySem.W.mg_of X G n_hears_in_, k_hears_in, kbinds_of .nil (by decide) (fun s us ws _ h1 h2 => match us, ws, h1, h2 with | [], [v0, v1, v2], _, _ => .of_eq rfl), fun _ => .nil⟩
  exact ok_law m_range m_repr K__law_all_wishes_2 K__law_pen_1 K__law_some_book_3 K__law_some_wishes_3 K__law_wished_3 K_hears_in_3 K_hears_in_0_room_kind_wishes F_law

end Ev33
open PySem PySem.W PyProof.Rows
set_option maxHeartbeats 0 in
theorem PySem.Challenge.cw_eventrooms_k33_who_hears_in_a_room_alone_holds : PySem.Challenge.rw_eventrooms_k33_who_hears_in_a_room_alone.Holds := by
  w_on; o_law; k_head; (case hw => w_witness2)
  k_fill
  refine Ev.walk_g (l := PySem.Challenge.rw_eventrooms_k33_who_hears_in_a_room_alone) (n := 63) (k := 4) (x := "_law_script") (CX := fun _ => L2.CX0) (sp := fun w => Ev.spD _ 1 Ev33.sp_law) rfl (by decide) rfl ⟨rfl, by decide, by decide⟩ (fun w h Y => PySem.W.kIn_of Y) ?F (fun _ H a ns hl hS => Ev.law_sp (fun ns hn => ⟨ns, rfl, hn, rfl, fun _ => rfl⟩) hl hS) (fun _ _ _ _ _ h => h)
  case F =>
    intro w mg fa h KX G hmg
    refine' Ev33.all_mk KX G hmg ?n__law_pen_ ?l__law_pen ?c__law_pen ?k__law_pen ?n__law_pick_ ?l__law_pick ?c__law_pick ?k__law_pick ?n__law_square_ ?l__law_square ?c__law_square ?k__law_square ?n__law_some_book_ ?l__law_some_book ?c__law_some_book ?k__law_some_book ?n__law_some_kinds_ ?l__law_some_kinds ?c__law_some_kinds ?k__law_some_kinds ?n__law_some_wishes_ ?l__law_some_wishes ?c__law_some_wishes ?k__law_some_wishes ?n__law_all_wishes_ ?l__law_all_wishes ?c__law_all_wishes ?k__law_all_wishes ?n__law_wished_ ?l__law_wished ?c__law_wished ?k__law_wished ?n_hears_in_ ?l_hears_in ?c_hears_in ?k_hears_in ?n_law_ ?l_law ?c_law ?k_law ?z_abs ?z_int ?z_len ?z_list ?z_range ?z_repr ?z_sorted ?z_tuple
    (case n__law_pen_ => k_is); (case l__law_pen => k_is); (case c__law_pen => k_is); (case k__law_pen => k_is); (case n__law_pick_ => k_is); (case l__law_pick => k_is)
    (case c__law_pick => k_is); (case k__law_pick => k_is); (case n__law_square_ => k_is); (case l__law_square => k_is); (case c__law_square => k_is); (case k__law_square => k_is)
    (case n__law_some_book_ => k_is); (case l__law_some_book => k_is); (case c__law_some_book => k_is); (case k__law_some_book => k_is); (case n__law_some_kinds_ => k_is); (case l__law_some_kinds => k_is)
    (case c__law_some_kinds => k_is); (case k__law_some_kinds => k_is); (case n__law_some_wishes_ => k_is); (case l__law_some_wishes => k_is); (case c__law_some_wishes => k_is); (case k__law_some_wishes => k_is)
    (case n__law_all_wishes_ => k_is); (case l__law_all_wishes => k_is); (case c__law_all_wishes => k_is); (case k__law_all_wishes => k_is); (case n__law_wished_ => k_is); (case l__law_wished => k_is)
    (case c__law_wished => k_is); (case k__law_wished => k_is); (case n_hears_in_ => k_is); (case l_hears_in => k_is); (case c_hears_in => k_is); (case k_hears_in => k_is)
    (case n_law_ => k_is); (case l_law => k_is); (case c_law => k_is); (case k_law => k_is); (case z_abs => k_is); (case z_int => k_is)
    (case z_len => k_is); (case z_list => k_is); (case z_range => k_is); (case z_repr => k_is); (case z_sorted => k_is); (case z_tuple => k_is)
