import PyProof.Rows.All
import Wide.All
import OpenK.AllK
import Wide.FinOn
import HandS.ForMost
import HandS.TupAny
import HandS.Deep
import HandS.IsInst
import HandS.Walk
import HandS.CallSlots
import HandS.Exc
import HandS.RaiseMore
import HandS.Wide
import HandS.FStr
import KE.SortData
import HandS.Conv
import HandS.Style
import HandS.Rev
import HandS.Zip
import HandS.SortKw
import PySem.Challenge.RW_eventrooms_k38_whole_there_and_back
set_option Elab.async false
set_option linter.all false
set_option maxRecDepth 100000
set_option maxHeartbeats 4000000
/-! # The D-layer: values as plain data, readings that know no heap -/
namespace Ev
open PySem PySem.Spec PyProof.Rows L2

inductive D where
  | non | bl (b : Bool) | int (i : Int) | str (x : Str)
  | tup (xs : List D) | lst (xs : List D)
  | dK (kvs : List (Key × D)) | dT (kvs : List (List Key × D))
  | raw (v : V)
  | scr (ns : List Int)

/-- all that was known is known still -/
def Ex (H H' : Hp) : Prop := ∀ a o, H a = some o → H' a = some o
theorem Ex.refl (H : Hp) : Ex H H := fun _ _ h => h
theorem Ex.trans {H H1 H2 : Hp} (a : Ex H H1) (b : Ex H1 H2) : Ex H H2 := fun x o h => b x o (a x o h)
theorem Ex.new {H : Hp} {p : Addr} {o : HO} (h : H p = none) : Ex H (upd H p o) := fun a u e => by
  rw [upd_ne (ne_of_none e h)]
  exact e
theorem Ex.rd {H H' : Hp} {a : Addr} {u : HO} (e : Ex H H') (h : Rd H a u) : Rd H' a u := by
  rcases h with h | ⟨o, h⟩
  · exact Or.inl (e a _ h)
  · exact Or.inr ⟨o, e a _ h⟩
theorem Ex.sqT {K : PySem.W.Frag} {H H' : Hp} {a : Addr} {xs : List V} (e : Ex H H') (h : SqT K H a xs) : SqT K H' a xs := by
  rcases h with h | h
  · exact Or.inl (e.rd h)
  · exact Or.inr h
theorem Ex.sqL {K : PySem.W.Frag} {H H' : Hp} {a : Addr} {xs : List V} (e : Ex H H') (h : SqL K H a xs) : SqL K H' a xs := by
  rcases h with h | h
  · exact Or.inl (e.rd h)
  · exact Or.inr h
theorem Ex.none {H H' : Hp} {a : Addr} (e : Ex H H') (h : H' a = Option.none) : H a = Option.none := by
  cases q : H a with
  | none => rfl
  | some o => rw [e a o q] at h; cases h

/-- every tuple that is known is frozen -/
def TupIn (S H : Hp) : Prop := ∀ b vs, H b = some (.tup vs) → S b = some (.tup vs)
/-- what is frozen is known, the tuples among it -/
structure Sb (S H : Hp) : Prop where
  ex : Ex S H
  tp : TupIn S H
instance {S H : Hp} : CoeFun (Sb S H) fun _ => ∀ a o, S a = some o → H a = some o := ⟨fun e => e.ex⟩
instance {S H : Hp} : Coe (Sb S H) (Ex S H) := ⟨fun e => e.ex⟩
theorem Sb.trans {S H H' : Hp} (e : Sb S H) (g : Ex H H') : Ex S H' := e.ex.trans g
theorem Sb.sqT {K : PySem.W.Frag} {H H' : Hp} {a : Addr} {xs : List V} (e : Sb H H') (h : SqT K H a xs) : SqT K H' a xs := e.ex.sqT h
theorem Sb.sqL {K : PySem.W.Frag} {H H' : Hp} {a : Addr} {xs : List V} (e : Sb H H') (h : SqL K H a xs) : SqL K H' a xs := e.ex.sqL h
theorem Sb.rd {H H' : Hp} {a : Addr} {u : HO} (e : Sb H H') (h : Rd H a u) : Rd H' a u := e.ex.rd h
theorem Sb.none {H H' : Hp} {a : Addr} (e : Sb H H') (h : H' a = Option.none) : H a = Option.none := e.ex.none h
theorem Sb.same {H : Hp} : Sb H H := ⟨Ex.refl _, fun _ _ h => h⟩
/-- only the heap grows, by no tuple -/
theorem Sb.one {S H : Hp} (e : Sb S H) {p : Addr} {o : HO} (hp : H p = Option.none) (ho : ∀ vs, o ≠ .tup vs) : Sb S (upd H p o) := by
  refine ⟨fun a u h => Ex.new hp a u (e a u h), fun b vs h => ?_⟩
  by_cases q : b = p
  · subst q; rw [upd_same] at h; exact absurd (Option.some.inj h) (ho vs)
  · rw [upd_ne q] at h; exact e.tp b vs h
mutual
/-- the value v bears the data d, by what is frozen in S -/
inductive Dn (K : PySem.W.Frag) (S : Hp) : V → D → Prop
  | non : Dn K S .non .non
  | bl (b : Bool) : Dn K S (.bl b) (.bl b)
  | int (i : Int) : Dn K S (.int i) (.int i)
  | str (x : Str) : Dn K S (.str x) (.str x)
  | raw (v : V) : Dn K S v (.raw v)
  | scr {a : Addr} {ns : List Int} : SqL K S a (ns.map V.int) → Dn K S (.ref a) (.scr ns)
  | tup {a : Addr} {vs : List V} {ds : List D} : S a = some (.tup vs) → DnA K S vs ds → Dn K S (.ref a) (.tup ds)
  | lst {a : Addr} {vs : List V} {ds : List D} : S a = some (.lst vs) → DnA K S vs ds → Dn K S (.ref a) (.lst ds)
  | dK {a : Addr} {kvs : List (Key × V)} {es : List (Key × D)} : S a = some (.dK kvs) → kvs.map (·.1) = es.map (·.1) → DnA K S (kvs.map (·.2)) (es.map (·.2)) → Dn K S (.ref a) (.dK es)
  | dT {a : Addr} {kvs : List (List Key × V)} {es : List (List Key × D)} : S a = some (.dT kvs) → kvs.map (·.1) = es.map (·.1) → DnA K S (kvs.map (·.2)) (es.map (·.2)) → Dn K S (.ref a) (.dT es)
inductive DnA (K : PySem.W.Frag) (S : Hp) : List V → List D → Prop
  | nil : DnA K S [] []
  | cons {v : V} {vs : List V} {d : D} {ds : List D} : Dn K S v d → DnA K S vs ds → DnA K S (v :: vs) (d :: ds)
end
variable {K : PySem.W.Frag} {S S' H H' : Hp}
mutual
theorem Dn.mono (e : Ex S S') : ∀ {v : V} {d : D}, Dn K S v d → Dn K S' v d
  | _, _, .non => .non
  | _, _, .bl b => .bl b
  | _, _, .int i => .int i
  | _, _, .str x => .str x
  | _, _, .raw v => .raw v
  | _, _, .scr h => .scr (e.sqL h)
  | _, _, .tup h a => .tup (e _ _ h) (DnA.mono e a)
  | _, _, .lst h a => .lst (e _ _ h) (DnA.mono e a)
  | _, _, .dK h k a => .dK (e _ _ h) k (DnA.mono e a)
  | _, _, .dT h k a => .dT (e _ _ h) k (DnA.mono e a)
theorem DnA.mono (e : Ex S S') : ∀ {vs : List V} {ds : List D}, DnA K S vs ds → DnA K S' vs ds
  | _, _, .nil => .nil
  | _, _, .cons h a => .cons (Dn.mono e h) (DnA.mono e a)
end
theorem DnA.length : ∀ {vs : List V} {ds : List D}, DnA K S vs ds → vs.length = ds.length
  | _, _, .nil => rfl
  | _, _, .cons _ a => congrArg (· + 1) a.length
theorem DnA.append : ∀ {vs ws : List V} {ds es : List D}, DnA K S vs ds → DnA K S ws es → DnA K S (vs ++ ws) (ds ++ es)
  | _, _, _, _, .nil, b => b
  | _, _, _, _, .cons h a, b => .cons h (a.append b)
theorem DnA.get : ∀ {vs : List V} {ds : List D} {i : Nat} {d : D}, DnA K S vs ds → ds[i]? = some d → ∃ v, vs[i]? = some v ∧ Dn K S v d
  | _, _, _, _, .nil, e => by simp at e
  | _, _, 0, _, .cons h _, e => by simp at e; subst e; exact ⟨_, rfl, h⟩
  | _, _, i + 1, _, .cons _ a, e => by
    obtain ⟨v, h1, h2⟩ := a.get (i := i) (by simpa using e)
    exact ⟨v, by simpa using h1, h2⟩
theorem DnA.getV : ∀ {vs : List V} {ds : List D} {i : Nat} {v : V}, DnA K S vs ds → vs[i]? = some v → ∃ d, ds[i]? = some d ∧ Dn K S v d
  | _, _, _, _, .nil, e => by simp at e
  | _, _, 0, _, .cons h _, e => by simp at e; subst e; exact ⟨_, rfl, h⟩
  | _, _, i + 1, _, .cons _ a, e => by
    obtain ⟨v, h1, h2⟩ := a.getV (i := i) (by simpa using e)
    exact ⟨v, by simpa using h1, h2⟩
theorem DnA.set {v : V} {d : D} (h : Dn K S v d) : ∀ {vs : List V} {ds : List D} (i : Nat), DnA K S vs ds → DnA K S (vs.set i v) (ds.set i d)
  | _, _, _, .nil => .nil
  | _, _, 0, .cons _ a => .cons h a
  | _, _, i + 1, .cons q a => .cons q (a.set h i)
theorem DnA.take : ∀ {vs : List V} {ds : List D} (n : Nat), DnA K S vs ds → DnA K S (vs.take n) (ds.take n)
  | _, _, 0, _ => .nil
  | _, _, _ + 1, .nil => .nil
  | _, _, n + 1, .cons h a => .cons h (a.take n)
theorem DnA.drop : ∀ {vs : List V} {ds : List D} (n : Nat), DnA K S vs ds → DnA K S (vs.drop n) (ds.drop n)
  | _, _, 0, a => a
  | _, _, _ + 1, .nil => .nil
  | _, _, n + 1, .cons _ a => a.drop n
theorem DnA.eraseIdx : ∀ {vs : List V} {ds : List D} (n : Nat), DnA K S vs ds → DnA K S (vs.eraseIdx n) (ds.eraseIdx n)
  | _, _, _, .nil => .nil
  | _, _, 0, .cons _ a => a
  | _, _, n + 1, .cons h a => .cons h (a.eraseIdx n)
theorem DnA.reverse {vs : List V} {ds : List D} (a : DnA K S vs ds) : DnA K S vs.reverse ds.reverse := by
  induction vs generalizing ds with
  | nil => cases a; exact .nil
  | cons v vs ih =>
    cases a with
    | cons h a =>
      rw [List.reverse_cons, List.reverse_cons]
      exact (ih a).append (.cons h .nil)
theorem DnA.ints : ∀ ns : List Int, DnA K S (ns.map V.int) (ns.map D.int)
  | [] => .nil
  | n :: ns => .cons (.int n) (DnA.ints ns)
theorem DnA.strs : ∀ ns : List Str, DnA K S (ns.map V.str) (ns.map D.str)
  | [] => .nil
  | n :: ns => .cons (.str n) (DnA.strs ns)

/-- the pen: where it stands, at most so many draws so far -/
abbrev Pen := Option (Addr × Nat)
def PenOk (S H : Hp) : Pen → Prop
  | none => True
  | some (a, c) => S a = none ∧ ∃ (ca : Addr) (ns : List Int) (k m : Int), H a = some (.lst [.ref ca, .int k, .int m]) ∧ S ca = some (.lst (ns.map V.int)) ∧ ns.length ≤ 63 ∧ 0 ≤ k ∧ k ≤ c ∧ 0 ≤ m

/-- what stood at a def's entry; pa: what alone of it may change -/
structure Bs where
  S0 : Hp
  H0 : Hp
  pa : Option Addr
  pd : Bool := true
structure Frm (B : Bs) (S H : Hp) : Prop where
  s : Ex B.S0 S
  h : ∀ b o, B.H0 b = some o → B.pa ≠ some b → H b = some o
  no : ∀ b o, B.H0 b = some o → B.S0 b = none → S b = none
  pa : ∀ a, B.pa = some a → ∃ o, H a = some o
theorem Frm.there {B : Bs} (f : Frm B S H) {b : Addr} {o : HO} (h : B.H0 b = some o) : ∃ o', H b = some o' := by
  by_cases e : B.pa = some b
  · exact f.pa b e
  · exact ⟨o, f.h b o h e⟩

/-- a slot: not known, data, a list of one's own that may be changed, a dict of one's own -/
inductive Sl where
  | un | law (ns : List Int) | dat (d : D) | own (ds : List D) | hp (ds : List D) | ownK (kvs : List (Key × D)) | ownT (kvs : List (List Key × D))
structure DS where
  sl : List Sl
  pen : Pen
def SlOk (K : PySem.W.Frag) (B : Bs) (S H : Hp) (oa : Option Addr) (ov : Option (Option V)) : Sl → Prop
  | .un => oa = none
  | .law ns => oa = none ∧ B.pa = none ∧ ∃ a, ov = some (some (.ref a)) ∧ SqL K S a (ns.map V.int)
  | .dat d => oa = none ∧ ∃ v, ov = some (some v) ∧ Dn K S v d
  | .own ds => ∃ a vs, oa = some a ∧ B.H0 a = none ∧ B.pa ≠ some a ∧ ov = some (some (.ref a)) ∧ H a = some (.lst vs) ∧ DnA K S vs ds
  | .hp ds => ∃ a vs, oa = some a ∧ B.pa = some a ∧ ov = some (some (.ref a)) ∧ H a = some (.lst vs) ∧ DnA K S vs ds
  | .ownK es => ∃ a kvs, oa = some a ∧ B.H0 a = none ∧ B.pa ≠ some a ∧ ov = some (some (.ref a)) ∧ H a = some (.dK kvs) ∧ kvs.map (·.1) = es.map (·.1) ∧ DnA K S (kvs.map (·.2)) (es.map (·.2))
  | .ownT es => ∃ a kvs, oa = some a ∧ B.H0 a = none ∧ B.pa ≠ some a ∧ ov = some (some (.ref a)) ∧ H a = some (.dT kvs) ∧ kvs.map (·.1) = es.map (·.1) ∧ DnA K S (kvs.map (·.2)) (es.map (·.2))

/-- a heap that has grown: what was known is, what was known and not frozen is not frozen -/
structure Grow (S H S' H' : Hp) : Prop where
  s : Ex S S'
  h : Ex H H'
  ok : Sb S' H'
  no : ∀ b o, H b = some o → S b = none → S' b = none
theorem Grow.refl (e : Sb S H) : Grow S H S H := ⟨Ex.refl _, Ex.refl _, e, fun _ _ _ h => h⟩
theorem Grow.trans {S1 H1 : Hp} (a : Grow S H S1 H1) (b : Grow S1 H1 S' H') : Grow S H S' H' :=
  ⟨a.s.trans b.s, a.h.trans b.h, b.ok, fun c o h n => b.no c o (a.h c o h) (a.no c o h n)⟩
theorem Grow.new {p : Addr} {o : HO} (e : Sb S H) (hp : H p = none) : Grow S H (upd S p o) (upd H p o) := by
  have sp : S p = none := e.none hp
  refine ⟨Ex.new sp, Ex.new hp, ⟨fun a u h => ?_, fun a u h => ?_⟩, fun b u h n => ?_⟩
  · by_cases q : a = p
    · subst q; rw [upd_same] at h ⊢; exact h
    · rw [upd_ne q] at h ⊢; exact e a u h
  · by_cases q : a = p
    · subst q; rw [upd_same] at h ⊢; exact h
    · rw [upd_ne q] at h ⊢; exact e.tp a u h
  · rw [upd_ne (ne_of_none h hp)]; exact n

/-- the pen is the one that B names, or it was born since -/
def PaOk (B : Bs) (p : Pen) : Prop := if B.pd = true ∧ B.pa ≠ none then p.map (·.1) = B.pa else ∀ a c, p = some (a, c) → B.H0 a = none ∧ B.pa ≠ some a
structure Rel (K : PySem.W.Frag) (B : Bs) (δ : DS) (S : Hp) (σ : L2.St) (H : Hp) : Prop where
  ex : Sb S H
  fr : Frm B S H
  pen : PenOk S H δ.pen
  pa : PaOk B δ.pen
  len : σ.length = δ.sl.length
  sl : ∃ ow : Nat → Option Addr, (∀ i x, δ.sl[i]? = some x → SlOk K B S H (ow i) σ[i]? x) ∧ (∀ i, δ.sl.length ≤ i → ow i = none) ∧ (∀ i j a, ow i = some a → ow j = some a → i = j) ∧
    ∀ i a, ow i = some a → S a = none ∧ (B.H0 a = none ∨ B.pa = some a) ∧ (∀ c, δ.pen ≠ some (a, c)) ∧ ∃ o, H a = some o

theorem SlOk.grow {B : Bs} {oa : Option Addr} {ov : Option (Option V)} {x : Sl} (e : Ex S S') (h : ∀ a o, oa = some a → H a = some o → H' a = some o) (q : SlOk K B S H oa ov x) : SlOk K B S' H' oa ov x := by
  cases x with
  | un => exact q
  | law ns => obtain ⟨a, v, b, c, d⟩ := q; exact ⟨a, v, b, c, e.sqL d⟩
  | dat d => obtain ⟨a, v, b, c⟩ := q; exact ⟨a, v, b, c.mono e⟩
  | own ds => obtain ⟨a, vs, p1, n1, n2, p2, p3, p4⟩ := q; exact ⟨a, vs, p1, n1, n2, p2, h a _ p1 p3, p4.mono e⟩
  | hp ds => obtain ⟨a, vs, p1, p0, p2, p3, p4⟩ := q; exact ⟨a, vs, p1, p0, p2, h a _ p1 p3, p4.mono e⟩
  | ownK es => obtain ⟨a, kvs, p1, n1, n2, p2, p3, p4, p5⟩ := q; exact ⟨a, kvs, p1, n1, n2, p2, h a _ p1 p3, p4, p5.mono e⟩
  | ownT es => obtain ⟨a, kvs, p1, n1, n2, p2, p3, p4, p5⟩ := q; exact ⟨a, kvs, p1, n1, n2, p2, h a _ p1 p3, p4, p5.mono e⟩
theorem PenOk.grow {p : Pen} (g : Grow S H S' H') (q : PenOk S H p) : PenOk S' H' p := by
  match p, q with
  | none, _ => trivial
  | some (a, c), ⟨n, ca, ns, k, m, h1, h2, h3⟩ => exact ⟨g.no a _ h1 n, ca, ns, k, m, g.h _ _ h1, g.s _ _ h2, h3⟩
theorem Frm.grow {B : Bs} (f : Frm B S H) (g : Grow S H S' H') : Frm B S' H' where
  s := f.s.trans g.s
  h := fun b o h q => g.h _ _ (f.h b o h q)
  no := fun b o h n => by
    obtain ⟨o', q⟩ := f.there h
    exact g.no b o' q (f.no b o h n)
  pa := fun a e => by
    obtain ⟨o, q⟩ := f.pa a e
    exact ⟨o, g.h _ _ q⟩
theorem Rel.grow {B : Bs} {δ : DS} {σ : L2.St} (R : Rel K B δ S σ H) (g : Grow S H S' H') : Rel K B δ S' σ H' := by
  obtain ⟨ow, h1, h2, h3, h4⟩ := R.sl
  refine ⟨g.ok, R.fr.grow g, R.pen.grow g, R.pa, R.len, ow, fun i x e => (h1 i x e).grow g.s fun a o _ q => g.h a o q, h2, h3, fun i a e => ?_⟩
  obtain ⟨q1, q2, q3, o, q4⟩ := h4 i a e
  exact ⟨g.no a o q4 q1, q2, q3, o, g.h _ _ q4⟩

/-! ### readings -/
/-- an exception: its class, its one attribute -/
structure Xc where
  cls : Value
  at_ : Option (Str × D)
def XcOk (K : PySem.W.Frag) (S H : Hp) (c : Xc) (cls : Value) (od : Option Addr) : Prop :=
  cls = c.cls ∧ match c.at_ with
    | none => od = none
    | some (f, d) => ∃ a v, od = some a ∧ H a = some (.xd [(f, v)]) ∧ Dn K S v d
abbrev XW := Xc → DS → Prop
abbrev dE := XW → DS → (D → DS → Prop) → Prop
abbrev dF := XW → DS → (List D → DS → Prop) → Prop
abbrev dT := XW → DS → (Bool → DS → Prop) → Prop
abbrev dA := XW → DS → (List D → DS → Prop) → Prop
structure dEnds where
  nx : DS → Prop
  rt : D → DS → Prop
  bk : DS → Prop := fun _ => False
  ct : DS → Prop := fun _ => False
  rl : List D → DS → Prop := fun _ _ => False
abbrev dS := XW → dEnds → DS → Prop
abbrev dG := D → DS → (DS → Prop) → Prop
abbrev EK := L2.St → XK

def XOk (K : PySem.W.Frag) (B : Bs) (E : EK) (W : XW) (S : Hp) : Prop :=
  ∀ c δ' σ' S' H' cls od, W c δ' → Ex S S' → Rel K B δ' S' σ' H' → XcOk K S' H' c cls od → E σ' cls od H'
theorem XOk.mono {B : Bs} {E : EK} {W : XW} (h : XOk K B E W S) (e : Ex S S') : XOk K B E W S' :=
  fun c δ' σ' S1 H' cls od w x r k => h c δ' σ' S1 H' cls od w (e.trans x) r k

def liftE (K : PySem.W.Frag) (B : Bs) (E : EK) (d : dE) : TE := fun σ H Q => ∃ δ S W Q', Rel K B δ S σ H ∧ d W δ Q' ∧ XOk K B E W S ∧
  ∀ x δ' v S' H', Q' x δ' → Ex S S' → Rel K B δ' S' σ H' → Dn K S' v x → Q v H'
/-- a new list, of one's own still -/
def liftF (K : PySem.W.Frag) (B : Bs) (E : EK) (d : dF) : TE := fun σ H Q => ∃ δ S W Q', Rel K B δ S σ H ∧ d W δ Q' ∧ XOk K B E W S ∧
  ∀ xs δ' p vs S' H', Q' xs δ' → Ex S S' → Rel K B δ' S' σ H' → H' p = none → DnA K S' vs xs → Q (.ref p) (upd H' p (.lst vs))
def liftT (K : PySem.W.Frag) (B : Bs) (E : EK) (d : dT) : TT := fun σ H Q => ∃ δ S W Q', Rel K B δ S σ H ∧ d W δ Q' ∧ XOk K B E W S ∧
  ∀ x δ' S' H', Q' x δ' → Ex S S' → Rel K B δ' S' σ H' → Q x H'
def liftA (K : PySem.W.Frag) (B : Bs) (E : EK) (d : dA) : TA := fun σ H Q => ∃ δ S W Q', Rel K B δ S σ H ∧ d W δ Q' ∧ XOk K B E W S ∧
  ∀ xs δ' vs S' H', Q' xs δ' → Ex S S' → Rel K B δ' S' σ H' → DnA K S' vs xs → Q vs H'
def liftS (K : PySem.W.Frag) (B : Bs) (E : EK) (d : dS) : TS := fun Z σ H => ∃ δ S W N, Rel K B δ S σ H ∧ d W N δ ∧ XOk K B E W S ∧
  (∀ δ' σ' S' H', N.nx δ' → Ex S S' → Rel K B δ' S' σ' H' → Z.nx σ' H') ∧
  (∀ x δ' v σ' S' H', N.rt x δ' → Ex S S' → Rel K B δ' S' σ' H' → Dn K S' v x → Z.rt v H') ∧
  (∀ δ' σ' S' H', N.bk δ' → Ex S S' → Rel K B δ' S' σ' H' → Z.bk σ' H') ∧
  (∀ δ' σ' S' H', N.ct δ' → Ex S S' → Rel K B δ' S' σ' H' → Z.ct σ' H') ∧
  (∀ xs δ' p vs σ' S' H', N.rl xs δ' → Ex S S' → Rel K B δ' S' σ' H' → H' p = none → DnA K S' vs xs → Z.rt (.ref p) (upd H' p (.lst vs)))
def liftG (K : PySem.W.Frag) (B : Bs) (g : dG) (vs : List Nat) : TG := fun v σ H Q => ∃ δ S d Q', Rel K B δ S σ H ∧ Dn K S v d ∧ g d δ Q' ∧
  ∀ δ' σ' S' H', Q' δ' → Ex S S' → Rel K B δ' S' σ' H' → (∀ i, i ∉ vs → σ'[i]? = σ[i]?) → σ'.length = σ.length → Q σ' H'

structure DE (X : Cx) (E : EK) (e : Expr) (d : dE) : Prop where
  run : ∀ B, PE X e (liftE X.K B E d)
structure DF (X : Cx) (E : EK) (e : Expr) (d : dF) : Prop where
  run : ∀ B, PE X e (liftF X.K B E d)
structure DT (X : Cx) (E : EK) (e : Expr) (d : dT) : Prop where
  run : ∀ B, PT X e (liftT X.K B E d)
structure DA (X : Cx) (E : EK) (es : List Expr) (d : dA) : Prop where
  run : ∀ B, PA X es (liftA X.K B E d)
structure DSt (X : Cx) (E : EK) (st : Stmt) (d : dS) : Prop where
  run : ∀ B, PS X st (liftS X.K B E d)
structure DSs (X : Cx) (E : EK) (st : List Stmt) (d : dS) : Prop where
  run : ∀ B, PSs X st (liftS X.K B E d)
structure DG (X : Cx) (tg : Expr) (g : dG) (vs : List Nat) : Prop where
  run : ∀ B, PG X tg (liftG X.K B g vs)

section
variable {X : Cx} {e : Expr} {st : Stmt} {sts : List Stmt} {es : List Expr}
theorem pe_mono {t t' : TE} (h : PE X e t) (m : ∀ σ H Q, t' σ H Q → t σ H Q) : PE X e t' := ⟨fun pins s σ H Q I q => h.run pins s σ H Q I (m _ _ _ q)⟩
theorem pt_mono {t t' : TT} (h : PT X e t) (m : ∀ σ H Q, t' σ H Q → t σ H Q) : PT X e t' := ⟨fun pins s σ H Q I q => h.run pins s σ H Q I (m _ _ _ q)⟩
theorem pw_mono {t t' : TT} (h : PW X e t) (m : ∀ σ H Q, t' σ H Q → t σ H Q) : PW X e t' := ⟨fun wh pins s σ H Q I q => h.run wh pins s σ H Q I (m _ _ _ q)⟩
theorem pa_mono {t t' : TA} (h : PA X es t) (m : ∀ σ H Q, t' σ H Q → t σ H Q) : PA X es t' := ⟨fun pos pins s σ H Q I q => h.run pos pins s σ H Q I (m _ _ _ q)⟩
theorem ps_mono {t t' : TS} (h : PS X st t) (m : ∀ Z σ H, t' Z σ H → t Z σ H) : PS X st t' := ⟨fun pins s σ H Z I q => h.run pins s σ H Z I (m _ _ _ q)⟩
theorem pss_mono {t t' : TS} (h : PSs X sts t) (m : ∀ Z σ H, t' Z σ H → t Z σ H) : PSs X sts t' := ⟨fun pins s σ H Z I q => h.run pins s σ H Z I (m _ _ _ q)⟩
end
end Ev

namespace Ev
open PySem PySem.Spec PyProof.Rows L2
variable {K : PySem.W.Frag} {S S' H H' : Hp} {B : Bs} {δ : DS} {σ : L2.St}

theorem Rel.dat (R : Rel K B δ S σ H) {i : Nat} {d : D} (h : δ.sl[i]? = some (.dat d)) : ∃ v, σ[i]? = some (some v) ∧ Dn K S v d := by
  obtain ⟨ow, h1, _⟩ := R.sl
  obtain ⟨_, v, e, q⟩ := h1 i _ h
  exact ⟨v, e, q⟩
theorem Rel.law (R : Rel K B δ S σ H) {i : Nat} {ns : List Int} (h : δ.sl[i]? = some (.law ns)) : B.pa = none ∧ ∃ v, σ[i]? = some (some v) ∧ Dn K S v (.scr ns) := by
  obtain ⟨ow, h1, _⟩ := R.sl
  obtain ⟨_, e, a, q1, q2⟩ := h1 i _ h
  exact ⟨e, _, q1, .scr q2⟩
theorem Rel.new (R : Rel K B δ S σ H) {p : Addr} {o : HO} (hp : H p = none) : Rel K B δ (upd S p o) σ (upd H p o) := R.grow (Grow.new R.ex hp)

section
variable {X : Cx} {E : EK} {e a b c : Expr} {es : List Expr} {pos : Pos}

/-! ### names, constants -/
def dVar (i : Nat) : dE := fun _ δ Q => match δ.sl[i]? with | some (.dat d) => Q d δ | some (.law ns) => Q (.scr ns) δ | _ => False
theorem de_var {i : Nat} {x : Str} (h : PE X (.Name x pos) (tVar i)) : DE X E (.Name x pos) (dVar i) := ⟨fun B => pe_mono h fun σ H Q q => by
  obtain ⟨δ, S, W, Q', R, q, _, post⟩ := q
  unfold dVar at q
  split at q
  · rename_i d hd
    obtain ⟨v, e1, e2⟩ := R.dat hd
    exact ⟨v, e1, post _ _ _ _ _ q (Ex.refl _) R e2⟩
  · rename_i ns hd
    obtain ⟨_, v, e1, e2⟩ := R.law hd
    exact ⟨v, e1, post _ _ _ _ _ q (Ex.refl _) R e2⟩
  · exact q.elim⟩
def dC (d : D) : dE := fun _ δ Q => Q d δ
theorem de_c {v : V} {d : D} (h : PE X e (tC v)) (k : ∀ S, Dn X.K S v d) : DE X E e (dC d) := ⟨fun B => pe_mono h fun σ H Q q => by
  obtain ⟨δ, S, W, Q', R, q, _, post⟩ := q
  exact post _ _ _ _ _ q (Ex.refl _) R (k S)⟩
theorem de_int {i j} : DE X E (.Constant (.int i) j pos) (dC (.int i)) := de_c pe_int fun _ => .int i
theorem de_bl {i j} : DE X E (.Constant (.bool i) j pos) (dC (.bl i)) := de_c pe_bl fun _ => .bl i
theorem de_non {j} : DE X E (.Constant .none j pos) (dC .non) := de_c pe_non fun _ => .non
theorem de_str {i j} : DE X E (.Constant (.str i) j pos) (dC (.str i)) := de_c pe_str fun _ => .str i

/-! ### pure operators -/
abbrev DR2 := D → D → (D → Prop) → Prop
abbrev DR1 := D → (D → Prop) → Prop
def liftR (K : PySem.W.Frag) (r : DR2) : R2 := fun x y H Q => ∃ S dx dy Q', Sb S H ∧ Dn K S x dx ∧ Dn K S y dy ∧ r dx dy Q' ∧ ∀ dz v S' H', Q' dz → Grow S H S' H' → Dn K S' v dz → Q v H'
def OpD (X : Cx) (f : Value → Value → Sem Value) (r : DR2) : Prop := OpR X f (liftR X.K r)
def dBin (r : DR2) (da db : dE) : dE := fun W δ Q => da W δ fun x δ1 => db W δ1 fun y δ2 => r x y fun z => Q z δ2
theorem lift_bin {r : DR2} {da db : dE} {σ : L2.St} {H : Hp} {Q : VK} (q : liftE K B E (dBin r da db) σ H Q) : tOp (liftR K r) (liftE K B E da) (liftE K B E db) σ H Q := by
  obtain ⟨δ, S, W, Q', R, q, xo, post⟩ := q
  refine ⟨δ, S, W, _, R, q, xo, fun x δ1 v S1 H1 q1 e1 R1 n1 => ?_⟩
  refine ⟨δ1, S1, W, _, R1, q1, xo.mono e1, fun y δ2 u S2 H2 q2 e2 R2 n2 => ?_⟩
  exact ⟨S2, x, y, _, R2.ex, n1.mono e2, n2, q2, fun dz v S' H' q3 g n3 => post _ _ _ _ _ q3 ((e1.trans e2).trans g.s) (R2.grow g) n3⟩
theorem de_op {op : Operator} {r : DR2} {da db : dE} (ho : OpD X (binaryOp op) r) (ha : DE X E a da) (hb : DE X E b db) : DE X E (.BinOp a op b pos) (dBin r da db) :=
  ⟨fun B => pe_mono (pe_op ho (ha.run B) (hb.run B)) fun σ H Q q => lift_bin q⟩
theorem de_cmp {op : CmpOp} {r : DR2} {da db : dE} (ho : OpD X (compareOp op) r) (ha : DE X E a da) (hb : DE X E b db) (hm : behindInMarks op b = false) : DE X E (.Compare a [op] [b] pos) (dBin r da db) :=
  ⟨fun B => pe_mono (pe_cmpR ho (ha.run B) (hb.run B) hm) fun σ H Q q => lift_bin q⟩
/-- an expression that gives a bool, as a test -/
def dB (d : dE) : dT := fun W δ Q => d W δ fun x δ' => match x with | .bl k => Q k δ' | _ => False
theorem lift_B {d : dE} {σ : L2.St} {H : Hp} {Q : Bool → Hp → Prop} (q : liftT K B E (dB d) σ H Q) : liftE K B E d σ H fun x H' => ∃ k, x = .bl k ∧ Q k H' := by
  obtain ⟨δ, S, W, Q', R, q, xo, post⟩ := q
  refine ⟨δ, S, W, _, R, q, xo, fun x δ1 v S1 H1 q1 e1 R1 n1 => ?_⟩
  cases x with
  | bl k => cases n1; exact ⟨k, rfl, post _ _ _ _ q1 e1 R1⟩
  | _ => exact q1.elim
theorem dt_cmp {op : CmpOp} {r : DR2} {da db : dE} (ho : OpD X (compareOp op) r) (ha : DE X E a da) (hb : DE X E b db) (hm : behindInMarks op b = false) : DT X E (.Compare a [op] [b] pos) (dB (dBin r da db)) :=
  ⟨fun B => pt_mono (pt_cmpR ho (ha.run B) (hb.run B) hm) fun σ H Q q => by
    have q := lift_B q
    exact lift_bin (Q := fun x H' => ∃ k, x = .bl k ∧ Q k H') q⟩
theorem dt_val {d : dE} (h : DE X E e d) (he : ∀ whole, isTrue e X.env whole = (do let v ← whole; standAt e.pos; holding [v] (truthy v)) := by intro _; rfl) : DT X E e (dB d) :=
  ⟨fun B => pt_mono (pt_val (h.run B) he) fun σ H Q q => lift_B q⟩
/-- a < b < c -/
def dChain (r r' : DR2) (da db dc : dE) : dE := fun W δ Q => da W δ fun x δ1 => db W δ1 fun y δ2 => r x y fun z => match z with
  | .bl true => dc W δ2 fun u δ3 => r' y u fun z' => Q z' δ3
  | .bl false => Q (.bl false) δ2
  | _ => False
theorem lift_chain {r r' : DR2} {da db dc : dE} {σ : L2.St} {H : Hp} {Q : VK} (q : liftE K B E (dChain r r' da db dc) σ H Q) : tChain (liftR K r) (liftR K r') (liftE K B E da) (liftE K B E db) (liftE K B E dc) σ H Q := by
  obtain ⟨δ, S, W, Q', R, q, xo, post⟩ := q
  refine ⟨δ, S, W, _, R, q, xo, fun x δ1 v S1 H1 q1 e1 R1 n1 => ?_⟩
  refine ⟨δ1, S1, W, _, R1, q1, xo.mono e1, fun y δ2 u S2 H2 q2 e2 R2 n2 => ?_⟩
  refine ⟨S2, x, y, _, R2.ex, n1.mono e2, n2, q2, fun dz vz S3 H3 q3 g n3 => ?_⟩
  cases dz with
  | bl k =>
    cases n3
    refine ⟨k, rfl, ?_⟩
    cases k with
    | true =>
      rw [if_pos rfl]
      refine ⟨δ2, S3, W, _, R2.grow g, q3, xo.mono ((e1.trans e2).trans g.s), fun z δ3 w S4 H4 q4 e4 R4 n4 => ?_⟩
      exact ⟨S4, y, z, _, R4.ex, n2.mono (g.s.trans e4), n4, q4, fun dz v S' H' q5 g5 n5 => post _ _ _ _ _ q5 ((((e1.trans e2).trans g.s).trans e4).trans g5.s) (R4.grow g5) n5⟩
    | false =>
      rw [if_neg Bool.false_ne_true]
      exact post _ _ _ _ _ q3 ((e1.trans e2).trans g.s) (R2.grow g) (.bl false)
  | _ => exact q3.elim
theorem de_chain {op op' : CmpOp} {r r' : DR2} {da db dc : dE} (ho : OpD X (compareOp op) r) (ho' : OpD X (compareOp op') r') (ha : DE X E a da) (hb : DE X E b db) (hc : DE X E c dc) (hm : lastMarks [op, op'] [b, c] = false := by with_unfolding_all rfl) :
    DE X E (.Compare a [op, op'] [b, c] pos) (dChain r r' da db dc) := ⟨fun B => pe_mono (pe_chain ho ho' (ha.run B) (hb.run B) (hc.run B) hm) fun σ H Q q => lift_chain q⟩
theorem dt_chain {op op' : CmpOp} {r r' : DR2} {da db dc : dE} (ho : OpD X (compareOp op) r) (ho' : OpD X (compareOp op') r') (ha : DE X E a da) (hb : DE X E b db) (hc : DE X E c dc) (hm : lastMarks [op, op'] [b, c] = false := by with_unfolding_all rfl) :
    DT X E (.Compare a [op, op'] [b, c] pos) (dB (dChain r r' da db dc)) := ⟨fun B => pt_mono (pt_chain ho ho' (ha.run B) (hb.run B) (hc.run B) hm) fun σ H Q q => by
      have q := lift_B q
      exact lift_chain (Q := fun x H' => ∃ k, x = .bl k ∧ Q k H') q⟩

/-! ### and, or, not, if -/
variable {ta tb : dT} {da db : dE} {rest : List Expr}
structure DW (X : Cx) (E : EK) (e : Expr) (d : dT) : Prop where
  run : ∀ B, PW X e (liftT X.K B E d)
theorem DW.dt (h : DW X E e ta) : DT X E e ta := ⟨fun B => (h.run B).pt⟩
def dAnd (t u : dT) : dT := fun W δ Q => t W δ fun k δ1 => match k with | true => u W δ1 Q | false => Q false δ1
def dOr (t u : dT) : dT := fun W δ Q => t W δ fun k δ1 => match k with | true => Q true δ1 | false => u W δ1 Q
def dNot (t : dT) : dT := fun W δ Q => t W δ fun k δ1 => Q (!k) δ1
theorem dw_and1 (h : DT X E a ta) : DW X E (.BoolOp .And [a] pos) ta := ⟨fun B => pw_and1 (h.run B)⟩
theorem dw_or1 (h : DT X E a ta) : DW X E (.BoolOp .Or [a] pos) ta := ⟨fun B => pw_or1 (h.run B)⟩
theorem dw_and (h : DT X E a ta) (h2 : DW X E (.BoolOp .And (b :: rest) pos) tb) : DW X E (.BoolOp .And (a :: b :: rest) pos) (dAnd ta tb) :=
  ⟨fun B => pw_mono (pw_and (h.run B) (h2.run B)) fun σ H Q q => by
    obtain ⟨δ, S, W, Q', R, q, xo, post⟩ := q
    refine ⟨δ, S, W, _, R, q, xo, fun k δ1 S1 H1 q1 e1 R1 => ?_⟩
    cases k with
    | true => rw [if_pos rfl]; exact ⟨δ1, S1, W, _, R1, q1, xo.mono e1, fun k δ2 S2 H2 q2 e2 R2 => post _ _ _ _ q2 (e1.trans e2) R2⟩
    | false => rw [if_neg Bool.false_ne_true]; exact post _ _ _ _ q1 e1 R1⟩
theorem dw_or (h : DT X E a ta) (h2 : DW X E (.BoolOp .Or (b :: rest) pos) tb) : DW X E (.BoolOp .Or (a :: b :: rest) pos) (dOr ta tb) :=
  ⟨fun B => pw_mono (pw_or (h.run B) (h2.run B)) fun σ H Q q => by
    obtain ⟨δ, S, W, Q', R, q, xo, post⟩ := q
    refine ⟨δ, S, W, _, R, q, xo, fun k δ1 S1 H1 q1 e1 R1 => ?_⟩
    cases k with
    | false => rw [if_neg Bool.false_ne_true]; exact ⟨δ1, S1, W, _, R1, q1, xo.mono e1, fun k δ2 S2 H2 q2 e2 R2 => post _ _ _ _ q2 (e1.trans e2) R2⟩
    | true => rw [if_pos rfl]; exact post _ _ _ _ q1 e1 R1⟩
theorem dt_not (h : DT X E a ta) : DT X E (.UnaryOp .Not a pos) (dNot ta) := ⟨fun B => pt_mono (pt_not (h.run B)) fun σ H Q q => by
  obtain ⟨δ, S, W, Q', R, q, xo, post⟩ := q
  exact ⟨δ, S, W, _, R, q, xo, fun k δ1 S1 H1 q1 e1 R1 => post _ _ _ _ q1 e1 R1⟩⟩
/-- as values: bools -/
def dAndV (x y : dE) : dE := fun W δ Q => x W δ fun k δ1 => match k with | .bl true => y W δ1 Q | .bl false => Q (.bl false) δ1 | _ => False
def dOrV (x y : dE) : dE := fun W δ Q => x W δ fun k δ1 => match k with | .bl true => Q (.bl true) δ1 | .bl false => y W δ1 Q | _ => False
def dNotV (x : dE) : dE := fun W δ Q => x W δ fun k δ1 => match k with | .bl k => Q (.bl (!k)) δ1 | _ => False
theorem de_one {op} (h : DE X E a da) : DE X E (.BoolOp op [a] pos) da := ⟨fun B => pe_one (h.run B)⟩
theorem de_and (h : DE X E a da) (h2 : DE X E (.BoolOp .And (b :: rest) pos) db) : DE X E (.BoolOp .And (a :: b :: rest) pos) (dAndV da db) :=
  ⟨fun B => pe_mono (pe_and (h.run B) (h2.run B)) fun σ H Q q => by
    obtain ⟨δ, S, W, Q', R, q, xo, post⟩ := q
    refine ⟨δ, S, W, _, R, q, xo, fun k δ1 v S1 H1 q1 e1 R1 n1 => ?_⟩
    cases k with
    | bl k =>
      cases n1
      refine ⟨k, rfl, ?_⟩
      cases k with
      | true => rw [if_pos rfl]; exact ⟨δ1, S1, W, _, R1, q1, xo.mono e1, fun x δ2 v S2 H2 q2 e2 R2 n2 => post _ _ _ _ _ q2 (e1.trans e2) R2 n2⟩
      | false => rw [if_neg Bool.false_ne_true]; exact post _ _ _ _ _ q1 e1 R1 (.bl false)
    | _ => exact q1.elim⟩
theorem de_or (h : DE X E a da) (h2 : DE X E (.BoolOp .Or (b :: rest) pos) db) : DE X E (.BoolOp .Or (a :: b :: rest) pos) (dOrV da db) :=
  ⟨fun B => pe_mono (pe_or (h.run B) (h2.run B)) fun σ H Q q => by
    obtain ⟨δ, S, W, Q', R, q, xo, post⟩ := q
    refine ⟨δ, S, W, _, R, q, xo, fun k δ1 v S1 H1 q1 e1 R1 n1 => ?_⟩
    cases k with
    | bl k =>
      cases n1
      refine ⟨k, rfl, ?_⟩
      cases k with
      | false => rw [if_neg Bool.false_ne_true]; exact ⟨δ1, S1, W, _, R1, q1, xo.mono e1, fun x δ2 v S2 H2 q2 e2 R2 n2 => post _ _ _ _ _ q2 (e1.trans e2) R2 n2⟩
      | true => rw [if_pos rfl]; exact post _ _ _ _ _ q1 e1 R1 (.bl true)
    | _ => exact q1.elim⟩
theorem de_not (h : DE X E a da) : DE X E (.UnaryOp .Not a pos) (dNotV da) := ⟨fun B => pe_mono (pe_not (h.run B)) fun σ H Q q => by
  obtain ⟨δ, S, W, Q', R, q, xo, post⟩ := q
  refine ⟨δ, S, W, _, R, q, xo, fun k δ1 v S1 H1 q1 e1 R1 n1 => ?_⟩
  cases k with
  | bl k => cases n1; exact ⟨k, rfl, post _ _ _ _ _ q1 e1 R1 (.bl _)⟩
  | _ => exact q1.elim⟩
def dIf (t : dT) (x y : dE) : dE := fun W δ Q => t W δ fun k δ1 => match k with | true => x W δ1 Q | false => y W δ1 Q
theorem de_if (ht : DT X E c ta) (ha : DE X E a da) (hb : DE X E b db) : DE X E (.IfExp c a b pos) (dIf ta da db) := ⟨fun B => pe_mono (pe_ifExp (ht.run B) (ha.run B) (hb.run B)) fun σ H Q q => by
  obtain ⟨δ, S, W, Q', R, q, xo, post⟩ := q
  refine ⟨δ, S, W, _, R, q, xo, fun k δ1 S1 H1 q1 e1 R1 => ?_⟩
  cases k with
  | true => rw [if_pos rfl]; exact ⟨δ1, S1, W, _, R1, q1, xo.mono e1, fun x δ2 v S2 H2 q2 e2 R2 n2 => post _ _ _ _ _ q2 (e1.trans e2) R2 n2⟩
  | false => rw [if_neg Bool.false_ne_true]; exact ⟨δ1, S1, W, _, R1, q1, xo.mono e1, fun x δ2 v S2 H2 q2 e2 R2 n2 => post _ _ _ _ _ q2 (e1.trans e2) R2 n2⟩⟩

/-! ### arguments, displays -/
def dNil : dA := fun _ δ Q => Q [] δ
def dCons (x : dE) (r : dA) : dA := fun W δ Q => x W δ fun d δ1 => r W δ1 fun ds δ2 => Q (d :: ds) δ2
theorem da_nil : DA X E [] dNil := ⟨fun B => pa_mono pa_nil fun σ H Q q => by
  obtain ⟨δ, S, W, Q', R, q, xo, post⟩ := q
  exact post _ _ _ _ _ q (Ex.refl _) R .nil⟩
theorem da_cons {r : dA} (h : DE X E e da) (hr : DA X E es r) (hs : starEach (e :: es) X.env = (false, eval e X.env) :: starEach es X.env := by rfl) : DA X E (e :: es) (dCons da r) := ⟨fun B => pa_mono (pa_cons (h.run B) (hr.run B) hs) fun σ H Q q => by
  obtain ⟨δ, S, W, Q', R, q, xo, post⟩ := q
  refine ⟨δ, S, W, _, R, q, xo, fun x δ1 v S1 H1 q1 e1 R1 n1 => ?_⟩
  exact ⟨δ1, S1, W, _, R1, q1, xo.mono e1, fun xs δ2 vs S2 H2 q2 e2 R2 n2 => post _ _ _ _ _ q2 (e1.trans e2) R2 (.cons (n1.mono e2) n2)⟩⟩
def dTup (r : dA) : dE := fun W δ Q => r W δ fun xs δ1 => xs.length ≤ sizeLine ∧ Q (.tup xs) δ1
theorem de_tup {r : dA} {x1} (h : DA X E es r) : DE X E (.Tuple es x1 pos) (dTup r) := ⟨fun B => pe_mono (pe_tup (h.run B)) fun σ H Q q => by
  obtain ⟨δ, S, W, Q', R, q, xo, post⟩ := q
  refine ⟨δ, S, W, _, R, q, xo, fun xs δ1 vs S1 H1 q1 e1 R1 n1 => ⟨by rw [n1.length]; exact q1.1, fun p hp => ?_⟩⟩
  have g := Grow.new (o := .tup vs) R1.ex hp
  exact post _ _ _ _ _ q1.2 (e1.trans g.s) (R1.grow g) (.tup upd_same (n1.mono g.s))⟩
def dLst (r : dA) : dF := fun W δ Q => r W δ fun xs δ1 => xs.length ≤ sizeLine ∧ Q xs δ1
theorem df_lst {r : dA} (h : DA X E es r) : DF X E (.List es pos) (dLst r) := ⟨fun B => pe_mono (pe_lst (h.run B)) fun σ H Q q => by
  obtain ⟨δ, S, W, Q', R, q, xo, post⟩ := q
  exact ⟨δ, S, W, _, R, q, xo, fun xs δ1 vs S1 H1 q1 e1 R1 n1 => ⟨by rw [n1.length]; exact q1.1, fun p hp => post _ _ _ _ _ _ q1.2 e1 R1 hp n1⟩⟩⟩
/-- a new list, frozen at once -/
def dFz (f : dF) : dE := fun W δ Q => f W δ fun xs δ1 => Q (.lst xs) δ1
theorem de_fz {f : dF} (h : DF X E e f) : DE X E e (dFz f) := ⟨fun B => pe_mono (h.run B) fun σ H Q q => by
  obtain ⟨δ, S, W, Q', R, q, xo, post⟩ := q
  refine ⟨δ, S, W, _, R, q, xo, fun xs δ1 p vs S1 H1 q1 e1 R1 hp n1 => ?_⟩
  have g := Grow.new (o := .lst vs) R1.ex hp
  exact post _ _ _ _ _ q1 (e1.trans g.s) (R1.grow g) (.lst upd_same (n1.mono g.s))⟩
end
end Ev

namespace Ev
open PySem PySem.Spec PyProof.Rows L2
variable {K : PySem.W.Frag} {S S' H H' : Hp} {B : Bs} {δ : DS} {σ : L2.St}

/-! ### slots change -/
theorem Frm.fresh (f : Frm B S H) {p : Addr} (hp : H p = none) : B.H0 p = none ∧ B.pa ≠ some p := by
  refine ⟨?_, fun e => ?_⟩
  · cases q : B.H0 p with
    | none => rfl
    | some o =>
      obtain ⟨o', e⟩ := f.there q
      rw [hp] at e; cases e
  · obtain ⟨o, q⟩ := f.pa p e
    rw [hp] at q; cases q
theorem Rel.pen_ne (R : Rel K B δ S σ H) {p : Addr} (hp : B.pa ≠ some p) (h0 : ∃ o, B.H0 p = some o) : ∀ c, δ.pen ≠ some (p, c) := fun c e => by
  have h := R.pa
  unfold PaOk at h
  split at h
  · rw [e] at h; exact hp h.symm
  · obtain ⟨o, h0⟩ := h0
    rw [(h p c e).1] at h0; cases h0
theorem Rel.pen_new (R : Rel K B δ S σ H) {p : Addr} (hp : H p = none) : ∀ c, δ.pen ≠ some (p, c) := fun c e => by
  have h := R.pen
  rw [e] at h
  obtain ⟨_, _, _, _, _, q, _⟩ := h
  rw [hp] at q; cases q
theorem get_set {α : Type} {l : List α} {i j : Nat} {x y : α} (h : (l.set i x)[j]? = some y) : (j = i ∧ y = x) ∨ (j ≠ i ∧ l[j]? = some y) := by
  by_cases e : i = j
  · subst e
    by_cases hi : i < l.length
    · rw [List.getElem?_set_self hi] at h; exact .inl ⟨rfl, (Option.some.inj h).symm⟩
    · rw [List.getElem?_eq_none (by simpa using hi)] at h; cases h
  · rw [List.getElem?_set_ne e] at h; exact .inr ⟨fun q => e q.symm, h⟩
/-- slot i becomes data -/
theorem Rel.setDat (R : Rel K B δ S σ H) {i : Nat} {v : V} {d : D} (h : Dn K S v d) : Rel K B { δ with sl := δ.sl.set i (.dat d) } S (σ.set i (some v)) H := by
  obtain ⟨ow, h1, h2, h3, h4⟩ := R.sl
  refine ⟨R.ex, R.fr, R.pen, R.pa, by simpa using R.len, fun j => if j = i then none else ow j, fun j x e => ?_, fun j hj => ?_, fun j k a e1 e2 => ?_, fun j a e => ?_⟩
  · rcases get_set e with ⟨rfl, rfl⟩ | ⟨ne, e⟩
    · have hl : j < σ.length := by
        rw [R.len]
        have := (List.getElem?_eq_some_iff.mp e).1
        simpa using this
      exact ⟨by simp, v, List.getElem?_set_self hl, h⟩
    · have := h1 j x e
      simp only [ne, if_false]
      rw [List.getElem?_set_ne (Ne.symm ne)]
      exact this
  · show (if j = i then none else ow j) = none
    split
    · rfl
    · exact h2 j (by simpa using hj)
  · have e1 : (if j = i then none else ow j) = some a := e1
    have e2 : (if k = i then none else ow k) = some a := e2
    split at e1
    · cases e1
    · split at e2
      · cases e2
      · exact h3 j k a e1 e2
  · have e : (if j = i then none else ow j) = some a := e
    split at e
    · cases e
    · exact h4 j a e
/-- slot i is forgotten -/
theorem Rel.forget (R : Rel K B δ S σ H) {i : Nat} {o : Option V} : Rel K B { δ with sl := δ.sl.set i .un } S (σ.set i o) H := by
  obtain ⟨ow, h1, h2, h3, h4⟩ := R.sl
  refine ⟨R.ex, R.fr, R.pen, R.pa, by simpa using R.len, fun j => if j = i then none else ow j, fun j x e => ?_, fun j hj => ?_, fun j k a e1 e2 => ?_, fun j a e => ?_⟩
  · rcases get_set e with ⟨rfl, rfl⟩ | ⟨ne, e⟩
    · show (if j = j then none else ow j) = none
      simp
    · have := h1 j x e
      simp only [ne, if_false]
      rw [List.getElem?_set_ne (Ne.symm ne)]
      exact this
  · show (if j = i then none else ow j) = none
    split
    · rfl
    · exact h2 j (by simpa using hj)
  · have e1 : (if j = i then none else ow j) = some a := e1
    have e2 : (if k = i then none else ow k) = some a := e2
    split at e1
    · cases e1
    · split at e2
      · cases e2
      · exact h3 j k a e1 e2
  · have e : (if j = i then none else ow j) = some a := e
    split at e
    · cases e
    · exact h4 j a e
/-- other values in slots that are not known -/
theorem Rel.agree (R : Rel K B δ S σ H) {σ' : L2.St} (hl : σ'.length = σ.length) (h : ∀ i : Nat, σ'[i]? = σ[i]? ∨ δ.sl[i]? = some Sl.un) : Rel K B δ S σ' H := by
  obtain ⟨ow, h1, h2, h3, h4⟩ := R.sl
  refine ⟨R.ex, R.fr, R.pen, R.pa, hl.trans R.len, ow, fun i x e => ?_, h2, h3, h4⟩
  rcases h i with q | q
  · rw [q]; exact h1 i x e
  · rw [e] at q
    cases q
    exact h1 i _ e
/-- a new object in slot i, of one's own -/
theorem Rel.setNew (R : Rel K B δ S σ H) {i : Nat} {p : Addr} {o : HO} {x : Sl} (hp : H p = none) (ho : ∀ vs, o ≠ .tup vs)
    (hx : ∀ (H1 : Hp), H1 p = some o → B.H0 p = none → B.pa ≠ some p → SlOk K B S H1 (some p) (some (some (.ref p))) x) : Rel K B { δ with sl := δ.sl.set i x } S (σ.set i (some (.ref p))) (upd H p o) := by
  obtain ⟨f1, f2⟩ := R.fr.fresh hp
  have sp : S p = none := R.ex.none hp
  have g : Grow S H S (upd H p o) := ⟨Ex.refl _, Ex.new hp, R.ex.one hp ho, fun _ _ _ n => n⟩
  have R' := R.grow g
  obtain ⟨ow, h1, h2, h3, h4⟩ := R'.sl
  have np : ∀ j, ow j ≠ some p := fun j e => by
    obtain ⟨ow0, a1, a2, a3, a4⟩ := R.sl
    have := h4 j p e
    rcases Nat.lt_or_ge j δ.sl.length with hj | hj
    · have q := h1 j _ (List.getElem?_eq_getElem hj)
      have q0 := a1 j _ (List.getElem?_eq_getElem hj)
      cases hs : δ.sl[j] with
      | un => rw [hs] at q; rw [e] at q; cases q
      | law ns => rw [hs] at q; rw [e] at q; cases q.1
      | dat d => rw [hs] at q; rw [e] at q; cases q.1
      | own ds =>
        rw [hs] at q q0
        obtain ⟨a, vs, r1, _, _, r2, r3, _⟩ := q0
        obtain ⟨a', vs', t1, _, _, t2, t3, _⟩ := q
        rw [e] at t1; cases t1
        rw [r2] at t2; cases t2
        rw [hp] at r3; cases r3
      | hp ds =>
        rw [hs] at q
        obtain ⟨a', vs', t1, t0, _⟩ := q
        rw [e] at t1; cases t1
        exact f2 t0
      | ownK ds =>
        rw [hs] at q q0
        obtain ⟨a, vs, r1, _, _, r2, r3, _⟩ := q0
        obtain ⟨a', vs', t1, _, _, t2, t3, _⟩ := q
        rw [e] at t1; cases t1
        rw [r2] at t2; cases t2
        rw [hp] at r3; cases r3
      | ownT ds =>
        rw [hs] at q q0
        obtain ⟨a, vs, r1, _, _, r2, r3, _⟩ := q0
        obtain ⟨a', vs', t1, _, _, t2, t3, _⟩ := q
        rw [e] at t1; cases t1
        rw [r2] at t2; cases t2
        rw [hp] at r3; cases r3
    · rw [h2 j hj] at e; cases e
  by_cases hi : i < δ.sl.length
  · refine ⟨R'.ex, R'.fr, R'.pen, R'.pa, by simpa using R'.len, fun j => if j = i then some p else ow j, fun j y e => ?_, fun j hj => ?_, fun j k a e1 e2 => ?_, fun j a e => ?_⟩
    · rcases get_set e with ⟨rfl, rfl⟩ | ⟨ne, e⟩
      · have hl : j < σ.length := by rw [R.len]; exact hi
        rw [List.getElem?_set_self hl]
        simp only [if_true]
        exact hx _ upd_same f1 f2
      · have := h1 j y e
        simp only [ne, if_false]
        rw [List.getElem?_set_ne (Ne.symm ne)]
        exact this
    · have hj' : δ.sl.length ≤ j := by simpa using hj
      have ne : j ≠ i := by omega
      show (if j = i then some p else ow j) = none
      rw [if_neg ne]
      exact h2 j hj'
    · have e1 : (if j = i then some p else ow j) = some a := e1
      have e2 : (if k = i then some p else ow k) = some a := e2
      split at e1
      · cases e1
        split at e2
        · exact (by assumption : j = i).trans (by assumption : k = i).symm
        · exact absurd e2 (np k)
      · split at e2
        · cases e2; exact absurd e1 (np j)
        · exact h3 j k a e1 e2
    · have e : (if j = i then some p else ow j) = some a := e
      split at e
      · cases e
        exact ⟨sp, .inl f1, R.pen_new hp, _, upd_same⟩
      · exact h4 j a e
  · have e1 : δ.sl.set i x = δ.sl := by rw [List.set_eq_of_length_le (by omega)]
    have e2 : σ.set i (some (V.ref p)) = σ := by rw [List.set_eq_of_length_le (by rw [R.len]; omega)]
    rw [e1, e2]
    exact R'
theorem Rel.setOwn (R : Rel K B δ S σ H) {i : Nat} {p : Addr} {vs : List V} {ds : List D} (hp : H p = none) (n : DnA K S vs ds) : Rel K B { δ with sl := δ.sl.set i (.own ds) } S (σ.set i (some (.ref p))) (upd H p (.lst vs)) :=
  R.setNew hp (fun _ z => nomatch z) fun H1 h1 a b => ⟨p, vs, rfl, a, b, rfl, h1, n⟩

/-- the object in slot i is changed -/
theorem Rel.mut (R : Rel K B δ S σ H) {i : Nat} {p : Addr} {o : HO} {x y : Sl} (ho : ∀ vs, o ≠ .tup vs) (hi : δ.sl[i]? = some x) (hx : ∀ oa, SlOk K B S H oa σ[i]? x → oa = some p)
    (hy : ∀ H1 : Hp, H1 p = some o → SlOk K B S H1 (some p) σ[i]? y) : Rel K B { δ with sl := δ.sl.set i y } S σ (upd H p o) := by
  obtain ⟨ow, h1, h2, h3, h4⟩ := R.sl
  have oi : ow i = some p := hx _ (h1 i x hi)
  obtain ⟨sp, q2, q3, o0, q4⟩ := h4 i p oi
  have ne : ∀ a, S a ≠ none → a ≠ p := fun a h e => h (e ▸ sp)
  refine ⟨⟨fun a u h => by rw [upd_ne (ne a (by rw [h]; simp))]; exact R.ex a u h, fun b vs h => by
    by_cases q : b = p
    · subst q; rw [upd_same] at h; exact absurd (Option.some.inj h) (ho vs)
    · rw [upd_ne q] at h; exact R.ex.tp b vs h⟩, ⟨R.fr.s, fun b u h hb => ?_, R.fr.no, fun a e => ?_⟩, ?_, R.pa, by simpa using R.len, ow, fun j z e => ?_, fun j hj => h2 j (by simpa using hj), h3, fun j a e => ?_⟩
  · have : b ≠ p := fun e => by
      subst e
      rcases q2 with q2 | q2
      · rw [h] at q2; cases q2
      · exact hb q2
    rw [upd_ne this]
    exact R.fr.h b u h hb
  · by_cases e2 : a = p
    · subst e2; exact ⟨_, upd_same⟩
    · rw [upd_ne e2]; exact R.fr.pa a e
  · have hp := R.pen
    cases hpe : δ.pen with
    | none => trivial
    | some ac =>
      obtain ⟨a, c⟩ := ac
      rw [hpe] at hp
      have nap : a ≠ p := fun e => q3 c (by rw [hpe, e])
      obtain ⟨n, ca, ns, k, m, r1, r2, r3⟩ := hp
      exact ⟨n, ca, ns, k, m, by rw [upd_ne nap]; exact r1, r2, r3⟩
  · rcases get_set e with ⟨rfl, rfl⟩ | ⟨nj, e⟩
    · rw [oi]
      exact hy _ upd_same
    · refine (h1 j z e).grow (Ex.refl _) fun a u ea ha => ?_
      have : a ≠ p := fun q => nj (h3 j i a ea (by rw [q]; exact oi))
      rw [upd_ne this]
      exact ha
  · obtain ⟨r1, r2, r3, u, r4⟩ := h4 j a e
    refine ⟨r1, r2, r3, ?_⟩
    by_cases e2 : a = p
    · subst e2; exact ⟨_, upd_same⟩
    · rw [upd_ne e2]; exact ⟨u, r4⟩
/-- the list of slot i (of one's own, or the pen's): where it stands, what it becomes -/
theorem Rel.own (R : Rel K B δ S σ H) {i : Nat} {ds : List D} (hi : δ.sl[i]? = some (.own ds)) : ∃ p vs, σ[i]? = some (some (.ref p)) ∧ H p = some (.lst vs) ∧ DnA K S vs ds ∧ S p = none ∧ B.H0 p = none ∧ B.pa ≠ some p ∧
    ∀ vs' ds', DnA K S vs' ds' → Rel K B { δ with sl := δ.sl.set i (.own ds') } S σ (upd H p (.lst vs')) := by
  obtain ⟨ow, h1, h2, h3, h4⟩ := id R.sl
  obtain ⟨a, vs, r1, r2, r3, r4, r5, r6⟩ := h1 i _ hi
  refine ⟨a, vs, r4, r5, r6, (h4 i a r1).1, r2, r3, fun vs' ds' n => R.mut (fun _ z => nomatch z) hi (fun oa q => ?_) fun H1 e => ⟨a, vs', rfl, r2, r3, r4, e, n⟩⟩
  obtain ⟨a', _, t1, _, _, t4, _⟩ := q
  rw [r4] at t4; cases t4
  exact t1
theorem Rel.hp (R : Rel K B δ S σ H) {i : Nat} {ds : List D} (hi : δ.sl[i]? = some (.hp ds)) : ∃ p vs, σ[i]? = some (some (.ref p)) ∧ H p = some (.lst vs) ∧ DnA K S vs ds ∧ S p = none ∧ B.pa = some p ∧
    ∀ vs' ds', DnA K S vs' ds' → Rel K B { δ with sl := δ.sl.set i (.hp ds') } S σ (upd H p (.lst vs')) := by
  obtain ⟨ow, h1, h2, h3, h4⟩ := id R.sl
  obtain ⟨a, vs, r1, r2, r4, r5, r6⟩ := h1 i _ hi
  refine ⟨a, vs, r4, r5, r6, (h4 i a r1).1, r2, fun vs' ds' n => R.mut (fun _ z => nomatch z) hi (fun oa q => ?_) fun H1 e => ⟨a, vs', rfl, r2, r4, e, n⟩⟩
  obtain ⟨a', _, t1, _, t4, _⟩ := q
  rw [r4] at t4; cases t4
  exact t1
/-- slot i's list is frozen -/
theorem Rel.freeze (R : Rel K B δ S σ H) {i : Nat} {x : Sl} {d : D} {p : Addr} {o : HO} (hi : δ.sl[i]? = some x) (hx : ∀ oa, SlOk K B S H oa σ[i]? x → oa = some p) (ho : H p = some o) (h0 : B.H0 p = none) (hpa : B.pa ≠ some p)
    (hv : σ[i]? = some (some (.ref p))) (hd : ∀ S1 : Hp, S1 p = some o → Ex S S1 → Dn K S1 (.ref p) d) : ∃ S1, Ex S S1 ∧ Rel K B { δ with sl := δ.sl.set i (.dat d) } S1 σ H ∧ Dn K S1 (.ref p) d := by
  obtain ⟨ow, h1, h2, h3, h4⟩ := R.sl
  have oi : ow i = some p := hx _ (h1 i x hi)
  obtain ⟨sp, q2, q3, _⟩ := h4 i p oi
  have e1 : Ex S (upd S p o) := Ex.new sp
  have dn : Dn K (upd S p o) (.ref p) d := hd _ upd_same e1
  refine ⟨upd S p o, e1, ⟨⟨fun a u h => ?_, fun b vs h => e1 _ _ (R.ex.tp b vs h)⟩, ⟨R.fr.s.trans e1, R.fr.h, fun b u h n => ?_, R.fr.pa⟩, ?_, R.pa, by simpa using R.len, fun j => if j = i then none else ow j, fun j z e => ?_, fun j hj => ?_, fun j k a e1 e2 => ?_, fun j a e => ?_⟩, dn⟩
  · by_cases e : a = p
    · subst e; rw [upd_same] at h; rw [ho]; exact h
    · rw [upd_ne e] at h; exact R.ex a u h
  · have : b ≠ p := fun e => by subst e; rw [h] at h0; cases h0
    rw [upd_ne this]; exact R.fr.no b u h n
  · have hp := R.pen
    cases hpe : δ.pen with
    | none => trivial
    | some ac =>
      obtain ⟨a, c⟩ := ac
      rw [hpe] at hp
      have nap : a ≠ p := fun e => q3 c (by rw [hpe, e])
      obtain ⟨n, ca, ns, k, m, r1, r2, r3⟩ := hp
      exact ⟨by rw [upd_ne nap]; exact n, ca, ns, k, m, r1, e1 _ _ r2, r3⟩
  · rcases get_set e with ⟨rfl, rfl⟩ | ⟨ne, e⟩
    · exact ⟨by simp, _, hv, dn⟩
    · simp only [ne, if_false]
      exact (h1 j z e).grow e1 fun a u _ q => q
  · show (if j = i then none else ow j) = none
    split
    · rfl
    · exact h2 j (by simpa using hj)
  · have e1 : (if j = i then none else ow j) = some a := e1
    have e2 : (if k = i then none else ow k) = some a := e2
    split at e1
    · cases e1
    · split at e2
      · cases e2
      · exact h3 j k a e1 e2
  · have e : (if j = i then none else ow j) = some a := e
    split at e
    · cases e
    · rename_i nj
      obtain ⟨r1, r2, r3, r4⟩ := h4 j a e
      have : a ≠ p := fun q => nj (h3 j i a e (by rw [q]; exact oi))
      exact ⟨by rw [upd_ne this]; exact r1, r2, r3, r4⟩
theorem Rel.freezeL (R : Rel K B δ S σ H) {i : Nat} {ds : List D} (hi : δ.sl[i]? = some (.own ds)) : ∃ S1 v, Ex S S1 ∧ Rel K B { δ with sl := δ.sl.set i (.dat (.lst ds)) } S1 σ H ∧ σ[i]? = some (some v) ∧ Dn K S1 v (.lst ds) := by
  obtain ⟨p, vs, h1, h2, h3, h4, h5, h6, _⟩ := R.own hi
  obtain ⟨S1, e, R1, n⟩ := R.freeze (d := .lst ds) hi (fun oa q => by obtain ⟨a', _, t1, _, _, t4, _⟩ := q; rw [h1] at t4; cases t4; exact t1) h2 h5 h6 h1 fun S1 e x => .lst e (h3.mono x)
  exact ⟨S1, _, e, R1, h1, n⟩
end Ev

namespace Ev
open PySem PySem.Spec PyProof.Rows L2
variable {K : PySem.W.Frag} {S S' H H' : Hp} {B : Bs} {δ : DS} {σ : L2.St}
section
variable {X : Cx} {E : EK} {e a b c : Expr} {es : List Expr} {pos : Pos} {st : Stmt} {rest : List Stmt} {da db : dE} {t u : dS}

/-! ### a slot's value, its list frozen -/
def dTake (i : Nat) : dE := fun _ δ Q => match δ.sl[i]? with
  | some (.dat d) => Q d δ
  | some (.own ds) => Q (.lst ds) { δ with sl := δ.sl.set i (.dat (.lst ds)) }
  | _ => False
theorem de_take {i : Nat} {x : Str} (h : PE X (.Name x pos) (tVar i)) : DE X E (.Name x pos) (dTake i) := ⟨fun B => pe_mono h fun σ H Q q => by
  obtain ⟨δ, S, W, Q', R, q, _, post⟩ := q
  unfold dTake at q
  split at q
  · rename_i d hd
    obtain ⟨v, e1, e2⟩ := R.dat hd
    exact ⟨v, e1, post _ _ _ _ _ q (Ex.refl _) R e2⟩
  · rename_i ds hd
    obtain ⟨S1, v, e1, R1, e2, n⟩ := R.freezeL hd
    exact ⟨v, e2, post _ _ _ _ _ q e1 R1 n⟩
  · exact q.elim⟩

/-! ### blocks -/
def dNext : dS := fun _ N δ => N.nx δ
def dSeq (t u : dS) : dS := fun W N δ => t W { N with nx := fun δ' => u W N δ' } δ
theorem dss_nil : DSs X E [] dNext := ⟨fun B => pss_mono pss_nil fun Z σ H q => by
  obtain ⟨δ, S, W, N, R, q, xo, h1, _⟩ := q
  exact h1 _ _ _ _ q (Ex.refl _) R⟩
theorem dss_cons (h1 : DSt X E st t) (h2 : DSs X E rest u) : DSs X E (st :: rest) (dSeq t u) := ⟨fun B => pss_mono (pss_cons (h1.run B) (h2.run B)) fun Z σ H q => by
  obtain ⟨δ, S, W, N, R, q, xo, p1, p2, p3, p4⟩ := q
  refine ⟨δ, S, W, _, R, q, xo, fun δ1 σ1 S1 H1 q1 e1 R1 => ?_, p2, p3, p4⟩
  exact ⟨δ1, S1, W, N, R1, q1, xo.mono e1, fun δ2 σ2 S2 H2 q2 e2 R2 => p1 _ _ _ _ q2 (e1.trans e2) R2, fun x δ2 v σ2 S2 H2 q2 e2 R2 n2 => p2 _ _ _ _ _ _ q2 (e1.trans e2) R2 n2,
    fun δ2 σ2 S2 H2 q2 e2 R2 => p3 _ _ _ _ q2 (e1.trans e2) R2, fun δ2 σ2 S2 H2 q2 e2 R2 => p4.1 _ _ _ _ q2 (e1.trans e2) R2, fun xs δ2 p vs σ2 S2 H2 q2 e2 R2 hp n2 => p4.2 _ _ _ _ _ _ _ q2 (e1.trans e2) R2 hp n2⟩⟩
theorem dss_one (h1 : DSt X E st t) : DSs X E [st] t := ⟨fun B => pss_one (h1.run B)⟩
def dNever : dS := fun _ _ _ => False
theorem ds_never : DSt X E st dNever := ⟨fun B => ps_mono (t := tNever) ps_never fun Z σ H q => by
  obtain ⟨_, _, _, _, _, q, _⟩ := q
  exact q.elim⟩
theorem dss_never : DSs X E rest dNever := ⟨fun B => pss_mono (t := tNever) pss_never fun Z σ H q => by
  obtain ⟨_, _, _, _, _, q, _⟩ := q
  exact q.elim⟩
theorem ds_pass : DSt X E (.Pass pos) dNext := ⟨fun B => ps_mono ps_pass fun Z σ H q => by
  obtain ⟨δ, S, W, N, R, q, xo, h1, _⟩ := q
  exact h1 _ _ _ _ q (Ex.refl _) R⟩
theorem ds_doc {x j pos pos'} : DSt X E (.Expr (.Constant (.str x) j pos) pos') dNext := ⟨fun B => ps_mono ps_doc fun Z σ H q => by
  obtain ⟨δ, S, W, N, R, q, xo, h1, _⟩ := q
  exact h1 _ _ _ _ q (Ex.refl _) R⟩
def dBrk : dS := fun _ N δ => N.bk δ
def dCnt : dS := fun _ N δ => N.ct δ
theorem ds_break : DSt X E (.Break pos) dBrk := ⟨fun B => ps_mono ps_break fun Z σ H q => by
  obtain ⟨δ, S, W, N, R, q, xo, _, _, h1, _⟩ := q
  exact h1 _ _ _ _ q (Ex.refl _) R⟩
theorem ds_continue : DSt X E (.Continue pos) dCnt := ⟨fun B => ps_mono ps_continue fun Z σ H q => by
  obtain ⟨δ, S, W, N, R, q, xo, _, _, _, h1⟩ := q
  exact h1.1 _ _ _ _ q (Ex.refl _) R⟩
def dRet (d : dE) : dS := fun W N δ => d W δ fun x δ' => N.rt x δ'
theorem ds_ret (h : DE X E e da) : DSt X E (.Return (some e) pos) (dRet da) := ⟨fun B => ps_mono (ps_ret (h.run B)) fun Z σ H q => by
  obtain ⟨δ, S, W, N, R, q, xo, _, h1, _⟩ := q
  exact ⟨δ, S, W, _, R, q, xo, fun x δ' v S' H' q1 e1 R1 n1 => h1 _ _ _ _ _ _ q1 e1 R1 n1⟩⟩
def dRetN : dS := fun W N δ => N.rt .non δ
theorem ds_retN : DSt X E (.Return none pos) dRetN := ⟨fun B => ps_mono ps_retN fun Z σ H q => by
  obtain ⟨δ, S, W, N, R, q, xo, _, h1, _⟩ := q
  exact h1 _ _ _ _ _ _ q (Ex.refl _) R .non⟩
def dExpr (d : dE) : dS := fun W N δ => d W δ fun _ δ' => N.nx δ'
theorem ds_expr (h : DE X E e da) (hs : swapsWith e none pos.line X.env = pure false := by rfl) : DSt X E (.Expr e pos) (dExpr da) := ⟨fun B => ps_mono (ps_expr (h.run B) hs) fun Z σ H q => by
  obtain ⟨δ, S, W, N, R, q, xo, h1, _⟩ := q
  exact ⟨δ, S, W, _, R, q, xo, fun x δ' v S' H' q1 e1 R1 n1 => h1 _ _ _ _ q1 e1 R1⟩⟩
def dIfS (c : dT) (t u : dS) : dS := fun W N δ => c W δ fun k δ' => match k with | true => t W N δ' | false => u W N δ'
theorem ds_if {tc : dT} {as bs : List Stmt} (hc : DT X E c tc) (ha : DSs X E as t) (hb : DSs X E bs u) : DSt X E (.If c as bs pos) (dIfS tc t u) := ⟨fun B => ps_mono (ps_if (hc.run B) (ha.run B) (hb.run B)) fun Z σ H q => by
  obtain ⟨δ, S, W, N, R, q, xo, p1, p2, p3, p4⟩ := q
  refine ⟨δ, S, W, _, R, q, xo, fun k δ1 S1 H1 q1 e1 R1 => ?_⟩
  have go : ∀ d : dS, d W N δ1 → liftS X.K B E d Z σ H1 := fun d q1 => ⟨δ1, S1, W, N, R1, q1, xo.mono e1, fun δ2 σ2 S2 H2 q2 e2 R2 => p1 _ _ _ _ q2 (e1.trans e2) R2, fun x δ2 v σ2 S2 H2 q2 e2 R2 n2 => p2 _ _ _ _ _ _ q2 (e1.trans e2) R2 n2,
    fun δ2 σ2 S2 H2 q2 e2 R2 => p3 _ _ _ _ q2 (e1.trans e2) R2, fun δ2 σ2 S2 H2 q2 e2 R2 => p4.1 _ _ _ _ q2 (e1.trans e2) R2, fun xs δ2 p vs σ2 S2 H2 q2 e2 R2 hp n2 => p4.2 _ _ _ _ _ _ _ q2 (e1.trans e2) R2 hp n2⟩
  cases k with
  | true => exact iteT (go _ q1)
  | false => exact iteF (go _ q1)⟩

/-! ### assignments -/
def setSl (δ : DS) (i : Nat) (x : Sl) : DS := { δ with sl := δ.sl.set i x }
def dSet (i : Nat) (d : dE) : dS := fun W N δ => d W δ fun x δ' => N.nx (setSl δ' i (.dat x))
def dSetF (i : Nat) (d : dF) : dS := fun W N δ => d W δ fun xs δ' => N.nx (setSl δ' i (.own xs))
theorem ds_set {i : Nat} {x : Str} {pos' : Pos} (hN : X.N.Nodup) (hi : X.N[i]? = some x) (hx : Loc X.env.scope x) (h : DE X E e da) (hs : swapsWith e (some (.Name x pos')) pos.line X.env = pure false := by rfl) (hf : X.fn x = true ∨ X.env.scope.names.lookup x = some .local := by first | exact .inl rfl | exact .inr rfl | assumption) :
    DSt X E (.Assign [.Name x pos'] e pos) (dSet i da) := ⟨fun B => ps_mono (ps_set hN hi hx (h.run B) hs hf) fun Z σ H q => by
  obtain ⟨δ, S, W, N, R, q, xo, h1, _⟩ := q
  exact ⟨δ, S, W, _, R, q, xo, fun x δ' v S' H' q1 e1 R1 n1 => h1 _ _ _ _ q1 e1 (R1.setDat n1)⟩⟩
theorem ds_setF {i : Nat} {x : Str} {pos' : Pos} {d : dF} (hN : X.N.Nodup) (hi : X.N[i]? = some x) (hx : Loc X.env.scope x) (h : DF X E e d) (hs : swapsWith e (some (.Name x pos')) pos.line X.env = pure false := by rfl) (hf : X.fn x = true ∨ X.env.scope.names.lookup x = some .local := by first | exact .inl rfl | exact .inr rfl | assumption) :
    DSt X E (.Assign [.Name x pos'] e pos) (dSetF i d) := ⟨fun B => ps_mono (ps_set hN hi hx (h.run B) hs hf) fun Z σ H q => by
  obtain ⟨δ, S, W, N, R, q, xo, h1, _⟩ := q
  exact ⟨δ, S, W, _, R, q, xo, fun xs δ' p vs S' H' q1 e1 R1 hp n1 => h1 _ _ _ _ q1 e1 (R1.setOwn hp n1)⟩⟩

/-! ### targets -/
def gN (i : Nat) : dG := fun d δ Q => Q (setSl δ i (.dat d))
theorem dg_name {i : Nat} {x : Str} (h : PG X (.Name x pos) (gName i)) : DG X (.Name x pos) (gN i) [i] := ⟨fun B => ⟨fun pins s σ H v u Q I r q => h.run pins s σ H v u Q I r (by
  obtain ⟨δ, S, d, Q', R, n, q, post⟩ := q
  refine post _ _ _ _ q (Ex.refl _) (R.setDat n) (fun j hj => ?_) (by simp)
  have : j ≠ i := by simpa using hj
  rw [List.getElem?_set_ne (Ne.symm this)])⟩⟩
abbrev dGs := List D → DS → (DS → Prop) → Prop
def liftGs (K : PySem.W.Frag) (B : Bs) (g : dGs) (vs : List Nat) : TGs := fun us σ H Q => ∃ δ S ds Q', Rel K B δ S σ H ∧ DnA K S us ds ∧ g ds δ Q' ∧
  ∀ δ' σ' S' H', Q' δ' → Ex S S' → Rel K B δ' S' σ' H' → (∀ i, i ∉ vs → σ'[i]? = σ[i]?) → σ'.length = σ.length → Q σ' H'
structure DGs (X : Cx) (tg : List Expr) (g : dGs) (vs : List Nat) : Prop where
  run : ∀ B, PGs X tg (liftGs X.K B g vs)
def gsNil : dGs := fun ds δ Q => match ds with | [] => Q δ | _ => False
def gsCons (g : dG) (r : dGs) : dGs := fun ds δ Q => match ds with | d :: ds => g d δ fun δ' => r ds δ' Q | [] => False
theorem dgs_nil : DGs X [] gsNil [] := ⟨fun B => ⟨fun pins s σ H vs us Q I r q => pgs_nil.run pins s σ H vs us Q I r (by
  obtain ⟨δ, S, ds, Q', R, n, q, post⟩ := q
  cases n with
  | nil => exact ⟨rfl, post _ _ _ _ q (Ex.refl _) R (fun _ _ => rfl) rfl⟩
  | cons _ _ => exact q.elim)⟩⟩
theorem dgs_cons {g : dG} {r : dGs} {vs ws : List Nat} (h1 : DG X e g vs) (h2 : DGs X es r ws) (hs : (assignEach (e :: es) X.env).map (·.2) = assign e X.env :: (assignEach es X.env).map (·.2) := by rfl) : DGs X (e :: es) (gsCons g r) (vs ++ ws) :=
  ⟨fun B => ⟨fun pins s σ H us uu Q I rr q => (pgs_cons (h1.run B) (h2.run B) hs).run pins s σ H us uu Q I rr (by
    obtain ⟨δ, S, ds, Q', R, n, q, post⟩ := q
    cases n with
    | nil => exact q.elim
    | cons n ns =>
      refine ⟨_, _, rfl, δ, S, _, _, R, n, q, fun δ1 σ1 S1 H1 q1 e1 R1 a1 l1 => ?_⟩
      refine ⟨δ1, S1, _, _, R1, ns.mono e1, q1, fun δ2 σ2 S2 H2 q2 e2 R2 a2 l2 => post _ _ _ _ q2 (e1.trans e2) R2 (fun i hi => ?_) (l2.trans l1)⟩
      rw [a2 i (fun z => hi (by simp [z])), a1 i (fun z => hi (by simp [z]))])⟩⟩
def gT (n : Nat) (r : dGs) : dG := fun d δ Q => match d with | .tup ds => ds.length = n ∧ r ds δ Q | _ => False
theorem dg_tup {k : Nat} {r : dGs} {n : Nat} {vs : List Nat} (hc : X.calm = true) (h : DGs X es r vs) (hn : (assignEach es X.env).length = n := by rfl) (hst : (assignEach es X.env).findIdx? (·.1) = none := by rfl) :
    DG X (.Tuple es k pos) (gT n r) vs := ⟨fun B => ⟨fun pins s σ H v u Q I rv q => (pg_tup hc (h.run B) hn hst).run pins s σ H v u Q I rv (by
    obtain ⟨δ, S, d, Q', R, dn, q, post⟩ := q
    cases d with
    | tup ds =>
      cases dn with
      | tup hq ha => exact ⟨_, _, rfl, SqT.of (R.ex _ _ hq), ha.length.trans q.1, δ, S, ds, Q', R, ha, q.2, post⟩
    | _ => exact q.elim)⟩⟩
def dAsg (d : dE) (g : dG) : dS := fun W N δ => d W δ fun x δ' => g x δ' N.nx
theorem ds_asg {tg : Expr} {g : dG} {vs : List Nat} (h : DE X E e da) (hg : DG X tg g vs) (hs : swapsWithSole [tg] e pos.line X.env = pure false := by rfl) (hw : swappedStores [tg] e X.env = pure none := by rfl)
    (h1 : (assignEach [tg] X.env).map (·.2) = [assign tg X.env] := by rfl) : DSt X E (.Assign [tg] e pos) (dAsg da g) := ⟨fun B => ps_mono (ps_asg (h.run B) (hg.run B) hs hw h1) fun Z σ H q => by
  obtain ⟨δ, S, W, N, R, q, xo, p1, _⟩ := q
  refine ⟨δ, S, W, _, R, q, xo, fun x δ' v S' H' q1 e1 R1 n1 => ?_⟩
  exact ⟨δ', S', x, N.nx, R1, n1, q1, fun δ2 σ2 S2 H2 q2 e2 R2 _ _ => p1 _ _ _ _ q2 (e1.trans e2) R2⟩⟩

/-! ### loops -/
abbrev dI := XW → DS → (List D → DS → Prop) → Prop
structure ItOk (K : PySem.W.Frag) (J : It) (ds : List D) (S : Hp) : Prop where
  goes : ∀ i S1 H1, Ex S S1 → Sb S1 H1 → i < ds.length → J.go i H1
  stops : ∀ S1 H1, Ex S S1 → Sb S1 H1 → J.stop ds.length H1
  yields : ∀ i S1 H1 x H2, Ex S S1 → Sb S1 H1 → i < ds.length → J.yld i H1 x H2 → ∃ S2 d, Grow S1 H1 S2 H2 ∧ ds[i]? = some d ∧ Dn K S2 x d
theorem ItOk.mono {J : It} {ds : List D} (h : ItOk K J ds S) (e : Ex S S') : ItOk K J ds S' :=
  ⟨fun i S1 H1 a => h.goes i S1 H1 (e.trans a), fun S1 H1 a => h.stops S1 H1 (e.trans a), fun i S1 H1 x H2 a => h.yields i S1 H1 x H2 (e.trans a)⟩
def liftI (K : PySem.W.Frag) (B : Bs) (E : EK) (w : dI) : TI := fun σ H R => ∃ δ S W Q', Rel K B δ S σ H ∧ w W δ Q' ∧ XOk K B E W S ∧
  ∀ ds δ' S' H' J, Q' ds δ' → Ex S S' → Rel K B δ' S' σ H' → ItOk K J ds S' → R J H'
structure DI (X : Cx) (E : EK) (tg iter : Expr) (w : dI) : Prop where
  run : ∀ B, PI X tg iter (liftI X.K B E w)
theorem pi_mono {tg iter : Expr} {w w' : TI} (h : PI X tg iter w) (m : ∀ σ H R, w' σ H R → w σ H R) : PI X tg iter w' := ⟨fun pins s σ H R I q => h.run pins s σ H R I (m _ _ _ q)⟩
def wFor (g : dG) (b : dS) (W : XW) (N : dEnds) : List D → DS → Prop
  | [], δ => N.nx δ
  | d :: ds, δ => g d δ fun δ1 => b W { N with nx := wFor g b W N ds, ct := wFor g b W N ds, bk := N.nx } δ1
def dFor (it : dI) (g : dG) (b : dS) : dS := fun W N δ => it W δ fun ds δ1 => wFor g b W N ds δ1
theorem ds_for {tg iter : Expr} {body : List Stmt} {w : dI} {g : dG} {vs : List Nat} (hp : PassesOwn (model X.prog X.w) X.A X.env X.xe) (hc : X.calm = true) (hi : DI X E tg iter w) (hg : DG X tg g vs) (hb : DSs X E body t)
    (hs : ∀ x, foldedSetIterable iter X.env x = pure x := by intro _; rfl) : DSt X E (.For tg iter body [] pos) (dFor w g t) := ⟨fun B => ps_mono (ps_for hp hc (hi.run B) (hg.run B) (hb.run B) hs) fun Z σ H q => by
  obtain ⟨δ, S, W, N, R, q, xo, p1, p2, p3, p4⟩ := q
  refine ⟨δ, S, W, _, R, q, xo, fun ds δ1 S1 H1 J q1 e1 R1 it1 => ?_⟩
  refine ⟨fun i m σ H => m = ds.length - i ∧ i ≤ ds.length ∧ ∃ δ S2, Ex S1 S2 ∧ Rel X.K B δ S2 σ H ∧ wFor g t W N (ds.drop i) δ, ⟨_, rfl, Nat.zero_le _, δ1, S1, Ex.refl _, R1, q1⟩, ?_⟩
  rintro i m σ2 H2 ⟨rfl, hi, δ2, S2, e2, R2, q2⟩
  by_cases hlt : i < ds.length
  · refine .inr ⟨it1.goes i S2 H2 e2 R2.ex hlt, fun σ' H' => (fun i m σ H => m = ds.length - i ∧ i ≤ ds.length ∧ ∃ δ S2, Ex S1 S2 ∧ Rel X.K B δ S2 σ H ∧ wFor g t W N (ds.drop i) δ) (i + 1) (ds.length - (i + 1)) σ' H', fun σ' H' h => ⟨_, by omega, h⟩, fun x H3 y => ?_⟩
    obtain ⟨S3, d, g3, ed, dn⟩ := it1.yields i S2 H2 x H3 e2 R2.ex hlt y
    have hd : ds.drop i = d :: ds.drop (i + 1) := by
      obtain ⟨h1, h2⟩ := List.getElem?_eq_some_iff.mp ed
      rw [List.drop_eq_getElem_cons h1, h2]
    rw [hd] at q2
    refine ⟨δ2, S3, d, _, R2.grow g3, dn, q2, fun δ4 σ4 S4 H4 q4 e4 R4 _ _ => ?_⟩
    have e : Ex S S4 := (e1.trans e2).trans (g3.s.trans e4)
    refine ⟨δ4, S4, W, _, R4, q4, xo.mono e, fun δ5 σ5 S5 H5 q5 e5 R5 => ?_, fun x δ5 v σ5 S5 H5 q5 e5 R5 n5 => p2 _ _ _ _ _ _ q5 (e.trans e5) R5 n5, fun δ5 σ5 S5 H5 q5 e5 R5 => p1 _ _ _ _ q5 (e.trans e5) R5, fun δ5 σ5 S5 H5 q5 e5 R5 => ?_, fun xs δ5 p vs σ5 S5 H5 q5 e5 R5 hp n5 => p4.2 _ _ _ _ _ _ _ q5 (e.trans e5) R5 hp n5⟩
    · exact ⟨rfl, hlt, δ5, S5, e2.trans (g3.s.trans (e4.trans e5)), R5, q5⟩
    · exact ⟨rfl, hlt, δ5, S5, e2.trans (g3.s.trans (e4.trans e5)), R5, q5⟩
  · have e : i = ds.length := by omega
    subst e
    rw [List.drop_length] at q2
    exact .inl ⟨it1.stops S2 H2 e2 R2.ex, p1 _ _ _ _ q2 (e1.trans e2) R2⟩⟩
/-- while: an invariant with a measure -/
def dWhile (c : dT) (b : dS) : dS := fun W N δ => ∃ V : Nat → DS → Prop, (∃ m, V m δ) ∧ ∀ m δ, V m δ → c W δ fun k δ1 => match k with
  | true => b W { N with nx := fun δ' => ∃ m', m' < m ∧ V m' δ', ct := fun δ' => ∃ m', m' < m ∧ V m' δ', bk := N.nx } δ1
  | false => N.nx δ1
theorem ds_while {body : List Stmt} {tc : dT} (hp : PassesOwn (model X.prog X.w) X.A X.env X.xe) (hc : DT X E c tc) (hb : DSs X E body t) : DSt X E (.While c body [] pos) (dWhile tc t) := ⟨fun B => ps_mono (ps_while hp (hc.run B) (hb.run B)) fun Z σ H q => by
  obtain ⟨δ, S, W, N, R, ⟨V, ⟨m0, v0⟩, turn⟩, xo, p1, p2, p3, p4⟩ := q
  refine ⟨fun m σ H => ∃ δ S1, Ex S S1 ∧ Rel X.K B δ S1 σ H ∧ V m δ, ⟨m0, δ, S, Ex.refl _, R, v0⟩, ?_⟩
  rintro m σ1 H1 ⟨δ1, S1, e1, R1, v1⟩
  refine ⟨δ1, S1, W, _, R1, turn m δ1 v1, xo.mono e1, fun k δ2 S2 H2 q2 e2 R2 => ?_⟩
  cases k with
  | true =>
    have e := e1.trans e2
    refine iteT ⟨fun σ' H' => ∃ m', m' < m ∧ ∃ δ S1, Ex S S1 ∧ Rel X.K B δ S1 σ' H' ∧ V m' δ, fun σ' H' h => h, δ2, S2, W, _, R2, q2, xo.mono e, fun δ5 σ5 S5 H5 q5 e5 R5 => ?_, fun x δ5 v σ5 S5 H5 q5 e5 R5 n5 => p2 _ _ _ _ _ _ q5 (e.trans e5) R5 n5, fun δ5 σ5 S5 H5 q5 e5 R5 => p1 _ _ _ _ q5 (e.trans e5) R5, fun δ5 σ5 S5 H5 q5 e5 R5 => ?_, fun xs δ5 p vs σ5 S5 H5 q5 e5 R5 hp n5 => p4.2 _ _ _ _ _ _ _ q5 (e.trans e5) R5 hp n5⟩
    · obtain ⟨m', hm, v⟩ := q5
      exact ⟨m', hm, δ5, S5, e.trans e5, R5, v⟩
    · obtain ⟨m', hm, v⟩ := q5
      exact ⟨m', hm, δ5, S5, e.trans e5, R5, v⟩
  | false =>
    exact iteF (p1 _ _ _ _ q2 (e1.trans e2) R2)⟩
end
end Ev

namespace Ev
open PySem PySem.Spec PyProof.Rows L2
variable {K : PySem.W.Frag} {S S' H H' : Hp} {B : Bs} {δ : DS} {σ : L2.St}
section
variable {X : Cx} {E : EK} {e a b c tg : Expr} {es : List Expr} {pos : Pos} {st : Stmt} {rest : List Stmt} {da db : dE} {t u : dS}

/-! ### what is walked -/
/-- a list or a tuple -/
def iSeq (K : PySem.W.Frag) (tl : TE) : TI := fun σ H R => tl σ H fun x H1 => ∃ a, x = .ref a ∧ (((∃ xs, SqL K H1 a xs) ∧ R (Itl K a) H1) ∨ ((∃ xs, SqT K H1 a xs) ∧ R (Itt K a) H1))
theorem pi_seq {l : Expr} {tl : TE} (hl : PE X l tl) : PI X tg l (iSeq X.K tl) := by
  refine ⟨fun pins s σ H R I h => ?_⟩
  refine thn (hl.run pins s σ H _ I h) fun v s1 ⟨x, H1, I1, r1, q1⟩ => ?_
  obtain ⟨a, e, ⟨⟨xs, hq⟩, q⟩ | ⟨⟨xs, hq⟩, q⟩⟩ := q1
  · subst e
    cases r1
    obtain ⟨its, rv, p, hz⟩ := I1.list hq
    refine wpAny_pyIter_list p.isList ?_
    refine ⟨s1.heap.objs.size, [s1.heap.objs.size], _, _, H1, rfl, I1.kept (t' := s1.toks) fun b o e => Heap.get?_push_of_some _ e, turn_list a _, ⟨_, Heap.get?_push_size _ rfl, rfl, rfl⟩, fun b hb => ?_, q⟩
    have e : b = s1.heap.objs.size := by simpa using hb
    subst e
    exact I1.fpOk (Nat.le_refl _) (I1.hok.fresh (Nat.le_refl _))
  · subst e
    cases r1
    obtain ⟨its, rv, p, hz⟩ := I1.tuple hq
    refine wpAny_pyIter_tuple (show s1.heap.IsTuple a its.toArray from p) ?_
    refine ⟨s1.heap.objs.size, [s1.heap.objs.size], _, _, H1, rfl, I1.kept (t' := s1.toks) fun b o e => Heap.get?_push_of_some _ e, turn_tuple a _, ⟨_, Heap.get?_push_size _ rfl, rfl, rfl⟩, fun b hb => ?_, q⟩
    have e : b = s1.heap.objs.size := by simpa using hb
    subst e
    exact I1.fpOk (Nat.le_refl _) (I1.hok.fresh (Nat.le_refl _))
theorem it_list {a : Addr} {vs : List V} {ds : List D} (h : S a = some (.lst vs)) (n : DnA K S vs ds) : ItOk K (Itl K a) ds S := by
  have hl := n.length
  refine ⟨fun i S1 H1 e1 e2 hi => ?_, fun S1 H1 e1 e2 => ?_, fun i S1 H1 x H2 e1 e2 hi y => ?_⟩
  · exact (walk_list (xs := vs)).goes i H1 (by omega) (SqL.of (e2 _ _ (e1 _ _ h)))
  · rw [← hl]; exact walk_list.stops H1 (SqL.of (e2 _ _ (e1 _ _ h)))
  · obtain ⟨rfl, hx⟩ := (walk_list (xs := vs)).yields i H1 x H2 (by omega) (SqL.of (e2 _ _ (e1 _ _ h))) y
    obtain ⟨d, h1, h2⟩ := n.getV hx
    exact ⟨S1, d, Grow.refl e2, h1, h2.mono e1⟩
theorem it_tup {a : Addr} {vs : List V} {ds : List D} (h : S a = some (.tup vs)) (n : DnA K S vs ds) : ItOk K (Itt K a) ds S := by
  have hl := n.length
  refine ⟨fun i S1 H1 e1 e2 hi => ?_, fun S1 H1 e1 e2 => ?_, fun i S1 H1 x H2 e1 e2 hi y => ?_⟩
  · exact (walk_tup (xs := vs)).goes i H1 (by omega) (SqT.of (e2 _ _ (e1 _ _ h)))
  · rw [← hl]; exact walk_tup.stops H1 (SqT.of (e2 _ _ (e1 _ _ h)))
  · obtain ⟨rfl, hx⟩ := (walk_tup (xs := vs)).yields i H1 x H2 (by omega) (SqT.of (e2 _ _ (e1 _ _ h))) y
    obtain ⟨d, h1, h2⟩ := n.getV hx
    exact ⟨S1, d, Grow.refl e2, h1, h2.mono e1⟩
def dSeqI (d : dE) : dI := fun W δ Q => d W δ fun x δ' => match x with | .lst ds => Q ds δ' | .tup ds => Q ds δ' | _ => False
theorem di_seq (h : DE X E e da) : DI X E tg e (dSeqI da) := ⟨fun B => pi_mono (pi_seq (h.run B)) fun σ H Rr q => by
  obtain ⟨δ, S, W, Q', R, q, xo, post⟩ := q
  refine ⟨δ, S, W, _, R, q, xo, fun x δ1 v S1 H1 q1 e1 R1 n1 => ?_⟩
  cases x with
  | lst ds =>
    cases n1 with
    | lst hs ha => exact ⟨_, rfl, .inl ⟨⟨_, SqL.of (R1.ex _ _ hs)⟩, post _ _ _ _ _ q1 e1 R1 (it_list hs ha)⟩⟩
  | tup ds =>
    cases n1 with
    | tup hs ha => exact ⟨_, rfl, .inr ⟨⟨_, SqT.of (R1.ex _ _ hs)⟩, post _ _ _ _ _ q1 e1 R1 (it_tup hs ha)⟩⟩
  | _ => exact q1.elim⟩
def intsFrom (lo : Int) (n : Nat) : List D := (List.range n).map fun i => .int (lo + (i : Nat))
theorem it_range {lo : Int} {n : Nat} : ItOk K (Itr lo n) (intsFrom lo n) S := by
  have hl : (intsFrom lo n).length = n := by simp [intsFrom]
  refine ⟨fun i S1 H1 e1 e2 hi => ?_, fun S1 H1 e1 e2 => ?_, fun i S1 H1 x H2 e1 e2 hi y => ?_⟩
  · rw [hl] at hi; exact hi
  · rw [hl]; exact Nat.le_refl _
  · obtain ⟨rfl, rfl⟩ := y
    rw [hl] at hi
    exact ⟨S1, .int (lo + (i : Nat)), Grow.refl e2, by simp [intsFrom, hi], .int _⟩
def dRng1 (d : dA) : dI := fun W δ Q => d W δ fun xs δ' => match xs with | [.int j] => -(2 ^ 62) ≤ j ∧ j < 2 ^ 62 ∧ Q (intsFrom 0 j.toNat) δ' | _ => False
def dRng2 (d : dA) : dI := fun W δ Q => d W δ fun xs δ' => match xs with | [.int i, .int j] => (-(2 ^ 62) ≤ i ∧ i < 2 ^ 62 ∧ -(2 ^ 62) ≤ j ∧ j < 2 ^ 62) ∧ Q (intsFrom i (j - i).toNat) δ' | _ => False
theorem DnA.int1 {vs : List V} {i : Int} (h : DnA K S vs [.int i]) : vs = [.int i] := by
  cases h with | cons h1 h2 => cases h1; cases h2; rfl
theorem di_range1 {p : Pos} {d : dA} (hg : Gl X "range") (hm : X.mg "range" = none) (ha : DA X E [a] d) (hs : starEach [a] X.env = [(false, eval a X.env)] := by rfl) : DI X E tg (.Call (.Name "range" p) [a] [] pos) (dRng1 d) := ⟨fun B => pi_mono (pi_range1 hg hm (ha.run B) hs) fun σ H Rr q => by
  obtain ⟨δ, S, W, Q', R, q, xo, post⟩ := q
  refine ⟨δ, S, W, _, R, q, xo, fun xs δ1 vs S1 H1 q1 e1 R1 n1 => ?_⟩
  match xs, q1, n1 with
  | [.int j], ⟨q1, q2, q3⟩, n1 => exact ⟨j, n1.int1, q1, q2, post _ _ _ _ _ q3 e1 R1 it_range⟩⟩
theorem di_range2 {p : Pos} {d : dA} (hg : Gl X "range") (hm : X.mg "range" = none) (ha : DA X E [a, b] d) (hs : starEach [a, b] X.env = [(false, eval a X.env), (false, eval b X.env)] := by rfl) (hs2 : starEach [b] X.env = [(false, eval b X.env)] := by rfl) : DI X E tg (.Call (.Name "range" p) [a, b] [] pos) (dRng2 d) := ⟨fun B => pi_mono (pi_range2 hg hm (ha.run B) hs hs2) fun σ H Rr q => by
  obtain ⟨δ, S, W, Q', R, q, xo, post⟩ := q
  refine ⟨δ, S, W, _, R, q, xo, fun xs δ1 vs S1 H1 q1 e1 R1 n1 => ?_⟩
  match xs, q1, n1 with
  | [.int i, .int j], ⟨q1, q3⟩, n1 =>
    cases n1 with
    | cons h1 h2 => cases h1; exact ⟨i, j, by rw [h2.int1], q1, post _ _ _ _ _ q3 e1 R1 it_range⟩⟩

/-! ### comprehensions -/
def wipeD (δ : DS) : List Nat → DS
  | [] => δ
  | v :: vs => setSl (wipeD δ vs) v .un
theorem wipeD_len (δ : DS) : ∀ vs, (wipeD δ vs).sl.length = δ.sl.length
  | [] => rfl
  | v :: vs => by simp [wipeD, setSl, wipeD_len δ vs]
theorem wipeD_pen (δ : DS) : ∀ vs, (wipeD δ vs).pen = δ.pen
  | [] => rfl
  | v :: vs => by simp [wipeD, setSl, wipeD_pen δ vs]
theorem Rel.wipe (R : Rel K B δ S σ H) : ∀ vs, Rel K B (wipeD δ vs) S (L2.wipe σ vs) H
  | [] => R
  | v :: vs => (R.wipe vs).forget
theorem wipeD_un (δ : DS) : ∀ {vs : List Nat} {i : Nat}, i ∈ vs → i < δ.sl.length → (wipeD δ vs).sl[i]? = some .un
  | v :: vs, i, h, hl => by
    by_cases e : v = i
    · subst e
      show ((wipeD δ vs).sl.set v Sl.un)[v]? = _
      rw [List.getElem?_set_self (by rw [wipeD_len]; exact hl)]
    · show ((wipeD δ vs).sl.set v Sl.un)[i]? = _
      rw [List.getElem?_set_ne e]
      exact wipeD_un δ ((List.mem_cons.mp h).resolve_left (Ne.symm e)) hl
theorem wipe_in {σ : L2.St} : ∀ {vs : List Nat} {i : Nat}, i ∈ vs → (L2.wipe σ vs)[i]? = (σ[i]?).map fun _ => none
  | v :: vs, i, h => by
    by_cases e : v = i
    · subst e
      show ((L2.wipe σ vs).set v none)[v]? = _
      by_cases hl : v < σ.length
      · rw [List.getElem?_set_self (by rw [wipe_length]; exact hl), List.getElem?_eq_getElem hl]; rfl
      · rw [List.getElem?_eq_none (by rw [List.length_set, wipe_length]; omega), List.getElem?_eq_none (by omega)]; rfl
    · show ((L2.wipe σ vs).set v none)[i]? = _
      rw [List.getElem?_set_ne e]
      exact wipe_in ((List.mem_cons.mp h).resolve_left (Ne.symm e))
theorem wipe_notin {σ : L2.St} : ∀ {vs : List Nat} {i : Nat}, i ∉ vs → (L2.wipe σ vs)[i]? = σ[i]?
  | [], _, _ => rfl
  | v :: vs, i, h => by
    have h1 : v ≠ i := fun e => h (by simp [e])
    show ((L2.wipe σ vs).set v none)[i]? = _
    rw [List.getElem?_set_ne h1]
    exact wipe_notin fun z => h (by simp [z])
theorem wipe_agree {σ σ' : L2.St} {vs ws : List Nat} (hl : σ'.length = σ.length) (h : ∀ i, i ∉ ws → σ'[i]? = σ[i]?) (hs : ∀ i ∈ ws, i ∈ vs) : L2.wipe σ' vs = L2.wipe σ vs := by
  apply List.ext_getElem?
  intro i
  by_cases hi : i ∈ vs
  · rw [wipe_in hi, wipe_in hi]
    by_cases hj : i < σ.length
    · rw [List.getElem?_eq_getElem hj, List.getElem?_eq_getElem (by omega)]; rfl
    · rw [List.getElem?_eq_none (by omega), List.getElem?_eq_none (by omega)]
  · rw [wipe_notin hi, wipe_notin hi]
    exact h i fun z => hi (hs i z)
/-- behind a block: its own slots are forgotten, the others stand -/
theorem Rel.unwipe {vs : List Nat} {σ2 : L2.St} (R : Rel K B δ S σ2 H) (h : L2.wipe σ2 vs = L2.wipe σ vs) (hl : σ2.length = σ.length) : Rel K B (wipeD δ vs) S σ H := by
  refine (R.wipe vs).agree (by rw [wipe_length]; exact hl.symm) fun i => ?_
  by_cases hi : i ∈ vs
  · by_cases hj : i < δ.sl.length
    · exact .inr (wipeD_un δ hi hj)
    · left
      have e1 : σ.length ≤ i := by rw [← hl, R.len]; omega
      rw [List.getElem?_eq_none e1, List.getElem?_eq_none (by rw [wipe_length, hl]; exact e1)]
  · left
    rw [h, wipe_notin hi]
/-- an object beside: B with it -/
def Bs.with (B : Bs) (L : Addr) (o : HO) : Bs := { B with H0 := upd B.H0 L o }
theorem Rel.pen_there (R : Rel K B δ S σ H) {L : Addr} (hL : H L = none) : ∀ a c, δ.pen = some (a, c) → a ≠ L := fun a c e z => by
  subst z
  exact R.pen_new hL c e
theorem PaOk.with_ {B : Bs} {p : Pen} (h : PaOk B p) {L : Addr} {o : HO} (hL : ∀ a c, p = some (a, c) → a ≠ L) : PaOk (B.with L o) p := by
  unfold PaOk at h ⊢
  by_cases q : B.pd = true ∧ B.pa ≠ none
  · rw [if_pos q] at h
    rw [if_pos (show (B.with L o).pd = true ∧ (B.with L o).pa ≠ none from q)]; exact h
  · rw [if_neg q] at h
    rw [if_neg (show ¬((B.with L o).pd = true ∧ (B.with L o).pa ≠ none) from q)]
    intro a c e
    refine ⟨?_, (h a c e).2⟩
    show upd B.H0 L o a = none
    rw [upd_ne (hL a c e)]; exact (h a c e).1
theorem PaOk.un {B : Bs} {p : Pen} {L : Addr} {o : HO} (h : PaOk (B.with L o) p) (hB : B.H0 L = none) : PaOk B p := by
  unfold PaOk at h ⊢
  by_cases q : B.pd = true ∧ B.pa ≠ none
  · rw [if_pos (show (B.with L o).pd = true ∧ (B.with L o).pa ≠ none from q)] at h
    rw [if_pos q]; exact h
  · rw [if_neg (show ¬((B.with L o).pd = true ∧ (B.with L o).pa ≠ none) from q)] at h
    rw [if_neg q]
    intro a c e
    refine ⟨?_, (h a c e).2⟩
    have e1 : upd B.H0 L o a = none := (h a c e).1
    by_cases z : a = L
    · subst z; exact hB
    · rw [upd_ne z] at e1; exact e1
theorem Rel.with_ (R : Rel K B δ S σ H) {L : Addr} {o : HO} (hL : H L = none) (ho : ∀ vs, o ≠ .tup vs) : Rel K (B.with L o) δ S σ (upd H L o) := by
  obtain ⟨f1, f2⟩ := R.fr.fresh hL
  have sL : S L = none := R.ex.none hL
  have g : Grow S H S (upd H L o) := ⟨Ex.refl _, Ex.new hL, R.ex.one hL ho, fun _ _ _ n => n⟩
  have R' := R.grow g
  obtain ⟨ow, h1, h2, h3, h4⟩ := R'.sl
  obtain ⟨ow0, a1, a2, a3, a4⟩ := R.sl
  have tr : ∀ i x, δ.sl[i]? = some x → SlOk K (B.with L o) S (upd H L o) (ow0 i) σ[i]? x := fun i x e => by
    have q := a1 i x e
    have q4 := a4 i
    cases x with
    | un => exact q
    | law ns => exact q
    | dat d => exact q
    | own ds =>
      obtain ⟨a, vs, p1, n1, n2, p2, p3, p4⟩ := q
      have ne : a ≠ L := fun z => by rw [z, hL] at p3; cases p3
      exact ⟨a, vs, p1, by show upd B.H0 L o a = none; rw [upd_ne ne]; exact n1, n2, p2, by rw [upd_ne ne]; exact p3, p4⟩
    | hp ds =>
      obtain ⟨a, vs, p1, n2, p2, p3, p4⟩ := q
      have ne : a ≠ L := fun z => by rw [z, hL] at p3; cases p3
      exact ⟨a, vs, p1, n2, p2, by rw [upd_ne ne]; exact p3, p4⟩
    | ownK ds =>
      obtain ⟨a, vs, p1, n1, n2, p2, p3, p4⟩ := q
      have ne : a ≠ L := fun z => by rw [z, hL] at p3; cases p3
      exact ⟨a, vs, p1, by show upd B.H0 L o a = none; rw [upd_ne ne]; exact n1, n2, p2, by rw [upd_ne ne]; exact p3, p4⟩
    | ownT ds =>
      obtain ⟨a, vs, p1, n1, n2, p2, p3, p4⟩ := q
      have ne : a ≠ L := fun z => by rw [z, hL] at p3; cases p3
      exact ⟨a, vs, p1, by show upd B.H0 L o a = none; rw [upd_ne ne]; exact n1, n2, p2, by rw [upd_ne ne]; exact p3, p4⟩
  refine ⟨R'.ex, ⟨R'.fr.s, fun b u h hb => ?_, fun b u h n => ?_, R'.fr.pa⟩, R'.pen, R.pa.with_ (R.pen_there hL), R.len, ow0, tr, a2, a3, fun i a e => ?_⟩
  · have h : upd B.H0 L o b = some u := h
    by_cases e : b = L
    · subst e; rw [upd_same] at h ⊢; exact h
    · rw [upd_ne e] at h; exact R'.fr.h b u h hb
  · have h : upd B.H0 L o b = some u := h
    by_cases e : b = L
    · subst e; exact sL
    · rw [upd_ne e] at h; exact R'.fr.no b u h n
  · obtain ⟨r1, r2, r3, u, r4⟩ := a4 i a e
    have ne : a ≠ L := fun z => by rw [z, hL] at r4; cases r4
    exact ⟨r1, r2.imp (fun q => by show upd B.H0 L o a = none; rw [upd_ne ne]; exact q) id, r3, u, by rw [upd_ne ne]; exact r4⟩
/-- .. and the object beside is changed -/
theorem Rel.with_upd {L : Addr} {o o' : HO} (R : Rel K (B.with L o) δ S σ H) (hB : B.H0 L = none) (hpa : B.pa ≠ some L) (sL : S L = none) (ho : ∀ vs, o' ≠ .tup vs) : Rel K (B.with L o') δ S σ (upd H L o') := by
  obtain ⟨ow0, a1, a2, a3, a4⟩ := R.sl
  have Lh : ∀ a, (B.with L o).H0 a = none ∨ (B.with L o).pa = some a → a ≠ L := fun a h e => by
    subst e
    rcases h with h | h
    · have h : upd B.H0 a o a = none := h
      rw [upd_same] at h; cases h
    · exact hpa h
  refine ⟨⟨fun a u h => ?_, fun b vs h => by
    by_cases q : b = L
    · subst q; rw [upd_same] at h; exact absurd (Option.some.inj h) (ho vs)
    · rw [upd_ne q] at h; exact R.ex.tp b vs h⟩, ⟨R.fr.s, fun b u h hb => ?_, fun b u h n => ?_, fun a e => ?_⟩, ?_, (R.pa.un hB).with_ fun a c e z => R.pen_ne (p := L) hpa ⟨_, upd_same⟩ c (by rw [e, z]), R.len, ow0, fun i x e => ?_, a2, a3, fun i a e => ?_⟩
  · have ne : a ≠ L := fun e => by rw [e, sL] at h; cases h
    rw [upd_ne ne]; exact R.ex a u h
  · have h : upd B.H0 L o' b = some u := h
    by_cases e : b = L
    · subst e; rw [upd_same] at h ⊢; exact h
    · rw [upd_ne e] at h ⊢
      exact R.fr.h b u (show upd B.H0 L o b = some u by rw [upd_ne e]; exact h) hb
  · have h : upd B.H0 L o' b = some u := h
    by_cases e : b = L
    · subst e; exact sL
    · rw [upd_ne e] at h
      exact R.fr.no b u (show upd B.H0 L o b = some u by rw [upd_ne e]; exact h) n
  · obtain ⟨u, q⟩ := R.fr.pa a e
    have ne : a ≠ L := fun z => by subst z; exact hpa e
    exact ⟨u, by rw [upd_ne ne]; exact q⟩
  · have hp := R.pen
    cases hpe : δ.pen with
    | none => trivial
    | some ac =>
      obtain ⟨a, c⟩ := ac
      rw [hpe] at hp
      have ne : a ≠ L := fun z => R.pen_ne (p := L) hpa ⟨_, upd_same⟩ c (by rw [hpe, z])
      obtain ⟨n, ca, ns, k, m, r1, r2, r3⟩ := hp
      exact ⟨n, ca, ns, k, m, by rw [upd_ne ne]; exact r1, r2, r3⟩
  · have q := a1 i x e
    cases x with
    | un => exact q
    | law ns => exact q
    | dat d => exact q
    | own ds =>
      obtain ⟨a, vs, p1, n1, n2, p2, p3, p4⟩ := q
      have ne := Lh a (.inl n1)
      have n1 : upd B.H0 L o a = none := n1
      rw [upd_ne ne] at n1
      exact ⟨a, vs, p1, by show upd B.H0 L o' a = none; rw [upd_ne ne]; exact n1, n2, p2, by rw [upd_ne ne]; exact p3, p4⟩
    | hp ds =>
      obtain ⟨a, vs, p1, n2, p2, p3, p4⟩ := q
      exact ⟨a, vs, p1, n2, p2, by rw [upd_ne (Lh a (.inr n2))]; exact p3, p4⟩
    | ownK ds =>
      obtain ⟨a, vs, p1, n1, n2, p2, p3, p4⟩ := q
      have ne := Lh a (.inl n1)
      have n1 : upd B.H0 L o a = none := n1
      rw [upd_ne ne] at n1
      exact ⟨a, vs, p1, by show upd B.H0 L o' a = none; rw [upd_ne ne]; exact n1, n2, p2, by rw [upd_ne ne]; exact p3, p4⟩
    | ownT ds =>
      obtain ⟨a, vs, p1, n1, n2, p2, p3, p4⟩ := q
      have ne := Lh a (.inl n1)
      have n1 : upd B.H0 L o a = none := n1
      rw [upd_ne ne] at n1
      exact ⟨a, vs, p1, by show upd B.H0 L o' a = none; rw [upd_ne ne]; exact n1, n2, p2, by rw [upd_ne ne]; exact p3, p4⟩
  · obtain ⟨r1, r2, r3, u, r4⟩ := a4 i a e
    have ne := Lh a r2
    refine ⟨r1, r2.imp (fun q => ?_) id, r3, u, by rw [upd_ne ne]; exact r4⟩
    have q : upd B.H0 L o a = none := q
    rw [upd_ne ne] at q
    show upd B.H0 L o' a = none
    rw [upd_ne ne]; exact q
def hide (H : Hp) (L : Addr) : Hp := fun b => if b = L then none else H b
theorem hide_same {H : Hp} {L : Addr} : hide H L L = none := if_pos rfl
/-- .. and taken as fresh again -/
theorem Rel.unwith {L : Addr} {o : HO} (R : Rel K (B.with L o) δ S σ H) (hB : B.H0 L = none) (hpa : B.pa ≠ some L) (sL : S L = none) : Rel K B δ S σ (hide H L) ∧ H L = some o ∧ H = upd (hide H L) L o := by
  have hL : H L = some o := R.fr.h L o upd_same hpa
  have er : ∀ a, a ≠ L → hide H L a = H a := fun a ne => if_neg ne
  obtain ⟨ow0, a1, a2, a3, a4⟩ := R.sl
  have Lh : ∀ a, (B.with L o).H0 a = none ∨ (B.with L o).pa = some a → a ≠ L := fun a h e => by
    subst e
    rcases h with h | h
    · have h : upd B.H0 a o a = none := h
      rw [upd_same] at h; cases h
    · exact hpa h
  refine ⟨⟨⟨fun a u h => ?_, fun b vs h => by
    by_cases q : b = L
    · rw [q, hide_same] at h; cases h
    · rw [er b q] at h; exact R.ex.tp b vs h⟩, ⟨R.fr.s, fun b u h hb => ?_, fun b u h n => ?_, fun a e => ?_⟩, ?_, R.pa.un hB, R.len, ow0, fun i x e => ?_, a2, a3, fun i a e => ?_⟩, hL, ?_⟩
  · have ne : a ≠ L := fun e => by rw [e, sL] at h; cases h
    rw [er a ne]; exact R.ex a u h
  · have ne : b ≠ L := fun e => by rw [e, hB] at h; cases h
    rw [er b ne]
    exact R.fr.h b u (show upd B.H0 L o b = some u by rw [upd_ne ne]; exact h) hb
  · have ne : b ≠ L := fun e => by rw [e, hB] at h; cases h
    exact R.fr.no b u (show upd B.H0 L o b = some u by rw [upd_ne ne]; exact h) n
  · obtain ⟨u, q⟩ := R.fr.pa a e
    have ne : a ≠ L := fun z => by subst z; exact hpa e
    exact ⟨u, by rw [er a ne]; exact q⟩
  · have hp := R.pen
    cases hpe : δ.pen with
    | none => trivial
    | some ac =>
      obtain ⟨a, c⟩ := ac
      rw [hpe] at hp
      have ne : a ≠ L := fun z => R.pen_ne (p := L) hpa ⟨_, upd_same⟩ c (by rw [hpe, z])
      obtain ⟨n, ca, ns, k, m, r1, r2, r3⟩ := hp
      exact ⟨n, ca, ns, k, m, by rw [er a ne]; exact r1, r2, r3⟩
  · have q := a1 i x e
    cases x with
    | un => exact q
    | law ns => exact q
    | dat d => exact q
    | own ds =>
      obtain ⟨a, vs, p1, n1, n2, p2, p3, p4⟩ := q
      have ne := Lh a (.inl n1)
      have n1 : upd B.H0 L o a = none := n1
      rw [upd_ne ne] at n1
      exact ⟨a, vs, p1, n1, n2, p2, by rw [er a ne]; exact p3, p4⟩
    | hp ds =>
      obtain ⟨a, vs, p1, n2, p2, p3, p4⟩ := q
      exact ⟨a, vs, p1, n2, p2, by rw [er a (Lh a (.inr n2))]; exact p3, p4⟩
    | ownK ds =>
      obtain ⟨a, vs, p1, n1, n2, p2, p3, p4⟩ := q
      have ne := Lh a (.inl n1)
      have n1 : upd B.H0 L o a = none := n1
      rw [upd_ne ne] at n1
      exact ⟨a, vs, p1, n1, n2, p2, by rw [er a ne]; exact p3, p4⟩
    | ownT ds =>
      obtain ⟨a, vs, p1, n1, n2, p2, p3, p4⟩ := q
      have ne := Lh a (.inl n1)
      have n1 : upd B.H0 L o a = none := n1
      rw [upd_ne ne] at n1
      exact ⟨a, vs, p1, n1, n2, p2, by rw [er a ne]; exact p3, p4⟩
  · obtain ⟨r1, r2, r3, u, r4⟩ := a4 i a e
    have ne := Lh a r2
    refine ⟨r1, r2.imp (fun q => ?_) id, r3, u, by rw [er a ne]; exact r4⟩
    have q : upd B.H0 L o a = none := q
    rw [upd_ne ne] at q
    exact q
  · funext b
    by_cases e : b = L
    · subst e; rw [upd_same]; exact hL
    · rw [upd_ne e]; exact (er b e).symm
end
end Ev

namespace Ev
open PySem PySem.Spec PyProof.Rows L2
variable {K : PySem.W.Frag} {S S' H H' : Hp} {B : Bs} {δ : DS} {σ : L2.St}
section
variable {X : Cx} {E E2 : EK} {e a b c tg : Expr} {es : List Expr} {pos : Pos} {st : Stmt} {rest : List Stmt} {da db : dE} {t u : dS}
def W0 : XW := fun _ _ => False
structure DTs (X : Cx) (E : EK) (ifs : List Expr) (d : dT) : Prop where
  run : ∀ B, PTs X ifs (liftT X.K B E d)
theorem pts_mono {ifs : List Expr} {t t' : TT} (h : PTs X ifs t) (m : ∀ σ H Q, t' σ H Q → t σ H Q) : PTs X ifs t' := ⟨fun pins s σ H Q I q => h.run pins s σ H Q I (m _ _ _ q)⟩
def dYes : dT := fun _ δ Q => Q true δ
theorem dts_nil : DTs X E [] dYes := ⟨fun B => pts_mono pts_nil fun σ H Q q => by
  obtain ⟨δ, S, W, Q', R, q, xo, post⟩ := q
  exact post _ _ _ _ q (Ex.refl _) R⟩
theorem dts_one {d : dT} (h : DT X E c d) : DTs X E [c] d := ⟨fun B => pts_one (h.run B)⟩
def wLC (g : dG) (tt : dT) (te : dE) (vs : List Nat) (Q : List D → DS → Prop) : List D → List D → DS → Prop
  | [], acc, δ => Q acc δ
  | d :: ds, acc, δ => g d δ fun δ1 => tt W0 δ1 fun k δ2 => match k with
    | true => te W0 δ2 fun y δ3 => acc.length < sizeLine ∧ wLC g tt te vs Q ds (acc ++ [y]) (wipeD δ3 vs)
    | false => wLC g tt te vs Q ds acc (wipeD δ2 vs)
def dLC (w : dI) (g : dG) (tt : dT) (te : dE) (vs : List Nat) : dF := fun W δ Q => w W δ fun ds δ1 => wLC g tt te vs Q ds [] (wipeD δ1 vs)
def exG (K : PySem.W.Frag) (g : dG) (ws : List Nat) : TG := fun v σ H Q => ∃ B, liftG K B g ws v σ H Q
def exT (K : PySem.W.Frag) (E : EK) (d : dT) : TT := fun σ H Q => ∃ B, liftT K B E d σ H Q
def exE (K : PySem.W.Frag) (E : EK) (d : dE) : TE := fun σ H Q => ∃ B, liftE K B E d σ H Q
theorem exG_ok {g : dG} {ws : List Nat} (h : DG X tg g ws) : PG X tg (exG X.K g ws) := ⟨fun pins s σ H v u Q I r ⟨B, q⟩ => (h.run B).run pins s σ H v u Q I r q⟩
theorem exT_ok {ifs : List Expr} {d : dT} (h : DTs X E ifs d) : PTs X ifs (exT X.K E d) := ⟨fun pins s σ H Q I ⟨B, q⟩ => (h.run B).run pins s σ H Q I q⟩
theorem exE_ok {d : dE} (h : DE X E e d) : PE X e (exE X.K E d) := ⟨fun pins s σ H Q I ⟨B, q⟩ => (h.run B).run pins s σ H Q I q⟩
theorem xok0 : XOk K B E W0 S := fun _ _ _ _ _ _ _ h => h.elim
theorem wiped_len {δ : DS} {vs : List Nat} : True := trivial
theorem lc_read {w : dI} {g : dG} {tt : dT} {te : dE} {vs ws : List Nat} {W : XW} {Qd : List D → DS → Prop} {δ : DS} {Q : VK} (hws : ∀ i ∈ ws, i ∈ vs) (R : Rel K B δ S σ H) (q : dLC w g tt te vs W δ Qd) (xo : XOk K B E W S)
    (post : ∀ xs δ' p vs' S' H', Qd xs δ' → Ex S S' → Rel K B δ' S' σ H' → H' p = none → DnA K S' vs' xs → Q (.ref p) (upd H' p (.lst vs'))) : tLc (liftI K B E w) (exG K g ws) (exT K E2 tt) (exE K E2 te) vs σ H Q := by
  refine ⟨δ, S, W, _, R, q, xo, fun ds δ1 S1 H1 J q1 e1 R1 it1 => ?_⟩
  intro L hL
  obtain ⟨f1, f2⟩ := R1.fr.fresh hL
  have s1L : S1 L = none := R1.ex.none hL
  have Ln : ∀ {δ S2 σ2 H2 o}, Rel K (B.with L o) δ S2 σ2 H2 → S2 L = none := fun {δ S2 σ2 H2 o} R2 => R2.fr.no L o upd_same (R1.fr.s.none s1L)
  let Inv : Nat → Hp → Prop := fun i H2 => ∃ δ2 S2 acc vacc, Ex S1 S2 ∧ Rel K (B.with L (.lst vacc)) δ2 S2 (L2.wipe σ vs) H2 ∧ DnA K S2 vacc acc ∧ wLC g tt te vs Qd (ds.drop i) acc δ2 ∧ (∀ j ∈ vs, j < δ2.sl.length → δ2.sl[j]? = some .un)
  refine ⟨fun i m H2 => m = ds.length - i ∧ i ≤ ds.length ∧ Inv i H2, ⟨_, rfl, Nat.zero_le _, ?_⟩, ?_⟩
  · refine ⟨wipeD δ1 vs, S1, [], [], Ex.refl _, (R1.with_ hL (fun vs z => HO.noConfusion z)).wipe vs, .nil, q1, fun j hj hl => wipeD_un δ1 hj (by rw [wipeD_len] at hl; exact hl)⟩
  · rintro i m H2 ⟨rfl, hi, δ2, S2, acc, vacc, e2, R2, nacc, q2, hun⟩
    by_cases hlt : i < ds.length
    · refine .inr ⟨it1.goes i S2 H2 e2 R2.ex hlt, fun H' => i + 1 ≤ ds.length ∧ Inv (i + 1) H', fun H' h => ⟨ds.length - (i + 1), by omega, rfl, h⟩, fun x H3 y => ?_⟩
      obtain ⟨S3, d, g3, ed, dn⟩ := it1.yields i S2 H2 x H3 e2 R2.ex hlt y
      have hd : ds.drop i = d :: ds.drop (i + 1) := by
        obtain ⟨h1, h2⟩ := List.getElem?_eq_some_iff.mp ed
        rw [List.drop_eq_getElem_cons h1, h2]
      rw [hd] at q2
      refine ⟨B.with L (.lst vacc), δ2, S3, d, _, R2.grow g3, dn, q2, fun δ4 σ4 S4 H4 q4 e4 R4 a4 l4 => ?_⟩
      have hw : L2.wipe σ4 vs = L2.wipe σ vs := wipe_agree (l4.trans (wipe_length σ vs)) (fun j hj => by rw [a4 j (fun z => hj (hws j z)), wipe_notin hj]) (fun _ h => h)
      refine ⟨hw, B.with L (.lst vacc), δ4, S4, W0, _, R4, q4, xok0, fun k δ5 S5 H5 q5 e5 R5 => ?_⟩
      cases k with
      | true =>
        refine iteT ⟨B.with L (.lst vacc), δ5, S5, W0, _, R5, q5, xok0, fun y δ6 v S6 H6 q6 e6 R6 n6 => ?_⟩
        have l6 := Ln R6
        refine ⟨vacc, R6.fr.h L _ upd_same f2, ?_, hlt, wipeD δ6 vs, S6, acc ++ [y], vacc ++ [v], ?_, ?_, ?_, q6.2, fun j hj hl => wipeD_un δ6 hj (by rw [wipeD_len] at hl; exact hl)⟩
        · rw [nacc.length]; exact q6.1
        · exact e2.trans (g3.s.trans (e4.trans (e5.trans e6)))
        · have := (R6.with_upd (o' := .lst (vacc ++ [v])) f1 f2 l6 (fun vs z => HO.noConfusion z)).wipe vs
          rw [hw] at this
          exact this
        · exact (nacc.mono (g3.s.trans (e4.trans (e5.trans e6)))).append (.cons n6 .nil)
      | false =>
        refine iteF ⟨hlt, wipeD δ5 vs, S5, acc, vacc, e2.trans (g3.s.trans (e4.trans e5)), ?_, nacc.mono (g3.s.trans (e4.trans e5)), q5, fun j hj hl => wipeD_un δ5 hj (by rw [wipeD_len] at hl; exact hl)⟩
        have := R5.wipe vs
        rw [hw] at this
        exact this
    · have e : i = ds.length := by omega
      subst e
      rw [List.drop_length] at q2
      refine .inl ⟨it1.stops S2 H2 e2 R2.ex, ?_⟩
      have l2 := Ln R2
      obtain ⟨R3, _, eH⟩ := R2.unwith f1 f2 l2
      rw [eH]
      have hl : σ.length = (L2.wipe σ vs).length := (wipe_length σ vs).symm
      refine post acc δ2 L vacc S2 _ q2 (e1.trans e2) (R3.agree hl fun j => ?_) hide_same nacc
      by_cases hj : j ∈ vs
      · by_cases hk : j < δ2.sl.length
        · exact .inr (hun j hj hk)
        · left
          have h1 : σ.length ≤ j := by rw [hl, R3.len]; omega
          rw [List.getElem?_eq_none h1, List.getElem?_eq_none (by rw [wipe_length]; exact h1)]
      · exact .inl (wipe_notin hj).symm
/-- [elt for target in iter if ..] -/
theorem df_lc {elt iter : Expr} {ifs : List Expr} {scope : Scope} {own : List (Str × Nat)} {w : dI} {g : dG} {tt : dT} {te : dE} {ws : List Nat} (hc : X.calm = true) (hN : X.N.Nodup) (hi : DI X E tg iter w) (ok : BlkOk X.N X.env.scope scope own) (hws : ∀ i ∈ ws, i ∈ own.map (·.2))
    (hg : ∀ (s : Shared) (H : Hp) (C : Addr) (cl : List (Str × Addr)) (fp : List Addr), DG (X.blk s H scope (compEnvC scope cl C X.env) fp) tg g ws) (ht : ∀ (s : Shared) (H : Hp) (C : Addr) (cl : List (Str × Addr)) (fp : List Addr), DTs (X.blk s H scope (compEnvC scope cl C X.env) fp) E2 ifs tt)
    (he : ∀ (s : Shared) (H : Hp) (C : Addr) (cl : List (Str × Addr)) (fp : List Addr), DE (X.blk s H scope (compEnvC scope cl C X.env) fp) E2 elt te) (hs : ∀ x, foldedSetIterable iter X.env x = pure x := by intro _; rfl) :
    DF X E (.ListComp elt [⟨tg, iter, ifs, 0⟩] scope pos) (dLC w g tt te (own.map (·.2))) := ⟨fun B => pe_mono (pe_lc hc hN (hi.run B) ok (fun s H C cl fp => exG_ok (hg s H C cl fp)) (fun s H C cl fp => exT_ok (E := E2) (ht s H C cl fp)) (fun s H C cl fp => exE_ok (E := E2) (he s H C cl fp)) hs) fun σ H Q q => by
  obtain ⟨δ, S, W, Q', R, q, xo, post⟩ := q
  exact lc_read (E2 := E2) hws R q xo post⟩
/-- name = [..] in one line -/
theorem ds_setLc {i : Nat} {y : Str} {py spos : Pos} {elt iter : Expr} {ifs : List Expr} {scope : Scope} {own : List (Str × Nat)} {w : dI} {g : dG} {tt : dT} {te : dE} {ws : List Nat} (hc : X.calm = true) (hN : X.N.Nodup) (hy : X.N[i]? = some y) (hyl : X.env.scope.names.lookup y = some .local)
    (hsw : swapsWith (.ListComp elt [⟨tg, iter, ifs, 0⟩] scope pos) (some (.Name y py)) spos.line X.env = pure true) (hi : DI X E tg iter w) (ok : BlkOk X.N X.env.scope scope own) (hws : ∀ i ∈ ws, i ∈ own.map (·.2))
    (hg : ∀ (s : Shared) (H : Hp) (C : Addr) (cl : List (Str × Addr)) (fp : List Addr), DG (X.blk s H scope (compEnvC scope cl C X.env) fp) tg g ws) (ht : ∀ (s : Shared) (H : Hp) (C : Addr) (cl : List (Str × Addr)) (fp : List Addr), DTs (X.blk s H scope (compEnvC scope cl C X.env) fp) E2 ifs tt)
    (he : ∀ (s : Shared) (H : Hp) (C : Addr) (cl : List (Str × Addr)) (fp : List Addr), DE (X.blk s H scope (compEnvC scope cl C X.env) fp) E2 elt te) (hs : ∀ x, foldedSetIterable iter X.env x = pure x := by intro _; rfl) :
    DSt X E (.Assign [.Name y py] (.ListComp elt [⟨tg, iter, ifs, 0⟩] scope pos) spos) (dSetF i (dLC w g tt te (own.map (·.2)))) := ⟨fun B => ps_mono (ps_setLc hc hN hy hyl hsw (hi.run B) ok (fun s H C cl fp => exG_ok (hg s H C cl fp)) (fun s H C cl fp => exT_ok (E := E2) (ht s H C cl fp)) (fun s H C cl fp => exE_ok (E := E2) (he s H C cl fp)) hs) fun Z σ H q => by
  obtain ⟨δ, S, W, N, R, q, xo, p1, _⟩ := q
  exact lc_read (E2 := E2) hws R q xo fun xs δ' p vs' S' H' q1 e1 R1 hp n1 => p1 _ _ _ _ q1 e1 (R1.setOwn hp n1)⟩
end
end Ev

/-! # Promises that also know that no repr is under way (A.guards = some []) -/
namespace Ev
open PySem PySem.Spec PyProof.Rows L2
/-- a promise of a def, wherever no repr is under way -/
structure FnG (P : Program) (w : World) (K : PySem.W.Frag) (mg : Str → Option Value) (base : Heap) (CX : CXT) (k : Nat) (f : Addr) (fd : FuncData) (ps : List Str) (sp : Sp) : Prop where
  len : ∀ vs H Q E, sp vs H Q E → vs.length = ps.length
  run : ∀ (A : Around) (out : List Env) (s : Shared) (H : Hp) (ar : Args) (us : List Value) (vs : List V) (Q : VK) (E : XK), A.guards = some [] → Room k A → Env0 P w K mg base A out s H →
    BindsTo s fd ar (ps.zip us) → Vals vs us → sp vs H Q E → codeAny (model P w) A (.call (.ref f) ar) (CR CX out P w H s Q E) s
theorem FnG.mono {P : Program} {w : World} {K : PySem.W.Frag} {mg : Str → Option Value} {base : Heap} {CX : CXT} {j k : Nat} {f : Addr} {fd : FuncData} {ps : List Str} {sp : Sp} (F : FnG P w K mg base CX j f fd ps sp) (h : j ≤ k) : FnG P w K mg base CX k f fd ps sp :=
  ⟨F.len, fun A out s H ar us vs Q E g r => F.run A out s H ar us vs Q E g (r.mono h)⟩
theorem FnG.imp {P : Program} {w : World} {K : PySem.W.Frag} {mg : Str → Option Value} {base : Heap} {CX : CXT} {k : Nat} {f : Addr} {fd : FuncData} {ps : List Str} {sp sp' : Sp} (F : FnG P w K mg base CX k f fd ps sp)
    (h : ∀ vs H Q E, sp' vs H Q E → sp vs H Q E) : FnG P w K mg base CX k f fd ps sp' :=
  ⟨fun vs H Q E q => F.len vs H Q E (h _ _ _ _ q), fun A out s H ar us vs Q E g r e b v q => F.run A out s H ar us vs Q E g r e b v (h _ _ _ _ q)⟩
section
variable {X : Cx} {CX : CXT} {k : Nat} {f : Addr} {fd : FuncData} {ps : List Str} {sp : Sp} {E : L2.St → XK}
/-- a callee runs, its arguments bound somehow -/
theorem run_g {pins : List (Addr × Obj)} {σ : L2.St} {H : Hp} {s : Shared} {Q : VK} {ar : Args} {us : List Value} {vs : List V} (F : FnG X.prog X.w X.K X.mg X.base CX k f fd ps sp) (hg : X.A.guards = some []) (hr : Room k X.A)
    (hx : PassesAt CX X σ (E σ)) (I : Inv X pins σ H s) (hb : BindsTo s fd ar (ps.zip us)) (r : Vals vs us) (h : sp vs H Q (E σ)) : codeAny (model X.prog X.w) X.A (.call (.ref f) ar) (callEnd (EP X pins σ Q) X.xe) s := by
  refine codeAny_mono (F.run X.A X.stack s H ar us vs Q (E σ) hg hr I.env0 hb r h) fun res s' hq => ?_
  match res, hq with
  | .error e, hq => exact hx pins H s e s' I hq
  | .ok (.ret u), hq => exact I.after hq
def tG (sp : Sp) (dv : List V) (E : L2.St → XK) (t : TA) : TE := fun σ H Q => t σ H fun vs H1 => sp (vs ++ dv) H1 Q (E σ)
theorem pe_callG {x : Str} {p pos : Pos} {e : Expr} {es : List Expr} {t : TA} {dv : List V} {ds : List Value} (F : FnG X.prog X.w X.K X.mg X.base CX k f fd ps sp) (hg : X.A.guards = some []) (hr : Room k X.A) (gl : Gl X x) (hm : X.mg x = some (.ref f))
    (hk : PySem.W.keepIn X.K (.ref f) = true) (hb : Binds X.K fd ps ds) (hd : Vals dv ds) (hx : ∀ σ, PassesAt CX X σ (E σ)) (ha : PA X (e :: es) t) (hdb : (x == ("__debug__" : Str)) = false := by decide)
    (he : starEach (e :: es) X.env = (false, eval e X.env) :: starEach es X.env := by rfl) (hpl : (backTo pos (starEach es X.env)).any (·.1) = false := by rfl) : PE X (.Call (.Name x p) (e :: es) [] pos) (tG sp dv E t) := by
  refine ⟨fun pins s σ H Q I h => wpAny_Call_Name_kw (ld_glob I gl hm ?_ hdb)⟩
  refine PySem.W.callWith_K (h₀ := X.base) I.ok.mod.kin hk (thn (ha.run pos pins s σ H _ I h) fun us s1 ⟨vs, H1, I1, r, q⟩ => ⟨I1.kIn, ?_⟩) he hpl
  have rr : Vals (vs ++ dv) (us ++ ds) := r.append hd
  have ln : (us ++ ds).length = ps.length := by rw [← rr.length]; exact F.len _ _ _ _ q
  exact wpAny_call (run_g F hg hr (hx σ) I1 (hb s1 us I1.kIn ln) rr q)
theorem pe_callG0 {x : Str} {p pos : Pos} {dv : List V} {ds : List Value} (F : FnG X.prog X.w X.K X.mg X.base CX k f fd ps sp) (hg : X.A.guards = some []) (hr : Room k X.A) (gl : Gl X x) (hm : X.mg x = some (.ref f))
    (hk : PySem.W.keepIn X.K (.ref f) = true) (hb : Binds X.K fd ps ds) (hd : Vals dv ds) (hx : ∀ σ, PassesAt CX X σ (E σ)) (hdb : (x == ("__debug__" : Str)) = false := by decide) : PE X (.Call (.Name x p) [] [] pos) (tG sp dv E tNil) := by
  refine ⟨fun pins s σ H Q I h => wpAny_Call_Name_kw (ld_glob I gl hm ?_ hdb)⟩
  have q : sp ([] ++ dv) H Q (E σ) := h
  have ln : (([] : List Value) ++ ds).length = ps.length := by rw [List.nil_append, ← hd.length]; exact F.len _ _ _ _ q
  exact PySem.W.callWith_K0 I.kIn hk (wpAny_call (run_g F hg hr (hx σ) I (hb s [] I.kIn ln) hd q))
def tGK (sp : Sp) (gV : List V → List V → List V) (E : L2.St → XK) (t tk : TA) : TE := fun σ H Q => t σ H fun vs H1 => tk σ H1 fun zs H2 => sp (gV vs zs) H2 Q (E σ)
theorem pe_callGK {x : Str} {p pos : Pos} {e : Expr} {es : List Expr} {kws : List Keyword} {ks : List Str} {t tk : TA} {g : List Value → List Value → List Value} {gV : List V → List V → List V} (F : FnG X.prog X.w X.K X.mg X.base CX k f fd ps sp) (hg : X.A.guards = some []) (hr : Room k X.A)
    (gl : Gl X x) (hm : X.mg x = some (.ref f)) (hk : PySem.W.keepIn X.K (.ref f) = true) (hb : KBinds X.K fd ps ks g gV) (hx : ∀ σ, PassesAt CX X σ (E σ)) (ha : PA X (e :: es) t) (hkw : PK X kws tk) (hall : (backToKw pos (keywordEach kws X.env)).all (·.1.isSome) = true := by rfl)
    (hks : (backToKw pos (keywordEach kws X.env)).filterMap (·.1) = ks := by rfl) (hdb : (x == ("__debug__" : Str)) = false := by decide) (he : starEach (e :: es) X.env = (false, eval e X.env) :: starEach es X.env := by rfl)
    (hpl : ((backTo pos (starEach (e :: es) X.env)).any (·.1) || (backToKw pos (keywordEach kws X.env)).any (·.1.isNone)) = false := by rfl) : PE X (.Call (.Name x p) (e :: es) kws pos) (tGK sp gV E t tk) := by
  refine ⟨fun pins s σ H Q I h => wpAny_Call_Name_kw (ld_glob I gl hm ?_ hdb)⟩
  refine PySem.W.callWith_KW (h₀ := X.base) I.ok.mod.kin hk hall (thn (ha.run pos pins s σ H _ I h) fun us s1 ⟨vs, H1, I1, r, q⟩ => ?_) hpl he
  refine thn (hkw.run pos pins s1 σ H1 _ I1 q) fun ws s2 ⟨zs, H2, I2, rz, q2⟩ => ⟨I2.kIn, ?_⟩
  rw [hks]
  have rr := hb.rel r rz
  have ln : (g us ws).length = ps.length := by rw [← rr.length]; exact F.len _ _ _ _ q2
  exact wpAny_call (run_g F hg hr (hx σ) I2 (hb.to s2 us ws I2.kIn ln) rr q2)
theorem pe_callGK0 {x : Str} {p pos : Pos} {kws : List Keyword} {ks : List Str} {tk : TA} {g : List Value → List Value → List Value} {gV : List V → List V → List V} (F : FnG X.prog X.w X.K X.mg X.base CX k f fd ps sp) (hg : X.A.guards = some []) (hr : Room k X.A)
    (gl : Gl X x) (hm : X.mg x = some (.ref f)) (hk : PySem.W.keepIn X.K (.ref f) = true) (hb : KBinds X.K fd ps ks g gV) (hx : ∀ σ, PassesAt CX X σ (E σ)) (hkw : PK X kws tk) (hall : (backToKw pos (keywordEach kws X.env)).all (·.1.isSome) = true := by rfl)
    (hks : (backToKw pos (keywordEach kws X.env)).filterMap (·.1) = ks := by rfl) (hdb : (x == ("__debug__" : Str)) = false := by decide)
    (hpl : ((backTo pos (starEach [] X.env)).any (·.1) || (backToKw pos (keywordEach kws X.env)).any (·.1.isNone)) = false := by rfl) : PE X (.Call (.Name x p) [] kws pos) (tGK sp gV E tNil tk) := by
  refine ⟨fun pins s σ H Q I h => wpAny_Call_Name_kw (ld_glob I gl hm ?_ hdb)⟩
  refine PySem.W.callWith_KW0 (h₀ := X.base) I.ok.mod.kin hk hall ?_ hpl
  refine thn (hkw.run pos pins s σ H _ I h) fun ws s2 ⟨zs, H2, I2, rz, q2⟩ => ⟨I2.kIn, ?_⟩
  rw [hks]
  have rr := hb.rel (vs := []) (us := []) .nil rz
  have ln : (g [] ws).length = ps.length := by rw [← rr.length]; exact F.len _ _ _ _ q2
  exact wpAny_call (run_g F hg hr (hx σ) I2 (hb.to s2 [] ws I2.kIn ln) rr q2)
end
/-- THE RULE for a def, by its body -/
theorem fn_g {CX : CXT} {P : Program} {w : World} {K : PySem.W.Frag} {mg : Str → Option Value} {base : Heap} {k : Nat} {f : Addr} {x qual : Str} {st : Stmt} {fd : FuncData} {N ps : List Str} {sp : Sp} (F : Fun K x qual st f fd) (S : FnScope N ps (defScope st))
    (len : ∀ vs H Q E, sp vs H Q E → vs.length = ps.length)
    (body : ∀ (cdv : Value) (A : Around) (out : List Env) (s : Shared) (H : Hp) (vs : List V) (Q : VK) (E : XK), A.guards = some [] → Room k (A.deeper (envOfC qual (defScope st) s.heap.objs.size f cdv)) → sp vs H Q E →
      ∃ t, PSs (cxOf CX P w K mg base N qual (defScope st) f cdv A out s H E) (defBody st) t ∧ t { nx := fun _ H' => Q .non H', rt := Q } (start N vs) H) : FnG P w K mg base CX (k + 1) f fd ps sp := by
  obtain ⟨oc, od, kV, doc, pm, an, cdv, ct, osl, rfl, lk, hcd⟩ := F.ex
  refine ⟨len, fun A out s H ar us vs Q E g hr e0 hb r hsp => ?_⟩
  have old : ∀ b o, base.get? b = some o → s.heap.get? b = some o := fun b o e => (e0.bs b o e).1
  have KX : K.In s.heap := e0.mod.kin.keeps old
  refine codeAny_call_function hr.depth (KX _ _ lk) rfl S.co S.gen rfl (PySem.W.codeRec_of KX hcd) (hb _ _ _ _ ?_)
  refine wpAny_newFunctionEnv_cells S.kind (fun y hy => (S.par y.1 (List.of_mem_zip (show (y.1, y.2) ∈ _ from hy)).1).imp id fun q => ⟨q, PySem.W.cellsFrom_some _ _ _ (.inl q)⟩) fun env he s1 z => ?_
  subst he
  refine ⟨(e0.mod.nolimit.keeps old).keeps z.toInCall.keep, codeAny_func ?_⟩
  obtain ⟨t, ht, hq⟩ := body cdv A out s H vs Q E g (hr.deeper _) hsp
  refine wpAny_mono (ht.run [] s1 (start N vs) H _ (inv_start S hr.hd e0 (len _ _ _ _ hsp) r z) hq) (fun fl s' hs => ?_) fun _ _ h => h
  match fl, hs with
  | .ret u, ⟨v, _, H', J, rv, q⟩ => exact ⟨v, H', J.os, J.bare, J.base, J.hok, rv, q⟩
  | .next, ⟨_, H', J, q⟩ => exact ⟨.non, H', J.os, J.bare, J.base, J.hok, rfl, q⟩
  | .brk, ⟨_, _, _, q⟩ => exact q.elim
  | .cont, ⟨_, _, _, q⟩ => exact q.elim

/-! ### the law's call -/
theorem law_g {P : Program} {w : World} {K : PySem.W.Frag} {mg mb : Str → Option Value} {CX : CXT} {k : Nat} {fa a : Addr} {fd : FuncData} {x : Str} {sp : Sp} {s : Shared} {vs : List Value} {ns : List Int} (KX : K.In s.heap) (hns : s.heap.Ns mainGlobals mg) (hb : s.heap.Ns builtinsNs mb)
    (hbb : ∀ x : Str, x ≠ "__name__" → mb x = bootBuiltins x) (hlim : s.heap.NoLimit) (hg : s.gens = #[]) (ha : s.heap.get? a = some { cls := .type "list", data := .seq vs.toArray }) (hi : IntsAre vs ns) (hl : ns.length ≤ sizeLine) (hr : Room k callerA)
    (F : ∀ base : Heap, K.In base → base.Ns mainGlobals mg → FnG P w K mg base CX k fa fd [x] sp) (hbind : ∀ (s : Shared) (u : Value), BindsTo s fd ⟨[u], []⟩ [(x, u)])
    (hsp : ∀ H : Hp, SqL K H a (ns.map V.int) → sp [.ref a] H (fun v _ => v = .bl true) fun _ _ _ => False) (hCX : ∀ H e s', CX [] H s (fun _ _ _ => False) e s' → False) :
    codeAny (model P w) callerA (.call (.ref fa) ⟨[.ref a], []⟩) (fun r s' => r = .ok (.ret (.bool true)) ∧ OldK s.heap s'.heap ∧ s'.os = s.os ∧ AllBare s'.gens) s := by
  have rv := vals_ints hi
  -- H knows at most the script, locked
  have core : ∀ H : Hp, (∀ b u, H b = some u → b = a ∧ K.lookup a = none ∧ u = .frz { cls := .type "list", data := .seq vs.toArray } (.lst (ns.map V.int))) → SqL K H a (ns.map V.int) →
      codeAny (model P w) callerA (.call (.ref fa) ⟨[.ref a], []⟩) (fun r s' => r = .ok (.ret (.bool true)) ∧ OldK s.heap s'.heap ∧ s'.os = s.os ∧ AllBare s'.gens) s := by
    intro H hH hS
    have ok : HOk P w H s.heap := fun b u e => by
      obtain ⟨rfl, _, rfl⟩ := hH b u e
      exact ⟨ha, by rw [List.length_map]; exact hl, vs, _, rv, ha⟩
    have free : ∀ {b : Addr} {o : Obj}, s.heap.get? b = some o → (∀ es ep, o.data = .dict es ep → H b = none) := fun {b o} e es ep d => by
      cases q : H b with
      | none => rfl
      | some u =>
        obtain ⟨rfl, _, _⟩ := hH b u q
        rw [ha] at e; cases e; cases (show Data.seq vs.toArray _ = Data.dict es ep from d)
    have ns_of : ∀ {b : Addr} {m : Str → Option Value}, s.heap.Ns b m → (hidT s.heap H).Ns b m := fun ⟨o, es, ep, e, d, r⟩ => ⟨o, es, ep, hidT_get e (free e es ep d), d, r⟩
    have kin : K.In (hidT s.heap H) := fun b o e => hidT_get (KX b o e) (by
      cases q : H b with
      | none => rfl
      | some u => obtain ⟨rfl, z, _⟩ := hH b u q; rw [z] at e; cases e)
    obtain ⟨mc, l1, l2⟩ := hlim
    have e0 : Env0 P w K mg (hidT s.heap H) callerA [] s H := ⟨rfl, ⟨kin, ns_of hns, ⟨mb, ns_of hb, hbb⟩, ⟨mc, ns_of l1, l2⟩⟩, fun b o e => of_hidT e, Nat.le_of_eq (hidT_size _ _), trivial, fun b z => (List.not_mem_nil z).elim, ok, .of_eq hg⟩
    refine codeAny_mono ((F _ kin (ns_of hns)).run callerA [] s H ⟨[.ref a], []⟩ [.ref a] [.ref a] _ _ rfl hr e0 (hbind s (.ref a)) (.cons rfl .nil) (hsp H hS)) fun r s' h => ?_
    match r, h with
    | .error e, h => exact (hCX H e s' h).elim
    | .ok (.ret u), ⟨v, H', os, bare, un, ok', rr, q⟩ =>
      subst q
      cases (show u = Value.bool true from rr)
      refine ⟨rfl, OldK.of_keep fun b o e => ?_, os, bare⟩
      cases q : H b with
      | none => exact un.keep b o e q (fun z => (List.not_mem_nil z).elim) (fun z => (List.not_mem_nil z).elim)
      | some u =>
        obtain ⟨rfl, _, rfl⟩ := hH b u q
        have e2 := (ok' b _ (un.frzs b _ _ q)).1
        rw [ha] at e; cases e
        exact e2
  cases hk : K.lookup a with
  | some o =>
    have e := KX a o hk
    rw [ha] at e; cases e
    exact core (fun _ => none) (fun _ _ z => nomatch z) (.inr ⟨_, vs.toArray, _, hk, rfl, rfl, rfl, by rw [List.size_toArray, hi.length]; exact hl, by simpa using rv⟩)
  | none =>
    refine core (fun b => if b = a then some (.frz { cls := .type "list", data := .seq vs.toArray } (.lst (ns.map V.int))) else none) (fun b u z => ?_) (.inl (.inr ⟨_, if_pos rfl⟩))
    by_cases q : b = a
    · subst q
      rw [if_pos rfl] at z; cases z
      exact ⟨rfl, hk, rfl⟩
    · rw [if_neg q] at z; cases z
theorem walk_g {l : PySem.W.OpenLaw} {n k : Nat} {q : Program} {loose : List Str} {XP : (Str → Option Value) → Heap → Prop} {YP : World → Heap → Prop} {d : DefRec} {K : Params → PySem.W.Frag} {CX : World → CXT} {sp : World → Sp} {x : Str} (hn : l.most = some n) (hn2 : n ≤ sizeLine) (hdf : d.params.defaults = []) (hr : Room k callerA)
    (hY : ∀ (w : World) (h : Heap), YP w h → (K w.params).In h)
    (F : ∀ (w : World) (mg : Str → Option Value) (fa : Addr) (h : Heap), (K w.params).In h → h.Ns mainGlobals mg → mg d.name = some (.ref fa) →
      ∃ fd : FuncData, (∀ (s : Shared) (u : Value), BindsTo s fd ⟨[u], []⟩ [(x, u)]) ∧ ∀ base : Heap, (K w.params).In base → base.Ns mainGlobals mg → FnG l.prog w (K w.params) mg base (CX w) k fa fd [x] (sp w))
    (hsp : ∀ (w : World) (H : Hp) (a : Addr) (ns : List Int), ns.length ≤ n → SqL (K w.params) H a (ns.map V.int) → sp w [.ref a] H (fun v _ => v = .bl true) fun _ _ _ => False)
    (hCX : ∀ (w : World) (H : Hp) (s : Shared) (e : Value) (s' : Shared), CX w [] H s (fun _ _ _ => False) e s' → False) : PySem.W.WalkO q loose XP YP l.row.toRowW d [] (fun f vs => PySem.call f vs) := by
  refine Att.attach_call hn hdf fun w s0 s1 mg mb fa o pm cd doc a vs ns G Y _ _ _ hmg hobj hints hlen hgens => ?_
  obtain ⟨fd, hb, hF⟩ := F w mg fa _ (hY w _ Y) G.T.g hmg
  exact law_g (hY w _ Y) G.T.g G.T.b G.T.builtins G.T.nolimit hgens hobj hints (Nat.le_trans hlen hn2) hr hF hb (fun H hS => hsp w H a ns hlen hS) fun H e s' => hCX w H s1 e s'
end Ev

/-! # Defs: promises over data, calls, bodies -/
namespace Ev
open PySem PySem.Spec PyProof.Rows L2
variable {K : PySem.W.Frag} {S S' H H' : Hp} {B : Bs} {δ : DS} {σ : L2.St}
/-- a promise over data: arguments, pen, what is wanted of the answer, what is wanted of an exception -/
abbrev dSp := List D → Pen → (D → Pen → Prop) → (Xc → Pen → Prop) → Prop
/-- behind a call -/
structure Fin (S H S' H' : Hp) (p p' : Pen) : Prop where
  s : Ex S S'
  ok : Sb S' H'
  pen : PenOk S' H' p'
  same : p'.map (·.1) = p.map (·.1) ∨ (p = none ∧ ∀ a c, p' = some (a, c) → H a = none)
  h : ∀ b o, H b = some o → p.map (·.1) ≠ some b → H' b = some o
  no : ∀ b o, H b = some o → S b = none → S' b = none
def spD (K : PySem.W.Frag) (n : Nat) (sp : dSp) : Sp := fun vs H Q E => ∃ S ds p Q' W', Sb S H ∧ PenOk S H p ∧ DnA K S vs ds ∧ ds.length = n ∧ sp ds p Q' W' ∧
  (∀ x p' v S' H', Q' x p' → Fin S H S' H' p p' → Dn K S' v x → Q v H') ∧ ∀ c p' cls od S' H', W' c p' → Fin S H S' H' p p' → XcOk K S' H' c cls od → E cls od H'
theorem spD_len {n : Nat} {sp : dSp} : ∀ vs H Q E, spD K n sp vs H Q E → vs.length = n := fun vs H Q E ⟨S, ds, p, Q', W', _, _, a, l, _⟩ => a.length.trans l
theorem Pen.map_ne {p : Pen} {a : Addr} (h : ∀ c, p ≠ some (a, c)) : p.map (·.1) ≠ some a := fun z => by
  match hp : p, z with
  | some (a', c), z =>
    cases (show some a' = some a from z)
    exact h c rfl
theorem Fin.ne {p p' : Pen} (f : Fin S H S' H' p p') {a : Addr} (h : p.map (·.1) ≠ some a) {o : HO} (ho : H a = some o) : ∀ c, p' ≠ some (a, c) := fun c z => by
  rcases f.same with q | ⟨_, q⟩
  · rw [z] at q; exact h q.symm
  · rw [q a c z] at ho; cases ho
theorem Rel.after (R : Rel K B δ S σ H) {p' : Pen} (f : Fin S H S' H' δ.pen p') : Rel K B { δ with pen := p' } S' σ H' := by
  obtain ⟨ow, h1, h2, h3, h4⟩ := R.sl
  have e0 : ∀ b, B.pa ≠ some b → (∃ o, B.H0 b = some o) → δ.pen.map (·.1) ≠ some b := fun b hb h0 => Pen.map_ne (R.pen_ne hb h0)
  refine ⟨f.ok, ⟨R.fr.s.trans f.s, fun b o h n => f.h b o (R.fr.h b o h n) (e0 b n ⟨o, h⟩), fun b o h n => ?_, fun a e => ?_⟩, f.pen, ?_, R.len, ow, fun i x e => (h1 i x e).grow f.s fun a o ea ha => f.h a o ha (Pen.map_ne (h4 i a ea).2.2.1), h2, h3, fun i a e => ?_⟩
  · obtain ⟨o', q⟩ := R.fr.there h
    exact f.no b o' q (R.fr.no b o h n)
  · obtain ⟨u, hu⟩ := R.fr.pa a e
    by_cases z : δ.pen.map (·.1) = some a
    · have e1 : p'.map (·.1) = some a := by
        rcases f.same with q | ⟨q, _⟩
        · exact q.trans z
        · rw [q] at z; cases z
      match p', e1, f.pen with
      | some (a', c), e1, ⟨_, ca, ns, k, m, q, _⟩ =>
        cases (show some a' = some a from e1)
        exact ⟨_, q⟩
    · exact ⟨u, f.h a u hu z⟩
  · have q := R.pa
    unfold PaOk at q ⊢
    by_cases hp : B.pd = true ∧ B.pa ≠ none
    · rw [if_pos hp] at q ⊢
      rcases f.same with r | ⟨r, _⟩
      · exact r.trans q
      · rw [r] at q
        exact absurd q.symm hp.2
    · rw [if_neg hp] at q ⊢
      intro a c e
      have e : p' = some (a, c) := e
      rcases f.same with r | ⟨_, r⟩
      · rw [e] at r
        match hd : δ.pen, r with
        | some (a', c'), r =>
          cases (show some a = some a' from r)
          exact q a c' hd
      · have h0 := r a c e
        exact ⟨(R.fr.fresh h0).1, (R.fr.fresh h0).2⟩
  · obtain ⟨r1, r2, r3, u, r4⟩ := h4 i a e
    have ne := Pen.map_ne r3
    exact ⟨f.no a u r4 r1, r2, f.ne ne r4, u, f.h a u r4 ne⟩
section
variable {X : Cx} {E : EK} {CX : CXT} {k : Nat} {f : Addr} {fd : FuncData} {ps : List Str} {x : Str} {p pos : Pos} {e : Expr} {es : List Expr}
/-- f(..), n arguments in all -/
def dCall (n : Nat) (sp : dSp) (a : dA) : dE := fun W δ Q => a W δ fun xs δ1 => xs.length = n ∧ sp xs δ1.pen (fun x p' => Q x { δ1 with pen := p' }) fun c p' => W c { δ1 with pen := p' }
theorem call_read {sp : dSp} {W : XW} {Q' : D → DS → Prop} {δ1 : DS} {S S1 H1 : Hp} {Q : VK} {vs : List V} {xs : List D} (xo : XOk K B E W S) (e1 : Ex S S1) (R1 : Rel K B δ1 S1 σ H1) (n1 : DnA K S1 vs xs) {n : Nat} (hn : xs.length = n)
    (q : sp xs δ1.pen (fun x p' => Q' x { δ1 with pen := p' }) fun c p' => W c { δ1 with pen := p' }) (post : ∀ x δ' v S' H', Q' x δ' → Ex S S' → Rel K B δ' S' σ H' → Dn K S' v x → Q v H') : spD K n sp vs H1 Q (E σ) :=
  ⟨S1, xs, δ1.pen, _, _, R1.ex, R1.pen, n1, hn, q, fun x p' v S' H' q' f d => post _ _ _ _ _ q' (e1.trans f.s) (R1.after f) d, fun c p' cls od S' H' w f k => xo c _ σ S' H' cls od w (e1.trans f.s) (R1.after f) k⟩
/-- everything that a call of the def x wants of its context -/
structure Kn (X : Cx) (E : EK) (x : Str) (n : Nat) (sp : dSp) : Prop where
  g : X.A.guards = some []
  ok : ∃ (CX : CXT) (ps : List Str) (f : Addr) (fd : FuncData) (k : Nat), FnG X.prog X.w X.K X.mg X.base CX k f fd ps (spD X.K n sp) ∧ Room k X.A ∧ X.mg x = some (.ref f) ∧ PySem.W.keepIn X.K (.ref f) = true ∧ Binds X.K fd ps [] ∧ (∀ σ, PassesAt CX X σ (E σ))
theorem de_call {sp : dSp} {n : Nat} {a : dA} (h : Kn X E x n sp) (gl : Gl X x) (ha : DA X E (e :: es) a) (hdb : (x == ("__debug__" : Str)) = false := by decide)
    (he : starEach (e :: es) X.env = (false, eval e X.env) :: starEach es X.env := by rfl) (hpl : (backTo pos (starEach es X.env)).any (·.1) = false := by rfl) : DE X E (.Call (.Name x p) (e :: es) [] pos) (dCall n sp a) := by
  obtain ⟨CX, ps, f, fd, k, F, r, m, kp, b, hx⟩ := h.ok
  refine ⟨fun B => pe_mono (pe_callG F h.g r gl m kp b .nil hx (ha.run B) hdb he hpl) fun σ H Q q => ?_⟩
  obtain ⟨δ, S, W, Q', R, q, xo, post⟩ := q
  refine ⟨δ, S, W, _, R, q, xo, fun xs δ1 vs S1 H1 q1 e1 R1 n1 => ?_⟩
  show spD X.K n sp (vs ++ []) H1 Q (E σ)
  rw [List.append_nil]
  exact call_read xo e1 R1 n1 q1.1 q1.2 post
theorem de_call0 {sp : dSp} (h : Kn X E x 0 sp) (gl : Gl X x) (hdb : (x == ("__debug__" : Str)) = false := by decide) : DE X E (.Call (.Name x p) [] [] pos) (dCall 0 sp dNil) := by
  obtain ⟨CX, ps, f, fd, k, F, r, m, kp, b, hx⟩ := h.ok
  refine ⟨fun B => pe_mono (pe_callG0 F h.g r gl m kp b .nil hx hdb) fun σ H Q q => ?_⟩
  obtain ⟨δ, S, W, Q', R, q, xo, post⟩ := q
  exact call_read xo (Ex.refl _) R .nil q.1 q.2 post
end

/-! ### a def's body -/
def endsD (Q : D → Pen → Prop) : dEnds := { nx := fun δ => Q .non δ.pen, rt := fun x δ => Q x δ.pen }
def startD (m : Nat) (ds : List D) (p : Pen) : DS := ⟨ds.map .dat ++ List.replicate (m - ds.length) .un, p⟩
theorem startRel {N : List Str} {vs : List V} {ds : List D} {p : Pen} (e : Sb S H) (hp : PenOk S H p) (a : DnA K S vs ds) (hl : ds.length ≤ N.length) : Rel K ⟨S, H, p.map (·.1), true⟩ (startD N.length ds p) S (L2.start N vs) H := by
  have hln := a.length
  refine ⟨e, ⟨Ex.refl _, fun _ _ h _ => h, fun _ _ _ n => n, fun b z => ?_⟩, hp, ?_, ?_, (fun _ => none), fun i x h => ?_, fun _ _ => rfl, fun _ _ _ z => (nomatch z), fun _ _ z => (nomatch z)⟩
  · match p, z, hp with
    | some (a', c), z, ⟨_, ca, ns, k, m, q, _⟩ =>
      cases (show some a' = some b from z)
      exact ⟨_, q⟩
  · unfold PaOk
    by_cases q : p.map (·.1) = none
    · rw [if_neg (fun z => z.2 q)]
      intro a c e
      have e : p = some (a, c) := e
      rw [e] at q; cases q
    · rw [if_pos ⟨rfl, q⟩]; rfl
  · simp only [L2.start, startD, List.length_append, List.length_map, List.length_replicate]; omega
  · have h : (ds.map Sl.dat ++ List.replicate (N.length - ds.length) Sl.un)[i]? = some x := h
    by_cases hi : i < ds.length
    · rw [List.getElem?_append_left (by simpa using hi), List.getElem?_map, List.getElem?_eq_getElem hi] at h
      cases h
      obtain ⟨v, hv, dn⟩ := a.get (List.getElem?_eq_getElem hi)
      refine ⟨rfl, v, ?_, dn⟩
      unfold L2.start
      rw [List.getElem?_append_left (by rw [List.length_map]; omega), List.getElem?_map, hv]; rfl
    · rw [List.getElem?_append_right (by simpa using hi), List.getElem?_replicate] at h
      split at h
      · cases h; exact rfl
      · cases h
theorem Rel.fin {p : Pen} {S0 H0 : Hp} (R : Rel K ⟨S0, H0, p.map (·.1), true⟩ δ S σ H) : Fin S0 H0 S H p δ.pen := by
  have hp := R.pa
  unfold PaOk at hp
  refine ⟨R.fr.s, R.ex, R.pen, ?_, fun b o h n => R.fr.h b o h n, R.fr.no⟩
  by_cases q : p.map (·.1) = none
  · rw [if_neg (fun z => z.2 q)] at hp
    refine .inr ⟨?_, fun a c e => (hp a c e).1⟩
    match p, q with
    | none, _ => rfl
  · rw [if_pos ⟨rfl, q⟩] at hp
    exact .inl hp
section
variable {P : Program} {w : World} {K : PySem.W.Frag} {mg : Str → Option Value} {base : Heap} {x qual : Str} {st : Stmt} {f : Addr} {fd : FuncData} {N ps : List Str} {k n : Nat} {sp : dSp} {d : dS}
/-- the context of the body of a def that lets nothing out -/
abbrev cx0 (P : Program) (w : World) (K : PySem.W.Frag) (mg : Str → Option Value) (base : Heap) (N : List Str) (qual : Str) (sc : Scope) (f : Addr) (cdv : Value) (A : Around) (out : List Env) (s : Shared) (H : Hp) (E : XK) : Cx := (cxOf CX0 P w K mg base N qual sc f cdv A out s H E).nox
abbrev E00 : EK := fun _ _ _ _ => False
/-- a def that lets nothing out keeps sp -/
theorem fn_d0 (F : Fun K x qual st f fd) (S : FnScope N ps (defScope st)) (hn : ps.length = n)
    (body : ∀ (cdv : Value) (A : Around) (out : List Env) (s : Shared) (H : Hp) (E : XK), A.guards = some [] → Room k (A.deeper (envOfC qual (defScope st) s.heap.objs.size f cdv)) → DSs (cx0 P w K mg base N qual (defScope st) f cdv A out s H E) E00 (defBody st) d)
    (hsp : ∀ ds p Q W, ds.length = n → sp ds p Q W → d W0 (endsD Q) (startD N.length ds p)) : FnG P w K mg base CX0 (k + 1) f fd ps (spD K n sp) := by
  refine fn_g F S (fun vs H Q E q => (spD_len vs H Q E q).trans hn.symm) fun cdv A out s H vs Q E g r q => ?_
  obtain ⟨S0, ds, p, Q', W', ex, hp, a, hl, q, post, _⟩ := q
  have hN : ds.length ≤ N.length := by
    have h1 := S.pre
    have h2 := congrArg List.length h1
    rw [List.length_take] at h2
    omega
  refine ⟨_, ((body cdv A out s H E g r).run ⟨S0, H, (Option.map Prod.fst p : Option Addr), true⟩).nox, startD N.length ds p, S0, W0, endsD Q', startRel ex hp a hN, hsp ds p Q' W' hl q, fun _ _ _ _ _ _ _ h => h.elim, fun δ' σ' S' H' q1 e1 R1 => ?_, fun x δ' v σ' S' H' q1 e1 R1 n1 => ?_, fun _ _ _ _ h => h.elim, fun _ _ _ _ h => h.elim, fun _ _ _ _ _ _ _ h => h.elim⟩
  · exact post _ _ _ _ _ q1 R1.fin .non
  · exact post _ _ _ _ _ q1 R1.fin n1
end
end Ev

/-! # Operators and calls of built-ins, over data -/
namespace Ev
open PySem PySem.Spec PyProof.Rows L2
variable {K : PySem.W.Frag} {S S' H H' : Hp} {B : Bs} {δ : DS} {σ : L2.St}

/-! ### data as the library's own -/
mutual
def D.py : D → PyData
  | .non => .none
  | .bl b => .bool b
  | .int i => .int i
  | .str x => .str x
  | .tup xs => .tuple (D.pys xs)
  | .lst xs => .list (D.pys xs)
  | .dK _ => .none
  | .dT _ => .none
  | .raw _ => .none
  | .scr _ => .none
def D.pys : List D → List PyData
  | [] => []
  | x :: xs => x.py :: D.pys xs
end
mutual
/-- none, truths, numbers, texts, tuples and lists of such -/
def D.lay : D → Bool
  | .non => true
  | .bl _ => true
  | .int _ => true
  | .str x => PyData.strOk x
  | .tup xs => D.lays xs
  | .lst xs => D.lays xs
  | .dK _ => false
  | .dT _ => false
  | .raw _ => false
  | .scr _ => false
def D.lays : List D → Bool
  | [] => true
  | x :: xs => x.lay && D.lays xs
end
mutual
def D.dep : D → Nat
  | .tup xs => D.deps xs + 1
  | .lst xs => D.deps xs + 1
  | _ => 0
def D.deps : List D → Nat
  | [] => 0
  | x :: xs => max x.dep (D.deps xs)
end
mutual
theorem Dn.dp : ∀ {d : D} {v : V}, Dn K S v d → d.lay = true → Dp K S v d.py
  | .non, _, h, _ => by cases h; exact .non
  | .bl b, _, h, _ => by cases h; exact .bl b
  | .int i, _, h, _ => by cases h; exact .int i
  | .str x, _, h, _ => by cases h; exact .str x
  | .tup xs, _, h, l => by cases h with | tup h1 h2 => exact .tup (SqT.of h1) (DnA.dp h2 l)
  | .lst xs, _, h, l => by cases h with | lst h1 h2 => exact .lst (SqL.of h1) (DnA.dp h2 l)
  | .dK _, _, _, l => by cases l
  | .dT _, _, _, l => by cases l
  | .raw _, _, _, l => by cases l
  | .scr _, _, _, l => by cases l
theorem DnA.dp : ∀ {ds : List D} {vs : List V}, DnA K S vs ds → D.lays ds = true → DpAll K S vs (D.pys ds)
  | [], _, h, _ => by cases h; exact .nil
  | d :: ds, _, h, l => by
    have l' : (d.lay && D.lays ds) = true := l
    rw [Bool.and_eq_true] at l'
    cases h with | cons h1 h2 => exact .cons (Dn.dp h1 l'.1) (DnA.dp h2 l'.2)
end
mutual
theorem D.lay_can : ∀ d : D, d.lay = true → d.py.canLay0 = true
  | .non, _ => by simp [D.py, PyData.canLay0]
  | .bl b, _ => by simp [D.py, PyData.canLay0]
  | .int i, _ => by simp [D.py, PyData.canLay0]
  | .str x, h => by simpa [D.py, PyData.canLay0] using (show PyData.strOk x = true from h)
  | .tup xs, h => by simpa [D.py, PyData.canLay0] using D.lays_can xs h
  | .lst xs, h => by simpa [D.py, PyData.canLay0] using D.lays_can xs h
  | .dK _, h => by cases h
  | .dT _, h => by cases h
  | .raw _, h => by cases h
  | .scr _, h => by cases h
theorem D.lays_can : ∀ ds : List D, D.lays ds = true → PyData.canLayAll0 (D.pys ds) = true
  | [], _ => by simp [D.pys, PyData.canLayAll0]
  | d :: ds, h => by
    have h' : (d.lay && D.lays ds) = true := h
    rw [Bool.and_eq_true] at h'
    simp [D.pys, PyData.canLayAll0, D.lay_can d h'.1, D.lays_can ds h'.2]
end
mutual
theorem D.py_dep : ∀ d : D, d.py.depth = d.dep
  | .non => by simp [D.py, PyData.depth, D.dep]
  | .bl b => by simp [D.py, PyData.depth, D.dep]
  | .int i => by simp [D.py, PyData.depth, D.dep]
  | .str x => by simp [D.py, PyData.depth, D.dep]
  | .tup xs => by simp [D.py, PyData.depth, D.dep, D.pys_dep xs]
  | .lst xs => by simp [D.py, PyData.depth, D.dep, D.pys_dep xs]
  | .dK _ => by simp [D.py, PyData.depth, D.dep]
  | .dT _ => by simp [D.py, PyData.depth, D.dep]
  | .raw _ => by simp [D.py, PyData.depth, D.dep]
  | .scr _ => by simp [D.py, PyData.depth, D.dep]
theorem D.pys_dep : ∀ ds : List D, PyData.depthAll (D.pys ds) = D.deps ds
  | [] => by simp [D.pys, PyData.depthAll, D.deps]
  | d :: ds => by simp [D.pys, PyData.depthAll, D.deps, D.py_dep d, D.pys_dep ds]
end
theorem D.shaped {d : D} (l : d.lay = true) (h : d.dep ≤ 64) : SeqAt.shaped d.py = true := by
  show (d.py.canLay0 && decide (d.py.depth ≤ 64)) = true
  rw [Bool.and_eq_true]
  exact ⟨D.lay_can d l, decide_eq_true (by rw [D.py_dep]; exact h)⟩
/-- may be compared: d.cm = laid out of plain things, not too deep -/
def D.cm (d : D) : Prop := d.lay = true ∧ d.dep ≤ 64
theorem D.cm.sh {d : D} (h : d.cm) : SeqAt.shaped d.py = true := D.shaped h.1 h.2
/-- == -/
def D.eq (d e : D) : Bool := PyData.eqv d.py e.py

section
variable {X : Cx} {E : EK} {e a b c : Expr} {es : List Expr} {pos : Pos} {da db : dE}
/-! ### comparisons -/
def rEq : DR2 := fun x y Q => x.cm ∧ y.cm ∧ Q (.bl (x.eq y))
def rNe : DR2 := fun x y Q => x.cm ∧ y.cm ∧ Q (.bl (!x.eq y))
theorem od_eq (hu : X.A.units + 64 < cLine) : OpD X (compareOp .Eq) rEq := fun pins s σ H x y v u Q I rx ry ⟨S, dx, dy, Q', ex, n1, n2, ⟨c1, c2, q⟩, post⟩ =>
  op_eqD hu pins s σ H x y v u Q I rx ry ⟨_, _, (n1.mono ex).dp c1.1, (n2.mono ex).dp c2.1, c1.sh, c2.sh, post _ _ _ _ q (Grow.refl ex) (.bl _)⟩
theorem od_ne (hu : X.A.units + 64 < cLine) : OpD X (compareOp .NotEq) rNe := fun pins s σ H x y v u Q I rx ry ⟨S, dx, dy, Q', ex, n1, n2, ⟨c1, c2, q⟩, post⟩ =>
  op_neD hu pins s σ H x y v u Q I rx ry ⟨_, _, (n1.mono ex).dp c1.1, (n2.mono ex).dp c2.1, c1.sh, c2.sh, post _ _ _ _ q (Grow.refl ex) (.bl _)⟩
def rCI (p : Int → Int → Bool) : DR2 := fun x y Q => match x, y with | .int i, .int j => Q (.bl (p i j)) | _, _ => False
theorem od_ci {op : CmpOp} {p : Int → Int → Bool} (h : OpR X (compareOp op) (rI0 fun i j => .bl (p i j))) : OpD X (compareOp op) (rCI p) := fun pins s σ H x y v u Q I rx ry ⟨S, dx, dy, Q', ex, n1, n2, q, post⟩ => by
  match dx, dy, n1, n2, q with
  | .int i, .int j, .int _, .int _, q => exact h pins s σ H _ _ v u Q I rx ry ⟨i, j, rfl, rfl, post _ _ _ _ q (Grow.refl ex) (.bl _)⟩
abbrev rLt : DR2 := rCI fun i j => decide (i < j)
abbrev rLe : DR2 := rCI fun i j => decide (i ≤ j)
abbrev rGt : DR2 := rCI fun i j => decide (j < i)
abbrev rGe : DR2 := rCI fun i j => decide (j ≤ i)
theorem od_lt : OpD X (compareOp .Lt) rLt := od_ci op_lt
theorem od_le : OpD X (compareOp .LtE) rLe := od_ci op_le
theorem od_gt : OpD X (compareOp .Gt) rGt := od_ci op_gt
theorem od_ge : OpD X (compareOp .GtE) rGe := od_ci op_ge
/-- is None, is not None -/
def D.isN : D → Bool | .non => true | .raw v => decide (v = .non) | _ => false
theorem Dn.isN {v : V} {d : D} (h : Dn K S v d) : decide (v = .non) = d.isN := by
  cases h <;> simp [D.isN]
def rIsN : DR2 := fun x y Q => match y with | .non => Q (.bl x.isN) | _ => False
def rNotN : DR2 := fun x y Q => match y with | .non => Q (.bl (!x.isN)) | _ => False
theorem od_isN : OpD X (compareOp .Is) rIsN := fun pins s σ H x y v u Q I rx ry ⟨S, dx, dy, Q', ex, n1, n2, q, post⟩ => by
  match dy, n2, q with
  | .non, .non, q => exact op_isN pins s σ H _ _ v u Q I rx ry ⟨rfl, post _ _ _ _ q (Grow.refl ex) (by rw [n1.isN]; exact .bl _)⟩
theorem od_notN : OpD X (compareOp .IsNot) rNotN := fun pins s σ H x y v u Q I rx ry ⟨S, dx, dy, Q', ex, n1, n2, q, post⟩ => by
  match dy, n2, q with
  | .non, .non, q => exact op_notN pins s σ H _ _ v u Q I rx ry ⟨rfl, post _ _ _ _ q (Grow.refl ex) (by rw [n1.isN]; exact .bl _)⟩

/-! ### arithmetic, texts, rows -/
def rIO (C : Int → Int → Prop) (g : Int → Int → Int) : DR2 := fun x y Q => match x, y with | .int i, .int j => C i j ∧ Q (.int (g i j)) | _, _ => False
theorem od_io {op : Operator} {C : Int → Int → Prop} {g : Int → Int → Int} (h : OpR X (binaryOp op) (rI C fun i j => .int (g i j))) : OpD X (binaryOp op) (rIO C g) := fun pins s σ H x y v u Q I rx ry ⟨S, dx, dy, Q', ex, n1, n2, q, post⟩ => by
  match dx, dy, n1, n2, q with
  | .int i, .int j, .int _, .int _, q => exact h pins s σ H _ _ v u Q I rx ry ⟨i, j, rfl, rfl, q.1, post _ _ _ _ q.2 (Grow.refl ex) (.int _)⟩
def rMulI : DR2 := rIO CMul fun i j => i * j
def rDivI : DR2 := rIO CDiv fun i j => i / j
def rModI : DR2 := rIO (fun _ j => 0 < j) fun i j => i % j
def rPowI : DR2 := rIO CPow fun i j => i ^ j.toNat
theorem od_mul : OpD X (binaryOp .Mult) rMulI := od_io op_mul
theorem od_div : OpD X (binaryOp .FloorDiv) rDivI := od_io op_fdiv
theorem od_mod : OpD X (binaryOp .Mod) rModI := od_io op_mod
theorem od_pow : OpD X (binaryOp .Pow) rPowI := od_io op_pow
def rSubI : DR2 := fun x y Q => match x, y with | .int i, .int j => Q (.int (i - j)) | _, _ => False
theorem od_sub : OpD X (binaryOp .Sub) rSubI := fun pins s σ H x y v u Q I rx ry ⟨S, dx, dy, Q', ex, n1, n2, q, post⟩ => by
  match dx, dy, n1, n2, q with
  | .int i, .int j, .int _, .int _, q => exact op_sub pins s σ H _ _ v u Q I rx ry ⟨i, j, rfl, rfl, post _ _ _ _ q (Grow.refl ex) (.int _)⟩
/-- + -/
def rAddD : DR2 := fun x y Q => match x, y with
  | .int i, .int j => Q (.int (i + j))
  | .str i, .str j => i.length + j.length ≤ sizeLine ∧ Q (.str (i ++ j))
  | .tup i, .tup j => i.length + j.length ≤ sizeLine ∧ Q (.tup (i ++ j))
  | _, _ => False
theorem od_add : OpD X (binaryOp .Add) rAddD := fun pins s σ H x y v u Q I rx ry ⟨S, dx, dy, Q', ex, n1, n2, q, post⟩ => by
  match dx, dy, n1, n2, q with
  | .int i, .int j, .int _, .int _, q => exact op_add pins s σ H _ _ v u Q I rx ry ⟨i, j, rfl, rfl, post _ _ _ _ q (Grow.refl ex) (.int _)⟩
  | .str i, .str j, .str _, .str _, q => exact op_add_str pins s σ H _ _ v u Q I rx ry ⟨i, j, rfl, rfl, q.1, post _ _ _ _ q.2 (Grow.refl ex) (.str _)⟩
  | .tup i, .tup j, .tup h1 a1, .tup h2 a2, q =>
    refine op_catA pins s σ H _ _ v u Q I rx ry ⟨_, _, _, _, rfl, rfl, SqT.of (ex _ _ h1), SqT.of (ex _ _ h2), by rw [a1.length, a2.length]; exact q.1, fun e => ?_, fun _ e => ?_, fun _ _ p hp => ?_⟩
    · subst e; cases a1; exact post _ _ _ _ q.2 (Grow.refl ex) (.tup h2 a2)
    · subst e; cases a2; have := q.2; rw [List.append_nil] at this; exact post _ _ _ _ this (Grow.refl ex) (.tup h1 a1)
    · exact post _ _ _ _ q.2 (Grow.new ex hp) (.tup upd_same ((a1.append a2).mono (Ex.new (ex.none hp))))
/-- lists: + , * -/
abbrev DF2 := D → D → (List D → Prop) → Prop
def liftRF (K : PySem.W.Frag) (r : DF2) : R2 := fun x y H Q => ∃ S dx dy Q', Sb S H ∧ Dn K S x dx ∧ Dn K S y dy ∧ r dx dy Q' ∧ ∀ xs p vs, Q' xs → H p = none → DnA K S vs xs → Q (.ref p) (upd H p (.lst vs))
def dBinF (r : DF2) (da db : dE) : dF := fun W δ Q => da W δ fun x δ1 => db W δ1 fun y δ2 => r x y fun z => Q z δ2
theorem df_op {op : Operator} {r : DF2} (ho : OpR X (binaryOp op) (liftRF X.K r)) (ha : DE X E a da) (hb : DE X E b db) : DF X E (.BinOp a op b pos) (dBinF r da db) := ⟨fun B => pe_mono (pe_op ho (ha.run B) (hb.run B)) fun σ H Q q => by
  obtain ⟨δ, S, W, Q', R, q, xo, post⟩ := q
  refine ⟨δ, S, W, _, R, q, xo, fun x δ1 v S1 H1 q1 e1 R1 n1 => ?_⟩
  refine ⟨δ1, S1, W, _, R1, q1, xo.mono e1, fun y δ2 u S2 H2 q2 e2 R2 n2 => ?_⟩
  exact ⟨S2, x, y, _, R2.ex, n1.mono e2, n2, q2, fun xs p vs q3 hp a => post _ _ _ _ _ _ q3 (e1.trans e2) R2 hp a⟩⟩
def rCatL : DF2 := fun x y Q => match x, y with | .lst i, .lst j => i.length + j.length ≤ sizeLine ∧ Q (i ++ j) | _, _ => False
theorem od_catL : OpR X (binaryOp .Add) (liftRF X.K rCatL) := fun pins s σ H x y v u Q I rx ry ⟨S, dx, dy, Q', ex, n1, n2, q, post⟩ => by
  match dx, dy, n1, n2, q with
  | .lst i, .lst j, .lst h1 a1, .lst h2 a2, q =>
    exact op_cat pins s σ H _ _ v u Q I rx ry ⟨_, _, _, _, rfl, rfl, ex _ _ h1, ex _ _ h2, by rw [a1.length, a2.length]; exact q.1, fun p hp => post _ _ _ q.2 hp (a1.append a2)⟩
def rRepL : DF2 := fun x y Q => match x, y with | .lst i, .int k => -(2 ^ 63) ≤ k ∧ k < 2 ^ 63 ∧ i.length * k.toNat ≤ sizeLine ∧ Q (List.replicate k.toNat i).flatten | _, _ => False
theorem DnA.rep {vs : List V} {ds : List D} (a : DnA K S vs ds) : ∀ n : Nat, DnA K S (List.replicate n vs).flatten (List.replicate n ds).flatten
  | 0 => .nil
  | n + 1 => by
    rw [List.replicate_succ, List.replicate_succ, List.flatten_cons, List.flatten_cons]
    exact a.append (a.rep n)
theorem od_repL : OpR X (binaryOp .Mult) (liftRF X.K rRepL) := fun pins s σ H x y v u Q I rx ry ⟨S, dx, dy, Q', ex, n1, n2, q, post⟩ => by
  match dx, dy, n1, n2, q with
  | .lst i, .int k, .lst h1 a1, .int _, q =>
    exact op_rep pins s σ H _ _ v u Q I rx ry ⟨_, k, _, rfl, rfl, ex _ _ h1, q.1, q.2.1, by rw [a1.length]; exact q.2.2.1, fun p hp => post _ _ _ q.2.2.2 hp (a1.rep _)⟩
/-- in, not in -/
def rInD (neg : Bool) : DR2 := fun x y Q => x.cm ∧ y.cm ∧ match y with
  | .lst ds => Q (.bl (if neg then !(ds.any fun z => z.eq x) else ds.any fun z => z.eq x))
  | .tup ds => Q (.bl (if neg then !(ds.any fun z => z.eq x) else ds.any fun z => z.eq x))
  | _ => False
theorem D.any_py (x : D) : ∀ ds : List D, ((D.pys ds).any fun z => PyData.eqv z x.py) = ds.any fun z => z.eq x
  | [] => rfl
  | d :: ds => by
    have := D.any_py x ds
    simp only [D.pys, List.any_cons, this]
    rfl
end
end Ev

namespace Ev
open PySem PySem.Spec PyProof.Rows L2
variable {K : PySem.W.Frag} {S S' H H' : Hp} {B : Bs} {δ : DS} {σ : L2.St}
section
variable {X : Cx} {E : EK} {e a b c : Expr} {es : List Expr} {pos p : Pos} {da db : dE}
/-! ### in -/
theorem room_in {A : Around} {ds : List D} {d : D} (h : d.dep ≤ 64) (hu : A.units + 65 < cLine) : A.units + 1 + min (PyData.depthAll (D.pys ds)) d.py.depth < cLine := by
  rw [D.py_dep]; omega
theorem od_in (hu : X.A.units + 65 < cLine) : OpD X (compareOp .In) (rInD false) := fun pins s σ H x y v u Q I rx ry ⟨S, dx, dy, Q', ex, n1, n2, ⟨c1, c2, q⟩, post⟩ => by
  obtain ⟨as, r1⟩ := Dp.reads I _ _ _ ((n1.mono ex).dp c1.1) rx
  match dy, n2, c2, q with
  | .lst ds, n2, c2, q =>
    obtain ⟨bs, r2⟩ := Dp.reads I _ _ _ ((n2.mono ex).dp c2.1) ry
    exact SeqAt.in_list_reads r2 r1 (D.lays_can ds c2.1) (D.lay_can dx c1.1) (room_in c1.2 hu) ⟨.bl _, H, I, rfl, post _ _ _ _ (by rw [D.any_py]; exact q) (Grow.refl ex) (.bl _)⟩
  | .tup ds, n2, c2, q =>
    obtain ⟨bs, r2⟩ := Dp.reads I _ _ _ ((n2.mono ex).dp c2.1) ry
    exact SeqAt.in_tuple_reads r2 r1 (D.lays_can ds c2.1) (D.lay_can dx c1.1) (room_in c1.2 hu) ⟨.bl _, H, I, rfl, post _ _ _ _ (by rw [D.any_py]; exact q) (Grow.refl ex) (.bl _)⟩
theorem od_notin (hu : X.A.units + 65 < cLine) : OpD X (compareOp .NotIn) (rInD true) := fun pins s σ H x y v u Q I rx ry ⟨S, dx, dy, Q', ex, n1, n2, ⟨c1, c2, q⟩, post⟩ => by
  obtain ⟨as, r1⟩ := Dp.reads I _ _ _ ((n1.mono ex).dp c1.1) rx
  match dy, n2, c2, q with
  | .lst ds, n2, c2, q =>
    obtain ⟨bs, r2⟩ := Dp.reads I _ _ _ ((n2.mono ex).dp c2.1) ry
    exact SeqAt.notIn_list_reads r2 r1 (D.lays_can ds c2.1) (D.lay_can dx c1.1) (room_in c1.2 hu) ⟨.bl _, H, I, rfl, post _ _ _ _ (by rw [D.any_py]; exact q) (Grow.refl ex) (.bl _)⟩
  | .tup ds, n2, c2, q =>
    obtain ⟨bs, r2⟩ := Dp.reads I _ _ _ ((n2.mono ex).dp c2.1) ry
    exact SeqAt.notIn_tuple_reads r2 r1 (D.lays_can ds c2.1) (D.lay_can dx c1.1) (room_in c1.2 hu) ⟨.bl _, H, I, rfl, post _ _ _ _ (by rw [D.any_py]; exact q) (Grow.refl ex) (.bl _)⟩

/-! ### items, slices -/
def optQ {α : Type} (o : Option α) (Q : α → Prop) : Prop := match o with | some d => Q d | none => False
theorem optQ_ex {α : Type} {o : Option α} {Q : α → Prop} (h : optQ o Q) : ∃ d, o = some d ∧ Q d := by
  cases o with
  | none => exact h.elim
  | some d => exact ⟨d, rfl, h⟩
def rIxD : DR2 := fun x y Q => match x, y with
  | .lst ds, .int i => optQ (atI ds i) Q
  | .tup ds, .int i => optQ (atI ds i) Q
  | .str z, .int i => z.length ≤ sizeLine ∧ optQ (atI z.cps.toList i) fun c => Q (.str ⟨#[c]⟩)
  | _, _ => False
theorem DnA.atI {vs : List V} {ds : List D} {i : Int} {d : D} (a : DnA K S vs ds) (h : L2.atI ds i = some d) : ∃ v, L2.atI vs i = some v ∧ Dn K S v d := by
  unfold L2.atI at h ⊢
  rw [a.length]
  cases q : ixN ds.length i with
  | none => rw [q] at h; cases h
  | some j => rw [q] at h; exact a.get h
theorem ix_d : IxR X (liftR X.K rIxD) := fun value slice pins s σ H x y v u Q I rx ry ⟨S, dx, dy, Q', ex, n1, n2, q, post⟩ hs => by
  match dx, dy, n1, n2, q with
  | .lst ds, .int i, .lst h1 a1, .int _, q =>
    obtain ⟨d, hi, q⟩ := optQ_ex q
    obtain ⟨w, e1, e2⟩ := a1.atI hi
    exact ix_list value slice pins s σ H _ _ v u Q I rx ry ⟨_, _, i, w, rfl, rfl, SqL.of (ex _ _ h1), e1, post _ _ _ _ q (Grow.refl ex) e2⟩ hs
  | .tup ds, .int i, .tup h1 a1, .int _, q =>
    obtain ⟨d, hi, q⟩ := optQ_ex q
    obtain ⟨w, e1, e2⟩ := a1.atI hi
    exact ix_tup value slice pins s σ H _ _ v u Q I rx ry ⟨_, _, i, w, rfl, rfl, SqT.of (ex _ _ h1), e1, post _ _ _ _ q (Grow.refl ex) e2⟩ hs
  | .str z, .int i, .str _, .int _, q =>
    obtain ⟨c, hi, q2⟩ := optQ_ex q.2
    exact ix_str value slice pins s σ H _ _ v u Q I rx ry ⟨z, i, c, rfl, rfl, q.1, hi, post _ _ _ _ q2 (Grow.refl ex) (.str _)⟩ hs
theorem de_ix (ha : DE X E a da) (hb : DE X E b db) (hs : PlainIx b) : DE X E (.Subscript a b pos) (dBin rIxD da db) := ⟨fun B => pe_mono (pe_ix ix_d (ha.run B) (hb.run B) hs) fun σ H Q q => lift_bin q⟩
/-- a list of one's own (or the pen's own) in a slot -/
def ownAt (δ : DS) (i : Nat) : Option (List D) := match δ.sl[i]? with
  | some (.own ds) => some ds
  | some (.hp ds) => some ds
  | _ => none
def setOwnAt (δ : DS) (i : Nat) (ds : List D) : DS := match δ.sl[i]? with
  | some (.own _) => setSl δ i (.own ds)
  | some (.hp _) => setSl δ i (.hp ds)
  | _ => δ
theorem Rel.ownAt (R : Rel K B δ S σ H) {i : Nat} {ds : List D} (h : ownAt δ i = some ds) : ∃ p vs, σ[i]? = some (some (.ref p)) ∧ H p = some (.lst vs) ∧ DnA K S vs ds ∧ S p = none ∧
    ∀ vs' ds', DnA K S vs' ds' → Rel K B (setOwnAt δ i ds') S σ (upd H p (.lst vs')) := by
  unfold Ev.ownAt at h
  unfold setOwnAt
  split at h
  · rename_i d hd
    cases h
    obtain ⟨p, vs, h1, h2, h3, h4, _, _, h5⟩ := R.own hd
    exact ⟨p, vs, h1, h2, h3, h4, h5⟩
  · rename_i d hd
    cases h
    obtain ⟨p, vs, h1, h2, h3, h4, _, h5⟩ := R.hp hd
    exact ⟨p, vs, h1, h2, h3, h4, h5⟩
  · cases h
/-- the list in slot i, of one's own or frozen, to be looked at -/
def lookAt (δ : DS) (i : Nat) : Option (List D) := match δ.sl[i]? with
  | some (.own ds) => some ds
  | some (.hp ds) => some ds
  | some (.dat (.lst ds)) => some ds
  | _ => none
theorem Rel.lookAt (R : Rel K B δ S σ H) {i : Nat} {ds : List D} (h : lookAt δ i = some ds) : ∃ p vs, σ[i]? = some (some (.ref p)) ∧ H p = some (.lst vs) ∧ DnA K S vs ds ∧ (S p = none ∨ S p = some (.lst vs)) := by
  unfold Ev.lookAt at h
  split at h
  · rename_i d hd
    cases h
    obtain ⟨p, vs, h1, h2, h3, h4, _⟩ := R.own hd
    exact ⟨p, vs, h1, h2, h3, .inl h4⟩
  · rename_i d hd
    cases h
    obtain ⟨p, vs, h1, h2, h3, h4, _⟩ := R.hp hd
    exact ⟨p, vs, h1, h2, h3, .inl h4⟩
  · rename_i d hd
    cases h
    obtain ⟨v, e1, e2⟩ := R.dat hd
    match v, e1, e2 with
    | .ref p, e1, .lst h1 h2 => exact ⟨p, _, e1, R.ex _ _ h1, h2, .inr h1⟩
  · cases h
/-- the list in slot i, an item of it -/
def dOwnIx (i : Nat) (d : dE) : dE := fun W δ Q => (∃ ds, lookAt δ i = some ds) ∧ d W δ fun y δ1 => match y with
  | .int j => optQ (lookAt δ1 i) fun ds => optQ (atI ds j) fun d => Q d δ1
  | _ => False
theorem de_ownIx {i : Nat} {x : Str} (hv : PE X (.Name x p) (tVar i)) (hb : DE X E b db) (hs : PlainIx b) : DE X E (.Subscript (.Name x p) b pos) (dOwnIx i db) := ⟨fun B => pe_mono (pe_ix ix_list hv (hb.run B) hs) fun σ H Q q => by
  obtain ⟨δ, S, W, Q', R, ⟨⟨ds0, h0⟩, q⟩, xo, post⟩ := q
  obtain ⟨p0, _, v0, _⟩ := R.lookAt h0
  refine ⟨.ref p0, v0, δ, S, W, _, R, q, xo, fun y δ1 v S1 H1 q1 e1 R1 n1 => ?_⟩
  match y, n1, q1 with
  | .int j, .int _, q1 =>
    obtain ⟨ds, h1, q1⟩ := optQ_ex q1
    obtain ⟨d, h2, q1⟩ := optQ_ex q1
    obtain ⟨p1, vs, v1, g1, a1, _⟩ := R1.lookAt h1
    rw [v0] at v1
    cases v1
    obtain ⟨w, w1, w2⟩ := a1.atI h2
    exact ⟨p0, vs, j, w, rfl, rfl, SqL.of g1, w1, post _ _ _ _ _ q1 e1 R1 w2⟩⟩
/-- name[i] = e, the list of one's own -/
def dSetIx (i : Nat) (di de : dE) : dS := fun W N δ => de W δ fun x δ1 => (∃ ds, ownAt δ1 i = some ds) ∧ di W δ1 fun y δ2 => match y with
  | .int k => optQ (ownAt δ2 i) fun ds => optQ (ixN ds.length k) fun j => N.nx (setOwnAt δ2 i (ds.set j x))
  | _ => False
theorem ds_setIx {i : Nat} {x : Str} {tp : Pos} (hv : PE X (.Name x p) (tVar i)) (hi : DE X E b db) (he : DE X E e da) (hs : swapsWithSole [.Subscript (.Name x p) b tp] e pos.line X.env = pure false := by rfl) (hw : swappedStores [.Subscript (.Name x p) b tp] e X.env = pure none := by rfl)
    (h1 : (assignEach [.Subscript (.Name x p) b tp] X.env).map (·.2) = [assign (.Subscript (.Name x p) b tp) X.env] := by rfl)
    (h2 : ∀ v, assign (.Subscript (.Name x p) b tp) X.env v = (do
      let ov ← holding [v] (eval (.Name x p) X.env)
      let iv ← holding [v, ov] (eval b X.env)
      standAt tp
      holding [v, ov, iv] (setItem ov iv v)
      release [v, ov, iv] []) := by intro _; rfl) : DSt X E (.Assign [.Subscript (.Name x p) b tp] e pos) (dSetIx i db da) := ⟨fun B => ps_mono (ps_asg (he.run B) (pg_sub hv (hi.run B) set_list h2) hs hw h1) fun Z σ H q => by
  obtain ⟨δ, S, W, N, R, q, xo, p1, _⟩ := q
  refine ⟨δ, S, W, _, R, q, xo, fun d δ1 v S1 H1 q1 e1 R1 n1 => ?_⟩
  obtain ⟨⟨ds0, h0⟩, q1⟩ := q1
  obtain ⟨p0, _, v0, _⟩ := R1.ownAt h0
  refine ⟨.ref p0, v0, δ1, S1, W, _, R1, q1, xo.mono e1, fun y δ2 u S2 H2 q2 e2 R2 n2 => ?_⟩
  match y, n2, q2 with
  | .int k, .int _, q2 =>
    obtain ⟨ds, h1, q2⟩ := optQ_ex q2
    obtain ⟨j, hj, q2⟩ := optQ_ex q2
    obtain ⟨p1', vs, v1, g1, a1, _, put⟩ := R2.ownAt h1
    rw [v0] at v1
    cases v1
    exact ⟨p0, vs, k, j, rfl, rfl, g1, by rw [a1.length]; exact hj, p1 _ _ _ _ q2 (e1.trans e2) (put _ _ (a1.set (n1.mono e2) j))⟩⟩
/-- e[lo:hi] -/
abbrev dO := XW → DS → (Option Int → DS → Prop) → Prop
def liftO (K : PySem.W.Frag) (B : Bs) (E : EK) (d : dO) : TO := fun σ H Q => ∃ δ S W Q', Rel K B δ S σ H ∧ d W δ Q' ∧ XOk K B E W S ∧ ∀ o δ' S' H', Q' o δ' → Ex S S' → Rel K B δ' S' σ H' → Q o H'
structure DO (X : Cx) (E : EK) (e : Option Expr) (d : dO) : Prop where
  run : ∀ B, PO X e (liftO X.K B E d)
def oNone : dO := fun _ δ Q => Q none δ
def oSome (d : dE) : dO := fun W δ Q => d W δ fun x δ' => match x with | .int i => Q (some i) δ' | _ => False
theorem po_mono {o : Option Expr} {t t' : TO} (h : PO X o t) (m : ∀ σ H Q, t' σ H Q → t σ H Q) : PO X o t' := ⟨fun pins s σ H Q I q => h.run pins s σ H Q I (m _ _ _ q)⟩
theorem do_none : DO X E none oNone := ⟨fun B => po_mono po_none fun σ H Q q => by
  obtain ⟨δ, S, W, Q', R, q, xo, post⟩ := q
  exact post _ _ _ _ q (Ex.refl _) R⟩
theorem do_some (h : DE X E e da) : DO X E (some e) (oSome da) := ⟨fun B => po_mono (po_some (h.run B)) fun σ H Q q => by
  obtain ⟨δ, S, W, Q', R, q, xo, post⟩ := q
  refine ⟨δ, S, W, _, R, q, xo, fun x δ1 v S1 H1 q1 e1 R1 n1 => ?_⟩
  match x, n1, q1 with
  | .int i, .int _, q1 => exact ⟨i, rfl, post _ _ _ _ q1 e1 R1⟩⟩
def cutD {α : Type} (xs : List α) (lo hi : Option Int) : List α := (xs.drop (HT.sIx xs.length 0 lo)).take (HT.sIx xs.length xs.length hi - HT.sIx xs.length 0 lo)
theorem DnA.cut {vs : List V} {ds : List D} (a : DnA K S vs ds) (lo hi : Option Int) : DnA K S (cutV vs lo hi) (cutD ds lo hi) := by
  unfold cutV cutD
  rw [a.length]
  exact (a.drop _).take _
theorem cut_whole {α : Type} {xs : List α} {lo hi : Option Int} (h : HT.sIx xs.length 0 lo = 0 ∧ HT.sIx xs.length xs.length hi = xs.length) : cutD xs lo hi = xs := by
  unfold cutD
  rw [h.1, h.2]
  simp
/-- a slice of a tuple, of a text -/
def dSlT (d : dE) (lo hi : dO) : dE := fun W δ Q => d W δ fun x δ1 => lo W δ1 fun l δ2 => hi W δ2 fun h δ3 => match x with
  | .tup ds => Q (.tup (cutD ds l h)) δ3
  | .str z => z.length ≤ sizeLine ∧ Q (.str (cutS z l h)) δ3
  | _ => False
/-- a slice of a list -/
def dSlL (d : dE) (lo hi : dO) : dF := fun W δ Q => d W δ fun x δ1 => lo W δ1 fun l δ2 => hi W δ2 fun h δ3 => match x with
  | .lst ds => Q (cutD ds l h) δ3
  | .scr ns => Q (cutD (ns.map .int) l h) δ3
  | _ => False
theorem de_slT {lo hi : Option Expr} {dl dh : dO} {p2 : Pos} (he : DE X E e da) (hl : DO X E lo dl) (hh : DO X E hi dh) : DE X E (.Subscript e (.Slice lo hi none p2) pos) (dSlT da dl dh) := ⟨fun B => pe_mono (pe_slice (SlR.or sl_tupA sl_str) (he.run B) (hl.run B) (hh.run B)) fun σ H Q q => by
  obtain ⟨δ, S, W, Q', R, q, xo, post⟩ := q
  refine ⟨δ, S, W, _, R, q, xo, fun x δ1 v S1 H1 q1 e1 R1 n1 => ⟨δ1, S1, W, _, R1, q1, xo.mono e1, fun l δ2 S2 H2 q2 e2 R2 => ⟨δ2, S2, W, _, R2, q2, xo.mono (e1.trans e2), fun h δ3 S3 H3 q3 e3 R3 => ?_⟩⟩⟩
  have e := (e1.trans e2).trans e3
  match x, n1.mono (e2.trans e3), q3 with
  | .tup ds, .tup h1 a1, q3 =>
    refine .inl ⟨_, _, rfl, SqT.of (R3.ex _ _ h1), fun hw => ?_, fun _ p hp => ?_⟩
    · rw [a1.length] at hw
      have q3 : Q' (.tup (cutD ds l h)) δ3 := q3
      rw [cut_whole hw] at q3
      exact post _ _ _ _ _ q3 e R3 (.tup h1 a1)
    · exact post _ _ _ _ _ q3 (e.trans (Ex.new (R3.ex.none hp))) (R3.new hp) (.tup upd_same ((a1.cut l h).mono (Ex.new (R3.ex.none hp))))
  | .str z, .str _, q3 => exact .inr ⟨z, rfl, q3.1, post _ _ _ _ _ q3.2 e R3 (.str _)⟩⟩
theorem df_slL {lo hi : Option Expr} {dl dh : dO} {p2 : Pos} (he : DE X E e da) (hl : DO X E lo dl) (hh : DO X E hi dh) : DF X E (.Subscript e (.Slice lo hi none p2) pos) (dSlL da dl dh) := ⟨fun B => pe_mono (pe_slice sl_list (he.run B) (hl.run B) (hh.run B)) fun σ H Q q => by
  obtain ⟨δ, S, W, Q', R, q, xo, post⟩ := q
  refine ⟨δ, S, W, _, R, q, xo, fun x δ1 v S1 H1 q1 e1 R1 n1 => ⟨δ1, S1, W, _, R1, q1, xo.mono e1, fun l δ2 S2 H2 q2 e2 R2 => ⟨δ2, S2, W, _, R2, q2, xo.mono (e1.trans e2), fun h δ3 S3 H3 q3 e3 R3 => ?_⟩⟩⟩
  match x, n1.mono (e2.trans e3), q3 with
  | .lst ds, .lst h1 a1, q3 => exact ⟨_, _, rfl, SqL.of (R3.ex _ _ h1), fun p hp => post _ _ _ _ _ _ q3 ((e1.trans e2).trans e3) R3 hp (a1.cut l h)⟩
  | .scr ns, .scr h1, q3 => exact ⟨_, _, rfl, R3.ex.sqL h1, fun p hp => post _ _ _ _ _ _ q3 ((e1.trans e2).trans e3) R3 hp ((DnA.ints ns).cut l h)⟩⟩
end
end Ev

namespace Ev
open PySem PySem.Spec PyProof.Rows L2
variable {K : PySem.W.Frag} {S S' H H' : Hp} {B : Bs} {δ : DS} {σ : L2.St}
section
variable {X : Cx} {E : EK} {e a b c : Expr} {es : List Expr} {pos p : Pos} {da db : dE} {x : Str}
/-! ### calls of built-ins -/
abbrev DRC := List D → (D → Prop) → Prop
def liftC (K : PySem.W.Frag) (r : DRC) : List V → Hp → VK → Prop := fun vs H Q => ∃ S ds Q', Sb S H ∧ DnA K S vs ds ∧ r ds Q' ∧ ∀ dz v S' H', Q' dz → Grow S H S' H' → Dn K S' v dz → Q v H'
abbrev DRF := List D → (List D → Prop) → Prop
def liftCF (K : PySem.W.Frag) (r : DRF) : List V → Hp → VK → Prop := fun vs H Q => ∃ S ds Q', Sb S H ∧ DnA K S vs ds ∧ r ds Q' ∧ ∀ xs ws p, Q' xs → H p = none → DnA K S ws xs → Q (.ref p) (upd H p (.lst ws))
def dCB (r : DRC) (a : dA) : dE := fun W δ Q => a W δ fun xs δ1 => r xs fun z => Q z δ1
def dCBF (r : DRF) (a : dA) : dF := fun W δ Q => a W δ fun xs δ1 => r xs fun z => Q z δ1
theorem lift_CB {r : DRC} {d : dA} {Q : VK} (q : liftE K B E (dCB r d) σ H Q) : tCB (liftC K r) (liftA K B E d) σ H Q := by
  obtain ⟨δ, S, W, Q', R, q, xo, post⟩ := q
  exact ⟨δ, S, W, _, R, q, xo, fun xs δ1 vs S1 H1 q1 e1 R1 n1 => ⟨S1, xs, _, R1.ex, n1, q1, fun dz v S' H' q2 g n2 => post _ _ _ _ _ q2 (e1.trans g.s) (R1.grow g) n2⟩⟩
theorem lift_CBF {r : DRF} {d : dA} {Q : VK} (q : liftF K B E (dCBF r d) σ H Q) : tCB (liftCF K r) (liftA K B E d) σ H Q := by
  obtain ⟨δ, S, W, Q', R, q, xo, post⟩ := q
  exact ⟨δ, S, W, _, R, q, xo, fun xs δ1 vs S1 H1 q1 e1 R1 n1 => ⟨S1, xs, _, R1.ex, n1, q1, fun ys ws p q2 hp n2 => post _ _ _ _ _ _ q2 e1 R1 hp n2⟩⟩
theorem de_callB {id : String} {r : DRC} {d : dA} (hc : CallR X (.builtin id) (liftC X.K r)) (gl : Gl X x) (hm : X.mg x = none) (hv : bootBuiltins x = some (.builtin id)) (ha : DA X E (e :: es) d) (hn : x ≠ "__name__" := by decide) (hdb : (x == ("__debug__" : Str)) = false := by decide)
    (he : starEach (e :: es) X.env = (false, eval e X.env) :: starEach es X.env := by rfl) (hpl : (backTo pos (starEach es X.env)).any (·.1) = false := by rfl) : DE X E (.Call (.Name x p) (e :: es) [] pos) (dCB r d) :=
  ⟨fun B => pe_mono (pe_callB hc gl hm hv (ha.run B) hn hdb he hpl) fun σ H Q q => lift_CB q⟩
theorem de_callTy {T : String} {r : DRC} {d : dA} (hc : CallR X (.type T) (liftC X.K r)) (gl : Gl X x) (hm : X.mg x = none) (hv : bootBuiltins x = some (.type T)) (ha : DA X E (e :: es) d) (hn : x ≠ "__name__" := by decide) (hdb : (x == ("__debug__" : Str)) = false := by decide)
    (he : starEach (e :: es) X.env = (false, eval e X.env) :: starEach es X.env := by rfl) (hpl : (backTo pos (starEach es X.env)).any (·.1) = false := by rfl) : DE X E (.Call (.Name x p) (e :: es) [] pos) (dCB r d) :=
  ⟨fun B => pe_mono (pe_callTy hc gl hm hv (ha.run B) hn hdb he hpl) fun σ H Q q => lift_CB q⟩
theorem df_callB {id : String} {r : DRF} {d : dA} (hc : CallR X (.builtin id) (liftCF X.K r)) (gl : Gl X x) (hm : X.mg x = none) (hv : bootBuiltins x = some (.builtin id)) (ha : DA X E (e :: es) d) (hn : x ≠ "__name__" := by decide) (hdb : (x == ("__debug__" : Str)) = false := by decide)
    (he : starEach (e :: es) X.env = (false, eval e X.env) :: starEach es X.env := by rfl) (hpl : (backTo pos (starEach es X.env)).any (·.1) = false := by rfl) : DF X E (.Call (.Name x p) (e :: es) [] pos) (dCBF r d) :=
  ⟨fun B => pe_mono (pe_callB hc gl hm hv (ha.run B) hn hdb he hpl) fun σ H Q q => lift_CBF q⟩
theorem df_callTy {T : String} {r : DRF} {d : dA} (hc : CallR X (.type T) (liftCF X.K r)) (gl : Gl X x) (hm : X.mg x = none) (hv : bootBuiltins x = some (.type T)) (ha : DA X E (e :: es) d) (hn : x ≠ "__name__" := by decide) (hdb : (x == ("__debug__" : Str)) = false := by decide)
    (he : starEach (e :: es) X.env = (false, eval e X.env) :: starEach es X.env := by rfl) (hpl : (backTo pos (starEach es X.env)).any (·.1) = false := by rfl) : DF X E (.Call (.Name x p) (e :: es) [] pos) (dCBF r d) :=
  ⟨fun B => pe_mono (pe_callTy hc gl hm hv (ha.run B) hn hdb he hpl) fun σ H Q q => lift_CBF q⟩
theorem DnA.one {vs : List V} {d : D} (h : DnA K S vs [d]) : ∃ v, vs = [v] ∧ Dn K S v d := by
  cases h with | cons h1 h2 => cases h2; exact ⟨_, rfl, h1⟩
theorem DnA.two {vs : List V} {d d' : D} (h : DnA K S vs [d, d']) : ∃ v v', vs = [v, v'] ∧ Dn K S v d ∧ Dn K S v' d' := by
  cases h with | cons h1 h2 => obtain ⟨v', rfl, h3⟩ := h2.one; exact ⟨_, _, rfl, h1, h3⟩
/-- len -/
def rLen : DRC := fun xs Q => match xs with
  | [.lst ds] => Q (.int ds.length)
  | [.tup ds] => Q (.int ds.length)
  | [.str z] => z.length ≤ sizeLine ∧ Q (.int z.length)
  | _ => False
theorem cd_len : CallR X (.builtin "len") (liftC X.K rLen) := fun pins s σ H vs us Q I r ⟨S, ds, Q', ex, n, q, post⟩ => by
  match ds, n, q with
  | [.lst ds], n, q =>
    obtain ⟨v, rfl, n1⟩ := n.one
    cases n1 with | lst h a =>
      refine call_len pins s σ H _ us Q I r ⟨_, ds.length, rfl, .inl ⟨_, SqL.of (ex _ _ h), a.length.symm⟩, post _ _ _ _ q (Grow.refl ex) (.int _)⟩
  | [.tup ds], n, q =>
    obtain ⟨v, rfl, n1⟩ := n.one
    cases n1 with | tup h a =>
      refine call_len pins s σ H _ us Q I r ⟨_, ds.length, rfl, .inr ⟨_, SqT.of (ex _ _ h), a.length.symm⟩, post _ _ _ _ q (Grow.refl ex) (.int _)⟩
  | [.str z], n, q =>
    obtain ⟨v, rfl, n1⟩ := n.one
    cases n1
    exact call_len pins s σ H _ us Q I r ⟨_, z.length, rfl, ⟨q.1, rfl⟩, post _ _ _ _ q.2 (Grow.refl ex) (.int _)⟩
/-- tuple(x), list(x) -/
def rTuple : DRC := fun xs Q => match xs with | [.lst ds] => Q (.tup ds) | [.tup ds] => Q (.tup ds) | _ => False
theorem cd_tuple : CallR X (.type "tuple") (liftC X.K rTuple) := fun pins s σ H vs us Q I r ⟨S, ds, Q', ex, n, q, post⟩ => by
  match ds, n, q with
  | [.lst ds], n, q =>
    obtain ⟨v, rfl, n1⟩ := n.one
    cases n1 with | lst h a =>
      refine call_tuple_of pins s σ H _ us Q I r ⟨_, _, rfl, .inl ⟨SqL.of (ex _ _ h), fun l hl => ?_⟩⟩
      exact post _ _ _ _ q (Grow.new ex hl) (.tup upd_same (a.mono (Ex.new (ex.none hl))))
  | [.tup ds], n, q =>
    obtain ⟨v, rfl, n1⟩ := n.one
    cases n1 with | tup h a => exact call_tuple_of pins s σ H _ us Q I r ⟨_, _, rfl, .inr ⟨SqT.of (ex _ _ h), post _ _ _ _ q (Grow.refl ex) (.tup h a)⟩⟩
def rList : DRF := fun xs Q => match xs with | [.lst ds] => Q ds | [.tup ds] => Q ds | _ => False
theorem cd_list : CallR X (.type "list") (liftCF X.K rList) := fun pins s σ H vs us Q I r ⟨S, ds, Q', ex, n, q, post⟩ => by
  match ds, n, q with
  | [.lst ds], n, q =>
    obtain ⟨v, rfl, n1⟩ := n.one
    cases n1 with | lst h a => exact call_list_of pins s σ H _ us Q I r ⟨_, _, rfl, .inl (SqL.of (ex _ _ h)), fun l hl => post _ _ _ q hl a⟩
  | [.tup ds], n, q =>
    obtain ⟨v, rfl, n1⟩ := n.one
    cases n1 with | tup h a => exact call_list_of pins s σ H _ us Q I r ⟨_, _, rfl, .inr (SqT.of (ex _ _ h)), fun l hl => post _ _ _ q hl a⟩
mutual
def D.sho : D → Bool
  | .int i => decide (i.natAbs.log2 < 1920)
  | .tup xs => D.shos xs
  | .lst xs => D.shos xs
  | _ => true
def D.shos : List D → Bool
  | [] => true
  | x :: xs => x.sho && D.shos xs
end
mutual
theorem D.sho_py : ∀ d : D, d.lay = true → d.sho = true → d.py.showable = true
  | .non, _, _ => by simp [D.py, PyData.showable]
  | .bl b, _, _ => by simp [D.py, PyData.showable]
  | .int i, _, h => by simpa [D.py, PyData.showable, D.sho] using h
  | .str x, _, _ => by simp [D.py, PyData.showable]
  | .tup xs, l, h => by simpa [D.py, PyData.showable] using D.shos_py xs l h
  | .lst xs, l, h => by simpa [D.py, PyData.showable] using D.shos_py xs l h
  | .dK _, l, _ => by cases l
  | .dT _, l, _ => by cases l
  | .raw _, l, _ => by cases l
  | .scr _, l, _ => by cases l
theorem D.shos_py : ∀ ds : List D, D.lays ds = true → D.shos ds = true → PyData.showableAll (D.pys ds) = true
  | [], _, _ => by simp [D.pys, PyData.showableAll]
  | d :: ds, l, h => by
    have l' : (d.lay && D.lays ds) = true := l
    have h' : (d.sho && D.shos ds) = true := h
    rw [Bool.and_eq_true] at l' h'
    simp [D.pys, PyData.showableAll, D.sho_py d l'.1 h'.1, D.shos_py ds l'.2 h'.2]
end
/-- may be shown -/
def D.sw (d : D) : Prop := d.lay = true ∧ d.dep ≤ 64 ∧ d.sho = true ∧ d.py.shown.length ≤ sizeLine
def D.rep (d : D) : Str := d.py.shown
def rRepr : DRC := fun xs Q => match xs with | [d] => d.sw ∧ Q (.str d.rep) | _ => False
theorem boot_repr : bootBuiltins "repr" = some (.builtin "repr") := by decide +kernel
/-- repr of data of any depth, wherever none is under way -/
theorem repr_data {prog : Program} {w : World} {A : Around} {Er : Value → Shared → Prop} {s : Shared} {v : Value} {d : PyData} {as : List Addr} {Q : Value → Shared → Prop} (r : Reads s.heap v d as) (sh : d.showable = true) (nd : d.hasDict = false) (hg : A.guards = some []) (hu : A.units + d.depth + 1 < cLine)
    (sz : d.shown.length ≤ sizeLine) (hQ : ∀ h' u tk, (∀ b o, s.heap.get? b = some o → h'.get? b = some o) → Q (.str d.shown u) { s with heap := h', toks := tk }) : wpAny (model prog w) A (call (.builtin "repr") [v]) Q Er s := by
  have keep0 : ∀ b o, s.heap.get? b = some o → s.heap.get? b = some o := fun _ _ e => e
  cases r with
  | none => simp only [PyData.shown] at hQ; exact P.repr_of_none (hQ s.heap _ _ keep0)
  | bool b => simp only [PyData.shown] at hQ; exact P.repr_of_bool (hQ s.heap _ _ keep0)
  | int i t => simp only [PyData.shown] at hQ; exact P.repr_of_int (by simpa [PyData.showable] using sh) (hQ s.heap _ _ keep0)
  | str x t => simp only [PyData.shown] at hQ sz; exact P.repr_of_str (hQ s.heap _ _ keep0) (hsz := sz)
  | dict _ _ _ _ _ => simp [PyData.hasDict] at nd
  | @list a o vs n xs as1 h1 h2 h3 h4 =>
    simp only [PyData.shown, PyData.depth] at hQ sz hu
    have nd' : PyData.hasDictAll xs = false := by simpa [PyData.hasDict] using nd
    obtain ⟨bs, hb, hk⟩ := ReprAllK.of_readsAll (prog := prog) (w := w) h4 (by simpa [PyData.showable] using sh) (fun hx => by rw [nd'] at hx; cases hx) (fun t ht => Nat.le_trans (listText_mem_le ht) sz)
    have na : a ∉ bs := not_mem_of_deeper (.list h1 h2 h3 h4) (by simp only [PyData.depth]; omega) hb
    refine call_repr_slot (by omega) ⟨o, h1, h2⟩ F.slot_list_repr.toG ?_
    obtain ⟨l⟩ := vs
    cases l with
    | nil =>
      cases (show ReadsAll s.heap [] xs _ from h4)
      simp only [PyData.shownAll, listText_nil] at hQ
      exact call_list_repr_empty ⟨o, h1, h2⟩ h1 h3 ⟨_, _, rfl, hQ s.heap _ _ keep0⟩
    | cons y l =>
      exact call_list_reprK h1 h2 h3 na (by simpa using hk.length_eq) (fun i z e => hk.item i z (by simpa using e)) (A := A.in1) hg (fun b _ => Clear.nil b) (by show A.units + 1 + _ < _; omega) keep0 (fun h' u tk k => ⟨_, _, rfl, hQ h' u tk k⟩) sz
  | @tuple a o vs n xs as1 h1 h2 h3 h4 =>
    simp only [PyData.shown, PyData.depth] at hQ sz hu
    have nd' : PyData.hasDictAll xs = false := by simpa [PyData.hasDict] using nd
    obtain ⟨bs, hb, hk⟩ := ReprAllK.of_readsAll (prog := prog) (w := w) h4 (by simpa [PyData.showable] using sh) (fun hx => by rw [nd'] at hx; cases hx) (fun t ht => Nat.le_trans (tupleText_mem_le ht) sz)
    have na : a ∉ bs := not_mem_of_deeper (.tuple h1 h2 h3 h4) (by simp only [PyData.depth]; omega) hb
    refine call_repr_slot (by omega) ⟨o, h1, h2⟩ F.slot_tuple_repr ?_
    exact call_tuple_reprK h1 h2 h3 na hk (A := A.in1) hg (fun b _ => Clear.nil b) (by show A.units + 1 + _ < _; omega) keep0 (fun h' u tk k => ⟨_, _, rfl, hQ h' u tk k⟩) sz
theorem cd_repr (hg : X.A.guards = some []) (hu : X.A.units + 66 < cLine) : CallR X (.builtin "repr") (liftC X.K rRepr) := fun pins s σ H vs us Q I r ⟨S, ds, Q', ex, n, q, post⟩ => by
  match ds, n, q with
  | [d], n, q =>
    obtain ⟨v, rfl, n1⟩ := n.one
    obtain ⟨u, rfl, ru⟩ := vals1 r
    obtain ⟨⟨l, dp, sh, sz⟩, q⟩ := q
    obtain ⟨as, rd⟩ := Dp.reads I _ _ _ ((n1.mono ex).dp l) ru
    exact repr_data rd (D.sho_py d l sh) (PyData.hasDict_of_canLay _ (D.lay_can d l)) hg (by rw [D.py_dep]; omega) sz fun h' u tk k => ⟨.str d.rep, H, I.kept k, ⟨_, rfl⟩, post _ _ _ _ q (Grow.refl ex) (.str _)⟩
/-! ### numbers and texts -/
def rAbs : DRC := fun xs Q => match xs with | [.int i] => Q (.int (if i < 0 then -i else i)) | _ => False
theorem cd_abs : CallR X (.builtin "abs") (liftC X.K rAbs) := fun pins s σ H vs us Q I r ⟨S, ds, Q', ex, n, q, post⟩ => by
  match ds, n, q with
  | [.int i], n, q =>
    obtain ⟨v, rfl, n1⟩ := n.one
    cases n1
    exact call_abs pins s σ H _ us Q I r ⟨i, rfl, post _ _ _ _ q (Grow.refl ex) (.int _)⟩
def rInt : DRC := fun xs Q => match xs with | [.int i] => Q (.int i) | [.bl k] => Q (.int (if k then 1 else 0)) | _ => False
theorem cd_int : CallR X (.type "int") (liftC X.K rInt) := fun pins s σ H vs us Q I r ⟨S, ds, Q', ex, n, q, post⟩ => by
  match ds, n, q with
  | [.int i], n, q =>
    obtain ⟨v, rfl, n1⟩ := n.one
    cases n1
    exact call_int1 pins s σ H _ us Q I r (.inl ⟨i, rfl, post _ _ _ _ q (Grow.refl ex) (.int _)⟩)
  | [.bl k], n, q =>
    obtain ⟨v, rfl, n1⟩ := n.one
    cases n1
    exact call_int1 pins s σ H _ us Q I r (.inr ⟨k, rfl, post _ _ _ _ q (Grow.refl ex) (.int _)⟩)
def rStr : DRC := fun xs Q => match xs with | [.int i] => i.natAbs.log2 < 1920 ∧ Q (.str (toString i)) | [.str x] => Q (.str x) | _ => False
theorem cd_str : CallR X (.type "str") (liftC X.K rStr) := fun pins s σ H vs us Q I r ⟨S, ds, Q', ex, n, q, post⟩ => by
  match ds, n, q with
  | [.int i], n, q =>
    obtain ⟨v, rfl, n1⟩ := n.one
    cases n1
    exact call_str_int pins s σ H _ us Q I r ⟨i, rfl, q.1, post _ _ _ _ q.2 (Grow.refl ex) (.str _)⟩
  | [.str x], n, q =>
    obtain ⟨v, rfl, n1⟩ := n.one
    cases n1
    exact SkE.call_str_str pins s σ H _ us Q I r ⟨x, rfl, post _ _ _ _ q (Grow.refl ex) (.str _)⟩
/-- all, any of a list of truths; sum of a list of numbers -/
def blsOf : List D → Option (List Bool)
  | [] => some []
  | .bl b :: r => (blsOf r).map (b :: ·)
  | _ => none
theorem bls_vals : ∀ {ds : List D} {bs : List Bool} {vs : List V}, DnA K S vs ds → blsOf ds = some bs → vs = bs.map V.bl
  | [], _, _, .nil, h => by cases h; rfl
  | .bl b :: r, bs, _, .cons h1 h2, h => by
    cases h1
    cases hr : blsOf r with
    | none => simp [blsOf, hr] at h
    | some cs =>
      simp [blsOf, hr] at h
      subst h
      rw [bls_vals h2 hr]; rfl
def intsOf : List D → Option (List Int)
  | [] => some []
  | .int b :: r => (intsOf r).map (b :: ·)
  | _ => none
theorem ints_valsD : ∀ {ds : List D} {bs : List Int} {vs : List V}, DnA K S vs ds → intsOf ds = some bs → vs = bs.map V.int
  | [], _, _, .nil, h => by cases h; rfl
  | .int b :: r, bs, _, .cons h1 h2, h => by
    cases h1
    cases hr : intsOf r with
    | none => simp [intsOf, hr] at h
    | some cs =>
      simp [intsOf, hr] at h
      subst h
      rw [ints_valsD h2 hr]; rfl
def rAllD : DRC := fun xs Q => match xs with | [.lst ds] => optQ (blsOf ds) fun bs => Q (.bl (bs.all id)) | _ => False
def rAnyD : DRC := fun xs Q => match xs with | [.lst ds] => optQ (blsOf ds) fun bs => Q (.bl (bs.any id)) | _ => False
def rSumD : DRC := fun xs Q => match xs with | [.lst ds] => optQ (intsOf ds) fun bs => Q (.int bs.sum) | _ => False
theorem cd_all (hc : X.calm = true) : CallR X (.builtin "all") (liftC X.K rAllD) := fun pins s σ H vs us Q I r ⟨S, ds, Q', ex, n, q, post⟩ => by
  match ds, n, q with
  | [.lst ds], n, q =>
    obtain ⟨v, rfl, n1⟩ := n.one
    obtain ⟨bs, hb, q⟩ := optQ_ex q
    cases n1 with | lst h a =>
      have e := bls_vals a hb
      exact cr_all hc pins s σ H _ us Q I r ⟨_, bs, rfl, SqL.of (by rw [← e]; exact ex _ _ h), post _ _ _ _ q (Grow.refl ex) (.bl _)⟩
theorem cd_any (hc : X.calm = true) : CallR X (.builtin "any") (liftC X.K rAnyD) := fun pins s σ H vs us Q I r ⟨S, ds, Q', ex, n, q, post⟩ => by
  match ds, n, q with
  | [.lst ds], n, q =>
    obtain ⟨v, rfl, n1⟩ := n.one
    obtain ⟨bs, hb, q⟩ := optQ_ex q
    cases n1 with | lst h a =>
      have e := bls_vals a hb
      exact cr_any hc pins s σ H _ us Q I r ⟨_, bs, rfl, SqL.of (by rw [← e]; exact ex _ _ h), post _ _ _ _ q (Grow.refl ex) (.bl _)⟩
theorem cd_sum (hc : X.calm = true) : CallR X (.builtin "sum") (liftC X.K rSumD) := fun pins s σ H vs us Q I r ⟨S, ds, Q', ex, n, q, post⟩ => by
  match ds, n, q with
  | [.lst ds], n, q =>
    obtain ⟨v, rfl, n1⟩ := n.one
    obtain ⟨bs, hb, q⟩ := optQ_ex q
    cases n1 with | lst h a =>
      have e := ints_valsD a hb
      exact cr_sum hc pins s σ H _ us Q I r ⟨_, bs, rfl, SqL.of (by rw [← e]; exact ex _ _ h), post _ _ _ _ q (Grow.refl ex) (.int _)⟩
/-- isinstance(x, T), T written: a built-in type -/
def D.ty : D → Option String
  | .non => some "NoneType"
  | .bl _ => some "bool"
  | .int _ => some "int"
  | .str _ => some "str"
  | .tup _ => some "tuple"
  | .lst _ => some "list"
  | .dK _ => some "dict"
  | .dT _ => some "dict"
  | .raw _ => none
  | .scr _ => none
theorem Dn.ty {v : V} {d : D} {t : String} (h : Dn K S v d) (ht : d.ty = some t) : TyX K S v (.type t) := by
  cases h with
  | non => cases ht; exact .base .non
  | bl b => cases ht; exact .base (.bl b)
  | int i => cases ht; exact .base (.int i)
  | str x => cases ht; exact .base (.str x)
  | raw v => cases ht
  | scr h => cases ht
  | tup h a => cases ht; exact .base (.tup h)
  | lst h a => cases ht; exact .base (.lst h)
  | dK h _ _ => cases ht; exact .base (.dK h)
  | dT h _ _ => cases ht; exact .base (.dT h)
/-- a built-in class, as a value -/
def D.cls (n : String) : D := .raw (.ty n)
def rIsi (n : String) : DRC := fun xs Q => match xs with
  | [d, .raw (.ty m)] => m = n ∧ optQ d.ty fun t => optQ (kitB t n) fun b => Q (.bl b)
  | _ => False
theorem TyX.mono {v : V} {t : Value} (e : Ex S S') (h : TyX K S v t) : TyX K S' v t := by
  cases h with
  | base b =>
    cases b with
    | non => exact .base .non
    | bl y => exact .base (.bl y)
    | int i => exact .base (.int i)
    | str y => exact .base (.str y)
    | flt y => exact .base (.flt y)
    | lst h => exact .base (.lst (e _ _ h))
    | frz h => exact .base (.frz (e _ _ h))
    | tup h => exact .base (.tup (e _ _ h))
    | dK h => exact .base (.dK (e _ _ h))
    | dT h => exact .base (.dT (e _ _ h))
    | ins h cl ha hn htk hm => exact .base (.ins (e _ _ h) cl ha hn htk hm)
  | byt y => exact .byt y
  | set h => exact .set (e _ _ h)
  | kList h c => exact .kList h c
  | kTuple h c => exact .kTuple h c
  | kDict h c => exact .kDict h c
  | fTuple h => exact .fTuple (e _ _ h)
  | fDict h => exact .fDict (e _ _ h)
theorem cd_isi (T : String) : CallR X (.builtin "isinstance") (liftC X.K (rIsi T)) := fun pins s σ H vs us Q I r ⟨S, ds, Q', ex, n, q, post⟩ => by
  match ds, n, q with
  | [d, .raw (.ty m)], n, q =>
    obtain ⟨rfl, q⟩ := q
    obtain ⟨v, v', rfl, n1, n2⟩ := n.two
    cases n2
    obtain ⟨t, ht, q⟩ := optQ_ex q
    obtain ⟨b, hb, q⟩ := optQ_ex q
    exact call_isi pins s σ H _ us Q I r ⟨v, .ty m, .type t, .type m, b, rfl, .ty m, TyX.mono ex (n1.ty ht), kit_ty hb, post _ _ _ _ q (Grow.refl ex) (.bl _)⟩
theorem de_ty {n : String} (gl : Gl X x) (hm : X.mg x = none) (hv : bootBuiltins x = some (.type n)) (hn : x ≠ "__name__" := by decide) (hd : (x == ("__debug__" : Str)) = false := by decide) : DE X E (.Name x p) (dC (.raw (.ty n))) :=
  de_c (pe_bltn (v := .ty n) gl hm hv (show RelV (.ty n) (.type n) from rfl) hn hd) fun _ => .raw _
end
end Ev

/-! # Methods of lists of one's own, texts joined and formatted, a look at a list of one's own, the pen's own def -/
namespace Ev
open PySem PySem.Spec PyProof.Rows L2
variable {K : PySem.W.Frag} {S S' H H' : Hp} {B : Bs} {δ : DS} {σ : L2.St}
section
variable {X : Cx} {E : EK} {e a b c : Expr} {es : List Expr} {pos p ap cp : Pos} {da db : dE} {x : Str}
theorem tyL {K : PySem.W.Frag} {H : Hp} {p : Addr} {vs : List V} (h : H p = some (.lst vs)) : tyV K "list" (.ref p) H := Or.inl ⟨rfl, vs, SqL.of h⟩
/-- name.append(e) -/
def dApp (i : Nat) (d : dE) : dS := fun W N δ => (∃ ds, ownAt δ i = some ds) ∧ d W δ fun x δ1 => optQ (ownAt δ1 i) fun ds => ds.length < sizeLine ∧ N.nx (setOwnAt δ1 i (ds ++ [x]))
theorem ds_app {i : Nat} (hv : PE X (.Name x p) (tVar i)) (he : DE X E e da) (hbase : attributeBase (.Name x p) "append" X.env (eval (.Name x p) X.env) = eval (.Name x p) X.env := by rfl)
    (hfew : ((backTo cp (starEach [e] X.env)).all (fun x => !x.1) && (backToKw cp (keywordEach [] X.env)).all (fun x => x.1.isSome) && decide (([e] : List Expr).length + ([] : List Keyword).length + (if ([] : List Keyword).isEmpty then 0 else 1) < 30)) = true := by rfl)
    (hline : (ap.endLine == cp.line) = true := by rfl) (hs : starEach [e] X.env = (false, eval e X.env) :: starEach [] X.env := by rfl) (hpl : (backTo cp (starEach [] X.env)).any (·.1) = false := by rfl)
    (hsw : swapsWith (.Call (.Attribute (.Name x p) "append" ap) [e] [] cp) none pos.line X.env = pure false := by rfl) : DSt X E (.Expr (.Call (.Attribute (.Name x p) "append" ap) [e] [] cp) pos) (dApp i da) :=
  ⟨fun B => ps_mono (ps_expr (pe_bm PySem.F.plainAttrs_list PySem.F.slot_list_append PySem.F.type_list_append mt_append hv (pa_cons (he.run B) pa_nil hs) hbase hfew hline hs hpl) hsw) fun Z σ H q => by
    obtain ⟨δ, S, W, N, R, ⟨⟨ds0, h0⟩, q⟩, xo, p1, _⟩ := q
    obtain ⟨p0, _, v0, g0, _⟩ := R.ownAt h0
    refine ⟨.ref p0, v0, tyL g0, δ, S, W, _, R, q, xo, fun d δ1 v S1 H1 q1 e1 R1 n1 => ?_⟩
    obtain ⟨ds, h1, hz, q1⟩ := optQ_ex q1
    obtain ⟨p', vs, v1, g1, a1, _, put⟩ := R1.ownAt h1
    rw [v0] at v1; cases v1
    exact ⟨p0, vs, v, rfl, rfl, g1, by rw [a1.length]; exact hz, p1 _ _ _ _ q1 e1 (put _ _ (a1.append (.cons n1 .nil)))⟩⟩
/-- name.extend(e), e another list -/
def dExt (i : Nat) (d : dE) : dS := fun W N δ => (∃ ds, ownAt δ i = some ds) ∧ d W δ fun x δ1 => match x with
  | .lst zs => optQ (ownAt δ1 i) fun ds => ds.length + zs.length ≤ sizeLine ∧ N.nx (setOwnAt δ1 i (ds ++ zs))
  | _ => False
theorem ds_ext {i : Nat} (hv : PE X (.Name x p) (tVar i)) (he : DE X E e da) (hbase : attributeBase (.Name x p) "extend" X.env (eval (.Name x p) X.env) = eval (.Name x p) X.env := by rfl)
    (hfew : ((backTo cp (starEach [e] X.env)).all (fun x => !x.1) && (backToKw cp (keywordEach [] X.env)).all (fun x => x.1.isSome) && decide (([e] : List Expr).length + ([] : List Keyword).length + (if ([] : List Keyword).isEmpty then 0 else 1) < 30)) = true := by rfl)
    (hline : (ap.endLine == cp.line) = true := by rfl) (hs : starEach [e] X.env = (false, eval e X.env) :: starEach [] X.env := by rfl) (hpl : (backTo cp (starEach [] X.env)).any (·.1) = false := by rfl)
    (hsw : swapsWith (.Call (.Attribute (.Name x p) "extend" ap) [e] [] cp) none pos.line X.env = pure false := by rfl) : DSt X E (.Expr (.Call (.Attribute (.Name x p) "extend" ap) [e] [] cp) pos) (dExt i da) :=
  ⟨fun B => ps_mono (ps_expr (pe_bm PySem.F.plainAttrs_list PySem.F.slot_list_extend PySem.F.type_list_extend mt_extend hv (pa_cons (he.run B) pa_nil hs) hbase hfew hline hs hpl) hsw) fun Z σ H q => by
    obtain ⟨δ, S, W, N, R, ⟨⟨ds0, h0⟩, q⟩, xo, p1, _⟩ := q
    obtain ⟨p0, _, v0, g0, _⟩ := R.ownAt h0
    refine ⟨.ref p0, v0, tyL g0, δ, S, W, _, R, q, xo, fun d δ1 v S1 H1 q1 e1 R1 n1 => ?_⟩
    match d, n1, q1 with
    | .lst zs, .lst hz az, q1 =>
      obtain ⟨ds, h1, hz2, q1⟩ := optQ_ex q1
      obtain ⟨p', vs, v1, g1, a1, _, put⟩ := R1.ownAt h1
      rw [v0] at v1; cases v1
      exact ⟨p0, _, vs, _, rfl, rfl, g1, R1.ex _ _ hz, by rw [a1.length, az.length]; exact hz2, p1 _ _ _ _ q1 e1 (put _ _ (a1.append az))⟩⟩
/-- name.pop() -/
def dPop (i : Nat) : dE := fun _ δ Q => optQ (ownAt δ i) fun ds => optQ ds[ds.length - 1]? fun d => Q d (setOwnAt δ i ds.dropLast)
theorem DnA.dropLast {vs : List V} {ds : List D} (a : DnA K S vs ds) : DnA K S vs.dropLast ds.dropLast := by
  rw [List.dropLast_eq_take, List.dropLast_eq_take, a.length]
  exact a.take _
theorem de_pop {i : Nat} (hv : PE X (.Name x p) (tVar i)) (hbase : attributeBase (.Name x p) "pop" X.env (eval (.Name x p) X.env) = eval (.Name x p) X.env := by rfl) (hline : (ap.endLine == cp.line) = true := by rfl) :
    DE X E (.Call (.Attribute (.Name x p) "pop" ap) [] [] cp) (dPop i) := ⟨fun B => pe_mono (pe_bm0 PySem.F.plainAttrs_list PySem.F.slot_list_pop PySem.F.type_list_pop mt_pop hv hbase hline) fun σ H Q q => by
    obtain ⟨δ, S, W, Q', R, q, xo, post⟩ := q
    obtain ⟨ds, h1, q⟩ := optQ_ex q
    obtain ⟨d, h2, q⟩ := optQ_ex q
    obtain ⟨p', vs, v1, g1, a1, _, put⟩ := R.ownAt h1
    obtain ⟨v, w1, w2⟩ := a1.get h2
    exact ⟨.ref p', v1, tyL g1, p', vs, v, rfl, rfl, g1, by rw [a1.length]; exact w1, post _ _ _ _ _ q (Ex.refl _) (put _ _ a1.dropLast) w2⟩⟩
/-- name.pop(e) -/
def dPopAt (i : Nat) (d : dE) : dE := fun W δ Q => (∃ ds, ownAt δ i = some ds) ∧ d W δ fun y δ1 => match y with
  | .int k => -(2 ^ 63) ≤ k ∧ k < 2 ^ 63 ∧ optQ (ownAt δ1 i) fun ds => optQ (ixN ds.length k) fun j => optQ ds[j]? fun d => Q d (setOwnAt δ1 i (ds.eraseIdx j))
  | _ => False
theorem de_popAt {i : Nat} (hv : PE X (.Name x p) (tVar i)) (he : DE X E e da) (hbase : attributeBase (.Name x p) "pop" X.env (eval (.Name x p) X.env) = eval (.Name x p) X.env := by rfl)
    (hfew : ((backTo cp (starEach [e] X.env)).all (fun x => !x.1) && (backToKw cp (keywordEach [] X.env)).all (fun x => x.1.isSome) && decide (([e] : List Expr).length + ([] : List Keyword).length + (if ([] : List Keyword).isEmpty then 0 else 1) < 30)) = true := by rfl)
    (hline : (ap.endLine == cp.line) = true := by rfl) (hs : starEach [e] X.env = (false, eval e X.env) :: starEach [] X.env := by rfl) (hpl : (backTo cp (starEach [] X.env)).any (·.1) = false := by rfl) : DE X E (.Call (.Attribute (.Name x p) "pop" ap) [e] [] cp) (dPopAt i da) :=
  ⟨fun B => pe_mono (pe_bm PySem.F.plainAttrs_list PySem.F.slot_list_pop PySem.F.type_list_pop mt_popAt hv (pa_cons (he.run B) pa_nil hs) hbase hfew hline hs hpl) fun σ H Q q => by
    obtain ⟨δ, S, W, Q', R, ⟨⟨ds0, h0⟩, q⟩, xo, post⟩ := q
    obtain ⟨p0, _, v0, g0, _⟩ := R.ownAt h0
    refine ⟨.ref p0, v0, tyL g0, δ, S, W, _, R, q, xo, fun y δ1 v S1 H1 q1 e1 R1 n1 => ?_⟩
    match y, n1, q1 with
    | .int k, .int _, q1 =>
      obtain ⟨b1, b2, q1⟩ := q1
      obtain ⟨ds, h1, q1⟩ := optQ_ex q1
      obtain ⟨j, hj, q1⟩ := optQ_ex q1
      obtain ⟨d, hd, q1⟩ := optQ_ex q1
      obtain ⟨p', vs, v1, g1, a1, _, put⟩ := R1.ownAt h1
      rw [v0] at v1; cases v1
      obtain ⟨w, w1, w2⟩ := a1.get hd
      exact ⟨p0, vs, k, j, w, rfl, rfl, g1, b1, b2, by rw [a1.length]; exact (ixN_seq hj).1, w1, post _ _ _ _ _ q1 e1 (put _ _ (a1.eraseIdx j)) w2⟩⟩
/-! ### a look at a list of one's own, from which nothing but a number, a truth, a text comes back -/
def D.flat : D → Bool | .non => true | .bl _ => true | .int _ => true | .str _ => true | _ => false
theorem Dn.flat {v : V} {d : D} (h : Dn K S v d) (f : d.flat = true) : Dn K S' v d := by
  cases h <;> first | exact .non | exact .bl _ | exact .int _ | exact .str _ | (cases f)
theorem Rel.look (R : Rel K B δ S σ H) {i : Nat} {ds : List D} (h : Ev.lookAt δ i = some ds) : ∃ p S1, σ[i]? = some (some (.ref p)) ∧ Ex S S1 ∧ Sb S1 H ∧ Dn K S1 (.ref p) (.lst ds) ∧ tyV K "list" (.ref p) H ∧ ∀ S2 H2, Grow S1 H S2 H2 → ∃ S3, Ex S S3 ∧ Rel K B δ S3 σ H2 := by
  obtain ⟨p, vs, h1, h2, h3, h4⟩ := R.lookAt h
  rcases h4 with h4 | h4
  · refine ⟨p, upd S p (.lst vs), h1, Ex.new h4, ⟨fun a o q => ?_, fun a o q => Ex.new h4 _ _ (R.ex.tp a o q)⟩, .lst upd_same (h3.mono (Ex.new h4)), tyL h2, fun S2 H2 g => ?_⟩
    · by_cases e : a = p
      · subst e; rw [upd_same] at q; rw [h2]; exact q
      · rw [upd_ne e] at q; exact R.ex a o q
    · refine ⟨fun b => if b = p then none else S2 b, fun a o q => ?_, R.grow ⟨fun a o q => ?_, g.h, ⟨fun a o q => ?_, fun a o q => ?_⟩, fun b o hb n => ?_⟩⟩
      · have ne : a ≠ p := fun e => by rw [e, h4] at q; cases q
        exact (if_neg ne).trans (g.s a o (Ex.new h4 a o q))
      · have ne : a ≠ p := fun e => by rw [e, h4] at q; cases q
        exact (if_neg ne).trans (g.s a o (Ex.new h4 a o q))
      · have q : (if a = p then none else S2 a) = some o := q
        split at q
        · cases q
        · exact g.ok a o q
      · have ne : a ≠ p := fun e => by
          have z := g.h p _ h2
          rw [← e, q] at z; cases z
        exact (if_neg ne).trans (g.ok.tp a o q)
      · show (if b = p then none else S2 b) = none
        split
        · rfl
        · rename_i ne
          exact g.no b o hb (by rw [upd_ne ne]; exact n)
  · exact ⟨p, S, h1, Ex.refl _, R.ex, .lst h4 h3, tyL h2, fun S2 H2 g => ⟨S2, g.s, R.grow g⟩⟩
/-- f(name) -/
def dOwnCB (i : Nat) (r : DRC) : dE := fun _ δ Q => optQ (lookAt δ i) fun ds => r [.lst ds] fun z => z.flat = true ∧ Q z δ
theorem own_CB {i : Nat} {r : DRC} {Q : VK} (q : liftE K B E (dOwnCB i r) σ H Q) : tCB (liftC K r) (tCons (tVar i) tNil) σ H Q := by
  obtain ⟨δ, S, W, Q', R, q, xo, post⟩ := q
  obtain ⟨ds, h, q⟩ := optQ_ex q
  obtain ⟨p, S1, h1, e1, e2, n, _, back⟩ := R.look h
  exact ⟨.ref p, h1, S1, [.lst ds], _, e2, .cons n .nil, q, fun dz v S2 H2 q2 g n2 => (back _ _ g).elim fun S3 b3 => post _ _ _ _ _ q2.2 b3.1 b3.2 (n2.flat q2.1)⟩
theorem de_ownB {id : String} {r : DRC} {i : Nat} {y : Str} {py : Pos} (hc : CallR X (.builtin id) (liftC X.K r)) (hv : PE X (.Name y py) (tVar i)) (gl : Gl X x) (hm : X.mg x = none) (hb : bootBuiltins x = some (.builtin id)) (hn : x ≠ "__name__" := by decide) (hdb : (x == ("__debug__" : Str)) = false := by decide)
    (he : starEach [.Name y py] X.env = (false, eval (.Name y py) X.env) :: starEach [] X.env := by rfl) (hpl : (backTo pos (starEach [] X.env)).any (·.1) = false := by rfl) : DE X E (.Call (.Name x p) [.Name y py] [] pos) (dOwnCB i r) :=
  ⟨fun B => pe_mono (pe_callB hc gl hm hb (pa_cons hv pa_nil he) hn hdb he hpl) fun σ H Q q => own_CB q⟩
/-- name op e, e op name -/
def dOwnL (i : Nat) (r : DR2) (d : dE) : dE := fun W δ Q => (∃ ds, lookAt δ i = some ds) ∧ d W δ fun y δ1 => optQ (lookAt δ1 i) fun ds => r (.lst ds) y fun z => z.flat = true ∧ Q z δ1
def dOwnR (i : Nat) (r : DR2) (d : dE) : dE := fun W δ Q => d W δ fun x δ1 => optQ (lookAt δ1 i) fun ds => r x (.lst ds) fun z => z.flat = true ∧ Q z δ1
theorem own_L {i : Nat} {r : DR2} {Q : VK} (q : liftE K B E (dOwnL i r db) σ H Q) : tOp (liftR K r) (tVar i) (liftE K B E db) σ H Q := by
  obtain ⟨δ, S, W, Q', R, ⟨⟨ds0, h0⟩, q⟩, xo, post⟩ := q
  obtain ⟨p0, _, v0, _⟩ := R.lookAt h0
  refine ⟨.ref p0, v0, δ, S, W, _, R, q, xo, fun y δ1 v S1 H1 q1 e1 R1 n1 => ?_⟩
  obtain ⟨ds, h, q1⟩ := optQ_ex q1
  obtain ⟨p, S2, h1, e2, e3, n, _, back⟩ := R1.look h
  rw [v0] at h1; cases h1
  exact ⟨S2, .lst ds, y, _, e3, n, n1.mono e2, q1, fun dz v S3 H3 q2 g n2 => (back _ _ g).elim fun S4 b4 => post _ _ _ _ _ q2.2 (e1.trans b4.1) b4.2 (n2.flat q2.1)⟩
theorem own_R {i : Nat} {r : DR2} {Q : VK} (q : liftE K B E (dOwnR i r da) σ H Q) : tOp (liftR K r) (liftE K B E da) (tVar i) σ H Q := by
  obtain ⟨δ, S, W, Q', R, q, xo, post⟩ := q
  refine ⟨δ, S, W, _, R, q, xo, fun y δ1 v S1 H1 q1 e1 R1 n1 => ?_⟩
  obtain ⟨ds, h, q1⟩ := optQ_ex q1
  obtain ⟨p, S2, h1, e2, e3, n, _, back⟩ := R1.look h
  exact ⟨.ref p, h1, S2, y, .lst ds, _, e3, n1.mono e2, n, q1, fun dz v S3 H3 q2 g n2 => (back _ _ g).elim fun S4 b4 => post _ _ _ _ _ q2.2 (e1.trans b4.1) b4.2 (n2.flat q2.1)⟩
theorem de_ownL {op : CmpOp} {r : DR2} {i : Nat} {y : Str} {py : Pos} (ho : OpD X (compareOp op) r) (hv : PE X (.Name y py) (tVar i)) (hb : DE X E b db) (hm : behindInMarks op b = false) : DE X E (.Compare (.Name y py) [op] [b] pos) (dOwnL i r db) :=
  ⟨fun B => pe_mono (pe_cmpR ho hv (hb.run B) hm) fun σ H Q q => own_L q⟩
theorem de_ownR {op : CmpOp} {r : DR2} {i : Nat} {y : Str} {py : Pos} (ho : OpD X (compareOp op) r) (ha : DE X E a da) (hv : PE X (.Name y py) (tVar i)) (hm : behindInMarks op (.Name y py) = false) : DE X E (.Compare a [op] [.Name y py] pos) (dOwnR i r da) :=
  ⟨fun B => pe_mono (pe_cmpR ho (ha.run B) hv hm) fun σ H Q q => own_R q⟩
theorem dt_ownL {op : CmpOp} {r : DR2} {i : Nat} {y : Str} {py : Pos} (ho : OpD X (compareOp op) r) (hv : PE X (.Name y py) (tVar i)) (hb : DE X E b db) (hm : behindInMarks op b = false) : DT X E (.Compare (.Name y py) [op] [b] pos) (dB (dOwnL i r db)) :=
  ⟨fun B => pt_mono (pt_cmpR ho hv (hb.run B) hm) fun σ H Q q => by
    have q := lift_B q
    exact own_L (Q := fun x H' => ∃ k, x = .bl k ∧ Q k H') q⟩
theorem dt_ownR {op : CmpOp} {r : DR2} {i : Nat} {y : Str} {py : Pos} (ho : OpD X (compareOp op) r) (ha : DE X E a da) (hv : PE X (.Name y py) (tVar i)) (hm : behindInMarks op (.Name y py) = false) : DT X E (.Compare a [op] [.Name y py] pos) (dB (dOwnR i r da)) :=
  ⟨fun B => pt_mono (pt_cmpR ho (ha.run B) hv hm) fun σ H Q q => by
    have q := lift_B q
    exact own_R (Q := fun x H' => ∃ k, x = .bl k ∧ Q k H') q⟩
/-- name[lo:hi] -/
def dOwnSl (i : Nat) (lo hi : dO) : dF := fun W δ Q => (∃ ds, lookAt δ i = some ds) ∧ lo W δ fun l δ2 => hi W δ2 fun h δ3 => optQ (lookAt δ3 i) fun ds => Q (cutD ds l h) δ3
theorem df_ownSl {i : Nat} {lo hi : Option Expr} {dl dh : dO} {p2 : Pos} (hv : PE X (.Name x p) (tVar i)) (hl : DO X E lo dl) (hh : DO X E hi dh) : DF X E (.Subscript (.Name x p) (.Slice lo hi none p2) pos) (dOwnSl i dl dh) := ⟨fun B => pe_mono (pe_slice sl_list hv (hl.run B) (hh.run B)) fun σ H Q q => by
  obtain ⟨δ, S, W, Q', R, ⟨⟨ds0, h0⟩, q⟩, xo, post⟩ := q
  obtain ⟨p0, _, v0, _⟩ := R.lookAt h0
  refine ⟨.ref p0, v0, δ, S, W, _, R, q, xo, fun l δ2 S2 H2 q2 e2 R2 => ⟨δ2, S2, W, _, R2, q2, xo.mono e2, fun h δ3 S3 H3 q3 e3 R3 => ?_⟩⟩
  obtain ⟨ds, h1, q3⟩ := optQ_ex q3
  obtain ⟨p', vs, v1, g1, a1, _⟩ := R3.lookAt h1
  rw [v0] at v1; cases v1
  exact ⟨p0, vs, rfl, SqL.of g1, fun p hp => post _ _ _ _ _ _ q3 (e2.trans e3) R3 hp (a1.cut l h)⟩⟩

/-! ### texts -/
def strsOf : List D → Option (List Str)
  | [] => some []
  | .str b :: r => (strsOf r).map (b :: ·)
  | _ => none
theorem strs_valsD : ∀ {ds : List D} {bs : List Str} {vs : List V}, DnA K S vs ds → strsOf ds = some bs → vs = bs.map V.str
  | [], _, _, .nil, h => by cases h; rfl
  | .str b :: r, bs, _, .cons h1 h2, h => by
    cases h1
    cases hr : strsOf r with
    | none => simp [strsOf, hr] at h
    | some cs =>
      simp [strsOf, hr] at h
      subst h
      rw [strs_valsD h2 hr]; rfl
/-- sep.join(e) -/
def dJoin (ds dx : dE) : dE := fun W δ Q => ds W δ fun s δ1 => dx W δ1 fun x δ2 => match s, x with
  | .str a, .lst zs => optQ (strsOf zs) fun ys => (ys.map (·.length)).sum + ys.length * a.length ≤ 16777216 ∧ Q (.str (Txt.join a ys)) δ2
  | .str a, .tup zs => optQ (strsOf zs) fun ys => (ys.map (·.length)).sum + ys.length * a.length ≤ 16777216 ∧ Q (.str (Txt.join a ys)) δ2
  | _, _ => False
theorem de_join (ho : DE X E a da) (he : DE X E e db) (hstr : ∀ W δ Q, da W δ Q → da W δ fun s δ' => (∃ z, s = .str z) ∧ Q s δ') (hs : starEach [e] X.env = [(false, eval e X.env)] := by rfl) (hbase : attributeBase a "join" X.env (eval a X.env) = eval a X.env := by rfl) (hline : (ap.endLine == pos.line) = true := by rfl) :
    DE X E (.Call (.Attribute a "join" ap) [e] [] pos) (dJoin da db) := ⟨fun B => pe_mono (pe_join (ho.run B) (he.run B) hs hbase hline) fun σ H Q q => by
  obtain ⟨δ, S, W, Q', R, q, xo, post⟩ := q
  refine ⟨δ, S, W, _, R, hstr _ _ _ q, xo, fun s δ1 v S1 H1 q1 e1 R1 n1 => ?_⟩
  obtain ⟨⟨z, rfl⟩, q1⟩ := q1
  cases n1
  refine ⟨⟨z, rfl⟩, δ1, S1, W, _, R1, q1, xo.mono e1, fun x δ2 u S2 H2 q2 e2 R2 n2 => ?_⟩
  match x, n2, q2 with
  | .lst zs, .lst h aa, q2 =>
    obtain ⟨ys, hy, hz, q2⟩ := optQ_ex q2
    have e := strs_valsD aa hy
    exact ⟨z, _, ys, rfl, rfl, .inl (SqL.of (by rw [← e]; exact R2.ex _ _ h)), hz, post _ _ _ _ _ q2 (e1.trans e2) R2 (.str _)⟩
  | .tup zs, .tup h aa, q2 =>
    obtain ⟨ys, hy, hz, q2⟩ := optQ_ex q2
    have e := strs_valsD aa hy
    exact ⟨z, _, ys, rfl, rfl, .inr (by rw [← e]; exact SqT.of (R2.ex _ _ h)), hz, post _ _ _ _ _ q2 (e1.trans e2) R2 (.str _)⟩⟩
theorem dc_str {z : Str} (W : XW) (δ : DS) (Q : D → DS → Prop) (h : dC (.str z) W δ Q) : dC (.str z) W δ fun s δ' => (∃ z, s = .str z) ∧ Q s δ' := ⟨⟨z, rfl⟩, h⟩
/-- f'..' -/
def dFmt (d : dE) : dE := fun W δ Q => d W δ fun x δ1 => match x with
  | .str y => y.length ≤ sizeLine ∧ Q (.str y) δ1
  | .int i => i.natAbs.log2 < 1920 ∧ Q (.str (toString i)) δ1
  | _ => False
theorem de_fmt (he : DE X E e da) : DE X E (.FormattedValue e (-1) none pos) (dFmt da) := ⟨fun B => pe_mono (pe_fmt (he.run B)) fun σ H Q q => by
  obtain ⟨δ, S, W, Q', R, q, xo, post⟩ := q
  refine ⟨δ, S, W, _, R, q, xo, fun x δ1 v S1 H1 q1 e1 R1 n1 => ?_⟩
  match x, n1, q1 with
  | .str y, .str _, q1 => exact .inl ⟨y, rfl, q1.1, post _ _ _ _ _ q1.2 e1 R1 (.str _)⟩
  | .int i, .int _, q1 => exact .inr ⟨i, rfl, q1.1, post _ _ _ _ _ q1.2 e1 R1 (.str _)⟩⟩
inductive DJ (X : Cx) (E : EK) : List Expr → List dE → Prop where
  | nil : DJ X E [] []
  | cons {e : Expr} {t : dE} {es : List Expr} {ts : List dE} (h : DE X E e t) (r : DJ X E es ts) : DJ X E (e :: es) (t :: ts)
def dJs : List dE → Str → XW → DS → (Str → DS → Prop) → Prop
  | [], acc, _, δ, Q => Q acc δ
  | t :: ts, acc, W, δ, Q => t W δ fun x δ1 => match x with
    | .str y => (acc ++ y).length ≤ sizeLine ∧ dJs ts (acc ++ y) W δ1 Q
    | _ => False
theorem DJ.pj {E : EK} {es : List Expr} {ts : List dE} (h : DJ X E es ts) (B : Bs) : PJ X es (ts.map fun t => liftE X.K B E t) := by
  induction h with
  | nil => exact .nil
  | cons h r ih => exact .cons (h.run B) ih
theorem js_read : ∀ (ts : List dE) (acc : Str) {δ : DS} {S H : Hp} {W : XW} {Q1 : Str → DS → Prop} {Q : Str → Hp → Prop}, Rel K B δ S σ H → XOk K B E W S → dJs ts acc W δ Q1 → (∀ y δ' S' H', Q1 y δ' → Ex S S' → Rel K B δ' S' σ H' → Q y H') → tJs (ts.map fun t => liftE K B E t) acc σ H Q
  | [], acc, _, _, _, _, _, _, R, _, q, post => post _ _ _ _ q (Ex.refl _) R
  | t :: ts, acc, δ, S, H, W, Q1, Q, R, xo, q, post => by
    refine ⟨δ, S, W, _, R, q, xo, fun x δ1 v S1 H1 q1 e1 R1 n1 => ?_⟩
    match x, n1, q1 with
    | .str y, .str _, q1 => exact ⟨y, rfl, q1.1, js_read ts _ R1 (xo.mono e1) q1.2 fun z δ' S' H' q' e' R' => post z δ' S' H' q' (e1.trans e') R'⟩
def dFs (ts : List dE) : dE := fun W δ Q => dJs ts Str.empty W δ fun out δ' => Q (.str out) δ'
theorem de_fs {v1 v2 : Expr} {rest : List Expr} {ts : List dE} (h : DJ X E (v1 :: v2 :: rest) ts) : DE X E (.JoinedStr (v1 :: v2 :: rest) pos) (dFs ts) := ⟨fun B => pe_mono (pe_joined (h.pj B)) fun σ H Q q => by
  obtain ⟨δ, S, W, Q', R, q, xo, post⟩ := q
  exact js_read ts _ R xo q fun y δ' S' H' q1 e1 R1 => post _ _ _ _ _ q1 e1 R1 (.str _)⟩
end

/-! ### the pen's own def: the first parameter is the pen, the second how many -/
def penD (ns : List Int) (k m : Int) : List D := [.lst (ns.map D.int), .int k, .int m]
/-- what a draw tells: any number below many, one draw more -/
def spDraw (top : Nat) : dSp := fun ds p Q _ => match ds, p with
  | [.raw (.ref a), .int n], some (b, c) => a = b ∧ 0 < n ∧ n < 1000000 ∧ c < top ∧ ∀ r, 0 ≤ r → r < n → Q (.int r) (some (a, c + 1))
  | _, _ => False
section
variable {P : Program} {w : World} {K : PySem.W.Frag} {mg : Str → Option Value} {base : Heap} {x qual : Str} {st : Stmt} {f : Addr} {fd : FuncData} {N ps : List Str} {k : Nat} {d : dS}
theorem intsOf_ints : ∀ ns : List Int, intsOf (ns.map D.int) = some ns
  | [] => rfl
  | n :: ns => by simp [intsOf, intsOf_ints ns]
theorem fn_pen {top : Nat} (F : Fun K x qual st f fd) (Sc : FnScope N ps (defScope st)) (hn : ps.length = 2)
    (body : ∀ (cdv : Value) (A : Around) (out : List Env) (s : Shared) (H : Hp) (E : XK), A.guards = some [] → Room k (A.deeper (envOfC qual (defScope st) s.heap.objs.size f cdv)) → DSs (cx0 P w K mg base N qual (defScope st) f cdv A out s H E) E00 (defBody st) d)
    (hsp : ∀ (ns : List Int) (k m n : Int), ns.length ≤ 63 → 0 ≤ k → k < top → 0 ≤ m → 0 < n → n < 1000000 →
      d W0 { nx := fun _ => False, rt := fun x δ => ∃ r k' m' : Int, x = .int r ∧ 0 ≤ r ∧ r < n ∧ 0 ≤ k' ∧ k' ≤ k + 1 ∧ 0 ≤ m' ∧ δ.sl[0]? = some (.hp (penD ns k' m')) } ⟨.hp (penD ns k m) :: .dat (.int n) :: List.replicate (N.length - 2) .un, none⟩) :
    FnG P w K mg base CX0 (k + 1) f fd ps (spD K 2 (spDraw top)) := by
  refine fn_g F Sc (fun vs H Q E q => (spD_len vs H Q E q).trans hn.symm) fun cdv A out s H vs Q E g r q => ?_
  obtain ⟨S0, ds, p, Q', W', ex, hp, a, hl, q, post, _⟩ := q
  have hN : 2 ≤ N.length := by
    have h2 := congrArg List.length Sc.pre
    rw [List.length_take] at h2
    omega
  match ds, p, q, a, hp with
  | [.raw (.ref a0), .int n], some (b, c), ⟨e1, n1, n2, ct, q⟩, a, hp =>
    subst e1
    obtain ⟨v1, v2, rfl, d1, d2⟩ := a.two
    cases d1; cases d2
    obtain ⟨pn, ca, ns, kk, m, g1, g2, g3, g4, g5, g6⟩ := hp
    have start0 : Rel K ⟨S0, H, some a0, false⟩ ⟨.hp (penD ns kk m) :: .dat (.int n) :: List.replicate (N.length - 2) .un, none⟩ S0 (L2.start N [.ref a0, .int n]) H := by
      refine ⟨ex, ⟨Ex.refl _, fun _ _ h _ => h, fun _ _ _ n => n, fun b z => by cases z; exact ⟨_, g1⟩⟩, trivial, (by unfold PaOk; rw [if_neg (fun z => Bool.false_ne_true z.1)]; exact fun _ _ z => nomatch z), ?_, fun i => if i = 0 then some a0 else none, fun i y e => ?_, fun i hi => ?_, fun i j a e1 e2 => ?_, fun i a e => ?_⟩
      · simp only [L2.start, List.length_append, List.length_map, List.length_replicate, List.length_cons, List.length_nil]; omega
      · match i, e with
        | 0, e =>
          cases (show some (Sl.hp (penD ns kk m)) = some y from e)
          exact ⟨a0, [.ref ca, .int kk, .int m], rfl, rfl, rfl, g1, .cons (.lst g2 (DnA.ints ns)) (.cons (.int _) (.cons (.int _) .nil))⟩
        | 1, e =>
          cases (show some (Sl.dat (.int n)) = some y from e)
          exact ⟨rfl, .int n, rfl, .int n⟩
        | i + 2, e =>
          have e : (List.replicate (N.length - 2) Sl.un)[i]? = some y := by simpa using e
          rw [List.getElem?_replicate] at e
          split at e
          · cases e; exact rfl
          · cases e
      · have : i ≠ 0 := fun z => by subst z; simp at hi
        simp [this]
      · have e1 : (if i = 0 then some a0 else none) = some a := e1
        have e2 : (if j = 0 then some a0 else none) = some a := e2
        split at e1
        · split at e2
          · exact (by assumption : i = 0).trans (by assumption : j = 0).symm
          · cases e2
        · cases e1
      · have e : (if i = 0 then some a0 else none) = some a := e
        split at e
        · cases e; exact ⟨pn, .inr rfl, (fun c z => (nomatch z)), _, g1⟩
        · cases e
    refine ⟨_, ((body cdv A out s H E g r).run ⟨S0, H, some a0, false⟩).nox, _, S0, W0, _, start0, hsp ns kk m n g3 g4 (by omega) g6 n1 n2, fun _ _ _ _ _ _ _ h => h.elim, fun _ _ _ _ h => h.elim, fun x δ' v σ' S' H' q1 e1 R1 dn => ?_, fun _ _ _ _ h => h.elim, fun _ _ _ _ h => h.elim, fun _ _ _ _ _ _ _ h => h.elim⟩
    obtain ⟨r, k', m', rfl, r1, r2, r3, r4, r5, r6⟩ := q1
    obtain ⟨p', vs, s1, s2, s3, s4, s5, _⟩ := R1.hp r6
    cases s5
    match vs, s3, s2 with
    | [_, _, _], .cons t1 (.cons t2 (.cons t3 .nil)), s2 =>
      cases t2; cases t3
      cases t1 with
      | lst u1 u2 =>
        have e := ints_valsD (bs := ns) u2 (intsOf_ints ns)
        subst e
        exact post _ (some (a0, c + 1)) _ _ _ (q r r1 r2) ⟨e1, R1.ex, ⟨s4, _, ns, k', m', s2, u1, g3, r3, by omega, r5⟩, .inl rfl, fun b o h nb => R1.fr.h b o h nb, R1.fr.no⟩ dn
end
end Ev

/-! # A pen is born; calls by keywords, defaults; what is known of a def -/
namespace Ev
open PySem PySem.Spec PyProof.Rows L2
variable {K : PySem.W.Frag} {S S' H H' : Hp} {B : Bs} {δ : DS} {σ : L2.St}
section
variable {X : Cx} {E : EK} {e a b c : Expr} {es : List Expr} {pos p ap cp : Pos} {da db : dE} {x : Str}
/-- a new list that is a pen: from here on it is the pen -/
def dBorn (f : dF) : dE := fun W δ Q => f W δ fun xs δ1 => δ1.pen = none ∧ ∃ (ns : List Int) (k m : Int) (c : Nat), xs = penD ns k m ∧ ns.length ≤ 63 ∧ 0 ≤ k ∧ k ≤ c ∧ 0 ≤ m ∧ ∀ a, Q (.raw (.ref a)) { δ1 with pen := some (a, c) }
theorem Rel.born (R : Rel K B δ S σ H) (hn : δ.pen = none) (hb : ¬(B.pd = true ∧ B.pa ≠ none)) {p ca : Addr} {ns : List Int} {k m : Int} {c : Nat} (hp : H p = none) (hc : S ca = some (.lst (ns.map V.int))) (h63 : ns.length ≤ 63) (h0 : 0 ≤ k) (hk : k ≤ c) (hm : 0 ≤ m) :
    Rel K B { δ with pen := some (p, c) } S σ (upd H p (.lst [.ref ca, .int k, .int m])) := by
  obtain ⟨f1, f2⟩ := R.fr.fresh hp
  have sp : S p = none := R.ex.none hp
  have g : Grow S H S (upd H p (.lst [.ref ca, .int k, .int m])) := ⟨Ex.refl _, Ex.new hp, R.ex.one hp (fun vs z => HO.noConfusion z), fun _ _ _ n => n⟩
  have R' := R.grow g
  obtain ⟨ow, h1, h2, h3, h4⟩ := R.sl
  obtain ⟨ow', h1', h2', h3', h4'⟩ := R'.sl
  refine ⟨R'.ex, R'.fr, ⟨sp, ca, ns, k, m, upd_same, hc, h63, h0, hk, hm⟩, ?_, R'.len, ow, fun i x e => (h1 i x e).grow (Ex.refl _) fun a o _ q => Ex.new hp a o q, h2, h3, fun i a e => ?_⟩
  · unfold PaOk
    rw [if_neg hb]
    intro a c' z
    cases z
    exact ⟨f1, f2⟩
  · obtain ⟨q1, q2, q3, o, q4⟩ := h4 i a e
    have ne : a ≠ p := fun z => by rw [z, hp] at q4; cases q4
    refine ⟨q1, q2, fun c' z => ?_, o, by rw [upd_ne ne]; exact q4⟩
    cases z
    exact ne rfl
theorem Rel.free (R : Rel K B δ S σ H) (hn : δ.pen = none) : ¬(B.pd = true ∧ B.pa ≠ none) := fun z => by
  have q := R.pa
  unfold PaOk at q
  rw [if_pos z, hn] at q
  exact z.2 q.symm
theorem DnA.pen {vs : List V} {ns : List Int} {k m : Int} (h : DnA K S vs (penD ns k m)) : ∃ ca, vs = [.ref ca, .int k, .int m] ∧ S ca = some (.lst (ns.map V.int)) := by
  match vs, h with
  | [_, _, _], .cons t1 (.cons t2 (.cons t3 .nil)) =>
    cases t2; cases t3
    cases t1 with
    | lst u1 u2 =>
      have e := ints_valsD (bs := ns) u2 (intsOf_ints ns)
      subst e
      exact ⟨_, rfl, u1⟩
theorem de_born {f : dF} (h : DF X E e f) : DE X E e (dBorn f) := ⟨fun B => pe_mono (h.run B) fun σ H Q q => by
  obtain ⟨δ, S, W, Q', R, q, xo, post⟩ := q
  refine ⟨δ, S, W, _, R, q, xo, fun xs δ1 p vs S1 H1 q1 e1 R1 hp n1 => ?_⟩
  obtain ⟨hn, ns, k, m, c, rfl, z1, z2, z3, z4, q1⟩ := q1
  obtain ⟨ca, rfl, hc⟩ := n1.pen
  exact post _ _ _ _ _ (q1 p) e1 (R1.born hn (R1.free hn) hp hc z1 z2 z3 z4) (.raw _)⟩

/-! ### calls: defaults, keywords -/
/-- f(..), n arguments in all, the last ones by default -/
def dCallD (n : Nat) (dd : List D) (sp : dSp) (a : dA) : dE := fun W δ Q => a W δ fun xs δ1 => (xs ++ dd).length = n ∧ sp (xs ++ dd) δ1.pen (fun x p' => Q x { δ1 with pen := p' }) fun c p' => W c { δ1 with pen := p' }
/-- the arguments us and those by keyword ws and the defaults, put in order -/
def pickL {α : Type} (p q : Nat) (idx : List Nat) (dd us ws : List α) : List α := if us.length = p ∧ ws.length = q then idx.filterMap ((us ++ ws ++ dd)[·]?) else []
theorem DnA.filterMap {vs : List V} {ds : List D} (a : DnA K S vs ds) : ∀ idx : List Nat, DnA K S (idx.filterMap (vs[·]?)) (idx.filterMap (ds[·]?))
  | [] => .nil
  | i :: idx => by
    have ih := a.filterMap idx
    rw [List.filterMap_cons, List.filterMap_cons]
    cases h : ds[i]? with
    | none =>
      have : vs[i]? = none := by
        rw [List.getElem?_eq_none_iff] at h ⊢
        rw [a.length]; exact h
      rw [this]; exact ih
    | some d =>
      obtain ⟨v, h1, h2⟩ := a.get h
      rw [h1]
      exact .cons h2 ih
theorem DnA.pick {p q : Nat} {idx : List Nat} {dv us ws : List V} {dd ds es : List D} (hd : DnA K S dv dd) (h1 : DnA K S us ds) (h2 : DnA K S ws es) : DnA K S (pickL p q idx dv us ws) (pickL p q idx dd ds es) := by
  unfold pickL
  rw [h1.length, h2.length]
  split
  · exact ((h1.append h2).append hd).filterMap idx
  · exact .nil
theorem vals_filterMap {vs : List V} {us : List Value} (a : Vals vs us) : ∀ idx : List Nat, Vals (idx.filterMap (vs[·]?)) (idx.filterMap (us[·]?))
  | [] => .nil
  | i :: idx => by
    have ih := vals_filterMap a idx
    rw [List.filterMap_cons, List.filterMap_cons]
    cases h : vs[i]? with
    | none =>
      rw [a.none_of h]; exact ih
    | some v =>
      obtain ⟨u, h1, h2⟩ := a.get h
      rw [h1]
      exact .cons h2 ih
theorem vals_pick {p q : Nat} {idx : List Nat} {dv us ws : List V} {dd ds es : List Value} (hd : Vals dv dd) (h1 : Vals us ds) (h2 : Vals ws es) : Vals (pickL p q idx dv us ws) (pickL p q idx dd ds es) := by
  unfold pickL
  rw [h1.length, h2.length]
  split
  · exact vals_filterMap ((h1.append h2).append hd) idx
  · exact .nil
/-- how a def's keywords bind -/
theorem kbinds_of {fd : FuncData} {ps ks : List Str} {p q : Nat} {idx : List Nat} {dv : List V} {ds : List Value} (hd : Vals dv ds) (hn : 0 < ps.length)
    (h : ∀ (s : Shared) (us ws : List Value), K.In s.heap → us.length = p → ws.length = q → BindsTo s fd ⟨us, ks.zip ws⟩ (ps.zip (idx.filterMap ((us ++ ws ++ ds)[·]?)))) : KBinds K fd ps ks (pickL p q idx ds) (pickL p q idx dv) where
  to := fun s us ws ki hl => by
    unfold pickL at hl ⊢
    split at hl
    · rename_i z
      rw [if_pos z]
      exact h s us ws ki z.1 z.2
    · rw [← hl] at hn
      exact absurd hn (Nat.lt_irrefl 0)
  rel := fun r rz => vals_pick hd r rz
/-- a def that lets nothing out: everything that a call wants to know of it; dd: the values by default -/
structure Def (P : Program) (w : World) (K : PySem.W.Frag) (mg : Str → Option Value) (base : Heap) (k : Nat) (x : Str) (n : Nat) (sp : dSp) (dd : List D) : Prop where
  ok : ∃ (ps : List Str) (f : Addr) (fd : FuncData) (dv : List V) (ds : List Value), FnG P w K mg base CX0 k f fd ps (spD K n sp) ∧ mg x = some (.ref f) ∧ PySem.W.keepIn K (.ref f) = true ∧ Binds K fd ps ds ∧ Vals dv ds ∧ ∀ S, DnA K S dv dd
structure DefK (P : Program) (w : World) (K : PySem.W.Frag) (mg : Str → Option Value) (base : Heap) (k : Nat) (x : Str) (n : Nat) (sp : dSp) (p q : Nat) (ks : List Str) (idx : List Nat) (dd : List D) : Prop where
  ok : ∃ (ps : List Str) (f : Addr) (fd : FuncData) (dv : List V) (ds : List Value), FnG P w K mg base CX0 k f fd ps (spD K n sp) ∧ mg x = some (.ref f) ∧ PySem.W.keepIn K (.ref f) = true ∧ KBinds K fd ps ks (pickL p q idx ds) (pickL p q idx dv) ∧ ∀ S, DnA K S dv dd
theorem pass_at {E : L2.St → XK} : ∀ σ, PassesAt CX0 X σ (E σ) := fun _ _ _ _ _ _ _ h => h.elim
variable {j k n : Nat} {sp : dSp} {dd : List D} {ta : dA}
theorem de_callD (h : Def X.prog X.w X.K X.mg X.base j x n sp dd) (hg : X.A.guards = some []) (hr : Room k X.A) (gl : Gl X x) (ha : DA X E (e :: es) ta) (hj : j ≤ k := by decide) (hdb : (x == ("__debug__" : Str)) = false := by decide)
    (he : starEach (e :: es) X.env = (false, eval e X.env) :: starEach es X.env := by rfl) (hpl : (backTo pos (starEach es X.env)).any (·.1) = false := by rfl) : DE X E (.Call (.Name x p) (e :: es) [] pos) (dCallD n dd sp ta) := by
  obtain ⟨ps, f, fd, dv, ds, F, m, kp, b, vd, dn⟩ := h.ok
  refine ⟨fun B => pe_mono (pe_callG F hg (hr.mono hj) gl m kp b vd (pass_at (E := E)) (ha.run B) hdb he hpl) fun σ H Q q => ?_⟩
  obtain ⟨δ, S, W, Q', R, q, xo, post⟩ := q
  refine ⟨δ, S, W, _, R, q, xo, fun xs δ1 vs S1 H1 q1 e1 R1 n1 => ?_⟩
  exact call_read xo e1 R1 (n1.append (dn S1)) q1.1 q1.2 post
theorem de_callD0 (h : Def X.prog X.w X.K X.mg X.base j x n sp dd) (hg : X.A.guards = some []) (hr : Room k X.A) (gl : Gl X x) (hj : j ≤ k := by decide) (hdb : (x == ("__debug__" : Str)) = false := by decide) : DE X E (.Call (.Name x p) [] [] pos) (dCallD n dd sp dNil) := by
  obtain ⟨ps, f, fd, dv, ds, F, m, kp, b, vd, dn⟩ := h.ok
  refine ⟨fun B => pe_mono (pe_callG0 F hg (hr.mono hj) gl m kp b vd (pass_at (E := E)) hdb) fun σ H Q q => ?_⟩
  obtain ⟨δ, S, W, Q', R, q, xo, post⟩ := q
  exact call_read xo (Ex.refl _) R (dn S) q.1 q.2 post
/-- values by keyword -/
structure DK (X : Cx) (E : EK) (kws : List Keyword) (d : dA) : Prop where
  run : ∀ B, PK X kws (liftA X.K B E d)
theorem pk_mono {kws : List Keyword} {t t' : TA} (h : PK X kws t) (m : ∀ σ H Q, t' σ H Q → t σ H Q) : PK X kws t' := ⟨fun pos pins s σ H Q I q => h.run pos pins s σ H Q I (m _ _ _ q)⟩
theorem dk_nil : DK X E [] dNil := ⟨fun B => pk_mono pk_nil fun σ H Q q => by
  obtain ⟨δ, S, W, Q', R, q, xo, post⟩ := q
  exact post _ _ _ _ _ q (Ex.refl _) R .nil⟩
theorem dk_cons {nm : Option Str} {kpos : Pos} {kws : List Keyword} {r : dA} (h : DE X E e da) (hr : DK X E kws r) : DK X E (⟨nm, e, kpos⟩ :: kws) (dCons da r) := ⟨fun B => pk_mono (pk_cons (h.run B) (hr.run B)) fun σ H Q q => by
  obtain ⟨δ, S, W, Q', R, q, xo, post⟩ := q
  refine ⟨δ, S, W, _, R, q, xo, fun x δ1 v S1 H1 q1 e1 R1 n1 => ?_⟩
  exact ⟨δ1, S1, W, _, R1, q1, xo.mono e1, fun xs δ2 vs S2 H2 q2 e2 R2 n2 => post _ _ _ _ _ q2 (e1.trans e2) R2 (.cons (n1.mono e2) n2)⟩⟩
def dCallK (n p q : Nat) (idx : List Nat) (dd : List D) (sp : dSp) (a tk : dA) : dE := fun W δ Q => a W δ fun us δ1 => tk W δ1 fun ws δ2 => (pickL p q idx dd us ws).length = n ∧ sp (pickL p q idx dd us ws) δ2.pen (fun x p' => Q x { δ2 with pen := p' }) fun c p' => W c { δ2 with pen := p' }
variable {pp qq : Nat} {ks : List Str} {idx : List Nat} {kws : List Keyword} {tk : dA}
theorem de_callK (h : DefK X.prog X.w X.K X.mg X.base j x n sp pp qq ks idx dd) (hg : X.A.guards = some []) (hr : Room k X.A) (gl : Gl X x) (ha : DA X E (e :: es) ta) (hk : DK X E kws tk) (hj : j ≤ k := by decide) (hall : (backToKw pos (keywordEach kws X.env)).all (·.1.isSome) = true := by rfl)
    (hks : (backToKw pos (keywordEach kws X.env)).filterMap (·.1) = ks := by rfl) (hdb : (x == ("__debug__" : Str)) = false := by decide) (he : starEach (e :: es) X.env = (false, eval e X.env) :: starEach es X.env := by rfl)
    (hpl : ((backTo pos (starEach (e :: es) X.env)).any (·.1) || (backToKw pos (keywordEach kws X.env)).any (·.1.isNone)) = false := by rfl) : DE X E (.Call (.Name x p) (e :: es) kws pos) (dCallK n pp qq idx dd sp ta tk) := by
  obtain ⟨ps, f, fd, dv, ds, F, m, kp, b, dn⟩ := h.ok
  refine ⟨fun B => pe_mono (pe_callGK F hg (hr.mono hj) gl m kp b (pass_at (E := E)) (ha.run B) (hk.run B) hall hks hdb he hpl) fun σ H Q q => ?_⟩
  obtain ⟨δ, S, W, Q', R, q, xo, post⟩ := q
  refine ⟨δ, S, W, _, R, q, xo, fun us δ1 vs S1 H1 q1 e1 R1 n1 => ?_⟩
  refine ⟨δ1, S1, W, _, R1, q1, xo.mono e1, fun ws δ2 zs S2 H2 q2 e2 R2 n2 => ?_⟩
  exact call_read xo (e1.trans e2) R2 (DnA.pick (dn S2) (n1.mono e2) n2) q2.1 q2.2 post
theorem de_callK0 (h : DefK X.prog X.w X.K X.mg X.base j x n sp pp qq ks idx dd) (hg : X.A.guards = some []) (hr : Room k X.A) (gl : Gl X x) (hk : DK X E kws tk) (hj : j ≤ k := by decide) (hall : (backToKw pos (keywordEach kws X.env)).all (·.1.isSome) = true := by rfl)
    (hks : (backToKw pos (keywordEach kws X.env)).filterMap (·.1) = ks := by rfl) (hdb : (x == ("__debug__" : Str)) = false := by decide)
    (hpl : ((backTo pos (starEach [] X.env)).any (·.1) || (backToKw pos (keywordEach kws X.env)).any (·.1.isNone)) = false := by rfl) : DE X E (.Call (.Name x p) [] kws pos) (dCallK n pp qq idx dd sp dNil tk) := by
  obtain ⟨ps, f, fd, dv, ds, F, m, kp, b, dn⟩ := h.ok
  refine ⟨fun B => pe_mono (pe_callGK0 F hg (hr.mono hj) gl m kp b (pass_at (E := E)) (hk.run B) hall hks hdb hpl) fun σ H Q q => ?_⟩
  obtain ⟨δ, S, W, Q', R, q, xo, post⟩ := q
  refine ⟨δ, S, W, _, R, q, xo, fun ws δ2 zs S2 H2 q2 e2 R2 n2 => ?_⟩
  exact call_read xo e2 R2 (DnA.pick (dn S2) .nil n2) q2.1 q2.2 post
end
end Ev

/-! # Minus; loops by invariants; what may be compared and shown, by size -/
namespace Ev
open PySem PySem.Spec PyProof.Rows L2
variable {K : PySem.W.Frag} {S S' H H' : Hp} {B : Bs} {δ : DS} {σ : L2.St}
section
variable {X : Cx} {E : EK} {e a b c : Expr} {es : List Expr} {pos p ap cp : Pos} {da db : dE} {x : Str}
def dNeg (d : dE) : dE := fun W δ Q => d W δ fun x δ1 => match x with | .int i => Q (.int (-i)) δ1 | _ => False
theorem de_usub (h : DE X E e da) : DE X E (.UnaryOp .USub e pos) (dNeg da) := ⟨fun B => pe_mono (pe_un un_neg (h.run B)) fun σ H Q q => by
  obtain ⟨δ, S, W, Q', R, q, xo, post⟩ := q
  refine ⟨δ, S, W, _, R, q, xo, fun x δ1 v S1 H1 q1 e1 R1 n1 => ?_⟩
  match x, n1, q1 with
  | .int i, .int _, q1 => exact ⟨i, rfl, post _ _ _ _ _ q1 e1 R1 (.int _)⟩⟩
theorem de_neg {i : Int} {j} : DE X E (.UnaryOp .USub (.Constant (.int i) j p) pos) (dC (.int (-i))) := ⟨fun B => pe_mono ((de_usub (E := E) (de_int (i := i) (j := j))).run B) fun σ H Q q => q⟩
end
/-! ### loops -/
section
variable {g : dG} {b : dS} {W : XW} {N : dEnds} {tt : dT} {te : dE} {vs : List Nat} {Q : List D → DS → Prop}
/-- a for by what holds ahead of what is left -/
theorem wFor_ind (I : List D → DS → Prop) (h : ∀ d ds δ (k : DS → Prop), (∀ δ', I ds δ' → k δ') → I (d :: ds) δ → g d δ fun δ1 => b W { N with nx := k, ct := k, bk := N.nx } δ1) (h0 : ∀ δ, I [] δ → N.nx δ) : ∀ ds δ, I ds δ → wFor g b W N ds δ
  | [], δ, i => h0 δ i
  | d :: ds, δ, i => h d ds δ _ (fun δ' i' => wFor_ind I h h0 ds δ' i') i
theorem wLC_ind (I : List D → List D → DS → Prop) (h : ∀ d ds acc δ (k : List D → DS → Prop), (∀ acc' δ', I ds acc' δ' → k acc' δ') → I (d :: ds) acc δ → g d δ fun δ1 => tt W0 δ1 fun z δ2 => match z with
      | true => te W0 δ2 fun y δ3 => acc.length < sizeLine ∧ k (acc ++ [y]) (wipeD δ3 vs)
      | false => k acc (wipeD δ2 vs)) (h0 : ∀ acc δ, I [] acc δ → Q acc δ) : ∀ ds acc δ, I ds acc δ → wLC g tt te vs Q ds acc δ
  | [], acc, δ, i => h0 acc δ i
  | d :: ds, acc, δ, i => by
    have q := h d ds acc δ (fun acc' δ' => wLC g tt te vs Q ds acc' δ') (fun acc' δ' i' => wLC_ind I h h0 ds acc' δ' i') i
    exact q
/-- a comprehension that makes f d of each d, nothing else changed -/
theorem wLC_map {δ0 : DS} {xs : List D} (f : D → D) (h : ∀ d ∈ xs, ∀ acc (k : List D → DS → Prop), acc.length < sizeLine → k (acc ++ [f d]) δ0 → g d δ0 fun δ1 => tt W0 δ1 fun z δ2 => match z with
      | true => te W0 δ2 fun y δ3 => acc.length < sizeLine ∧ k (acc ++ [y]) (wipeD δ3 vs)
      | false => k acc (wipeD δ2 vs)) (hl : xs.length ≤ sizeLine) (h0 : Q (xs.map f) δ0) : wLC g tt te vs Q xs [] δ0 := by
  refine wLC_ind (fun ds acc δ => δ = δ0 ∧ (∀ d ∈ ds, d ∈ xs) ∧ acc ++ ds.map f = xs.map f) (fun d ds acc δ k hk i => ?_) (fun acc δ i => ?_) xs [] δ0 ⟨rfl, fun _ h => h, rfl⟩
  · obtain ⟨rfl, h1, h2⟩ := i
    refine h d (h1 d List.mem_cons_self) acc k ?_ (hk _ _ ⟨rfl, fun z hz => h1 z (List.mem_cons_of_mem _ hz), by rw [← h2]; simp⟩)
    have := congrArg List.length h2
    simp at this
    omega
  · obtain ⟨rfl, _, h2⟩ := i
    rw [List.map_nil, List.append_nil] at h2
    rw [h2]; exact h0
end
/-! ### equality of data -/
theorem eq_int {i j : Int} : D.eq (.int i) (.int j) = decide (i = j) := by simp [D.eq, D.py, PyData.eqv]; rfl
theorem eq_str {i j : Str} : D.eq (.str i) (.str j) = decide (i = j) := by simp [D.eq, D.py, PyData.eqv]; rfl
theorem eq_bl {i j : Bool} : D.eq (.bl i) (.bl j) = decide (i = j) := by simp [D.eq, D.py, PyData.eqv]; rfl
theorem eq_non : D.eq .non .non = true := by simp [D.eq, D.py, PyData.eqv]
mutual
theorem D.eqv_refl : ∀ d : D, PyData.eqv d.py d.py = true
  | .non => by simp [D.py, PyData.eqv]
  | .bl b => by simp [D.py, PyData.eqv]
  | .int i => by simp [D.py, PyData.eqv]
  | .str x => by simp [D.py, PyData.eqv]
  | .tup xs => by simp [D.py, PyData.eqv, D.eqv_refls xs]
  | .lst xs => by simp [D.py, PyData.eqv, D.eqv_refls xs]
  | .dK _ => by simp [D.py, PyData.eqv]
  | .dT _ => by simp [D.py, PyData.eqv]
  | .raw _ => by simp [D.py, PyData.eqv]
  | .scr _ => by simp [D.py, PyData.eqv]
theorem D.eqv_refls : ∀ ds : List D, PyData.eqvAll (D.pys ds) (D.pys ds) = true
  | [] => by simp [D.pys, PyData.eqvAll]
  | d :: ds => by simp [D.pys, PyData.eqvAll, D.eqv_refl d, D.eqv_refls ds]
end
theorem D.eq_refl (d : D) : D.eq d d = true := D.eqv_refl d
def D.eqs : List D → List D → Bool
  | [], [] => true
  | x :: xs, y :: ys => D.eq x y && D.eqs xs ys
  | _, _ => false
theorem D.eqs_py : ∀ xs ys : List D, PyData.eqvAll (D.pys xs) (D.pys ys) = D.eqs xs ys
  | [], [] => by simp [D.pys, PyData.eqvAll, D.eqs]
  | x :: xs, y :: ys => by simp [D.pys, PyData.eqvAll, D.eqs, D.eqs_py xs ys, D.eq]
  | [], _ :: _ => by simp [D.pys, PyData.eqvAll, D.eqs]
  | _ :: _, [] => by simp [D.pys, PyData.eqvAll, D.eqs]
theorem eq_tup {xs ys : List D} : D.eq (.tup xs) (.tup ys) = D.eqs xs ys := by simp [D.eq, D.py, PyData.eqv, D.eqs_py]
theorem eq_lst {xs ys : List D} : D.eq (.lst xs) (.lst ys) = D.eqs xs ys := by simp [D.eq, D.py, PyData.eqv, D.eqs_py]
/-! ### what may be compared, what may be shown -/
mutual
/-- texts of true signs, numbers of at most thirty digits, nothing but these within -/
def D.okd : D → Bool
  | .non => true
  | .bl _ => true
  | .int i => decide (i.natAbs < 10 ^ 30)
  | .str x => PyData.strOk x
  | .tup xs => D.okds xs
  | .lst xs => D.okds xs
  | _ => false
def D.okds : List D → Bool
  | [] => true
  | x :: xs => x.okd && D.okds xs
end
mutual
/-- signs that are enough for its repr -/
def D.sz : D → Nat
  | .int _ => 31
  | .str x => 10 * x.length + 2
  | .tup xs => D.szs xs + 5
  | .lst xs => D.szs xs + 5
  | _ => 5
def D.szs : List D → Nat
  | [] => 0
  | x :: xs => x.sz + 2 + D.szs xs
end
mutual
theorem D.okd_lay : ∀ d : D, d.okd = true → d.lay = true
  | .non, _ => rfl
  | .bl b, _ => rfl
  | .int i, _ => rfl
  | .str x, h => h
  | .tup xs, h => D.okds_lay xs h
  | .lst xs, h => D.okds_lay xs h
  | .dK _, h => by cases h
  | .dT _, h => by cases h
  | .raw _, h => by cases h
  | .scr _, h => by cases h
theorem D.okds_lay : ∀ ds : List D, D.okds ds = true → D.lays ds = true
  | [], _ => rfl
  | d :: ds, h => by
    have h' : (d.okd && D.okds ds) = true := h
    rw [Bool.and_eq_true] at h'
    show (d.lay && D.lays ds) = true
    rw [D.okd_lay d h'.1, D.okds_lay ds h'.2]; rfl
end
theorem log2_of {n : Nat} (h : n < 10 ^ 30) : n.log2 < 1920 := by
  by_cases z : n = 0
  · subst z; decide
  · rw [Nat.log2_lt z]
    exact Nat.lt_trans h (by decide +kernel)
mutual
theorem D.okd_sho : ∀ d : D, d.okd = true → d.sho = true
  | .non, _ => rfl
  | .bl b, _ => rfl
  | .int i, h => decide_eq_true (log2_of (of_decide_eq_true h))
  | .str x, h => rfl
  | .tup xs, h => D.okds_sho xs h
  | .lst xs, h => D.okds_sho xs h
  | .dK _, h => by cases h
  | .dT _, h => by cases h
  | .raw _, h => by cases h
  | .scr _, h => by cases h
theorem D.okds_sho : ∀ ds : List D, D.okds ds = true → D.shos ds = true
  | [], _ => rfl
  | d :: ds, h => by
    have h' : (d.okd && D.okds ds) = true := h
    rw [Bool.and_eq_true] at h'
    show (d.sho && D.shos ds) = true
    rw [D.okd_sho d h'.1, D.okds_sho ds h'.2]; rfl
end
theorem ofString_length (s : String) : (Str.ofString s).length = s.length := by
  rw [Str.ofString_eq_toList]
  simp [Str.length, String.length_toList]
theorem join2_len (sep : Str) : ∀ ts : List Str, (Str.join sep ts).length ≤ (ts.map fun t => t.length + sep.length).sum
  | [] => by simp [Str.join, Str.empty, Str.length]
  | [x] => by simp [Str.join]
  | x :: y :: r => by
    have ih := join2_len sep (y :: r)
    show (x ++ sep ++ Str.join sep (y :: r)).length ≤ _
    rw [Str.length_append, Str.length_append, List.map_cons, List.sum_cons]
    omega
mutual
theorem D.sz_shown : ∀ d : D, d.okd = true → d.py.shown.length ≤ d.sz
  | .non, _ => by simp only [D.py, PyData.shown, D.sz]; decide +kernel
  | .bl b, _ => by cases b <;> simp only [D.py, PyData.shown, D.sz] <;> decide +kernel
  | .int i, h => by
    simp only [D.py, PyData.shown, D.sz]
    rw [ofString_length]
    exact int_text_length_le10 (k := 30) (by decide) (of_decide_eq_true h)
  | .str x, h => by
    simp only [D.py, PyData.shown, D.sz]
    refine StrLaws.reprText_len x fun c hc => ?_
    have h1 : x.cps.all (· < 0x110000) = true := h
    rw [Array.all_eq_true'] at h1
    have h2 := of_decide_eq_true (h1 c (by simpa using hc))
    exact Nat.lt_trans h2 (by decide)
  | .tup xs, h => by
    simp only [D.py, PyData.shown, D.sz]
    have q := D.szs_shown xs h
    have z := join2_len ", " (PyData.shownAll (D.pys xs))
    have hz : ((", " : String) : Str).length = 2 := by decide +kernel
    rw [hz] at z
    unfold tupleText
    rw [Str.length_append, Str.length_append]
    have h1 : (("(" : String) : Str).length = 1 := by decide +kernel
    have h2 : (Str.ofString (if (PyData.shownAll (D.pys xs)).length == 1 then ",)" else ")")).length ≤ 2 := by split <;> decide +kernel
    omega
  | .lst xs, h => by
    simp only [D.py, PyData.shown, D.sz]
    have q := D.szs_shown xs h
    have z := listText_len_le (PyData.shownAll (D.pys xs))
    have e : ((PyData.shownAll (D.pys xs)).map fun t => t.length + 2).sum = ((PyData.shownAll (D.pys xs)).map (·.length)).sum + 2 * (PyData.shownAll (D.pys xs)).length := by
      generalize PyData.shownAll (D.pys xs) = l
      induction l with
      | nil => rfl
      | cons a l ih => simp only [List.map_cons, List.sum_cons, List.length_cons, ih]; omega
    omega
  | .dK _, h => by cases h
  | .dT _, h => by cases h
  | .raw _, h => by cases h
  | .scr _, h => by cases h
theorem D.szs_shown : ∀ ds : List D, D.okds ds = true → ((PyData.shownAll (D.pys ds)).map fun t => t.length + 2).sum ≤ D.szs ds
  | [], _ => by simp [D.pys, PyData.shownAll, D.szs]
  | d :: ds, h => by
    have h' : (d.okd && D.okds ds) = true := h
    rw [Bool.and_eq_true] at h'
    have a := D.sz_shown d h'.1
    have b := D.szs_shown ds h'.2
    simp only [D.pys, PyData.shownAll, List.map_cons, List.sum_cons, D.szs]
    omega
end
/-- small: may be compared and shown in n signs, not deeper than k -/
structure D.sm (k n : Nat) (d : D) : Prop where
  ok : d.okd = true
  sz : d.sz ≤ n
  dep : d.dep ≤ k
theorem D.sm.cm {k n : Nat} {d : D} (h : d.sm k n) (hk : k ≤ 64 := by decide) : d.cm := ⟨D.okd_lay d h.ok, Nat.le_trans h.dep hk⟩
theorem D.sm.sw {k n : Nat} {d : D} (h : d.sm k n) (hk : k ≤ 64 := by decide) (hn : n ≤ 2 ^ 24 := by decide) : d.sw := ⟨D.okd_lay d h.ok, Nat.le_trans h.dep hk, D.okd_sho d h.ok, Nat.le_trans (D.sz_shown d h.ok) (Nat.le_trans h.sz hn)⟩
theorem D.sm.mono {k n k' n' : Nat} {d : D} (h : d.sm k n) (hk : k ≤ k') (hn : n ≤ n') : d.sm k' n' := ⟨h.ok, Nat.le_trans h.sz hn, Nat.le_trans h.dep hk⟩
/-- each of them small -/
structure D.sms (k n : Nat) (ds : List D) : Prop where
  ok : D.okds ds = true
  sz : D.szs ds ≤ n
  dep : D.deps ds ≤ k
theorem D.sms.nil {k n : Nat} : D.sms k n [] := ⟨rfl, Nat.zero_le _, Nat.zero_le _⟩
theorem D.sms.cons {k n m : Nat} {d : D} {ds : List D} (h : d.sm k n) (hs : D.sms k m ds) : D.sms k (n + 2 + m) (d :: ds) :=
  ⟨by show (d.okd && D.okds ds) = true; rw [h.ok, hs.ok]; rfl, by have := h.sz; have := hs.sz; show d.sz + 2 + D.szs ds ≤ _; omega, Nat.max_le.mpr ⟨h.dep, hs.dep⟩⟩
theorem D.sms.all {k n m : Nat} : ∀ {ds : List D}, (∀ d ∈ ds, d.sm k n) → ds.length ≤ m → D.sms k ((n + 2) * m) ds
  | [], _, _ => .nil
  | d :: ds, h, hl => by
    cases m with
    | zero => simp at hl
    | succ m =>
      have q := D.sms.cons (h d List.mem_cons_self) (D.sms.all (m := m) (fun z hz => h z (List.mem_cons_of_mem _ hz)) (by simpa using hl))
      refine ⟨q.ok, Nat.le_trans q.sz ?_, q.dep⟩
      rw [Nat.mul_succ]; omega
theorem D.sms.mono {k n k' n' : Nat} {d : List D} (h : D.sms k n d) (hk : k ≤ k') (hn : n ≤ n') : D.sms k' n' d := ⟨h.ok, Nat.le_trans h.sz hn, Nat.le_trans h.dep hk⟩
theorem D.sm.tup {k n : Nat} {ds : List D} (h : D.sms k n ds) : (D.tup ds).sm (k + 1) (n + 5) := ⟨h.ok, by have := h.sz; show D.szs ds + 5 ≤ _; omega, by have := h.dep; show D.deps ds + 1 ≤ _; omega⟩
theorem D.sm.lst {k n : Nat} {ds : List D} (h : D.sms k n ds) : (D.lst ds).sm (k + 1) (n + 5) := ⟨h.ok, by have := h.sz; show D.szs ds + 5 ≤ _; omega, by have := h.dep; show D.deps ds + 1 ≤ _; omega⟩
theorem D.sm.int {k : Nat} {i : Int} (h : i.natAbs < 10 ^ 30) : (D.int i).sm k 31 := ⟨decide_eq_true h, Nat.le_refl _, Nat.zero_le _⟩
theorem D.sm.str {k n : Nat} {x : Str} (h : PyData.strOk x = true) (hn : x.length ≤ n) : (D.str x).sm k (10 * n + 2) := ⟨h, by show 10 * x.length + 2 ≤ _; omega, Nat.zero_le _⟩
theorem D.sm.non {k : Nat} : D.non.sm k 5 := ⟨rfl, Nat.le_refl _, Nat.zero_le _⟩
theorem D.sm.bl {k : Nat} {b : Bool} : (D.bl b).sm k 5 := ⟨rfl, Nat.le_refl _, Nat.zero_le _⟩
/-! ### texts -/
theorem strOk_lit (s : String) : PyData.strOk (Str.ofString s) = true := by
  rw [Str.ofString_eq_toList]
  unfold PyData.strOk
  rw [Array.all_eq_true']
  intro c hc
  simp at hc
  obtain ⟨ch, _, rfl⟩ := hc
  have := ch.valid
  rcases ch.valid with h | h
  · exact decide_eq_true (by have : ch.toNat = ch.val.toNat := rfl; omega)
  · exact decide_eq_true (by have : ch.toNat = ch.val.toNat := rfl; omega)
theorem strOk_append {a b : Str} (h1 : PyData.strOk a = true) (h2 : PyData.strOk b = true) : PyData.strOk (a ++ b) = true := by
  unfold PyData.strOk at *
  rw [Str.cps_append, Array.all_append, h1, h2]; rfl
theorem strOk_join {sep : Str} (h : PyData.strOk sep = true) : ∀ ts : List Str, (∀ t ∈ ts, PyData.strOk t = true) → PyData.strOk (Str.join sep ts) = true
  | [], _ => by simp [Str.join, PyData.strOk, Str.empty]
  | [x], hx => hx x List.mem_cons_self
  | x :: y :: r, hx => strOk_append (strOk_append (hx x List.mem_cons_self) h) (strOk_join h (y :: r) fun t ht => hx t (List.mem_cons_of_mem _ ht))
theorem toNat_inj : ∀ l m : List Char, l.map Char.toNat = m.map Char.toNat → l = m
  | [], [], _ => rfl
  | a :: l, b :: m, h => by
    simp only [List.map_cons, List.cons.injEq] at h
    have : a = b := Char.ext (UInt32.toNat.inj h.1)
    rw [this, toNat_inj l m h.2]
  | [], _ :: _, h => by simp at h
  | _ :: _, [], h => by simp at h
theorem lit_eq {a b : String} : (Str.ofString a = Str.ofString b) ↔ a = b := by
  constructor
  · intro h
    rw [Str.ofString_eq_toList, Str.ofString_eq_toList] at h
    have h1 := congrArg (fun s : Str => s.cps.toList) h
    simp only at h1
    have := toNat_inj _ _ h1
    exact String.toList_inj.mp this
  · intro h; rw [h]
theorem txt_join (sep : Str) (ts : List Str) : Txt.join sep ts = Str.join sep ts := StrLaws.glued_eq_join sep ts
theorem join_nil (sep : Str) : Str.join sep [] = Str.empty := rfl
theorem join_one (sep x : Str) : Str.join sep [x] = x := rfl
theorem join_two (sep x y : Str) (r : List Str) : Str.join sep (x :: y :: r) = x ++ sep ++ Str.join sep (y :: r) := rfl
theorem strsOf_map : ∀ bs : List Str, strsOf (bs.map D.str) = some bs
  | [] => rfl
  | b :: bs => by simp [strsOf, strsOf_map bs]
theorem strsOf_mapf {α : Type} (f : α → Str) : ∀ bs : List α, strsOf (bs.map fun a => D.str (f a)) = some (bs.map f)
  | [] => rfl
  | b :: bs => by simp [strsOf, strsOf_mapf f bs]
/-- the law's own promise -/
theorem law_sp {sp : dSp} {H : Hp} {a : Addr} {ns : List Int} (h : ∀ ns : List Int, ns.length ≤ 63 → sp [.scr ns] none (fun x _ => x = .bl true) fun _ _ => False) (hl : ns.length ≤ 63) (hS : SqL K H a (ns.map V.int)) (ht : Sb H H := Sb.same) : spD K 1 sp [.ref a] H (fun v _ => v = .bl true) fun _ _ _ => False := by
  refine ⟨H, [.scr ns], none, _, _, ht, trivial, .cons (.scr hS) .nil, rfl, h ns hl, fun x p' v S' H' e _ n => ?_, fun c p' cls od S' H' w _ _ => w⟩
  subst e
  cases n
  rfl
/-! ### places by numbers that are written -/
theorem atI_nn {α : Type} {xs : List α} {i : Int} (h : 0 ≤ i) : atI xs i = xs[i.toNat]? := by
  unfold atI ixN
  rw [if_pos h]
  by_cases h1 : i < (xs.length : Int)
  · rw [if_pos h1]; rfl
  · rw [if_neg h1, List.getElem?_eq_none (by omega)]; rfl
theorem atI_ofNat {α : Type} {xs : List α} {n : Nat} : atI xs (no_index (@OfNat.ofNat Int n instOfNat)) = xs[(@OfNat.ofNat Nat n (instOfNatNat n))]? := atI_nn (Int.natCast_nonneg n)
theorem atI_cast {α : Type} {xs : List α} {n : Nat} : atI xs (n : Int) = xs[n]? := atI_nn (Int.natCast_nonneg n)
theorem atI_neg1 {α : Type} {xs : List α} : atI xs (-1) = xs[xs.length - 1]? := by
  unfold atI ixN
  rw [if_neg (by decide)]
  by_cases h1 : -(xs.length : Int) ≤ -1
  · rw [if_pos h1]
    show xs[(-1 + (xs.length : Int)).toNat]? = _
    congr 1; omega
  · rw [if_neg h1, List.getElem?_eq_none (by omega)]; rfl
theorem ixN_ofNat {m n : Nat} : ixN m (no_index (@OfNat.ofNat Int n instOfNat)) = if n < m then some n else none := by
  show (if (0 : Int) ≤ (n : Int) then (if (n : Int) < (m : Int) then some n else none) else _) = _
  rw [if_pos (Int.natCast_nonneg n)]
  by_cases h : n < m
  · rw [if_pos h, if_pos (show (n : Int) < (m : Int) by omega)]
  · rw [if_neg h, if_neg (show ¬((n : Int) < (m : Int)) by omega)]
theorem mul_bnd {a b A B : Int} (h1 : 0 ≤ a) (h2 : a ≤ A) (h3 : 0 ≤ b) (h4 : b ≤ B) : 0 ≤ a * b ∧ a * b ≤ A * B :=
  ⟨Int.mul_nonneg h1 h3, Int.mul_le_mul h2 h4 h3 (Int.le_trans h1 h2)⟩
/-- the cell that the k-th draw reads -/
theorem cell_at {ns : List Int} {k : Int} (h0 : (0 : Int) < ns.length) : ∃ c, atI (ns.map D.int) (k % ns.length) = some (.int c) := by
  have h1 := Int.emod_nonneg k (show (ns.length : Int) ≠ 0 by omega)
  have h2 := Int.emod_lt_of_pos k h0
  have h3 : (k % (ns.length : Int)).toNat < ns.length := by omega
  exact ⟨ns[(k % (ns.length : Int)).toNat], by rw [atI_nn h1, List.getElem?_map, List.getElem?_eq_getElem h3]; rfl⟩
theorem lays_ints : ∀ zs : List Int, D.lays (zs.map D.int) = true
  | [] => rfl
  | z :: zs => by show (true && D.lays (zs.map D.int)) = true; rw [lays_ints zs]; rfl
theorem deps_ints : ∀ zs : List Int, D.deps (zs.map D.int) = 0
  | [] => rfl
  | z :: zs => by show max 0 (D.deps (zs.map D.int)) = 0; rw [deps_ints zs]; rfl
theorem lays_map {α : Type} {f : α → D} : ∀ {l : List α}, (∀ a ∈ l, (f a).lay = true) → D.lays (l.map f) = true
  | [], _ => rfl
  | a :: l, h => by
    show ((f a).lay && D.lays (l.map f)) = true
    rw [h a List.mem_cons_self, lays_map fun b hb => h b (List.mem_cons_of_mem _ hb)]; rfl
theorem deps_map {α : Type} {f : α → D} {n : Nat} : ∀ {l : List α}, (∀ a ∈ l, (f a).dep ≤ n) → D.deps (l.map f) ≤ n
  | [], _ => Nat.zero_le _
  | a :: l, h => Nat.max_le.mpr ⟨h a List.mem_cons_self, deps_map fun b hb => h b (List.mem_cons_of_mem _ hb)⟩
theorem cut_to {α : Type} {xs : List α} {n : Nat} : Ev.cutD xs none (some (n : Int)) = xs.take n := by
  unfold Ev.cutD
  rw [HT.sIx_none, HT.sIx_nat]
  simp
theorem cut_from {α : Type} {xs : List α} {n : Nat} : Ev.cutD xs (some (n : Int)) none = xs.drop n := by
  unfold Ev.cutD
  rw [HT.sIx_none, HT.sIx_nat]
  by_cases h : n ≤ xs.length
  · rw [Nat.min_eq_left h, List.take_of_length_le (by simp)]
  · rw [Nat.min_eq_right (by omega), List.drop_of_length_le (l := xs) (i := n) (by omega), List.drop_of_length_le (l := xs) (i := xs.length) (by omega)]; simp
theorem cut_mid {α : Type} {xs : List α} {m n : Nat} : Ev.cutD xs (some (m : Int)) (some (n : Int)) = (xs.take n).drop m := by
  unfold Ev.cutD
  rw [HT.sIx_nat, HT.sIx_nat]
  apply List.ext_getElem?
  intro i
  simp only [List.getElem?_take, List.getElem?_drop]
  by_cases h : i < min n xs.length - min m xs.length
  · rw [if_pos h, if_pos (by omega), Nat.min_eq_left (by omega)]
  · rw [if_neg h]
    by_cases h2 : m + i < n
    · rw [if_pos h2, List.getElem?_eq_none (by omega)]
    · rw [if_neg h2]
theorem cut_toN {α : Type} {xs : List α} {n : Nat} : Ev.cutD xs none (some (no_index (@OfNat.ofNat Int n instOfNat))) = xs.take n := cut_to
theorem cut_fromN {α : Type} {xs : List α} {n : Nat} : Ev.cutD xs (some (no_index (@OfNat.ofNat Int n instOfNat))) none = xs.drop n := cut_from
theorem kit_tab : kitB "NoneType" "bool" = some false ∧
  kitB "NoneType" "int" = some false ∧
  kitB "NoneType" "str" = some false ∧
  kitB "NoneType" "tuple" = some false ∧
  kitB "NoneType" "list" = some false ∧
  kitB "NoneType" "dict" = some false ∧
  kitB "bool" "bool" = some true ∧
  kitB "bool" "int" = some true ∧
  kitB "bool" "str" = some false ∧
  kitB "bool" "tuple" = some false ∧
  kitB "bool" "list" = some false ∧
  kitB "bool" "dict" = some false ∧
  kitB "int" "bool" = some false ∧
  kitB "int" "int" = some true ∧
  kitB "int" "str" = some false ∧
  kitB "int" "tuple" = some false ∧
  kitB "int" "list" = some false ∧
  kitB "int" "dict" = some false ∧
  kitB "str" "bool" = some false ∧
  kitB "str" "int" = some false ∧
  kitB "str" "str" = some true ∧
  kitB "str" "tuple" = some false ∧
  kitB "str" "list" = some false ∧
  kitB "str" "dict" = some false ∧
  kitB "tuple" "bool" = some false ∧
  kitB "tuple" "int" = some false ∧
  kitB "tuple" "str" = some false ∧
  kitB "tuple" "tuple" = some true ∧
  kitB "tuple" "list" = some false ∧
  kitB "tuple" "dict" = some false ∧
  kitB "list" "bool" = some false ∧
  kitB "list" "int" = some false ∧
  kitB "list" "str" = some false ∧
  kitB "list" "tuple" = some false ∧
  kitB "list" "list" = some true ∧
  kitB "list" "dict" = some false ∧
  kitB "dict" "bool" = some false ∧
  kitB "dict" "int" = some false ∧
  kitB "dict" "str" = some false ∧
  kitB "dict" "tuple" = some false ∧
  kitB "dict" "list" = some false ∧
  kitB "dict" "dict" = some true := by
  refine ⟨?_, ?_, ?_, ?_, ?_, ?_, ?_, ?_, ?_, ?_, ?_, ?_, ?_, ?_, ?_, ?_, ?_, ?_, ?_, ?_, ?_, ?_, ?_, ?_, ?_, ?_, ?_, ?_, ?_, ?_, ?_, ?_, ?_, ?_, ?_, ?_, ?_, ?_, ?_, ?_, ?_, ?_⟩ <;> decide +kernel
/-- a comprehension over what is ι a for each a of l, that makes f a of it, nothing else changed -/
theorem wLC_maps {α : Type} {g : dG} {tt : dT} {te : dE} {vs : List Nat} {Q : List D → DS → Prop} {δ0 : DS} {ι f : α → D} : ∀ {l : List α}, (∀ a ∈ l, ∀ acc (k : List D → DS → Prop), acc.length < sizeLine → k (acc ++ [f a]) δ0 → g (ι a) δ0 fun δ1 => tt W0 δ1 fun z δ2 => match z with
      | true => te W0 δ2 fun y δ3 => acc.length < sizeLine ∧ k (acc ++ [y]) (wipeD δ3 vs)
      | false => k acc (wipeD δ2 vs)) → l.length ≤ sizeLine → Q (l.map f) δ0 → wLC g tt te vs Q (l.map ι) [] δ0 := by
  intro l h hl h0
  have go : ∀ (r : List α) (acc : List D), (∀ a ∈ r, a ∈ l) → acc.length + r.length ≤ sizeLine → acc ++ r.map f = l.map f → wLC g tt te vs Q (r.map ι) acc δ0 := by
    intro r
    induction r with
    | nil => intro acc _ _ e; rw [List.map_nil, List.append_nil] at e; subst e; exact h0
    | cons a r ih =>
      intro acc hm hz e
      rw [List.length_cons] at hz
      exact h a (hm a List.mem_cons_self) acc (fun acc' δ' => wLC g tt te vs Q (r.map ι) acc' δ') (by omega) (ih (acc ++ [f a]) (fun b hb => hm b (List.mem_cons_of_mem _ hb)) (by simp; omega) (by rw [← e]; simp))
  exact go l [] (fun _ h => h) (by simpa using hl) rfl
theorem intsFrom_len {lo : Int} {n : Nat} : (Ev.intsFrom lo n).length = n := by simp [Ev.intsFrom]
/-! ### a repr is a text of true signs -/
def sgn (c : Nat) : Prop := c < 0x110000
theorem hex_sgn {n : Nat} : ∀ x ∈ (Nat.toDigits 16 n).map Char.toNat, sgn x := fun x h => by
  obtain ⟨ch, _, rfl⟩ := List.mem_map.mp h
  have e : ch.toNat = ch.val.toNat := rfl
  rcases ch.valid with h | h <;> (unfold sgn; omega)
theorem pad_sgn {w : Nat} {l : List Nat} (h : ∀ x ∈ l, sgn x) : ∀ x ∈ List.replicate (w - l.length) 48 ++ l, sgn x := fun x hx => by
  rcases List.mem_append.mp hx with hx | hx
  · rw [(List.mem_replicate.mp hx).2]; unfold sgn; omega
  · exact h x hx
theorem reprChar_sgn {q c : Nat} (hc : sgn c) : ∀ x ∈ Builtin.Str.reprChar q c, sgn x := by
  have two : ∀ {a b : Nat}, sgn a → sgn b → ∀ x ∈ [a, b], sgn x := fun ha hb x hx => by
    rcases List.mem_cons.mp hx with rfl | hx
    · exact ha
    · rw [List.mem_singleton] at hx; subst hx; exact hb
  have lit : ∀ n : Nat, n < 200 → sgn n := fun n h => by unfold sgn; omega
  have app : ∀ {l m : List Nat}, (∀ x ∈ l, sgn x) → (∀ x ∈ m, sgn x) → ∀ x ∈ l ++ m, sgn x := fun h1 h2 x hx => (List.mem_append.mp hx).elim (h1 x) (h2 x)
  unfold Builtin.Str.reprChar
  split
  · exact two (lit 92 (by decide)) hc
  split
  · exact two (lit 92 (by decide)) (lit _ (by decide))
  split
  · exact two (lit 92 (by decide)) (lit _ (by decide))
  split
  · exact two (lit 92 (by decide)) (lit _ (by decide))
  split
  · intro x hx; rw [List.mem_singleton] at hx; subst hx; exact hc
  split
  · exact app (two (lit _ (by decide)) (lit _ (by decide))) (pad_sgn hex_sgn)
  split
  · exact app (two (lit _ (by decide)) (lit _ (by decide))) (pad_sgn hex_sgn)
  · exact app (two (lit _ (by decide)) (lit _ (by decide))) (pad_sgn hex_sgn)
theorem strOk_iff {x : Str} : PyData.strOk x = true ↔ ∀ c ∈ x.cps, sgn c := by
  unfold PyData.strOk sgn
  rw [Array.all_eq_true']
  exact ⟨fun h c hc => of_decide_eq_true (h c hc), fun h c hc => decide_eq_true (h c hc)⟩
theorem strOk_repr {x : Str} (h : PyData.strOk x = true) : PyData.strOk (reprText x) = true := by
  rw [strOk_iff] at h ⊢
  have hq : sgn (reprQuote x) := by unfold reprQuote; split <;> (unfold sgn; omega)
  have go : ∀ (l : List Nat) (acc : Array Nat), (∀ c ∈ l, sgn c) → (∀ c ∈ acc, sgn c) → ∀ c ∈ l.foldl (fun out c => out ++ (Builtin.Str.reprChar (reprQuote x) c).toArray) acc, sgn c := by
    intro l
    induction l with
    | nil => intro acc _ h2; exact h2
    | cons a l ih =>
      intro acc h1 h2
      refine ih _ (fun c hc => h1 c (List.mem_cons_of_mem _ hc)) fun c hc => ?_
      rcases Array.mem_append.mp hc with hc | hc
      · exact h2 c hc
      · exact reprChar_sgn (h1 a List.mem_cons_self) c (by simpa using hc)
  intro c hc
  unfold reprText at hc
  rcases Array.mem_push.mp hc with hc | hc
  · rw [← Array.foldl_toList] at hc
    exact go x.cps.toList _ (fun c hc => h c (by simpa using hc)) (fun c hc => by
      have : c = reprQuote x := by simpa using hc
      rw [this]; exact hq) c hc
  · rw [hc]; exact hq
mutual
theorem D.okd_rep : ∀ d : D, d.okd = true → PyData.strOk d.py.shown = true
  | .non, _ => by simp only [D.py, PyData.shown]; exact strOk_lit _
  | .bl b, _ => by simp only [D.py, PyData.shown]; split <;> exact strOk_lit _
  | .int i, _ => by simp only [D.py, PyData.shown]; exact strOk_lit _
  | .str x, h => by simp only [D.py, PyData.shown]; exact strOk_repr h
  | .tup xs, h => by
    simp only [D.py, PyData.shown]
    unfold tupleText
    exact strOk_append (strOk_append (strOk_lit _) (strOk_join (strOk_lit _) _ (D.okds_rep xs h))) (strOk_lit _)
  | .lst xs, h => by
    simp only [D.py, PyData.shown]
    rw [listText_eq_join]
    exact strOk_append (strOk_append (strOk_lit _) (strOk_join (strOk_lit _) _ (D.okds_rep xs h))) (strOk_lit _)
  | .dK _, h => by cases h
  | .dT _, h => by cases h
  | .raw _, h => by cases h
  | .scr _, h => by cases h
theorem D.okds_rep : ∀ ds : List D, D.okds ds = true → ∀ t ∈ PyData.shownAll (D.pys ds), PyData.strOk t = true
  | [], _ => by simp [D.pys, PyData.shownAll]
  | d :: ds, h => by
    have h' : (d.okd && D.okds ds) = true := h
    rw [Bool.and_eq_true] at h'
    intro t ht
    simp only [D.pys, PyData.shownAll, List.mem_cons] at ht
    rcases ht with rfl | ht
    · exact D.okd_rep d h'.1
    · exact D.okds_rep ds h'.2 t ht
end
theorem D.sm.rep {k n : Nat} {d : D} (h : d.sm k n) : PyData.strOk d.rep = true := D.okd_rep d h.ok
theorem eqs_nil {ds : List D} : D.eqs ds [] = decide (ds = []) := by
  cases ds <;> simp [D.eqs]
theorem lst_nil {ds : List D} : D.eq (.lst ds) (.lst []) = decide (ds = []) := by rw [eq_lst, eqs_nil]
theorem tup_nil {ds : List D} : D.eq (.tup ds) (.tup []) = decide (ds = []) := by rw [eq_tup, eqs_nil]
end Ev

/-! # sorted of data; dicts of one's own -/
namespace Ev
open PySem PySem.Spec PyProof.Rows L2
variable {K : PySem.W.Frag} {S S' H H' : Hp} {B : Bs} {δ : DS} {σ : L2.St}
/-! ### sorted, whatever the items are taken from -/
section
variable {prog : Program} {w : World} {A : Around} {E : Value → Shared → Prop} {s : Shared} {β : Type} {R : Value → β → Prop} {enc : β → PyData} {vs : List Value} {bs : List β}
/-- what is walked by a source's own iterator, collected: the heap is not smaller behind -/
theorem collect_src {T : String} {r d : Addr} {n : Nat} {P : Nat → Value → Prop} {OK : Heap → Prop} {C : List Value → Shared → Prop} (KS : PySem.W.KdlSrc prog w T r d n P OK) (hh : A.handled = none) (ok : OK s.heap) (hn : n ≤ sizeLine)
    (h : ∀ (h' : Heap) (tk : Nat) (acc : Array Value), (∀ b o, s.heap.get? b = some o → h'.get? b = some o) → s.heap.objs.size ≤ h'.objs.size → ItemsOf P acc n → C acc.toList { s with heap := h', toks := tk }) : wpAny (model prog w) A (collect (.ref r)) C E s := by
  have lt := KS.there _ ok
  unfold collect
  refine wpAny_bind (wpAny_runValue (codeAny_builtin PyProof.Rows.entry_proto_collect' ?_)); rw [Around.under_plainId PySem.F.plain_proto_collect _]
  show wpAny _ A.in1 (newList [] >>= fun z => again (.builtin "list.__iadd__" ⟨[z, .ref r], []⟩)) _ _ s
  refine wpAny_bind (wpAny_newObj_type (wpAny_pure ⟨plainId_quiet PySem.F.plain_list_iadd _, codeAny_builtin PyProof.Rows.entry_list_iadd' ?_⟩)); rw [Around.under_plainId PySem.F.plain_list_iadd _]
  have new : (s.heap.push { cls := .type "list", data := .seq ([] : List Value).toArray }).get? s.heap.objs.size = some { cls := .type "list", data := .seq #[] } := Heap.get?_push_size _ rfl
  have key := PySem.W.kdl_extend (prog := prog) (w := w) (A := A) (s := { s with heap := s.heap.push { cls := .type "list", data := .seq ([] : List Value).toArray } })
    (R := fun (q : Result) (s' : Shared) => ∃ (h' : Heap) (tk : Nat) (acc : Array Value) (c : Nat), q = .ok (.ret (.ref s.heap.objs.size)) ∧ s' = { s with heap := h', toks := tk } ∧ (∀ b o, s.heap.get? b = some o → h'.get? b = some o) ∧
      h'.get? s.heap.objs.size = some { cls := .type "list", dict := none, data := .seq acc c, slots := #[] } ∧ ItemsOf P acc n)
    KS hh (KS.keep _ _ ok fun b _ o z => Heap.get?_push_of_some _ z) s.heap.objs.size (Nat.ne_of_gt lt.1) (Nat.ne_of_gt lt.2) (.ref s.heap.objs.size) 0 new
    (fun h' tk acc c k at_ it => ⟨h', tk, acc, c, rfl, rfl, fun b o z => k b o (Nat.ne_of_lt (Heap.lt_size z)) (Heap.get?_push_of_some _ z), at_, it⟩) hn
  have fin : ∀ (q : Result) (s' : Shared), (∃ (h' : Heap) (tk : Nat) (acc : Array Value) (c : Nat), q = .ok (.ret (.ref s.heap.objs.size)) ∧ s' = { s with heap := h', toks := tk } ∧ (∀ b o, s.heap.get? b = some o → h'.get? b = some o) ∧
      h'.get? s.heap.objs.size = some { cls := .type "list", dict := none, data := .seq acc c, slots := #[] } ∧ ItemsOf P acc n) → ∃ u, q = .ok (.ret u) ∧ wpAny (model prog w) A (match u with
      | .ref a => do match (← load a).data with
          | .seq xs _ => pure xs.toList
          | _ => unsupported "internal:collect"
      | _ => unsupported "internal:collect") C E s' := by
    rintro q s' ⟨h', tk, acc, c, rfl, rfl, k, at_, it⟩
    refine ⟨_, rfl, ?_⟩
    show wpAny _ A (load s.heap.objs.size >>= _) _ _ _
    exact wpAny_bind (wpAny_load at_ (wpAny_pure (h h' tk acc k (Nat.le_of_lt (Heap.lt_size at_)) it)))
  refine wpAny_mono key (fun g s' x => ?_) fun e s' x => ?_
  · match g, x with
    | .done f, x =>
      obtain ⟨u, e, q⟩ := fin _ _ x
      cases e
      exact q
    | .again c1, x =>
      refine ⟨x.1, codeAny_mono x.2 fun q s2 y => ?_⟩
      obtain ⟨u, rfl, z⟩ := fin _ _ y
      exact z
  · obtain ⟨u, e, _⟩ := fin _ _ x
    cases e
theorem sorted_col {v : Value} {Q : Value → Shared → Prop} (hcol : ∀ (C : List Value → Shared → Prop) (E' : Value → Shared → Prop), (∀ h' tk, (∀ b o, s.heap.get? b = some o → h'.get? b = some o) → s.heap.objs.size ≤ h'.objs.size → C vs { s with heap := h', toks := tk }) → wpAny (model prog w) A.in1 (collect v) C E' s)
    (e : PySem.W.EachIs R vs bs) (er : PySem.W.EachIs (fun v b => ∃ as, Reads s.heap v (enc b) as) vs bs) (hal : PySem.W.AllAlike (bs.map enc)) (hk : PySem.W.Sortable (bs.map enc)) (hL : bs.length ≤ sizeLine) (hu : ∀ b, b ∈ bs → A.units + 2 + (enc b).depth < cLine)
    (h : ∀ (h' : Heap) (tk : Nat) (d : Addr) (n : Nat) (out : List Value), out.length = bs.length → PySem.W.EachIs R out (bs.mergeSort (PySem.W.dataLe false enc)) → (∀ b o, s.heap.get? b = some o → h'.get? b = some o) → s.heap.objs.size ≤ d → h'.get? d = some (seqObj "list" out.toArray n) → Q (.ref d) { s with heap := h', toks := tk }) :
    wpAny (model prog w) A (call (.builtin "sorted") [v]) Q E s := by
  have hz : vs.length ≤ sizeLine := by rw [e.length]; exact hL
  refine PySem.Calls.call_function_entry kind_sorted plain_sorted entry_sorted (args_sorted1 _) ?_
  unfold Builtin.«sorted»
  refine wpAny_bind (m := checkCount "sorted" 1 1 _) (wpAny_pure ?_)
  refine wpAny_bind (hcol _ _ fun h1 tk k1 hs => ?_)
  refine wpAny_bind (wpAny_newList ?_ hz)
  have ho : (h1.push (seqObj "list" vs.toArray 0)).get? h1.objs.size = some (seqObj "list" vs.toArray 0) := Heap.get?_push_size _ rfl
  have k2 : ∀ b o, s.heap.get? b = some o → (h1.push (seqObj "list" vs.toArray 0)).get? b = some o := fun b o q => Heap.get?_push_of_some _ (k1 b o q)
  have ne : ∀ b o, s.heap.get? b = some o → b ≠ h1.objs.size := fun b o q => Nat.ne_of_lt (Heap.lt_size (k1 b o q))
  have er' : PySem.W.EachIs (fun v b => ∃ as, Reads (PySem.W.sortingHeap (h1.push (seqObj "list" vs.toArray 0)) h1.objs.size vs) v (enc b) as) vs bs := er.mono fun _ _ ⟨as, r⟩ => ⟨as, PyProof.Rows.Reads.keeps (fun b o q => PySem.W.sortingHeap_old (ne b o q) (k2 b o q)) r⟩
  refine wpAny_bind (wpAny_holding (wpAny_call_entry slot_list_sort ⟨_, ho, rfl⟩ entry_list_sort ?body (args_list_sort _)))
  case body =>
    refine PySem.W.list_sort_vals (κ := PySem.W.dataKind (PySem.W.sortingHeap (h1.push (seqObj "list" vs.toArray 0)) h1.objs.size vs) (bs.map enc)) (s := { s with heap := h1.push (seqObj "list" vs.toArray 0), toks := tk }) ho
      (PySem.W.SortsAt.data (s := { s with heap := PySem.W.sortingHeap (h1.push (seqObj "list" vs.toArray 0)) h1.objs.size vs, toks := tk }) (PySem.W.each_map (R := fun v d => ∃ as, Reads (PySem.W.sortingHeap (h1.push (seqObj "list" vs.toArray 0)) h1.objs.size vs) v d as) enc er') hal hk (PySem.W.bound_map hu)) hz ⟨_, rfl, ?_⟩
    refine wpAny_pure ⟨_, rfl, ?_⟩
    obtain ⟨n, at_⟩ := sortedHeap_at (out := (PySem.W.sortVals (PySem.W.dataKind (PySem.W.sortingHeap (h1.push (seqObj "list" vs.toArray 0)) h1.objs.size vs) (bs.map enc)) false vs vs).toArray) ho
    exact h _ _ _ n _ (by rw [PySem.W.sortVals_length false rfl]; exact e.length) (PySem.W.sortVals_data false e er' hal) (fun b o q => (sortedHeap_old (ne b o q) (Heap.lt_size (k2 b o q))).trans (k2 b o q)) hs at_
/-- a list's, a tuple's items, collected -/
theorem collect_seqS {T : String} {a : Addr} {o : Obj} {n : Nat} {C : List Value → Shared → Prop} (hT : T = "list" ∨ T = "tuple") (ho : s.heap.get? a = some o) (hc : o.cls = .type T) (hd : o.data = .seq vs.toArray n) (hz : vs.length ≤ sizeLine)
    (h : ∀ (h' : Heap) (tk : Nat), (∀ b o, s.heap.get? b = some o → h'.get? b = some o) → s.heap.objs.size ≤ h'.objs.size → C vs { s with heap := h', toks := tk }) : wpAny (model prog w) A (collect (.ref a)) C E s := by
  unfold collect
  refine wpAny_bind (wpAny_runValue (codeAny_builtin PyProof.Rows.entry_proto_collect' ?_)); rw [Around.under_plainId PySem.F.plain_proto_collect _]
  show wpAny _ A.in1 (newList [] >>= fun z => again (.builtin "list.__iadd__" ⟨[z, .ref a], []⟩)) _ _ s
  refine wpAny_bind (wpAny_newObj_type (wpAny_pure ⟨plainId_quiet PySem.F.plain_list_iadd _, codeAny_builtin PyProof.Rows.entry_list_iadd' ?_⟩)); rw [Around.under_plainId PySem.F.plain_list_iadd _]
  have new : (s.heap.push { cls := .type "list", data := .seq ([] : List Value).toArray }).get? s.heap.objs.size = some { cls := .type "list", data := .seq #[] 0 } := Heap.get?_push_size _ rfl
  have at_ := Heap.get?_update_self (Obj.mapSeq (· ++ vs.toArray)) new rfl
  have key := wpAny_extend_seq (prog := prog) (w := w) (hsz := by rw [List.size_toArray]; exact hz) (A := A) (s := { s with heap := s.heap.push { cls := .type "list", data := .seq ([] : List Value).toArray } })
    (R := fun (q : Result) (s' : Shared) => q = .ok (.ret (.ref s.heap.objs.size)) ∧ s' = { s with heap := (s.heap.push { cls := .type "list", data := .seq ([] : List Value).toArray }).update s.heap.objs.size (Obj.mapSeq (· ++ vs.toArray)) })
    s.heap.objs.size a (.ref s.heap.objs.size) 0 hT new (Heap.get?_push_of_some _ ho) hc hd ⟨rfl, rfl⟩
  have fin : ∀ (q : Result) (s' : Shared), (q = .ok (.ret (.ref s.heap.objs.size)) ∧ s' = { s with heap := (s.heap.push { cls := .type "list", data := .seq ([] : List Value).toArray }).update s.heap.objs.size (Obj.mapSeq (· ++ vs.toArray)) }) →
      ∃ u, q = .ok (.ret u) ∧ wpAny (model prog w) A (match u with
      | .ref a => do match (← load a).data with
          | .seq xs _ => pure xs.toList
          | _ => unsupported "internal:collect"
      | _ => unsupported "internal:collect") C E s' := by
    rintro q s' ⟨rfl, rfl⟩
    refine ⟨_, rfl, ?_⟩
    show wpAny _ A (load s.heap.objs.size >>= _) _ _ _
    refine wpAny_bind (wpAny_load at_ (wpAny_pure ?_))
    show C ((#[] : Array Value) ++ vs.toArray).toList _
    rw [show ((#[] : Array Value) ++ vs.toArray).toList = vs by simp]
    exact h _ s.toks (fun b o' z => (Heap.get?_update_other _ _ (Nat.ne_of_gt (Heap.lt_size z))).trans (Heap.get?_push_of_some _ z)) (Nat.le_of_lt (Heap.lt_size at_))
  refine wpAny_mono key (fun g s' x => ?_) fun e s' x => ?_
  · match g, x with
    | .done f, x =>
      obtain ⟨u, e, q⟩ := fin _ _ x
      cases e
      exact q
    | .again c1, x =>
      refine ⟨x.1, codeAny_mono x.2 fun q s2 y => ?_⟩
      obtain ⟨u, rfl, z⟩ := fin _ _ y
      exact z
  · obtain ⟨u, e, _⟩ := fin _ _ x
    cases e
end
/-! ### sorted over data -/
/-- may be sorted: every two of one form, tuples that are not empty, or no tuple and no None -/
def srtOk (ds : List D) : Prop := D.lays ds = true ∧ (∀ d ∈ ds, d.dep ≤ 64) ∧ PySem.W.AllAlike (ds.map D.py) ∧ PySem.W.Sortable (ds.map D.py) ∧ ds.length ≤ sizeLine
def sortD (ds : List D) : List D := ds.mergeSort (PySem.W.dataLe false D.py)
theorem lays_mem : ∀ {ds : List D}, D.lays ds = true → ∀ d ∈ ds, d.lay = true
  | d :: ds, h, x, hx => by
    have h' : (d.lay && D.lays ds) = true := h
    rw [Bool.and_eq_true] at h'
    rcases List.mem_cons.mp hx with rfl | hx
    · exact h'.1
    · exact lays_mem h'.2 x hx
section
variable {X : Cx} {pins : List (Addr × Obj)} {s : Shared}
theorem each_dn {S : Hp} : ∀ {vs : List V} {us : List Value} {ds : List D}, Vals vs us → DnA K S vs ds → PySem.W.EachIs (fun u d => ∃ v, RelV v u ∧ Dn K S v d) us ds
  | [], _, _, r, .nil => by rw [r.zero]; exact .nil
  | v :: vs, us, _, r, .cons h t => by
    cases r with
    | cons r1 r2 => exact .cons ⟨v, r1, h⟩ (each_dn r2 t)
theorem dn_each {S : Hp} : ∀ {us : List Value} {ds : List D}, PySem.W.EachIs (fun u d => ∃ v, RelV v u ∧ Dn K S v d) us ds → ∃ vs, Vals vs us ∧ DnA K S vs ds
  | _, _, .nil => ⟨[], .nil, .nil⟩
  | _, _, .cons ⟨v, r, h⟩ t => by
    obtain ⟨vs, r2, a⟩ := dn_each t
    exact ⟨v :: vs, .cons r r2, .cons h a⟩
theorem each_reads (I : Inv X pins σ H s) (ex : Ex S H) : ∀ {vs : List V} {us : List Value} {ds : List D}, Vals vs us → DnA X.K S vs ds → D.lays ds = true → PySem.W.EachIs (fun u d => ∃ as, Reads s.heap u d.py as) us ds
  | [], _, _, r, .nil, _ => by rw [r.zero]; exact .nil
  | v :: vs, us, d :: ds, r, .cons h t, l => by
    have h' : (d.lay && D.lays ds) = true := l
    rw [Bool.and_eq_true] at h'
    cases r with
    | cons r1 r2 => exact .cons (Dp.reads I _ _ _ ((h.mono ex).dp h'.1) r1) (each_reads I ex r2 t h'.2)
/-- the end of every sorted -/
theorem sorted_end (I : Inv X pins σ H s) (hu : X.A.units + 66 < cLine) (ex : Ex S H) {v : Value} {us : List Value} {vs : List V} {ds : List D} {Q : VK} (r : Vals vs us) (a : DnA X.K S vs ds) (ok : srtOk ds)
    (hcol : ∀ (C : List Value → Shared → Prop) (E' : Value → Shared → Prop), (∀ h' tk, (∀ b o, s.heap.get? b = some o → h'.get? b = some o) → s.heap.objs.size ≤ h'.objs.size → C us { s with heap := h', toks := tk }) → wpAny (model X.prog X.w) X.A.in1 (collect v) C E' s)
    (q : ∀ ws p, H p = none → DnA X.K S ws (sortD ds) → Q (.ref p) (upd H p (.lst ws))) : wpAny (model X.prog X.w) X.A (call (.builtin "sorted") [v]) (EP X pins σ Q) X.xe s := by
  obtain ⟨l, dp, al, so, hz⟩ := ok
  refine sorted_col (R := fun u d => ∃ v, RelV v u ∧ Dn X.K S v d) (enc := D.py) hcol (each_dn r a) (each_reads I ex r a l) al so hz (fun d hd => ?_) fun h' tk d n out hl eo kp sz at_ => ?_
  · rw [D.py_dep]; have := dp d hd; omega
  · obtain ⟨ws, rw_, aw⟩ := dn_each eo
    exact ⟨.ref d, upd H d (.lst ws), I.laid (t' := tk) kp sz ⟨by rw [rw_.length, hl]; exact hz, out, n, rw_, at_⟩, rfl, q ws d (I.hok.fresh sz) aw⟩
def rSrt : DRF := fun xs Q => match xs with | [.lst ds] => srtOk ds ∧ Q (sortD ds) | [.tup ds] => srtOk ds ∧ Q (sortD ds) | _ => False
theorem cd_sorted (hu : X.A.units + 66 < cLine) : CallR X (.builtin "sorted") (liftCF X.K rSrt) := fun pins s σ H vs us Q I r ⟨S, ds, Q', ex, n, q, post⟩ => by
  match ds, n, q with
  | [.lst ds], n, q =>
    obtain ⟨v, rfl, n1⟩ := n.one
    obtain ⟨u, rfl, ru⟩ := vals1 r
    cases n1 with
    | lst h a =>
      obtain rfl : u = Value.ref _ := ru
      obtain ⟨its, rv, hl, hz⟩ := I.list (SqL.of (ex _ _ h))
      obtain ⟨o, ho, hc, m, hd⟩ := hl.isList
      exact sorted_end I hu ex rv a q.1 (fun C E' hC => collect_seqS (.inl rfl) ho hc hd (by rw [← rv.length]; exact hz) hC) fun ws p hp aw => post _ _ _ q.2 hp aw
  | [.tup ds], n, q =>
    obtain ⟨v, rfl, n1⟩ := n.one
    obtain ⟨u, rfl, ru⟩ := vals1 r
    cases n1 with
    | tup h a =>
      obtain rfl : u = Value.ref _ := ru
      obtain ⟨hz, its, rv, o, ho, hc, m, hd⟩ := I.hok _ _ (ex _ _ h)
      exact sorted_end I hu ex rv a q.1 (fun C E' hC => collect_seqS (.inr rfl) ho hc hd (by rw [← rv.length]; exact hz) hC) fun ws p hp aw => post _ _ _ q.2 hp aw
end
end Ev

/-! # Dicts of one's own: keys numbers and texts, or tuples of these -/
namespace Ev
open PySem PySem.Spec PyProof.Rows L2
variable {K : PySem.W.Frag} {S S' H H' : Hp} {B : Bs} {δ : DS} {σ : L2.St}
section
variable {κ : Type} [DecidableEq κ]
def valD (es : List (κ × D)) (k : κ) : Option D := (es.find? fun e => decide (e.1 = k)).map (·.2)
def putD (es : List (κ × D)) (k : κ) (d : D) : List (κ × D) := if (es.any fun e => decide (e.1 = k)) = true then es.map (fun e => if e.1 = k then (e.1, d) else e) else es ++ [(k, d)]
def KvR (K : PySem.W.Frag) (S : Hp) (kvs : List (κ × V)) (es : List (κ × D)) : Prop := kvs.map (·.1) = es.map (·.1) ∧ DnA K S (kvs.map (·.2)) (es.map (·.2))
theorem KvR.mono {kvs : List (κ × V)} {es : List (κ × D)} (h : KvR K S kvs es) (e : Ex S S') : KvR K S' kvs es := ⟨h.1, h.2.mono e⟩
theorem KvR.get {k : κ} : ∀ {kvs : List (κ × V)} {es : List (κ × D)}, KvR K S kvs es → (valV kvs k = none ∧ valD es k = none) ∨ ∃ v d, valV kvs k = some v ∧ valD es k = some d ∧ Dn K S v d
  | [], [], _ => .inl ⟨rfl, rfl⟩
  | [], _ :: _, h => by cases h.1
  | _ :: _, [], h => by cases h.1
  | (a, v) :: kvs, (b, d) :: es, h => by
    obtain ⟨h1, h2⟩ := h
    simp only [List.map_cons, List.cons.injEq] at h1
    simp only [List.map_cons] at h2
    cases h2 with
    | cons h2 h3 =>
      obtain ⟨rfl, h1⟩ := h1
      by_cases e : a = k
      · exact .inr ⟨v, d, by simp [valV, e], by simp [valD, e], h2⟩
      · rcases KvR.get (k := k) ⟨h1, h3⟩ with ⟨q1, q2⟩ | ⟨v', d', q1, q2, q3⟩
        · exact .inl ⟨by simpa [valV, e] using q1, by simpa [valD, e] using q2⟩
        · exact .inr ⟨v', d', by simpa [valV, e] using q1, by simpa [valD, e] using q2, q3⟩
theorem KvR.any {kvs : List (κ × V)} {es : List (κ × D)} (h : KvR K S kvs es) (k : κ) : (kvs.any fun e => decide (e.1 = k)) = es.any fun e => decide (e.1 = k) := by
  have e1 : (kvs.any fun e => decide (e.1 = k)) = (kvs.map (·.1)).any fun e => decide (e = k) := by rw [List.any_map]; rfl
  have e2 : (es.any fun e => decide (e.1 = k)) = (es.map (·.1)).any fun e => decide (e = k) := by rw [List.any_map]; rfl
  rw [e1, e2, h.1]
theorem KvR.map {v : V} {d : D} (dn : Dn K S v d) (k : κ) : ∀ {kvs : List (κ × V)} {es : List (κ × D)}, KvR K S kvs es → KvR K S (kvs.map fun e => if e.1 = k then (e.1, v) else e) (es.map fun e => if e.1 = k then (e.1, d) else e)
  | [], [], _ => ⟨rfl, .nil⟩
  | [], _ :: _, h => by cases h.1
  | _ :: _, [], h => by cases h.1
  | (a, x) :: kvs, (b, y) :: es, h => by
    obtain ⟨h1, h2⟩ := h
    simp only [List.map_cons, List.cons.injEq] at h1
    simp only [List.map_cons] at h2
    cases h2 with
    | cons h2 h3 =>
      obtain ⟨rfl, h1⟩ := h1
      have ih := KvR.map dn k (kvs := kvs) (es := es) ⟨h1, h3⟩
      by_cases e : a = k
      · simp only [List.map_cons, e, if_true]
        exact ⟨by simp only [List.map_cons]; exact congrArg _ ih.1, .cons dn ih.2⟩
      · simp only [List.map_cons, e, if_false]
        exact ⟨by simp only [List.map_cons]; exact congrArg _ ih.1, .cons h2 ih.2⟩
theorem KvR.put {v : V} {d : D} {kvs : List (κ × V)} {es : List (κ × D)} (h : KvR K S kvs es) (dn : Dn K S v d) (k : κ) : KvR K S (putK kvs k v) (putD es k d) := by
  unfold putK putD
  rw [h.any k]
  split
  · exact h.map dn k
  · exact ⟨by rw [List.map_append, List.map_append, h.1]; rfl, by rw [List.map_append, List.map_append]; exact h.2.append (.cons dn .nil)⟩
end
/-! ### keys -/
def D.key : D → Option Key
  | .int i => some (.inl i)
  | .str x => some (.inr x)
  | _ => none
def keysOf : List D → Option (List Key)
  | [] => some []
  | d :: ds => match d.key, keysOf ds with
    | some k, some ks => some (k :: ks)
    | _, _ => none
def D.keyT : D → Option (List Key)
  | .tup ds => keysOf ds
  | _ => none
def kD : Key → D
  | .inl i => .int i
  | .inr x => .str x
theorem Dn.key {v : V} {d : D} {k : Key} (h : Dn K S v d) (e : d.key = some k) : v = kV k := by
  cases h <;> first | (cases e; rfl) | cases e
theorem DnA.keys : ∀ {vs : List V} {ds : List D} {ks : List Key}, DnA K S vs ds → keysOf ds = some ks → vs = ks.map kV
  | [], _, _, .nil, e => by cases e; rfl
  | v :: vs, d :: ds, ks, .cons h a, e => by
    unfold keysOf at e
    split at e
    · rename_i k ks' e1 e2
      cases e
      rw [h.key e1, a.keys e2]; rfl
    · cases e
theorem Dn.keyT {v : V} {d : D} {ks : List Key} (h : Dn K S v d) (e : d.keyT = some ks) : ∃ b, v = .ref b ∧ S b = some (.tup (ks.map kV)) := by
  cases h with
  | tup h1 h2 =>
    have := h2.keys e
    subst this
    exact ⟨_, rfl, h1⟩
  | _ => cases e
theorem Dn.kd (k : Key) : Dn K S (kV k) (kD k) := by cases k <;> constructor
theorem DnA.kds : ∀ ks : List Key, DnA K S (ks.map kV) (ks.map kD)
  | [] => .nil
  | k :: ks => .cons (.kd k) (DnA.kds ks)

section
variable {X : Cx} {E : EK} {e a b c : Expr} {es : List Expr} {pos p ap cp : Pos} {da db : dE} {x : Str}
/-- name = {}: keys tuples; keys numbers and texts -/
def dNewDT (i : Nat) : dS := fun _ N δ => N.nx (setSl δ i (.ownT []))
def dNewDK (i : Nat) : dS := fun _ N δ => N.nx (setSl δ i (.ownK []))
theorem ds_newT {i : Nat} {x : Str} {pos' p2 : Pos} (hN : X.N.Nodup) (hi : X.N[i]? = some x) (hx : Loc X.env.scope x) (hs : swapsWith (.Dict [] [] p2) (some (.Name x pos')) pos.line X.env = pure false := by rfl) (hf : X.fn x = true ∨ X.env.scope.names.lookup x = some .local := by first | exact .inl rfl | exact .inr rfl | assumption) :
    DSt X E (.Assign [.Name x pos'] (.Dict [] [] p2) pos) (dNewDT i) := ⟨fun B => ps_mono (ps_set hN hi hx pe_dnewT hs hf) fun Z σ H q => by
  obtain ⟨δ, S, W, N, R, q, xo, h1, _⟩ := q
  exact fun p hp => h1 _ _ _ _ q (Ex.refl _) (R.setNew hp (fun vs z => HO.noConfusion z) fun H1 e1 a b => ⟨p, [], rfl, a, b, rfl, e1, rfl, .nil⟩)⟩
theorem ds_newK {i : Nat} {x : Str} {pos' p2 : Pos} (hN : X.N.Nodup) (hi : X.N[i]? = some x) (hx : Loc X.env.scope x) (hs : swapsWith (.Dict [] [] p2) (some (.Name x pos')) pos.line X.env = pure false := by rfl) (hf : X.fn x = true ∨ X.env.scope.names.lookup x = some .local := by first | exact .inl rfl | exact .inr rfl | assumption) :
    DSt X E (.Assign [.Name x pos'] (.Dict [] [] p2) pos) (dNewDK i) := ⟨fun B => ps_mono (ps_set hN hi hx pe_dnewK hs hf) fun Z σ H q => by
  obtain ⟨δ, S, W, N, R, q, xo, h1, _⟩ := q
  exact fun p hp => h1 _ _ _ _ q (Ex.refl _) (R.setNew hp (fun vs z => HO.noConfusion z) fun H1 e1 a b => ⟨p, [], rfl, a, b, rfl, e1, rfl, .nil⟩)⟩
/-- what the dict in slot i holds at y -/
def dictGet (δ : DS) (i : Nat) (y : D) : Option (Option D) := match δ.sl[i]? with
  | some (.ownT es) => y.keyT.map (valD es)
  | some (.ownK es) => y.key.map (valD es)
  | some (.dat (.dT es)) => y.keyT.map (valD es)
  | some (.dat (.dK es)) => y.key.map (valD es)
  | _ => none
theorem DGet.rk {a : Addr} {kvs : List (Key × V)} {k : Key} (e : H a = some (.dK kvs)) : DGet H a (kV k) (valV kvs k) := DGet.k e
theorem Rel.dget (R : Rel K B δ S σ H) {i : Nat} {y : D} {u : V} {r : Option D} (n : Dn K S u y) (h : dictGet δ i y = some r) : ∃ a o, σ[i]? = some (some (.ref a)) ∧ DGet H a u o ∧ ((o = none ∧ r = none) ∨ ∃ v d, o = some v ∧ r = some d ∧ Dn K S v d) := by
  have fk : ∀ {a : Addr} {kvs : List (Key × V)} {es : List (Key × D)}, σ[i]? = some (some (.ref a)) → H a = some (.dK kvs) → KvR K S kvs es → y.key.map (valD es) = some r → ∃ a o, σ[i]? = some (some (.ref a)) ∧ DGet H a u o ∧ ((o = none ∧ r = none) ∨ ∃ v d, o = some v ∧ r = some d ∧ Dn K S v d) := by
    intro a kvs es h1 h2 h3 h4
    cases hk : y.key with
    | none => rw [hk] at h4; cases h4
    | some k =>
      rw [hk] at h4
      cases h4
      rw [n.key hk]
      refine ⟨a, _, h1, DGet.k h2, ?_⟩
      rcases h3.get (k := k) with ⟨q1, q2⟩ | ⟨v, d, q1, q2, q3⟩
      · exact .inl ⟨q1, q2⟩
      · exact .inr ⟨v, d, q1, q2, q3⟩
  have ft : ∀ {a : Addr} {kvs : List (List Key × V)} {es : List (List Key × D)}, σ[i]? = some (some (.ref a)) → H a = some (.dT kvs) → KvR K S kvs es → y.keyT.map (valD es) = some r → ∃ a o, σ[i]? = some (some (.ref a)) ∧ DGet H a u o ∧ ((o = none ∧ r = none) ∨ ∃ v d, o = some v ∧ r = some d ∧ Dn K S v d) := by
    intro a kvs es h1 h2 h3 h4
    cases hk : y.keyT with
    | none => rw [hk] at h4; cases h4
    | some k =>
      rw [hk] at h4
      cases h4
      obtain ⟨b, rfl, hb⟩ := n.keyT hk
      refine ⟨a, _, h1, DGet.t h2 (R.ex _ _ hb), ?_⟩
      rcases h3.get (k := k) with ⟨q1, q2⟩ | ⟨v, d, q1, q2, q3⟩
      · exact .inl ⟨q1, q2⟩
      · exact .inr ⟨v, d, q1, q2, q3⟩
  obtain ⟨ow, h1, _⟩ := R.sl
  unfold dictGet at h
  split at h
  · rename_i es hs
    obtain ⟨a, kvs, r1, r2, r3, r4, r5, r6, r7⟩ := h1 i _ hs
    exact ft r4 r5 ⟨r6, r7⟩ h
  · rename_i es hs
    obtain ⟨a, kvs, r1, r2, r3, r4, r5, r6, r7⟩ := h1 i _ hs
    exact fk r4 r5 ⟨r6, r7⟩ h
  · rename_i es hs
    obtain ⟨v, e1, e2⟩ := R.dat hs
    cases e2 with
    | dT h1 h2 h3 => exact ft e1 (R.ex _ _ h1) ⟨h2, h3⟩ h
  · rename_i es hs
    obtain ⟨v, e1, e2⟩ := R.dat hs
    cases e2 with
    | dK h1 h2 h3 => exact fk e1 (R.ex _ _ h1) ⟨h2, h3⟩ h
  · cases h
/-- slot i holds a dict: where -/
def isDict (δ : DS) (i : Nat) : Prop := ∃ x, δ.sl[i]? = some x ∧ match x with | .ownT _ => True | .ownK _ => True | .dat (.dT _) => True | .dat (.dK _) => True | _ => False
theorem Rel.dict_at (R : Rel K B δ S σ H) {i : Nat} (h : isDict δ i) : ∃ a, σ[i]? = some (some (.ref a)) := by
  obtain ⟨x, hx, h⟩ := h
  obtain ⟨ow, h1, _⟩ := R.sl
  match x, hx, h with
  | .ownT es, hx, _ => obtain ⟨a, kvs, r1, r2, r3, r4, _⟩ := h1 i _ hx; exact ⟨a, r4⟩
  | .ownK es, hx, _ => obtain ⟨a, kvs, r1, r2, r3, r4, _⟩ := h1 i _ hx; exact ⟨a, r4⟩
  | .dat (.dT es), hx, _ =>
    obtain ⟨v, e1, e2⟩ := R.dat hx
    cases e2; exact ⟨_, e1⟩
  | .dat (.dK es), hx, _ =>
    obtain ⟨v, e1, e2⟩ := R.dat hx
    cases e2; exact ⟨_, e1⟩
/-- name[e] of a dict -/
def dDGet (i : Nat) (d : dE) : dE := fun W δ Q => isDict δ i ∧ d W δ fun y δ1 => optQ (dictGet δ1 i y) fun r => optQ r fun z => Q z δ1
theorem de_dget {i : Nat} {x : Str} (hu : X.A.units + 1 < cLine) (hv : PE X (.Name x p) (tVar i)) (hb : DE X E b db) (hs : NoSl b) : DE X E (.Subscript (.Name x p) b pos) (dDGet i db) := ⟨fun B => pe_mono (pe_dget hu hv (hb.run B) hs) fun σ H Q q => by
  obtain ⟨δ, S, W, Q', R, ⟨hd, q⟩, xo, post⟩ := q
  obtain ⟨a, ha⟩ := R.dict_at hd
  refine ⟨.ref a, ha, δ, S, W, _, R, q, xo, fun y δ1 v S1 H1 q1 e1 R1 n1 => ?_⟩
  obtain ⟨r, h1, q1⟩ := optQ_ex q1
  obtain ⟨z, rfl, q1⟩ := optQ_ex q1
  obtain ⟨a', o, ha', g, w⟩ := R1.dget n1 h1
  rw [ha] at ha'; cases ha'
  rcases w with ⟨_, w⟩ | ⟨v', d', rfl, w, dn⟩
  · cases w
  · cases w
    exact ⟨a, v', rfl, g, post _ _ _ _ _ q1 e1 R1 dn⟩⟩
/-- e in name, e not in name -/
def dDIn (neg : Bool) (d : dE) (i : Nat) : dE := fun W δ Q => d W δ fun y δ1 => optQ (dictGet δ1 i y) fun r => Q (.bl (if neg then !r.isSome else r.isSome)) δ1
theorem isSome_of {o : Option V} {r : Option D} (w : (o = none ∧ r = none) ∨ ∃ v d, o = some v ∧ r = some d ∧ Dn K S v d) : o.isSome = r.isSome := by
  rcases w with ⟨rfl, rfl⟩ | ⟨_, _, rfl, rfl, _⟩ <;> rfl
theorem din_read {i : Nat} {Q : VK} (q : liftE K B E (dDIn false db i) σ H Q) : tDIn (liftE K B E db) (tVar i) σ H Q := by
  obtain ⟨δ, S, W, Q', R, q, xo, post⟩ := q
  refine ⟨δ, S, W, _, R, q, xo, fun y δ1 v S1 H1 q1 e1 R1 n1 => ?_⟩
  obtain ⟨r, h1, q1⟩ := optQ_ex q1
  obtain ⟨a', o, ha', g, w⟩ := R1.dget n1 h1
  exact ⟨.ref a', ha', a', o, rfl, g, by rw [isSome_of w]; exact post _ _ _ _ _ q1 e1 R1 (.bl _)⟩
theorem dnin_read {i : Nat} {Q : VK} (q : liftE K B E (dDIn true db i) σ H Q) : tDNotIn (liftE K B E db) (tVar i) σ H Q := by
  obtain ⟨δ, S, W, Q', R, q, xo, post⟩ := q
  refine ⟨δ, S, W, _, R, q, xo, fun y δ1 v S1 H1 q1 e1 R1 n1 => ?_⟩
  obtain ⟨r, h1, q1⟩ := optQ_ex q1
  obtain ⟨a', o, ha', g, w⟩ := R1.dget n1 h1
  exact ⟨.ref a', ha', a', o, rfl, g, by rw [isSome_of w]; exact post _ _ _ _ _ q1 e1 R1 (.bl _)⟩
theorem tB_of {t : TE} {Q : Bool → Hp → Prop} (h : t σ H fun x H' => ∃ k, x = .bl k ∧ Q k H') : tB t σ H Q := h
theorem de_din {i : Nat} {x : Str} (hu : X.A.units + 1 < cLine) (hb : DE X E b db) (hv : PE X (.Name x p) (tVar i)) : DE X E (.Compare b [.In] [.Name x p] pos) (dDIn false db i) := ⟨fun B => pe_mono (pe_cmp (pc_din hu (hb.run B) hv) rfl) fun σ H Q q => din_read q⟩
theorem de_dnin {i : Nat} {x : Str} (hu : X.A.units + 1 < cLine) (hb : DE X E b db) (hv : PE X (.Name x p) (tVar i)) : DE X E (.Compare b [.NotIn] [.Name x p] pos) (dDIn true db i) := ⟨fun B => pe_mono (pe_cmp (pc_dnotin hu (hb.run B) hv) rfl) fun σ H Q q => dnin_read q⟩
theorem dt_din {i : Nat} {x : Str} (hu : X.A.units + 1 < cLine) (hb : DE X E b db) (hv : PE X (.Name x p) (tVar i)) : DT X E (.Compare b [.In] [.Name x p] pos) (dB (dDIn false db i)) := ⟨fun B => pt_mono (pt_cmp (pc_din hu (hb.run B) hv) rfl) fun σ H Q q => by
  have q := lift_B q
  exact din_read (Q := fun x H' => ∃ k, x = .bl k ∧ Q k H') q⟩
theorem dt_dnin {i : Nat} {x : Str} (hu : X.A.units + 1 < cLine) (hb : DE X E b db) (hv : PE X (.Name x p) (tVar i)) : DT X E (.Compare b [.NotIn] [.Name x p] pos) (dB (dDIn true db i)) := ⟨fun B => pt_mono (pt_cmp (pc_dnotin hu (hb.run B) hv) rfl) fun σ H Q q => by
  have q := lift_B q
  exact dnin_read (Q := fun x H' => ∃ k, x = .bl k ∧ Q k H') q⟩
/-- name[i] = e -/
def dictPut (δ : DS) (i : Nat) (y z : D) : Option DS := match δ.sl[i]? with
  | some (.ownT es) => match y.keyT with | some k => if es.length < sizeLine then some (setSl δ i (.ownT (putD es k z))) else none | none => none
  | some (.ownK es) => match y.key with | some k => if es.length < sizeLine then some (setSl δ i (.ownK (putD es k z))) else none | none => none
  | _ => none
theorem Rel.dput (R : Rel K B δ S σ H) {i : Nat} {y z : D} {u v : V} {δ' : DS} (n : Dn K S u y) (m : Dn K S v z) (h : dictPut δ i y z = some δ') : ∃ a H1, σ[i]? = some (some (.ref a)) ∧ DPut H a u v H1 ∧ Rel K B δ' S σ H1 := by
  unfold dictPut at h
  split at h
  · rename_i es hs
    split at h
    · rename_i k hk
      split at h
      · rename_i hz
        cases h
        obtain ⟨ow, h1, _⟩ := id R.sl
        obtain ⟨a, kvs, r1, r2, r3, r4, r5, r6, r7⟩ := h1 i _ hs
        obtain ⟨b, rfl, hb⟩ := n.keyT hk
        have hl : kvs.length = es.length := by simpa using congrArg List.length r6
        refine ⟨a, _, r4, DPut.t r5 (R.ex _ _ hb) (by omega), R.mut (fun vs z => HO.noConfusion z) hs (fun oa q => ?_) fun H1 e => ?_⟩
        · obtain ⟨a', _, t1, _, _, t4, _⟩ := q
          rw [r4] at t4; cases t4
          exact t1
        · have w := KvR.put ⟨r6, r7⟩ m k
          exact ⟨a, _, rfl, r2, r3, r4, e, w.1, w.2⟩
      · cases h
    · cases h
  · rename_i es hs
    split at h
    · rename_i k hk
      split at h
      · rename_i hz
        cases h
        obtain ⟨ow, h1, _⟩ := id R.sl
        obtain ⟨a, kvs, r1, r2, r3, r4, r5, r6, r7⟩ := h1 i _ hs
        have hl : kvs.length = es.length := by simpa using congrArg List.length r6
        rw [n.key hk]
        refine ⟨a, _, r4, DPut.k r5 (by omega), R.mut (fun vs z => HO.noConfusion z) hs (fun oa q => ?_) fun H1 e => ?_⟩
        · obtain ⟨a', _, t1, _, _, t4, _⟩ := q
          rw [r4] at t4; cases t4
          exact t1
        · have w := KvR.put ⟨r6, r7⟩ m k
          exact ⟨a, _, rfl, r2, r3, r4, e, w.1, w.2⟩
      · cases h
    · cases h
  · cases h
def dDPut (i : Nat) (dk dv : dE) : dS := fun W N δ => dv W δ fun z δ1 => isDict δ1 i ∧ dk W δ1 fun y δ2 => optQ (dictPut δ2 i y z) N.nx
theorem ds_dput {i : Nat} {x : Str} {tp : Pos} (hu : X.A.units + 1 < cLine) (hv : PE X (.Name x p) (tVar i)) (hk : DE X E b db) (he : DE X E e da) (hs : swapsWith e (some (.Subscript (.Name x p) b tp)) pos.line X.env = pure false := by rfl) : DSt X E (.Assign [.Subscript (.Name x p) b tp] e pos) (dDPut i db da) :=
  ⟨fun B => ps_mono (ps_dput hu hv (hk.run B) (he.run B) hs) fun Z σ H q => by
    obtain ⟨δ, S, W, N, R, q, xo, p1, _⟩ := q
    refine ⟨δ, S, W, _, R, q, xo, fun z δ1 v S1 H1 q1 e1 R1 n1 => ?_⟩
    obtain ⟨hd, q1⟩ := q1
    obtain ⟨a, ha⟩ := R1.dict_at hd
    refine ⟨.ref a, ha, δ1, S1, W, _, R1, q1, xo.mono e1, fun y δ2 u S2 H2 q2 e2 R2 n2 => ?_⟩
    obtain ⟨δ3, h3, q2⟩ := optQ_ex q2
    obtain ⟨a', H3, ha', g, R3⟩ := R2.dput n2 (n1.mono e2) h3
    rw [ha] at ha'; cases ha'
    exact ⟨a, H3, rfl, g, p1 _ _ _ _ q2 (e1.trans e2) R3⟩⟩
/-- the keys of a dict with tuple keys, sorted -/
def keyD (es : List (List Key × D)) : List D := es.map fun e => .tup (e.1.map kD)
def rSrtT (K : PySem.W.Frag) : List V → Hp → VK → Prop := fun vs H Q => ∃ S a kvs, vs = [.ref a] ∧ Sb S H ∧ H a = some (.dT kvs) ∧ srtOk (kvs.map fun e => D.tup (e.1.map kD)) ∧ ∀ ws p, H p = none → DnA K S ws (sortD (kvs.map fun e => D.tup (e.1.map kD))) → Q (.ref p) (upd H p (.lst ws))
theorem keys_dn (sb : Sb S H) : ∀ {kvs : List (List Key × V)} {xs : List (List Key × Addr × Value)}, Paired (fun (p : List Key × V) (q : List Key × Addr × Value) => p.1 = q.1 ∧ H q.2.1 = some (.tup (p.1.map kV)) ∧ RelV p.2 q.2.2) kvs xs →
    DnA K S (xs.map fun q => V.ref q.2.1) (kvs.map fun e => D.tup (e.1.map kD))
  | _, _, .nil => .nil
  | _, _, .cons h t => .cons (.tup (sb.tp _ _ h.2.1) (DnA.kds _)) (keys_dn sb t)
theorem cd_sortedT (hc : X.calm = true) (hu : X.A.units + 66 < cLine) : CallR X (.builtin "sorted") (rSrtT X.K) := fun pins s σ H vs us Q I r ⟨S, a, kvs, e, sb, ha, ok, q⟩ => by
  subst e
  obtain ⟨u, rfl, ru⟩ := vals1 r
  obtain rfl : u = Value.ref a := ru
  obtain ⟨hz, hs, ks, pr, o, es, ep, ho, hx, hdt, he, hn⟩ := I.hok _ _ ha
  have l1 : es.size = ks.length := by rw [← Array.length_toList, he, List.length_map]
  have l2 : kvs.length = ks.length := Paired.length pr
  refine sorted_end I hu sb (us := ks.map fun q => Value.ref q.2.1) (vs := ks.map fun q => V.ref q.2.1) ?_ (keys_dn sb pr) ok (fun C E' hC => ?_) fun ws p hp aw => q ws p hp aw
  · clear pr he hn l1 l2
    induction ks with
    | nil => exact .nil
    | cons k ks ih => exact .cons rfl ih
  · refine collect_src (kdl_raw hs hx hdt) (I.ok.hd hc) ho (by omega) fun h' tk acc kp sz it => ?_
    have ea : acc.toList = ks.map fun q => Value.ref q.2.1 := by
      have hl : acc.toList.length = ks.length := by rw [Array.length_toList, it.1, l1]
      apply List.ext_getElem?
      intro j
      rw [List.getElem?_map]
      by_cases hj : j < ks.length
      · have hj2 : j < acc.size := by rw [← Array.length_toList]; omega
        obtain ⟨en, h1, h2⟩ := it.2 j acc[j] (Array.getElem?_eq_getElem hj2)
        have h3 : es.toList[j]? = some en := by rw [Array.getElem?_toList]; exact h1
        rw [he, List.getElem?_map, List.getElem?_eq_getElem hj] at h3
        rw [Array.getElem?_toList, Array.getElem?_eq_getElem hj2, List.getElem?_eq_getElem hj, h2, ← Option.some.inj h3]
        rfl
      · rw [List.getElem?_eq_none (by omega), List.getElem?_eq_none (by omega)]; rfl
    rw [ea]
    exact hC h' tk kp sz
def dSortT (i : Nat) : dF := fun _ δ Q => match δ.sl[i]? with
  | some (.ownT es) => srtOk (keyD es) ∧ Q (sortD (keyD es)) δ
  | some (.dat (.dT es)) => srtOk (keyD es) ∧ Q (sortD (keyD es)) δ
  | _ => False
theorem keyD_of {kvs : List (List Key × V)} {es : List (List Key × D)} (h : kvs.map (·.1) = es.map (·.1)) : (kvs.map fun e => D.tup (e.1.map kD)) = keyD es := by
  have e1 : (kvs.map fun e => D.tup (e.1.map kD)) = (kvs.map (·.1)).map fun k => D.tup (k.map kD) := by rw [List.map_map]; rfl
  have e2 : keyD es = (es.map (·.1)).map fun k => D.tup (k.map kD) := by unfold keyD; rw [List.map_map]; rfl
  rw [e1, e2, h]
theorem df_sortedT {i : Nat} {y : Str} {py : Pos} (hc : X.calm = true) (hu : X.A.units + 66 < cLine) (hv : PE X (.Name y py) (tVar i)) (gl : Gl X x) (hm : X.mg x = none) (hb : bootBuiltins x = some (.builtin "sorted")) (hn : x ≠ "__name__" := by decide) (hdb : (x == ("__debug__" : Str)) = false := by decide)
    (he : starEach [.Name y py] X.env = (false, eval (.Name y py) X.env) :: starEach [] X.env := by rfl) (hpl : (backTo pos (starEach [] X.env)).any (·.1) = false := by rfl) : DF X E (.Call (.Name x p) [.Name y py] [] pos) (dSortT i) :=
  ⟨fun B => pe_mono (pe_callB (cd_sortedT hc hu) gl hm hb (pa_cons hv pa_nil he) hn hdb he hpl) fun σ H Q q => by
    obtain ⟨δ, S, W, Q', R, q, xo, post⟩ := q
    unfold dSortT at q
    split at q
    · rename_i es hs
      obtain ⟨ow, h1, _⟩ := id R.sl
      obtain ⟨a, kvs, r1, r2, r3, r4, r5, r6, r7⟩ := h1 i _ hs
      refine ⟨.ref a, r4, S, a, kvs, rfl, R.ex, r5, by rw [keyD_of r6]; exact q.1, fun ws p hp aw => ?_⟩
      rw [keyD_of r6] at aw
      exact post _ _ _ _ _ _ q.2 (Ex.refl _) R hp aw
    · rename_i es hs
      obtain ⟨v, e1, e2⟩ := R.dat hs
      cases e2 with
      | dT h1 h2 h3 =>
        refine ⟨_, e1, S, _, _, rfl, R.ex, R.ex _ _ h1, by rw [keyD_of h2]; exact q.1, fun ws p hp aw => ?_⟩
        rw [keyD_of h2] at aw
        exact post _ _ _ _ _ _ q.2 (Ex.refl _) R hp aw
    · exact q.elim⟩
end
/-- a comprehension with a test, nothing else changed -/
theorem wLC_filt {α : Type} {g : dG} {tt : dT} {te : dE} {vs : List Nat} {Q : List D → DS → Prop} {δ0 : DS} {ι f : α → D} {t : α → Bool} : ∀ {l : List α}, (∀ a ∈ l, ∀ acc (k : List D → DS → Prop), acc.length < sizeLine → (t a = true → k (acc ++ [f a]) δ0) → (t a = false → k acc δ0) → g (ι a) δ0 fun δ1 => tt W0 δ1 fun z δ2 => match z with
      | true => te W0 δ2 fun y δ3 => acc.length < sizeLine ∧ k (acc ++ [y]) (wipeD δ3 vs)
      | false => k acc (wipeD δ2 vs)) → l.length ≤ sizeLine → Q ((l.filter t).map f) δ0 → wLC g tt te vs Q (l.map ι) [] δ0 := by
  intro l h hl h0
  have go : ∀ (r : List α) (acc : List D), (∀ a ∈ r, a ∈ l) → acc.length + r.length ≤ sizeLine → acc ++ (r.filter t).map f = (l.filter t).map f → wLC g tt te vs Q (r.map ι) acc δ0 := by
    intro r
    induction r with
    | nil => intro acc _ _ e; rw [List.filter_nil, List.map_nil, List.append_nil] at e; subst e; exact h0
    | cons a r ih =>
      intro acc hm hz e
      rw [List.length_cons] at hz
      refine h a (hm a List.mem_cons_self) acc (fun acc' δ' => wLC g tt te vs Q (r.map ι) acc' δ') (by omega) (fun ha => ih (acc ++ [f a]) (fun b hb => hm b (List.mem_cons_of_mem _ hb)) (by simp; omega) ?_) (fun ha => ih acc (fun b hb => hm b (List.mem_cons_of_mem _ hb)) (by omega) ?_)
      · rw [← e, List.filter_cons_of_pos ha]; simp
      · rw [← e, List.filter_cons_of_neg (by rw [ha]; decide)]
  exact go l [] (fun _ h => h) (by simpa using hl) rfl
theorem from_zero {lo : Int} : Ev.intsFrom lo 0 = [] := rfl
theorem from_succ {lo : Int} {n : Nat} : Ev.intsFrom lo (n + 1) = .int lo :: Ev.intsFrom (lo + 1) n := by
  unfold Ev.intsFrom
  rw [List.range_succ_eq_map, List.map_cons, List.map_map]
  congr 1
  · simp
  · apply List.map_congr_left
    intro i _
    show D.int (lo + ((i + 1 : Nat) : Int)) = D.int (lo + 1 + (i : Int))
    congr 1; omega
theorem putD_mem {κ : Type} [DecidableEq κ] {es : List (κ × D)} {k : κ} {d : D} {e : κ × D} (h : e ∈ putD es k d) : e ∈ es ∨ e = (k, d) := by
  unfold putD at h
  split at h
  · obtain ⟨x, hx, rfl⟩ := List.mem_map.mp h
    split
    · rename_i q; rw [q]; exact .inr rfl
    · exact .inl hx
  · rcases List.mem_append.mp h with h | h
    · exact .inl h
    · exact .inr (List.mem_singleton.mp h)
theorem putD_len {κ : Type} [DecidableEq κ] {es : List (κ × D)} {k : κ} {d : D} : (putD es k d).length ≤ es.length + 1 := by
  unfold putD
  split
  · rw [List.length_map]; omega
  · rw [List.length_append]; exact Nat.le_refl _
theorem valD_some {κ : Type} [DecidableEq κ] {es : List (κ × D)} {k : κ} (h : k ∈ es.map (·.1)) : ∃ d, valD es k = some d ∧ (k, d) ∈ es := by
  induction es with
  | nil => simp at h
  | cons e es ih =>
    by_cases q : e.1 = k
    · exact ⟨e.2, by simp [valD, q], by rw [← q]; exact List.mem_cons_self⟩
    · simp only [List.map_cons, List.mem_cons] at h
      obtain ⟨d, h1, h2⟩ := ih (h.resolve_left fun z => q z.symm)
      exact ⟨d, by simpa [valD, q] using h1, List.mem_cons_of_mem _ h2⟩
/-- what is made of things of one form stays of that form -/
theorem mem_form {α : Type} {f : α → D} {l : List α} : ∀ {ds : List D}, (∀ d ∈ ds, ∃ a ∈ l, d = f a) → ∃ l' : List α, ds = l'.map f ∧ ∀ a ∈ l', a ∈ l
  | [], _ => ⟨[], rfl, fun _ h => nomatch h⟩
  | d :: ds, h => by
    obtain ⟨a, ha, rfl⟩ := h d List.mem_cons_self
    obtain ⟨l', rfl, hl⟩ := mem_form (ds := ds) fun x hx => h x (List.mem_cons_of_mem _ hx)
    exact ⟨a :: l', rfl, fun b hb => (List.mem_cons.mp hb).elim (fun z => z ▸ ha) (hl b)⟩
theorem sortD_perm (ds : List D) : (sortD ds).Perm ds := List.mergeSort_perm ..
theorem sortD_form {α : Type} {f : α → D} {l : List α} : ∃ l' : List α, sortD (l.map f) = l'.map f ∧ (∀ a ∈ l', a ∈ l) ∧ l'.length = l.length := by
  obtain ⟨l', e, h⟩ := mem_form (f := f) (l := l) (ds := sortD (l.map f)) fun d hd => by
    have := (sortD_perm (l.map f)).mem_iff.mp hd
    obtain ⟨a, ha, e⟩ := List.mem_map.mp this
    exact ⟨a, ha, e.symm⟩
  refine ⟨l', e, h, ?_⟩
  have := (sortD_perm (l.map f)).length_eq
  rw [e] at this
  simpa using this
end Ev

/-! # Defs that give a new list; two pens; constants; lists turned, places of items -/
namespace Ev
open PySem PySem.Spec PyProof.Rows L2
variable {K : PySem.W.Frag} {S S' H H' : Hp} {B : Bs} {δ : DS} {σ : L2.St}
/-- the list of one's own in slot i, taken as a new one -/
theorem Rel.unown (R : Rel K B δ S σ H) {i : Nat} {ds : List D} (hi : δ.sl[i]? = some (.own ds)) : ∃ p vs, σ[i]? = some (some (.ref p)) ∧ DnA K S vs ds ∧ Rel K B (setSl δ i .un) S σ (hide H p) ∧ hide H p p = none ∧ H = upd (hide H p) p (.lst vs) := by
  obtain ⟨ow, h1, h2, h3, h4⟩ := id R.sl
  obtain ⟨p, vs, r1, r2, r3, r4, r5, r6⟩ := h1 i _ hi
  obtain ⟨sp, q2, q3, _⟩ := h4 i p r1
  have er : ∀ a, a ≠ p → hide H p a = H a := fun a ne => if_neg ne
  have oj : ∀ j a, j ≠ i → ow j = some a → a ≠ p := fun j a nj e z => nj (h3 j i a e (by rw [z]; exact r1))
  refine ⟨p, vs, r4, r6, ⟨⟨fun a u h => ?_, fun b us h => ?_⟩, ⟨R.fr.s, fun b u h hb => ?_, R.fr.no, fun a e => ?_⟩, ?_, R.pa, by simpa [setSl] using R.len, fun j => if j = i then none else ow j, fun j x e => ?_, fun j hj => ?_, fun j k a e1 e2 => ?_, fun j a e => ?_⟩, hide_same, ?_⟩
  · rw [er a (fun z => by rw [z, sp] at h; cases h)]; exact R.ex a u h
  · have ne : b ≠ p := fun z => by rw [z, hide_same] at h; cases h
    rw [er b ne] at h; exact R.ex.tp b us h
  · rw [er b (fun z => by rw [z, r2] at h; cases h)]; exact R.fr.h b u h hb
  · obtain ⟨u, q⟩ := R.fr.pa a e
    have ne : a ≠ p := fun z => r3 (by rw [← z]; exact e)
    exact ⟨u, by rw [er a ne]; exact q⟩
  · have hp := R.pen
    show PenOk S (hide H p) δ.pen
    cases hpe : δ.pen with
    | none => trivial
    | some ac =>
      obtain ⟨a, c⟩ := ac
      rw [hpe] at hp
      have ne : a ≠ p := fun z => q3 c (by rw [hpe, z])
      obtain ⟨n, ca, ns, k, m, t1, t2, t3⟩ := hp
      exact ⟨n, ca, ns, k, m, by rw [er a ne]; exact t1, t2, t3⟩
  · rcases get_set (show (δ.sl.set i .un)[j]? = some x from e) with ⟨rfl, rfl⟩ | ⟨nj, e⟩
    · show (if j = j then none else ow j) = none
      simp
    · have q := h1 j x e
      have ej : (if j = i then none else ow j) = ow j := if_neg nj
      show SlOk K B S (hide H p) (if j = i then none else ow j) σ[j]? x
      rw [ej]
      exact q.grow (Ex.refl _) fun a o ea ha => by rw [er a (oj j a nj ea)]; exact ha
  · show (if j = i then none else ow j) = none
    split
    · rfl
    · exact h2 j (by simpa [setSl] using hj)
  · have e1 : (if j = i then none else ow j) = some a := e1
    have e2 : (if k = i then none else ow k) = some a := e2
    split at e1
    · cases e1
    · split at e2
      · cases e2
      · exact h3 j k a e1 e2
  · have e : (if j = i then none else ow j) = some a := e
    split at e
    · cases e
    · rename_i nj
      obtain ⟨t1, t2, t3, u, t4⟩ := h4 j a e
      exact ⟨t1, t2, t3, u, by rw [er a (oj j a nj e)]; exact t4⟩
  · funext b
    by_cases z : b = p
    · subst z; rw [upd_same]; exact r5
    · rw [upd_ne z]; exact (er b z).symm
section
variable {X : Cx} {E : EK} {e a b c : Expr} {es : List Expr} {pos p ap cp : Pos} {da db : dE} {x : Str}
/-- return of a new list -/
def dRetF (f : dF) : dS := fun W N δ => f W δ fun xs δ' => N.rl xs δ'
theorem ds_retF {f : dF} (h : DF X E e f) : DSt X E (.Return (some e) pos) (dRetF f) := ⟨fun B => ps_mono (ps_ret (h.run B)) fun Z σ H q => by
  obtain ⟨δ, S, W, N, R, q, xo, _, _, _, _, h1⟩ := q
  exact ⟨δ, S, W, _, R, q, xo, fun xs δ' p vs S' H' q1 e1 R1 hp n1 => h1 _ _ _ _ _ _ _ q1 e1 R1 hp n1⟩⟩
/-- return name: the list of one's own -/
def dRetOwn (i : Nat) : dS := fun _ N δ => match δ.sl[i]? with | some (.own ds) => N.rl ds (setSl δ i .un) | _ => False
theorem ds_retOwn {i : Nat} {x : Str} (h : PE X (.Name x p) (tVar i)) : DSt X E (.Return (some (.Name x p)) pos) (dRetOwn i) := ⟨fun B => ps_mono (ps_ret h) fun Z σ H q => by
  obtain ⟨δ, S, W, N, R, q, xo, _, _, _, _, h1⟩ := q
  unfold dRetOwn at q
  split at q
  · rename_i ds hd
    obtain ⟨p, vs, v1, n1, R1, hp, eH⟩ := R.unown hd
    refine ⟨.ref p, v1, ?_⟩
    rw [eH]
    exact h1 _ _ _ _ _ _ _ q (Ex.refl _) R1 hp n1
  · exact q.elim⟩
/-! ### promises of a new list -/
abbrev dSpL := List D → Pen → (List D → Pen → Prop) → (Xc → Pen → Prop) → Prop
def spDL (K : PySem.W.Frag) (n : Nat) (sp : dSpL) : Sp := fun vs H Q E => ∃ S ds p Q' W', Sb S H ∧ PenOk S H p ∧ DnA K S vs ds ∧ ds.length = n ∧ sp ds p Q' W' ∧
  (∀ xs p' a vs' S' H', Q' xs p' → Fin S H S' H' p p' → H' a = none → DnA K S' vs' xs → Q (.ref a) (upd H' a (.lst vs'))) ∧ ∀ c p' cls od S' H', W' c p' → Fin S H S' H' p p' → XcOk K S' H' c cls od → E cls od H'
theorem spDL_len {n : Nat} {sp : dSpL} : ∀ vs H Q E, spDL K n sp vs H Q E → vs.length = n := fun vs H Q E ⟨S, ds, p, Q', W', _, _, a, l, _⟩ => a.length.trans l
def endsL (Q : List D → Pen → Prop) : dEnds := { nx := fun _ => False, rt := fun _ _ => False, rl := fun xs δ => Q xs δ.pen }
def dCallL (n : Nat) (dd : List D) (sp : dSpL) (a : dA) : dF := fun W δ Q => a W δ fun xs δ1 => (xs ++ dd).length = n ∧ sp (xs ++ dd) δ1.pen (fun x p' => Q x { δ1 with pen := p' }) fun c p' => W c { δ1 with pen := p' }
theorem callL_read {sp : dSpL} {W : XW} {Q' : List D → DS → Prop} {δ1 : DS} {S S1 H1 : Hp} {Q : VK} {vs : List V} {xs : List D} (xo : XOk K B E W S) (e1 : Ex S S1) (R1 : Rel K B δ1 S1 σ H1) (n1 : DnA K S1 vs xs) {n : Nat} (hn : xs.length = n)
    (q : sp xs δ1.pen (fun x p' => Q' x { δ1 with pen := p' }) fun c p' => W c { δ1 with pen := p' }) (post : ∀ xs δ' p vs S' H', Q' xs δ' → Ex S S' → Rel K B δ' S' σ H' → H' p = none → DnA K S' vs xs → Q (.ref p) (upd H' p (.lst vs))) : spDL K n sp vs H1 Q (E σ) :=
  ⟨S1, xs, δ1.pen, _, _, R1.ex, R1.pen, n1, hn, q, fun xs p' a vs' S' H' q' f ha d => post _ _ _ _ _ _ q' (e1.trans f.s) (R1.after f) ha d, fun c p' cls od S' H' w f k => xo c _ σ S' H' cls od w (e1.trans f.s) (R1.after f) k⟩
structure DefL (P : Program) (w : World) (K : PySem.W.Frag) (mg : Str → Option Value) (base : Heap) (k : Nat) (x : Str) (n : Nat) (sp : dSpL) (dd : List D) : Prop where
  ok : ∃ (ps : List Str) (f : Addr) (fd : FuncData) (dv : List V) (ds : List Value), FnG P w K mg base CX0 k f fd ps (spDL K n sp) ∧ mg x = some (.ref f) ∧ PySem.W.keepIn K (.ref f) = true ∧ Binds K fd ps ds ∧ Vals dv ds ∧ ∀ S, DnA K S dv dd
structure DefLK (P : Program) (w : World) (K : PySem.W.Frag) (mg : Str → Option Value) (base : Heap) (k : Nat) (x : Str) (n : Nat) (sp : dSpL) (p q : Nat) (ks : List Str) (idx : List Nat) (dd : List D) : Prop where
  ok : ∃ (ps : List Str) (f : Addr) (fd : FuncData) (dv : List V) (ds : List Value), FnG P w K mg base CX0 k f fd ps (spDL K n sp) ∧ mg x = some (.ref f) ∧ PySem.W.keepIn K (.ref f) = true ∧ KBinds K fd ps ks (pickL p q idx ds) (pickL p q idx dv) ∧ ∀ S, DnA K S dv dd
variable {j k n : Nat} {sp : dSpL} {dd : List D} {ta : dA}
theorem df_callL (h : DefL X.prog X.w X.K X.mg X.base j x n sp dd) (hg : X.A.guards = some []) (hr : Room k X.A) (gl : Gl X x) (ha : DA X E (e :: es) ta) (hj : j ≤ k := by decide) (hdb : (x == ("__debug__" : Str)) = false := by decide)
    (he : starEach (e :: es) X.env = (false, eval e X.env) :: starEach es X.env := by rfl) (hpl : (backTo pos (starEach es X.env)).any (·.1) = false := by rfl) : DF X E (.Call (.Name x p) (e :: es) [] pos) (dCallL n dd sp ta) := by
  obtain ⟨ps, f, fd, dv, ds, F, m, kp, b, vd, dn⟩ := h.ok
  refine ⟨fun B => pe_mono (pe_callG F hg (hr.mono hj) gl m kp b vd (pass_at (E := E)) (ha.run B) hdb he hpl) fun σ H Q q => ?_⟩
  obtain ⟨δ, S, W, Q', R, q, xo, post⟩ := q
  refine ⟨δ, S, W, _, R, q, xo, fun xs δ1 vs S1 H1 q1 e1 R1 n1 => ?_⟩
  exact callL_read xo e1 R1 (n1.append (dn S1)) q1.1 q1.2 post
def dCallLK (n p q : Nat) (idx : List Nat) (dd : List D) (sp : dSpL) (a tk : dA) : dF := fun W δ Q => a W δ fun us δ1 => tk W δ1 fun ws δ2 => (pickL p q idx dd us ws).length = n ∧ sp (pickL p q idx dd us ws) δ2.pen (fun x p' => Q x { δ2 with pen := p' }) fun c p' => W c { δ2 with pen := p' }
variable {pp qq : Nat} {ks : List Str} {idx : List Nat} {kws : List Keyword} {tk : dA}
theorem df_callLK (h : DefLK X.prog X.w X.K X.mg X.base j x n sp pp qq ks idx dd) (hg : X.A.guards = some []) (hr : Room k X.A) (gl : Gl X x) (ha : DA X E (e :: es) ta) (hk : DK X E kws tk) (hj : j ≤ k := by decide) (hall : (backToKw pos (keywordEach kws X.env)).all (·.1.isSome) = true := by rfl)
    (hks : (backToKw pos (keywordEach kws X.env)).filterMap (·.1) = ks := by rfl) (hdb : (x == ("__debug__" : Str)) = false := by decide) (he : starEach (e :: es) X.env = (false, eval e X.env) :: starEach es X.env := by rfl)
    (hpl : ((backTo pos (starEach (e :: es) X.env)).any (·.1) || (backToKw pos (keywordEach kws X.env)).any (·.1.isNone)) = false := by rfl) : DF X E (.Call (.Name x p) (e :: es) kws pos) (dCallLK n pp qq idx dd sp ta tk) := by
  obtain ⟨ps, f, fd, dv, ds, F, m, kp, b, dn⟩ := h.ok
  refine ⟨fun B => pe_mono (pe_callGK F hg (hr.mono hj) gl m kp b (pass_at (E := E)) (ha.run B) (hk.run B) hall hks hdb he hpl) fun σ H Q q => ?_⟩
  obtain ⟨δ, S, W, Q', R, q, xo, post⟩ := q
  refine ⟨δ, S, W, _, R, q, xo, fun us δ1 vs S1 H1 q1 e1 R1 n1 => ?_⟩
  refine ⟨δ1, S1, W, _, R1, q1, xo.mono e1, fun ws δ2 zs S2 H2 q2 e2 R2 n2 => ?_⟩
  exact callL_read xo (e1.trans e2) R2 (DnA.pick (dn S2) (n1.mono e2) n2) q2.1 q2.2 post
theorem df_callLK0 (h : DefLK X.prog X.w X.K X.mg X.base j x n sp pp qq ks idx dd) (hg : X.A.guards = some []) (hr : Room k X.A) (gl : Gl X x) (hk : DK X E kws tk) (hj : j ≤ k := by decide) (hall : (backToKw pos (keywordEach kws X.env)).all (·.1.isSome) = true := by rfl)
    (hks : (backToKw pos (keywordEach kws X.env)).filterMap (·.1) = ks := by rfl) (hdb : (x == ("__debug__" : Str)) = false := by decide)
    (hpl : ((backTo pos (starEach [] X.env)).any (·.1) || (backToKw pos (keywordEach kws X.env)).any (·.1.isNone)) = false := by rfl) : DF X E (.Call (.Name x p) [] kws pos) (dCallLK n pp qq idx dd sp dNil tk) := by
  obtain ⟨ps, f, fd, dv, ds, F, m, kp, b, dn⟩ := h.ok
  refine ⟨fun B => pe_mono (pe_callGK0 F hg (hr.mono hj) gl m kp b (pass_at (E := E)) (hk.run B) hall hks hdb hpl) fun σ H Q q => ?_⟩
  obtain ⟨δ, S, W, Q', R, q, xo, post⟩ := q
  refine ⟨δ, S, W, _, R, q, xo, fun ws δ2 zs S2 H2 q2 e2 R2 n2 => ?_⟩
  exact callL_read xo e2 R2 (DnA.pick (dn S2) .nil n2) q2.1 q2.2 post
end
section
variable {P : Program} {w : World} {K : PySem.W.Frag} {mg : Str → Option Value} {base : Heap} {x qual : Str} {st : Stmt} {f : Addr} {fd : FuncData} {N ps : List Str} {k n : Nat} {sp : dSpL} {d : dS}
/-- a def that lets nothing out and gives a new list -/
theorem fn_dL (F : Fun K x qual st f fd) (Sc : FnScope N ps (defScope st)) (hn : ps.length = n)
    (body : ∀ (cdv : Value) (A : Around) (out : List Env) (s : Shared) (H : Hp) (E : XK), A.guards = some [] → Room k (A.deeper (envOfC qual (defScope st) s.heap.objs.size f cdv)) → DSs (cx0 P w K mg base N qual (defScope st) f cdv A out s H E) E00 (defBody st) d)
    (hsp : ∀ ds p Q W, ds.length = n → sp ds p Q W → d W0 (endsL Q) (startD N.length ds p)) : FnG P w K mg base CX0 (k + 1) f fd ps (spDL K n sp) := by
  refine fn_g F Sc (fun vs H Q E q => (spDL_len vs H Q E q).trans hn.symm) fun cdv A out s H vs Q E g r q => ?_
  obtain ⟨S0, ds, p, Q', W', ex, hp, a, hl, q, post, _⟩ := q
  have hN : ds.length ≤ N.length := by
    have h2 := congrArg List.length Sc.pre
    rw [List.length_take] at h2
    omega
  exact ⟨_, ((body cdv A out s H E g r).run ⟨S0, H, (Option.map Prod.fst p : Option Addr), true⟩).nox, startD N.length ds p, S0, W0, endsL Q', startRel ex hp a hN, hsp ds p Q' W' hl q, fun _ _ _ _ _ _ _ h => h.elim, fun _ _ _ _ h => h.elim, fun _ _ _ _ _ _ h => h.elim, fun _ _ _ _ h => h.elim, fun _ _ _ _ h => h.elim,
    fun xs δ' a vs σ' S' H' q1 e1 R1 ha n1 => post _ _ _ _ _ _ q1 R1.fin ha n1⟩
end
end Ev

/-! # The law's own frame; two pens; constants; lists turned, places of items, walks backwards -/
namespace Ev
open PySem PySem.Spec PyProof.Rows L2
variable {K : PySem.W.Frag} {S S' H H' : Hp} {B : Bs} {δ : DS} {σ : L2.St}
/-- a list of one's own becomes the pen, in the law's own frame -/
theorem Rel.promote (R : Rel K B δ S σ H) (hb : B.pa = none) {j : Nat} {ns : List Int} {k m : Int} {c : Nat} (hj : δ.sl[j]? = some (.own (penD ns k m))) (h63 : ns.length ≤ 63) (h0 : 0 ≤ k) (hk : k ≤ c) (hm : 0 ≤ m) :
    ∃ p, σ[j]? = some (some (.ref p)) ∧ Rel K B { setSl δ j (.dat (.raw (.ref p))) with pen := some (p, c) } S σ H := by
  obtain ⟨ow, h1, h2, h3, h4⟩ := id R.sl
  obtain ⟨p, vs, r1, r2, r3, r4, r5, r6⟩ := h1 j _ hj
  obtain ⟨sp, q2, q3, _⟩ := h4 j p r1
  obtain ⟨ca, rfl, hc⟩ := r6.pen
  refine ⟨p, r4, R.ex, R.fr, ⟨sp, ca, ns, k, m, r5, hc, h63, h0, hk, hm⟩, ?_, by simpa [setSl] using R.len, fun i => if i = j then none else ow i, fun i x e => ?_, fun i hi => ?_, fun i l a e1 e2 => ?_, fun i a e => ?_⟩
  · unfold PaOk
    rw [if_neg (fun z => z.2 hb)]
    intro a c' z
    cases z
    exact ⟨r2, r3⟩
  · rcases get_set (show (δ.sl.set j (.dat (.raw (.ref p))))[i]? = some x from e) with ⟨rfl, rfl⟩ | ⟨ne, e⟩
    · exact ⟨by simp, .ref p, r4, .raw _⟩
    · have ej : (if i = j then none else ow i) = ow i := if_neg ne
      show SlOk K B S H (if i = j then none else ow i) σ[i]? x
      rw [ej]; exact h1 i x e
  · show (if i = j then none else ow i) = none
    split
    · rfl
    · exact h2 i (by simpa [setSl] using hi)
  · have e1 : (if i = j then none else ow i) = some a := e1
    have e2 : (if l = j then none else ow l) = some a := e2
    split at e1
    · cases e1
    · split at e2
      · cases e2
      · exact h3 i l a e1 e2
  · have e : (if i = j then none else ow i) = some a := e
    split at e
    · cases e
    · rename_i ni
      obtain ⟨t1, t2, t3, u, t4⟩ := h4 i a e
      refine ⟨t1, t2, fun c' z => ?_, u, t4⟩
      cases z
      exact ni (h3 i j p e r1)
section
variable {X : Cx} {E : EK} {e a b c : Expr} {es : List Expr} {pos p ap cp : Pos} {da db : dE} {x y z : Str}
/-- [x, y][z]: the first pen, which is there; the second, which is made one -/
def dPen2 (i j t : Nat) : dE := fun _ δ Q => (∃ (q : Nat) (ns : List Int), δ.sl[q]? = some (.law ns)) ∧ match δ.sl[i]?, δ.sl[j]?, δ.sl[t]? with
  | some (.own xs), some (.own _), some (.dat (.int 0)) => ∃ (ns : List Int) (k m : Int) (c : Nat), xs = penD ns k m ∧ ns.length ≤ 63 ∧ 0 ≤ k ∧ k ≤ c ∧ 0 ≤ m ∧ ∀ p, Q (.raw (.ref p)) { setSl δ i (.dat (.raw (.ref p))) with pen := some (p, c) }
  | some (.dat (.raw (.ref a))), some (.own xs), some (.dat (.int 1)) => ∃ (ns : List Int) (k m : Int) (c : Nat), xs = penD ns k m ∧ ns.length ≤ 63 ∧ 0 ≤ k ∧ k ≤ c ∧ 0 ≤ m ∧ ∀ p, Q (.raw (.ref p)) { setSl δ j (.dat (.raw (.ref p))) with pen := some (p, c) }
  | _, _, _ => False
theorem lst2_read {i j t : Nat} {v w : V} {k : Int} {Q : VK} (R : Rel K B δ S σ H) (hi : σ[i]? = some (some v)) (hj : σ[j]? = some (some w)) (ht : δ.sl[t]? = some (.dat (.int k))) (hk : k = 0 ∨ k = 1)
    (q : ∀ S1 H1, Grow S H S1 H1 → Q (if k = 0 then v else w) H1) : tOp (rIxL K) (tLst (tCons (tVar i) (tCons (tVar j) tNil))) (tVar t) σ H Q := by
  obtain ⟨u, hu, du⟩ := R.dat ht
  cases du
  refine ⟨v, hi, w, hj, by show 2 ≤ sizeLine; rw [sizeLine_eq]; decide, fun L hL => ⟨.int k, hu, L, [v, w], k, if k = 0 then v else w, rfl, rfl, SqL.of upd_same, ?_, q _ _ (Grow.new R.ex hL)⟩⟩
  rcases hk with rfl | rfl <;> rfl
theorem de_pen2 {i j t : Nat} {px py pz lp : Pos} (hx : PE X (.Name x px) (tVar i)) (hy : PE X (.Name y py) (tVar j)) (hz : PE X (.Name z pz) (tVar t)) (h1 : starEach [.Name x px, .Name y py] X.env = (false, eval (.Name x px) X.env) :: starEach [.Name y py] X.env := by rfl) (h2 : starEach [.Name y py] X.env = (false, eval (.Name y py) X.env) :: starEach [] X.env := by rfl)
    (hs : PlainIx (.Name z pz)) : DE X E (.Subscript (.List [.Name x px, .Name y py] lp) (.Name z pz) pos) (dPen2 i j t) := ⟨fun B => pe_mono (pe_ix ix_list (pe_lst (pa_cons hx (pa_cons hy pa_nil h2) h1)) hz hs) fun σ H Q q => by
  obtain ⟨δ, S, W, Q', R, ⟨⟨ql, nl, hl⟩, q⟩, xo, post⟩ := q
  have hb := (R.law hl).1
  split at q
  · rename_i xs ys e1 e2 e3
    obtain ⟨ns, k, m, c, rfl, w1, w2, w3, w4, q⟩ := q
    obtain ⟨p, hp, R1⟩ := R.promote hb e1 w1 w2 w3 w4
    obtain ⟨p2, vs2, hp2, _⟩ := R.own e2
    have e3' : (setSl δ i (.dat (.raw (.ref p)))).sl[t]? = some (.dat (.int 0)) := by
      show (δ.sl.set i _)[t]? = _
      rw [List.getElem?_set_ne (fun z => by subst z; rw [e1] at e3; cases e3)]; exact e3
    exact lst2_read R1 hp hp2 e3' (.inl rfl) fun S1 H1 g => post _ _ _ _ _ (q p) g.s (R1.grow g) (.raw _)
  · rename_i a xs e1 e2 e3
    obtain ⟨ns, k, m, c, rfl, w1, w2, w3, w4, q⟩ := q
    obtain ⟨p, hp, R1⟩ := R.promote hb e2 w1 w2 w3 w4
    obtain ⟨v, hv, _⟩ := R.dat e1
    have e3' : (setSl δ j (.dat (.raw (.ref p)))).sl[t]? = some (.dat (.int 1)) := by
      show (δ.sl.set j _)[t]? = _
      rw [List.getElem?_set_ne (fun z => by subst z; rw [e2] at e3; cases e3)]; exact e3
    exact lst2_read R1 hv hp e3' (.inr rfl) fun S1 H1 g => post _ _ _ _ _ (q p) g.s (R1.grow g) (.raw _)
  · exact q.elim⟩
/-! ### constants -/
theorem de_gint {i : Int} (gl : Gl X x) (h : ∃ t, X.mg x = some (.int i t)) (hd : (x == ("__debug__" : Str)) = false := by decide) : DE X E (.Name x pos) (dC (.int i)) := by
  obtain ⟨t, h⟩ := h
  exact de_c (pe_glob gl h (show RelV (.int i) (.int i t) from ⟨t, rfl⟩) hd) fun _ => .int i
theorem de_gstr {i : Str} (gl : Gl X x) (h : ∃ t, X.mg x = some (.str i t)) (hd : (x == ("__debug__" : Str)) = false := by decide) : DE X E (.Name x pos) (dC (.str i)) := by
  obtain ⟨t, h⟩ := h
  exact de_c (pe_glob gl h (show RelV (.str i) (.str i t) from ⟨t, rfl⟩) hd) fun _ => .str i
/-! ### turned, walked backwards, places -/
def dRev (d : dE) : dF := fun W δ Q => d W δ fun x δ1 => match x with | .lst ds => Q ds.reverse δ1 | _ => False
theorem df_rev {k : Nat} {p1 p2 p3 : Pos} (h : DE X E e da) : DF X E (.Subscript e (.Slice none none (some (.UnaryOp .USub (.Constant (.int 1) k p1) p2)) p3) pos) (dRev da) := ⟨fun B => pe_mono (pe_revL (h.run B)) fun σ H Q q => by
  obtain ⟨δ, S, W, Q', R, q, xo, post⟩ := q
  refine ⟨δ, S, W, _, R, q, xo, fun x δ1 v S1 H1 q1 e1 R1 n1 => ?_⟩
  match x, n1, q1 with
  | .lst ds, .lst h a, q1 => exact ⟨_, _, rfl, SqL.of (R1.ex _ _ h), fun p hp => post _ _ _ _ _ _ q1 e1 R1 hp a.reverse⟩⟩
theorem it_rev {a : Addr} {vs : List V} {ds : List D} (h : S a = some (.lst vs)) (n : DnA K S vs ds) : ItOk K (Itv K a vs.length) ds.reverse S := by
  have hl := n.length
  refine ⟨fun i S1 H1 e1 e2 hi => ?_, fun S1 H1 e1 e2 => ?_, fun i S1 H1 x H2 e1 e2 hi y => ?_⟩
  · rw [List.length_reverse] at hi
    exact walk_rev.goes i H1 (by omega) (SqL.of (e2 _ _ (e1 _ _ h)))
  · rw [List.length_reverse, ← hl]
    exact walk_rev.stops H1 (SqL.of (e2 _ _ (e1 _ _ h)))
  · rw [List.length_reverse] at hi
    obtain ⟨rfl, hx⟩ := walk_rev.yields i H1 x H2 (by omega) (SqL.of (e2 _ _ (e1 _ _ h))) y
    obtain ⟨d, h1, h2⟩ := n.getV hx
    refine ⟨S1, d, Grow.refl e2, ?_, h2.mono e1⟩
    rw [List.getElem?_reverse (by omega), ← hl]
    exact h1
def dRevI (d : dE) : dI := fun W δ Q => d W δ fun x δ' => match x with | .lst ds => Q ds.reverse δ' | _ => False
theorem di_rev {tg : Expr} {p : Pos} (hg : Gl X "reversed") (hm : X.mg "reversed" = none) (h : DE X E e da) (hs : starEach [e] X.env = (false, eval e X.env) :: starEach [] X.env := by rfl) : DI X E tg (.Call (.Name "reversed" p) [e] [] pos) (dRevI da) := ⟨fun B => pi_mono (RT.pi_revA hg hm (h.run B) hs) fun σ H Rr q => by
  obtain ⟨δ, S, W, Q', R, q, xo, post⟩ := q
  refine ⟨δ, S, W, _, R, q, xo, fun x δ1 v S1 H1 q1 e1 R1 n1 => ?_⟩
  match x, n1, q1 with
  | .lst ds, .lst h a, q1 => exact ⟨_, _, rfl, .inl ⟨SqL.of (R1.ex _ _ h), post _ _ _ _ _ q1 e1 R1 (it_rev h a)⟩⟩⟩
/-- the first place of an item -/
def firstAt (ds : List D) (d : D) : Option Nat := ds.findIdx? fun z => z.eq d
theorem pys_map : ∀ ds : List D, D.pys ds = ds.map D.py
  | [] => rfl
  | d :: ds => by show d.py :: D.pys ds = _; rw [pys_map ds]; rfl
/-- name.index(e) -/
def dIndex (i : Nat) (d : dE) : dE := fun W δ Q => (∃ ds, lookAt δ i = some ds) ∧ d W δ fun y δ1 => optQ (lookAt δ1 i) fun ds => (D.lst ds).cm ∧ y.cm ∧ optQ (firstAt ds y) fun j => Q (.int j) δ1
theorem de_index {i : Nat} (hu : X.A.units + 65 < cLine) (hv : PE X (.Name x p) (tVar i)) (he : DE X E e da) (hbase : attributeBase (.Name x p) "index" X.env (eval (.Name x p) X.env) = eval (.Name x p) X.env := by rfl)
    (hfew : ((backTo cp (starEach [e] X.env)).all (fun x => !x.1) && (backToKw cp (keywordEach [] X.env)).all (fun x => x.1.isSome) && decide (([e] : List Expr).length + ([] : List Keyword).length + (if ([] : List Keyword).isEmpty then 0 else 1) < 30)) = true := by rfl)
    (hline : (ap.endLine == cp.line) = true := by rfl) (hs : starEach [e] X.env = (false, eval e X.env) :: starEach [] X.env := by rfl) (hpl : (backTo cp (starEach [] X.env)).any (·.1) = false := by rfl) : DE X E (.Call (.Attribute (.Name x p) "index" ap) [e] [] cp) (dIndex i da) :=
  ⟨fun B => pe_mono (pe_bm PySem.F.plainAttrs_list PySem.F.slot_list_index PySem.F.type_list_index (mt_indexD hu) hv (pa_cons (he.run B) pa_nil hs) hbase hfew hline hs hpl) fun σ H Q q => by
    obtain ⟨δ, S, W, Q', R, ⟨⟨ds0, h0⟩, q⟩, xo, post⟩ := q
    obtain ⟨p0, vs0, v0, g0, _⟩ := R.lookAt h0
    refine ⟨.ref p0, v0, tyL g0, δ, S, W, _, R, q, xo, fun y δ1 v S1 H1 q1 e1 R1 n1 => ?_⟩
    obtain ⟨ds, h1, c1, c2, q1⟩ := optQ_ex q1
    obtain ⟨j, hj, q1⟩ := optQ_ex q1
    obtain ⟨p', S2, v1, e2, sb, dl, _, _⟩ := R1.look h1
    rw [v0] at v1; cases v1
    obtain ⟨hlt, y1, y2⟩ := List.findIdx?_eq_some_iff_getElem.mp hj
    have sh := c1.sh
    refine ⟨p0, v, y.py, D.pys ds, j, ds[j].py, rfl, rfl, ?_, ?_, ?_, c2.sh, ?_, y1, fun m z' hm hz => ?_, post _ _ _ _ _ q1 e1 R1 (.int _)⟩
    · exact (dl.mono sb).dp c1.1
    · exact (n1.mono R1.ex).dp c2.1
    · exact sh
    · rw [pys_map, List.getElem?_map, List.getElem?_eq_getElem hlt]; rfl
    · rw [pys_map, List.getElem?_map, List.getElem?_eq_getElem (by omega)] at hz
      cases hz
      have := y2 m hm
      simpa [D.eq] using this⟩
end
section
variable {X : Cx} {E : EK} {a b c : Expr} {pos : Pos} {ta : dT} {fa fb : dF}
def dIfF (t : dT) (x y : dF) : dF := fun W δ Q => t W δ fun k δ1 => match k with | true => x W δ1 Q | false => y W δ1 Q
theorem df_if (ht : DT X E c ta) (ha : DF X E a fa) (hb : DF X E b fb) : DF X E (.IfExp c a b pos) (dIfF ta fa fb) := ⟨fun B => pe_mono (pe_ifExp (ht.run B) (ha.run B) (hb.run B)) fun σ H Q q => by
  obtain ⟨δ, S, W, Q', R, q, xo, post⟩ := q
  refine ⟨δ, S, W, _, R, q, xo, fun k δ1 S1 H1 q1 e1 R1 => ?_⟩
  cases k with
  | true => rw [if_pos rfl]; exact ⟨δ1, S1, W, _, R1, q1, xo.mono e1, fun xs δ2 p vs S2 H2 q2 e2 R2 hp n2 => post _ _ _ _ _ _ q2 (e1.trans e2) R2 hp n2⟩
  | false => rw [if_neg Bool.false_ne_true]; exact ⟨δ1, S1, W, _, R1, q1, xo.mono e1, fun xs δ2 p vs S2 H2 q2 e2 R2 hp n2 => post _ _ _ _ _ _ q2 (e1.trans e2) R2 hp n2⟩⟩
end
section
variable {X : Cx} {E : EK} {a b : Expr} {pos px py pt pt2 : Pos} {x y : Str} {kt k2 : Nat} {d : dA}
/-- x, y = a, b -/
def dPar (i j : Nat) (d : dA) : dS := fun W N δ => d W δ fun xs δ1 => match xs with | [u, v] => N.nx (setSl (setSl δ1 i (.dat u)) j (.dat v)) | _ => False
theorem ds_par {i j : Nat} (hc : X.calm = true) (hN : X.N.Nodup) (hi : X.N[i]? = some x) (hj : X.N[j]? = some y) (hij : i ≠ j) (hx : X.env.scope.names.lookup x = some .local) (hy : X.env.scope.names.lookup y = some .local) (ha : DA X E [a, b] d)
    (hw : swappedStores [.Tuple [.Name x px, .Name y py] kt pt] (.Tuple [a, b] k2 pt2) X.env = pure (some [x, y])) : DSt X E (.Assign [.Tuple [.Name x px, .Name y py] kt pt] (.Tuple [a, b] k2 pt2) pos) (dPar i j d) := ⟨fun B => ps_mono (ps_par hc hN hi hj hij hx hy (ha.run B) hw) fun Z σ H q => by
  obtain ⟨δ, S, W, N, R, q, xo, p1, _⟩ := q
  refine ⟨δ, S, W, _, R, q, xo, fun xs δ1 vs S1 H1 q1 e1 R1 n1 => ?_⟩
  match xs, n1, q1 with
  | [u, v], n1, q1 =>
    obtain ⟨v1, v2, rfl, d1, d2⟩ := n1.two
    exact ⟨v1, v2, rfl, p1 _ _ _ _ q1 e1 ((R1.setDat d1).setDat d2)⟩⟩
end
/-! ### the law's own frame -/
def startL (m : Nat) (ns : List Int) : DS := ⟨.law ns :: List.replicate (m - 1) .un, none⟩
theorem startRelL {N : List Str} {a : Addr} {ns : List Int} (e : Sb S H) (hs : SqL K S a (ns.map V.int)) (hl : 1 ≤ N.length) : Rel K ⟨S, H, none, true⟩ (startL N.length ns) S (L2.start N [.ref a]) H := by
  have R := startRel (K := K) (N := N) (vs := [.ref a]) (ds := [.scr ns]) (p := none) e trivial (.cons (.scr hs) .nil) (by simpa using hl)
  obtain ⟨ow, h1, h2, h3, h4⟩ := id R.sl
  have z0 : ow 0 = none := (h1 0 (.dat (.scr ns)) rfl).1
  refine ⟨R.ex, R.fr, trivial, R.pa, by simpa [startL, startD] using R.len, ow, fun i x e => ?_, fun i hi => h2 i (by simpa [startL, startD] using hi), h3, h4⟩
  match i, e with
  | 0, e =>
    cases (show some (Sl.law ns) = some x from e)
    exact ⟨z0, rfl, a, rfl, hs⟩
  | i + 1, e => exact h1 (i + 1) x e
section
variable {P : Program} {w : World} {K : PySem.W.Frag} {mg : Str → Option Value} {base : Heap} {x qual : Str} {st : Stmt} {f : Addr} {fd : FuncData} {N ps : List Str} {k : Nat} {d : dS}
/-- what the law promises: True, of every script -/
def spLawS (K : PySem.W.Frag) : Sp := fun vs H Q _ => ∃ (a : Addr) (ns : List Int), vs = [.ref a] ∧ SqL K H a (ns.map V.int) ∧ ns.length ≤ 63 ∧ Sb H H ∧ ∀ H', Q (.bl true) H'
theorem fn_law (F : Fun K x qual st f fd) (Sc : FnScope N ps (defScope st)) (hn : ps.length = 1)
    (body : ∀ (cdv : Value) (A : Around) (out : List Env) (s : Shared) (H : Hp) (E : XK), A.guards = some [] → Room k (A.deeper (envOfC qual (defScope st) s.heap.objs.size f cdv)) → DSs (cx0 P w K mg base N qual (defScope st) f cdv A out s H E) E00 (defBody st) d)
    (hsp : ∀ ns : List Int, ns.length ≤ 63 → d W0 { nx := fun _ => False, rt := fun x _ => x = .bl true } (startL N.length ns)) : FnG P w K mg base CX0 (k + 1) f fd ps (spLawS K) := by
  refine fn_g F Sc (fun vs H Q E q => by obtain ⟨a, ns, rfl, _⟩ := q; exact hn.symm) fun cdv A out s H vs Q E g r q => ?_
  obtain ⟨a, ns, rfl, hs, hl, sb, q⟩ := q
  have hN : 1 ≤ N.length := by
    have h2 := congrArg List.length Sc.pre
    rw [List.length_take] at h2
    omega
  exact ⟨_, ((body cdv A out s H E g r).run ⟨H, H, none, true⟩).nox, startL N.length ns, H, W0, _, startRelL sb hs hN, hsp ns hl, fun _ _ _ _ _ _ _ h => h.elim, fun _ _ _ _ h => h.elim, fun x δ' v σ' S' H' q1 e1 R1 n1 => by
    subst q1
    cases n1
    exact q _, fun _ _ _ _ h => h.elim, fun _ _ _ _ h => h.elim, fun _ _ _ _ _ _ _ h => h.elim⟩
end
theorem law_spS {H : Hp} {a : Addr} {ns : List Int} (hl : ns.length ≤ 63) (hS : SqL K H a (ns.map V.int)) : spLawS K [.ref a] H (fun v _ => v = .bl true) fun _ _ _ => False := ⟨a, ns, rfl, hS, hl, Sb.same, fun _ => rfl⟩
end Ev

/-! # Small facts about lists, for drawn data -/
namespace Ev
open PySem PySem.Spec PyProof.Rows L2
theorem ixN_in {n : Nat} {r : Int} (h0 : 0 ≤ r) (h1 : r < n) : ixN n r = some r.toNat := by
  unfold ixN
  rw [if_pos h0, if_pos h1]
theorem erase_map {α β : Type} (f : α → β) : ∀ (l : List α) (i : Nat), (l.map f).eraseIdx i = (l.eraseIdx i).map f
  | [], _ => rfl
  | _ :: _, 0 => rfl
  | x :: l, i + 1 => congrArg (f x :: ·) (erase_map f l i)
theorem erase_perm {α : Type} : ∀ {l : List α} {i : Nat} (h : i < l.length), (l[i] :: l.eraseIdx i).Perm l
  | _ :: _, 0, _ => .refl _
  | a :: l, i + 1, h => (List.Perm.swap a _ _).trans (.cons a (erase_perm (l := l) (i := i) (by simpa using h)))
/-- an item at a drawn place -/
theorem atI_map {α : Type} {f : α → D} {xs : List α} {r : Int} (h0 : 0 ≤ r) (h1 : r < (xs.length : Nat)) : ∃ x ∈ xs, atI (xs.map f) r = some (f x) := by
  have h2 : r.toNat < xs.length := by omega
  exact ⟨xs[r.toNat], List.getElem_mem h2, by rw [atI_nn h0, List.getElem?_map, List.getElem?_eq_getElem h2]; rfl⟩
theorem atI_mapLast {α : Type} {f : α → D} {xs : List α} (h : xs ≠ []) : ∃ x ∈ xs, atI (xs.map f) (-1) = some (f x) := by
  rw [atI_neg1, List.getElem?_map, List.length_map]
  have h2 : xs.length - 1 < xs.length := by
    cases xs with
    | nil => exact absurd rfl h
    | cons x r => simp
  exact ⟨xs[xs.length - 1], List.getElem_mem h2, by rw [List.getElem?_eq_getElem h2]; rfl⟩
/-- an item out of a list of so many -/
theorem atI_all {P : D → Prop} : ∀ {xs : List D} {r : Int}, (∀ x ∈ xs, P x) → 0 ≤ r → r < (xs.length : Nat) → ∃ x, atI xs r = some x ∧ P x := fun {xs r} h h0 h1 => by
  have h2 : r.toNat < xs.length := by omega
  exact ⟨xs[r.toNat], by rw [atI_nn h0, List.getElem?_eq_getElem h2], h _ (List.getElem_mem h2)⟩
theorem lt_cases3 {r : Int} (h0 : 0 ≤ r) (h1 : r < 3) : r = 0 ∨ r = 1 ∨ r = 2 := by omega
theorem eq_non_int {i : Int} : D.eq .non (.int i) = false := rfl
theorem eq_int_non {i : Int} : D.eq (.int i) .non = false := rfl

/-! ### a look at everything: all that is one's own is data for so long, and nothing of it comes back but numbers, truths, texts -/
variable {K : PySem.W.Frag} {S S' H H' : Hp} {B : Bs} {δ : DS} {σ : L2.St}
def roSl : Sl → Sl
  | .dat d => .dat d
  | .own ds => .dat (.lst ds)
  | .ownK es => .dat (.dK es)
  | .ownT es => .dat (.dT es)
  | _ => .un
theorem ro_un : roSl .un = .un := rfl
theorem ro_dat {d : D} : roSl (.dat d) = .dat d := rfl
theorem ro_own {ds : List D} : roSl (.own ds) = .dat (.lst ds) := rfl
theorem ro_hp {ds : List D} : roSl (.hp ds) = .un := rfl
theorem ro_law {ds : List Int} : roSl (.law ds) = .un := rfl
theorem ro_ownK {es : List (Key × D)} : roSl (.ownK es) = .dat (.dK es) := rfl
theorem ro_ownT {es : List (List Key × D)} : roSl (.ownT es) = .dat (.dT es) := rfl
theorem flat_int {i : Int} : (D.int i).flat = true := rfl
theorem flat_str {i : Str} : (D.str i).flat = true := rfl
theorem flat_bl {i : Bool} : (D.bl i).flat = true := rfl
theorem flat_non : D.non.flat = true := rfl
def roD (δ : DS) : DS := ⟨δ.sl.map roSl, none⟩
theorem Rel.ro (R : Rel K B δ S σ H) : ∃ (S1 : Hp) (B1 : Bs), Ex S S1 ∧ Rel K B1 (roD δ) S1 σ H ∧ ∀ δ2 S2 H2, Ex S1 S2 → Rel K B1 δ2 S2 σ H2 → ∃ S3, Ex S S3 ∧ Rel K B δ S3 σ H2 := by
  obtain ⟨ow, h1, h2, h3, h4⟩ := id R.sl
  let ownd : Addr → Prop := fun b => ∃ i x, δ.sl[i]? = some x ∧ ow i = some b ∧ (∀ ds, x ≠ .hp ds)
  have hown : ∀ b, ownd b → S b = none := fun b ⟨i, x, _, e, _⟩ => (h4 i b e).1
  have hnt : ∀ b, ownd b → ∃ o, H b = some o ∧ ∀ vs, o ≠ .tup vs := fun b ⟨i, x, hx, e, nh⟩ => by
    have q := h1 i x hx
    cases x with
    | un => rw [e] at q; cases q
    | law ns => rw [e] at q; cases q.1
    | dat d => rw [e] at q; cases q.1
    | own ds => obtain ⟨a, vs, r1, _, _, _, r3, _⟩ := q; rw [e] at r1; cases r1; exact ⟨_, r3, fun _ z => nomatch z⟩
    | hp ds => exact absurd rfl (nh ds)
    | ownK es => obtain ⟨a, vs, r1, _, _, _, r3, _⟩ := q; rw [e] at r1; cases r1; exact ⟨_, r3, fun _ z => nomatch z⟩
    | ownT es => obtain ⟨a, vs, r1, _, _, _, r3, _⟩ := q; rw [e] at r1; cases r1; exact ⟨_, r3, fun _ z => nomatch z⟩
  open Classical in
  let S1 : Hp := fun b => if ownd b then H b else S b
  have s1n : ∀ b, ¬ ownd b → S1 b = S b := fun b h => if_neg h
  have s1o : ∀ b, ownd b → S1 b = H b := fun b h => if_pos h
  have e1 : Ex S S1 := fun a o q => by
    rw [s1n a (fun z => by rw [hown a z] at q; cases q)]; exact q
  have sb1 : Sb S1 H := ⟨fun a o q => by
    by_cases z : ownd a
    · rw [s1o a z] at q; exact q
    · rw [s1n a z] at q; exact R.ex a o q, fun b vs q => e1 _ _ (R.ex.tp b vs q)⟩
  refine ⟨S1, ⟨S1, H, none, true⟩, e1, ⟨sb1, ⟨Ex.refl _, fun _ _ h _ => h, fun _ _ _ n => n, fun _ z => nomatch z⟩, trivial, ?_, by simpa [roD] using R.len, fun _ => none, fun i y e => ?_, fun _ _ => rfl, fun _ _ _ z => (nomatch z), fun _ _ z => nomatch z⟩, fun δ2 S2 H2 ex2 R2 => ?_⟩
  · unfold PaOk
    rw [if_neg (fun z => z.2 rfl)]
    exact fun _ _ z => nomatch z
  · unfold roD at e
    rw [List.getElem?_map] at e
    cases hx : δ.sl[i]? with
    | none => rw [hx] at e; cases e
    | some x =>
      rw [hx] at e
      cases e
      have q := h1 i x hx
      cases x with
      | un => exact rfl
      | law ns => exact rfl
      | dat d => obtain ⟨_, v, q1, q2⟩ := q; exact ⟨rfl, v, q1, q2.mono e1⟩
      | own ds =>
        obtain ⟨a, vs, r1, _, _, r2, r3, r4⟩ := q
        have oa : ownd a := ⟨i, _, hx, r1, fun _ z => nomatch z⟩
        exact ⟨rfl, _, r2, .lst (by rw [s1o a oa]; exact r3) (r4.mono e1)⟩
      | hp ds => exact rfl
      | ownK es =>
        obtain ⟨a, vs, r1, _, _, r2, r3, r4, r5⟩ := q
        have oa : ownd a := ⟨i, _, hx, r1, fun _ z => nomatch z⟩
        exact ⟨rfl, _, r2, .dK (by rw [s1o a oa]; exact r3) r4 (r5.mono e1)⟩
      | ownT es =>
        obtain ⟨a, vs, r1, _, _, r2, r3, r4, r5⟩ := q
        have oa : ownd a := ⟨i, _, hx, r1, fun _ z => nomatch z⟩
        exact ⟨rfl, _, r2, .dT (by rw [s1o a oa]; exact r3) r4 (r5.mono e1)⟩
  · open Classical in
    let S3 : Hp := fun b => if ownd b then none else S2 b
    have s3n : ∀ b, ¬ ownd b → S3 b = S2 b := fun b h => if_neg h
    have s3o : ∀ b, ownd b → S3 b = none := fun b h => if_pos h
    have hh : Ex H H2 := fun b o q => R2.fr.h b o q (fun z => nomatch z)
    have e3 : Ex S S3 := fun a o q => by
      rw [s3n a (fun z => by rw [hown a z] at q; cases q)]
      exact ex2 _ _ (e1 _ _ q)
    refine ⟨S3, e3, R.grow ⟨e3, hh, ⟨fun a o q => ?_, fun b vs q => ?_⟩, fun b o q n => ?_⟩⟩
    · by_cases z : ownd a
      · rw [s3o a z] at q; cases q
      · rw [s3n a z] at q; exact R2.ex a o q
    · by_cases z : ownd b
      · obtain ⟨o, q1, q2⟩ := hnt b z
        rw [hh _ _ q1] at q
        exact absurd (Option.some.inj q) (q2 vs)
      · rw [s3n b z]; exact R2.ex.tp b vs q
    · by_cases z : ownd b
      · exact s3o b z
      · rw [s3n b z]; exact R2.fr.no b o q (by rw [show (Bs.mk S1 H none true).S0 b = S1 b from rfl, s1n b z]; exact n)
theorem DnA.flats {S S' : Hp} : ∀ {vs : List V} {ds : List D}, DnA K S vs ds → (∀ d ∈ ds, d.flat = true) → DnA K S' vs ds
  | _, _, .nil, _ => .nil
  | _, _, .cons h a, f => .cons (h.flat (f _ List.mem_cons_self)) (a.flats fun d hd => f d (List.mem_cons_of_mem _ hd))
section
variable {X : Cx} {E : EK} {e : Expr} {d : dE} {f : dF} {t : dT}
def dRo (d : dE) : dE := fun _ δ Q => d W0 (roD δ) fun x _ => x.flat = true ∧ Q x δ
def dRoF (f : dF) : dF := fun _ δ Q => f W0 (roD δ) fun xs _ => (∀ x ∈ xs, x.flat = true) ∧ Q xs δ
def dRoT (t : dT) : dT := fun _ δ Q => t W0 (roD δ) fun k _ => Q k δ
theorem de_ro (h : DE X E e d) : DE X E e (dRo d) := ⟨fun B => ⟨fun pins s σ H Q I q => by
  obtain ⟨δ, S, W, Q', R, q, xo, post⟩ := q
  obtain ⟨S1, B1, e1, R1, back⟩ := R.ro
  refine (h.run B1).run pins s σ H Q I ⟨roD δ, S1, W0, _, R1, q, xok0, fun x δ2 v S2 H2 q2 e2 R2 n2 => ?_⟩
  obtain ⟨S3, e3, R3⟩ := back δ2 S2 H2 e2 R2
  exact post _ _ _ _ _ q2.2 e3 R3 (n2.flat q2.1)⟩⟩
theorem df_ro (h : DF X E e f) : DF X E e (dRoF f) := ⟨fun B => ⟨fun pins s σ H Q I q => by
  obtain ⟨δ, S, W, Q', R, q, xo, post⟩ := q
  obtain ⟨S1, B1, e1, R1, back⟩ := R.ro
  refine (h.run B1).run pins s σ H Q I ⟨roD δ, S1, W0, _, R1, q, xok0, fun xs δ2 p vs S2 H2 q2 e2 R2 hp n2 => ?_⟩
  obtain ⟨S3, e3, R3⟩ := back δ2 S2 H2 e2 R2
  exact post _ _ _ _ _ _ q2.2 e3 R3 hp (n2.flats q2.1)⟩⟩
theorem dt_ro (h : DT X E e t) : DT X E e (dRoT t) := ⟨fun B => ⟨fun pins s σ H Q I q => by
  obtain ⟨δ, S, W, Q', R, q, xo, post⟩ := q
  obtain ⟨S1, B1, e1, R1, back⟩ := R.ro
  refine (h.run B1).run pins s σ H Q I ⟨roD δ, S1, W0, _, R1, q, xok0, fun k δ2 S2 H2 q2 e2 R2 => ?_⟩
  obtain ⟨S3, e3, R3⟩ := back δ2 S2 H2 e2 R2
  exact post _ _ _ _ q2 e3 R3⟩⟩
variable {E2 : EK} {tg : Expr} {pos : Pos}
theorem ps_pick {st : Stmt} {ι : Type} {t : ι → TS} {t' : TS} (h : ∀ b, PS X st (t b)) (m : ∀ Z σ H, t' Z σ H → ∃ b, t b Z σ H) : PS X st t' := ⟨fun pins s σ H Z I q => by
  obtain ⟨b, q⟩ := m Z σ H q
  exact (h b).run pins s σ H Z I q⟩
theorem ds_setLcRo {i : Nat} {y : Str} {py spos : Pos} {elt iter : Expr} {ifs : List Expr} {scope : Scope} {own : List (Str × Nat)} {w : dI} {g : dG} {tt : dT} {te : dE} {ws : List Nat} (hc : X.calm = true) (hN : X.N.Nodup) (hy : X.N[i]? = some y) (hyl : X.env.scope.names.lookup y = some .local)
    (hsw : swapsWith (.ListComp elt [⟨tg, iter, ifs, 0⟩] scope pos) (some (.Name y py)) spos.line X.env = pure true) (hi : DI X E tg iter w) (ok : BlkOk X.N X.env.scope scope own) (hws : ∀ i ∈ ws, i ∈ own.map (·.2))
    (hg : ∀ (s : Shared) (H : Hp) (C : Addr) (cl : List (Str × Addr)) (fp : List Addr), DG (X.blk s H scope (compEnvC scope cl C X.env) fp) tg g ws) (ht : ∀ (s : Shared) (H : Hp) (C : Addr) (cl : List (Str × Addr)) (fp : List Addr), DTs (X.blk s H scope (compEnvC scope cl C X.env) fp) E2 ifs tt)
    (he : ∀ (s : Shared) (H : Hp) (C : Addr) (cl : List (Str × Addr)) (fp : List Addr), DE (X.blk s H scope (compEnvC scope cl C X.env) fp) E2 elt te) (hs : ∀ x, foldedSetIterable iter X.env x = pure x := by intro _; rfl) :
    DSt X E (.Assign [.Name y py] (.ListComp elt [⟨tg, iter, ifs, 0⟩] scope pos) spos) (dSetF i (dRoF (dLC w g tt te (own.map (·.2))))) := ⟨fun B => ps_pick (fun B1 => ps_setLc hc hN hy hyl hsw (hi.run B1) ok (fun s H C cl fp => exG_ok (hg s H C cl fp)) (fun s H C cl fp => exT_ok (E := E2) (ht s H C cl fp)) (fun s H C cl fp => exE_ok (E := E2) (he s H C cl fp)) hs) fun Z σ H q => by
  obtain ⟨δ, S, W, N, R, q, xo, p1, _⟩ := q
  obtain ⟨S1, B1, e1, R1, back⟩ := R.ro
  refine ⟨B1, lc_read (E2 := E2) hws R1 q xok0 fun xs δ2 p vs S2 H2 q2 e2 R2 hp n2 => ?_⟩
  obtain ⟨S3, e3, R3⟩ := back δ2 S2 H2 e2 R2
  exact p1 _ _ _ _ q2.2 e3 (R3.setOwn hp (n2.flats q2.1))⟩
end
end Ev

/-! # len(set(..)) of unlike numbers; sorted(.., reverse=..) -/
namespace Ev
open PySem PySem.Spec PyProof.Rows L2
theorem ints_any (x : Int) (m : List Int) : ((m.map D.int).any fun z => z.eq (.int x)) = decide (x ∈ m) := by
  induction m with
  | nil => rfl
  | cons a m ih =>
    rw [List.map_cons, List.any_cons, ih, Ev.eq_int]
    by_cases e : a = x
    · subst e; simp
    · have e2 : ¬ x = a := fun z => e z.symm
      simp [e, e2]
theorem some_map_inj {l m : List Int} (h : l.map some = m.map some) : l = m := (List.map_inj_right (fun _ _ => Option.some.inj)).mp h
variable {K : PySem.W.Frag} {S S' H H' : Hp} {B : Bs} {δ : DS} {σ : L2.St}
section
variable {X : Cx} {E : EK} {e a b c : Expr} {es : List Expr} {pos p p2 q : Pos} {da db : dE} {x : Str}
def dLenSet (d : dE) : dE := fun W δ Q => d W δ fun x δ1 => match x with
  | .lst ds => optQ (intsOf ds) fun ns => ns.Nodup ∧ ns.length ≤ 4000 ∧ Q (.int (ns.length : Nat)) δ1
  | _ => False
theorem de_lenSet (hg : Gl X "len") (hm : X.mg "len" = none) (hg2 : Gl X "set") (hm2 : X.mg "set" = none) (ha : DE X E a da) (hc : X.calm = true := by rfl) (na : starEach [a] X.env = (false, eval a X.env) :: starEach [] X.env := by rfl) :
    DE X E (.Call (.Name "len" p) [.Call (.Name "set" p2) [a] [] q] [] pos) (dLenSet da) := ⟨fun B => pe_mono (RZ.pe_lenSetI hg hm hg2 hm2 (ha.run B) hc na) fun σ H Q q => by
  obtain ⟨δ, S, W, Q', R, q, xo, post⟩ := q
  refine ⟨δ, S, W, _, R, q, xo, fun x δ1 v S1 H1 q1 e1 R1 n1 => ?_⟩
  cases x with
  | lst ds =>
    cases n1 with
    | lst h a =>
      obtain ⟨ns, hn, q1, q2, q3⟩ := optQ_ex q1
      have e := ints_valsD a hn
      subst e
      exact ⟨_, ns, rfl, SqL.of (R1.ex _ _ h), q1, q2, post _ _ _ _ _ q3 e1 R1 (.int _)⟩
  | _ => exact q1.elim⟩
/-! ### sorted with reverse -/
def sortDR (k : Bool) (ds : List D) : List D := ds.mergeSort (PySem.W.dataLe k D.py)
def rSrtR (K : PySem.W.Frag) : List V → List V → Hp → VK → Prop := fun vs zs H Q => ∃ S ds k, Sb S H ∧ DnA K S vs [.lst ds] ∧ zs = [.bl k] ∧ srtOk ds ∧ ∀ ws p, H p = none → DnA K S ws (sortDR k ds) → Q (.ref p) (upd H p (.lst ws))
theorem cr_sortR (hu : X.A.units + 66 < cLine) : CallRK X (.builtin "sorted") [Str.ofString "reverse"] (rSrtR X.K) := by
  intro pins s σ H vs zs us ws Q I r rz ⟨S, ds, k, ex, n, e0, ok, q⟩
  subst e0
  obtain ⟨v, rfl, n1⟩ := n.one
  obtain ⟨u, rfl, ru⟩ := vals1 r
  obtain ⟨w1, rfl, e1⟩ := vals1 rz
  obtain rfl : w1 = Value.bool k := e1
  cases n1 with
  | lst h a =>
    obtain rfl : u = Value.ref _ := ru
    obtain ⟨its, rv, hl, hz⟩ := I.list (SqL.of (ex _ _ h))
    obtain ⟨l, dp, al, so, hz2⟩ := ok
    refine PySem.W.sorted_rev_data (R := fun u d => ∃ v, RelV v u ∧ Dn X.K S v d) (enc := D.py) hl.isList (each_dn rv a) (each_reads I ex rv a l) al so hz2 (fun d hd => by rw [D.py_dep]; have := dp d hd; omega) fun out ho eo => ?_
    obtain ⟨ws2, rw_, aw⟩ := dn_each eo
    obtain ⟨ep, he'⟩ := PyProof.Rows.sortedAll_at s.heap its (List.toArray out)
    exact ⟨.ref _, upd H (s.heap.objs.size + 1) (.lst ws2), I.laid (t' := s.toks) (fun _ _ => PyProof.Rows.sortedAll_old) (Nat.le_succ _) ⟨by rw [rw_.length, ho]; exact hz2, out, ep, rw_, he'⟩, rfl, q ws2 _ (I.hok.fresh (Nat.le_succ _)) aw⟩
def dSrtR (k : Bool) (a : dA) : dF := fun W δ Q => a W δ fun xs δ1 => match xs with | [.lst ds] => srtOk ds ∧ Q (sortDR k ds) δ1 | _ => False
theorem df_sortR {k : Bool} {ta : dA} {kp cp : Pos} {j} (hu : X.A.units + 66 < cLine) (hg : Gl X "sorted") (hm : X.mg "sorted" = none) (ha : DA X E (e :: es) ta)
    (he : backTo pos (starEach (e :: es) X.env) = (false, eval e X.env) :: backTo pos (starEach es X.env) := by rfl) (hpl : (backTo pos (starEach (e :: es) X.env)).any (·.1) = false := by rfl) :
    DF X E (.Call (.Name "sorted" p) (e :: es) [⟨some "reverse", .Constant (.bool k) j cp, kp⟩] pos) (dSrtR k ta) := ⟨fun B => pe_mono (pe_callBK (cr_sortR hu) hg hm (by decide +kernel) (ha.run B) (pk_cons pe_bl pk_nil) (by decide) (by decide) he hpl) fun σ H Q q => by
  obtain ⟨δ, S, W, Q', R, q, xo, post⟩ := q
  refine ⟨δ, S, W, _, R, q, xo, fun xs δ1 vs S1 H1 q1 e1 R1 n1 => ?_⟩
  match xs, q1, n1 with
  | [.lst ds], q1, n1 => exact (⟨S1, ds, k, R1.ex, n1, rfl, q1.1, fun ws p hp aw => post _ _ _ _ _ _ q1.2 e1 R1 hp aw⟩ : rSrtR X.K vs [.bl k] H1 Q)⟩
/-- a pen by its name: a list of one's own becomes the pen -/
def dPen1 (i : Nat) : dE := fun _ δ Q => match δ.sl[i]? with
  | some (.own xs) => (∃ (q : Nat) (ns : List Int), δ.sl[q]? = some (.law ns)) ∧ ∃ (ns : List Int) (k m : Int) (c : Nat), xs = penD ns k m ∧ ns.length ≤ 63 ∧ 0 ≤ k ∧ k ≤ c ∧ 0 ≤ m ∧ ∀ p, Q (.raw (.ref p)) { setSl δ i (.dat (.raw (.ref p))) with pen := some (p, c) }
  | some (.dat d) => Q d δ
  | _ => False
theorem de_pen1 {i : Nat} (h : PE X (.Name x p) (tVar i)) : DE X E (.Name x p) (dPen1 i) := ⟨fun B => pe_mono h fun σ H Q q => by
  obtain ⟨δ, S, W, Q', R, q, xo, post⟩ := q
  unfold dPen1 at q
  split at q
  · rename_i xs e1
    obtain ⟨⟨ql, nl, hl⟩, ns, k, m, c, rfl, w1, w2, w3, w4, q⟩ := q
    obtain ⟨p, hp, R1⟩ := R.promote (R.law hl).1 e1 w1 w2 w3 w4
    exact ⟨_, hp, post _ _ _ _ _ (q p) (Ex.refl _) R1 (.raw _)⟩
  · rename_i d hd
    obtain ⟨v, e1, e2⟩ := R.dat hd
    exact ⟨v, e1, post _ _ _ _ _ q (Ex.refl _) R e2⟩
  · exact q.elim⟩
end
end Ev

namespace Ev38
open PySem PySem.Spec PyProof.Rows L2 Ev
def topS (i : Nat) : Stmt := PySem.Challenge.pw_eventrooms_k38_whole_there_and_back.main.body.getD i (.Pass ⟨0, 0, 0, 0⟩)
def sp__law_draw : dSp := spDraw 65536
abbrev s__law_draw : Stmt := topS 22
abbrev n__law_draw : List Str := ["_law_pen", "_law_upto", "_law_digit", "_law_nth", "_law_cell", "_law_mixed"]
theorem sc__law_draw : FnScope n__law_draw ["_law_pen", "_law_upto"] (defScope s__law_draw) := ⟨rfl, rfl, rfl, by decide +kernel, rfl, by decide +kernel, by decide +kernel⟩
def p__law_draw_x2_0 : dS := (dSet 2 (dBin rModI (dOwnIx 0 (dC (.int 2))) (dVar 1)))
def p__law_draw_x2_1 : dS := (dSetIx 0 (dC (.int 2)) (dBin rDivI (dOwnIx 0 (dC (.int 2))) (dVar 1)))
def p__law_draw_x2_2 : dS := (dRet (dVar 2))
def b__law_draw_x2_2 : dS := p__law_draw_x2_2
def b__law_draw_x2_1 : dS := dSeq p__law_draw_x2_1 b__law_draw_x2_2
def b__law_draw_x2_0 : dS := dSeq p__law_draw_x2_0 b__law_draw_x2_1
def p__law_draw_x3_0 : dS := (dSetIx 0 (dC (.int 2)) (dBin rDivI (dCB rAbs (dCons (dVar 4) dNil)) (dVar 1)))
def p__law_draw_x3_1 : dS := (dRet (dBin rModI (dCB rAbs (dCons (dVar 4) dNil)) (dVar 1)))
def b__law_draw_x3_1 : dS := p__law_draw_x3_1
def b__law_draw_x3_0 : dS := dSeq p__law_draw_x3_0 b__law_draw_x3_1
def p__law_draw_0 : dS := (dIfS (dB (dBin (rGt) (dOwnIx 0 (dC (.int 2))) (dC (.int 0)))) b__law_draw_x2_0 dNext)
def p__law_draw_1 : dS := (dSet 3 (dOwnIx 0 (dC (.int 1))))
def p__law_draw_2 : dS := (dSetIx 0 (dC (.int 1)) (dBin rAddD (dVar 3) (dC (.int 1))))
def p__law_draw_3 : dS := (dSet 4 (dBin rAddD (dBin rMulI (dC (.int 62003)) (dVar 3)) (dC (.int 43))))
def p__law_draw_4 : dS := (dIfS (dB (dBin (rNe) (dOwnIx 0 (dC (.int 0))) (dFz (dLst dNil)))) (dSet 4 (dBin rIxD (dOwnIx 0 (dC (.int 0))) (dBin rModI (dVar 3) (dCB rLen (dCons (dOwnIx 0 (dC (.int 0))) dNil))))) dNext)
def p__law_draw_5 : dS := (dIfS (dAnd (dB (dBin (rLt) (dVar 3) (dCB rLen (dCons (dOwnIx 0 (dC (.int 0))) dNil)))) (dB (dBin (rGe) (dCB rAbs (dCons (dVar 4) dNil)) (dBin rPowI (dC (.int 10)) (dC (.int 18)))))) b__law_draw_x3_0 dNext)
def p__law_draw_6 : dS := (dSet 5 (dBin rModI (dBin rPowI (dBin rAddD (dBin rAddD (dBin rModI (dVar 4) (dC (.int 2147483579))) (dBin rMulI (dC (.int 48017)) (dVar 3))) (dC (.int 67))) (dC (.int 3))) (dC (.int 2147483629))))
def p__law_draw_7 : dS := (dSet 5 (dBin rModI (dBin rPowI (dBin rAddD (dBin rAddD (dVar 5) (dBin rMulI (dBin rMulI (dC (.int 70019)) (dVar 3)) (dVar 3))) (dC (.int 31))) (dC (.int 5))) (dC (.int 2147483549))))
def p__law_draw_8 : dS := (dRet (dBin rModI (dBin rDivI (dBin rModI (dBin rAddD (dBin rMulI (dVar 5) (dBin rAddD (dBin rMulI (dC (.int 2)) (dVar 3)) (dC (.int 35)))) (dC (.int 77))) (dC (.int 2147483647))) (dC (.int 16))) (dVar 1)))
def b__law_draw_8 : dS := p__law_draw_8
def b__law_draw_7 : dS := dSeq p__law_draw_7 b__law_draw_8
def b__law_draw_6 : dS := dSeq p__law_draw_6 b__law_draw_7
def b__law_draw_5 : dS := dSeq p__law_draw_5 b__law_draw_6
def b__law_draw_4 : dS := dSeq p__law_draw_4 b__law_draw_5
def b__law_draw_3 : dS := dSeq p__law_draw_3 b__law_draw_4
def b__law_draw_2 : dS := dSeq p__law_draw_2 b__law_draw_3
def b__law_draw_1 : dS := dSeq p__law_draw_1 b__law_draw_2
def b__law_draw_0 : dS := dSeq p__law_draw_0 b__law_draw_1
def b__law_draw : dS := b__law_draw_0
theorem run__law_draw {P : Program} {w : World} {K : PySem.W.Frag} {mg : Str → Option Value} {base : Heap} (m_abs : mg "abs" = none) (m_len : mg "len" = none) {f : Addr} (cdv : Value) (A : Around) (out : List Env) (s : Shared) (H : Hp) (E : XK) (g : A.guards = some []) (hrA : Room 0 (A.deeper (envOfC "_law_draw" (defScope s__law_draw) s.heap.objs.size f cdv))) :
  DSs (cx0 P w K mg base n__law_draw "_law_draw" (defScope s__law_draw) f cdv A out s H E) E00 (defBody s__law_draw) b__law_draw := by
 have hgA : (A.deeper (envOfC "_law_draw" (defScope s__law_draw) s.heap.objs.size f cdv)).guards = some [] := g
 have hun := hrA.un
 exact (dss_cons (t := p__law_draw_0) (u := b__law_draw_1) (ds_if (dt_cmp (od_gt) (de_ownIx (pv 0) de_int (fun _ _ => rfl)) de_int (nomark _)) (dss_cons (t := p__law_draw_x2_0) (u := b__law_draw_x2_1) (ds_set (i := 2) sc__law_draw.nd rfl (by first | exact .inl rfl | exact .inr rfl) (de_op od_mod (de_ownIx (pv 0) de_int (fun _ _ => rfl)) (de_var (pv 1))))
  (dss_cons (t := p__law_draw_x2_1) (u := b__law_draw_x2_2) (ds_setIx (pv 0) de_int (de_op od_div (de_ownIx (pv 0) de_int (fun _ _ => rfl)) (de_var (pv 1))))
  (dss_one (t := p__law_draw_x2_2) (ds_ret (de_var (pv 2)))))) dss_nil)
  (dss_cons (t := p__law_draw_1) (u := b__law_draw_2) (ds_set (i := 3) sc__law_draw.nd rfl (by first | exact .inl rfl | exact .inr rfl) (de_ownIx (pv 0) de_int (fun _ _ => rfl)))
  (dss_cons (t := p__law_draw_2) (u := b__law_draw_3) (ds_setIx (pv 0) de_int (de_op od_add (de_var (pv 3)) de_int))
  (dss_cons (t := p__law_draw_3) (u := b__law_draw_4) (ds_set (i := 4) sc__law_draw.nd rfl (by first | exact .inl rfl | exact .inr rfl) (de_op od_add (de_op od_mul de_int (de_var (pv 3))) de_int))
  (dss_cons (t := p__law_draw_4) (u := b__law_draw_5) (ds_if (dt_cmp (od_ne (Nat.lt_of_le_of_lt (Nat.add_le_add_left (by decide) _) hun)) (de_ownIx (pv 0) de_int (fun _ _ => rfl)) (de_fz (df_lst da_nil)) (nomark _)) (dss_one (ds_set (i := 4) sc__law_draw.nd rfl (by first | exact .inl rfl | exact .inr rfl) (de_ix (de_ownIx (pv 0) de_int (fun _ _ => rfl)) (de_op od_mod (de_var (pv 3)) (de_callB (cd_len) (by rfl) m_len PySem.boot_len (da_cons (de_ownIx (pv 0) de_int (fun _ _ => rfl)) da_nil))) (fun _ _ => rfl)))) dss_nil)
  (dss_cons (t := p__law_draw_5) (u := b__law_draw_6) (ds_if ((dw_and (dt_cmp (od_lt) (de_var (pv 3)) (de_callB (cd_len) (by rfl) m_len PySem.boot_len (da_cons (de_ownIx (pv 0) de_int (fun _ _ => rfl)) da_nil)) (nomark _)) (dw_and1 (dt_cmp (od_ge) (de_callB (cd_abs) (by rfl) m_abs (by decide +kernel) (da_cons (de_var (pv 4)) da_nil)) (de_op od_pow de_int de_int) (nomark _))))).dt (dss_cons (t := p__law_draw_x3_0) (u := b__law_draw_x3_1) (ds_setIx (pv 0) de_int (de_op od_div (de_callB (cd_abs) (by rfl) m_abs (by decide +kernel) (da_cons (de_var (pv 4)) da_nil)) (de_var (pv 1))))
  (dss_one (t := p__law_draw_x3_1) (ds_ret (de_op od_mod (de_callB (cd_abs) (by rfl) m_abs (by decide +kernel) (da_cons (de_var (pv 4)) da_nil)) (de_var (pv 1)))))) dss_nil)
  (dss_cons (t := p__law_draw_6) (u := b__law_draw_7) (ds_set (i := 5) sc__law_draw.nd rfl (by first | exact .inl rfl | exact .inr rfl) (de_op od_mod (de_op od_pow (de_op od_add (de_op od_add (de_op od_mod (de_var (pv 4)) de_int) (de_op od_mul de_int (de_var (pv 3)))) de_int) de_int) de_int))
  (dss_cons (t := p__law_draw_7) (u := b__law_draw_8) (ds_set (i := 5) sc__law_draw.nd rfl (by first | exact .inl rfl | exact .inr rfl) (de_op od_mod (de_op od_pow (de_op od_add (de_op od_add (de_var (pv 5)) (de_op od_mul (de_op od_mul de_int (de_var (pv 3))) (de_var (pv 3)))) de_int) de_int) de_int))
  (dss_one (t := p__law_draw_8) (ds_ret (de_op od_mod (de_op od_div (de_op od_mod (de_op od_add (de_op od_mul (de_var (pv 5)) (de_op od_add (de_op od_mul de_int (de_var (pv 3))) de_int)) de_int) de_int) de_int) (de_var (pv 1)))))))))))))
theorem hsp__law_draw : ∀ (ns : List Int) (k m n : Int), ns.length ≤ 63 → 0 ≤ k → k < (65536 : Nat) → 0 ≤ m → 0 < n → n < 1000000 →
      b__law_draw W0 { nx := fun _ => False, rt := fun x δ => ∃ r k' m' : Int, x = .int r ∧ 0 ≤ r ∧ r < n ∧ 0 ≤ k' ∧ k' ≤ k + 1 ∧ 0 ≤ m' ∧ δ.sl[0]? = some (.hp (penD ns k' m')) } ⟨.hp (penD ns k m) :: .dat (.int n) :: List.replicate (n__law_draw.length - 2) .un, none⟩ := by
  intro ns k m n hl k0 k1 m0 n0 n1
  have ab : ∀ i : Int, 0 ≤ (if i < 0 then -i else i) := fun i => by split <;> omega
  have dv : ∀ i : Int, 0 ≤ i → 0 ≤ i / n := fun i h => Int.ediv_nonneg h (by omega)
  by_cases hm : 0 < m
  · simp only [dLenSet, dSrtR, dRo, dRoF, dRoT, roD, ro_un, ro_dat, ro_own, ro_hp, ro_law, ro_ownK, ro_ownT, List.forall_mem_map, flat_int, flat_str, flat_bl, flat_non, dSeq, dNext, dSet, dSetF, setSl, dVar, dTake, dC, dBin, dBinF, dB, dIfS, dIf, dRet, dRetN, dExpr, dNil, dCons, dTup, dLst, dFz, dAnd, dOr, dNot, dAndV, dOrV, dNotV, dCallD, dCallK, dCB, dCBF, dFor, dLC, dYes, dRng1, dRng2, dSeqI, gN, gT, gsNil, gsCons, dAsg, dNeg, dJoin, dFs, dJs, dFmt, dApp, dExt, dPop, dPopAt, dOwnIx, dOwnCB, dOwnL, dOwnR, dOwnSl, dSetIx, dSlT, dSlL, oNone, oSome, dBorn, optQ, ownAt, setOwnAt, lookAt, wipeD, dNewDT, dNewDK, dDGet, dDIn, dDPut, dSortT, rSrt, isDict, Ev.dictGet, Ev.dictPut, Option.isSome_none, Option.isSome_some, D.keyT, keysOf, D.key, exists_eq_left', exists_eq_left, Option.isSome, rRepL, rCatL, dRetF, dIfF, dPar, dRetOwn, dCallL, dCallLK, dPen2, dRev, dRevI, dIndex, endsL, startL, dNever, dBrk, dCnt, rAddD, rSubI, rIO, rMulI, rDivI, rModI, rPowI, rCI, rIxD, rIsN, rNotN, D.isN, rLen, rTuple, rList, rAbs, rInt, rStr, Ev.rRepr, Ev.rIsi, D.ty, kit_tab, startD, endsD, List.map_cons, List.map_nil, List.length_cons, List.length_nil, List.append_nil, List.nil_append, List.cons_append, List.getElem?_cons_zero, List.getElem?_cons_succ, List.getElem?_nil, List.set_cons_zero, List.set_cons_succ, List.replicate, List.replicate_succ, Nat.zero_add, Nat.zero_le, sizeLine, true_and, and_true, if_true, Ev.eq_int, Ev.eq_str, Ev.eq_bl, Ev.eq_non, lst_nil, tup_nil, List.map_eq_nil_iff, txt_join, rLt, rLe, rGt, rGe, atI_ofNat, atI_last, wLC, strsOf, intsOf, blsOf, Option.map_some, Ev.join_two, Ev.join_one, Ev.join_nil, List.sum_cons, List.sum_nil, PySem.Str.empty_append, ixN_ofNat, Option.some.injEq, exists_eq', List.length_map, decide_true, decide_false, Bool.not_true, Bool.not_false, Bool.true_eq_false, Bool.false_eq_true, false_and, and_false, if_false, ite_true, ite_false, Nat.reduceAdd, Nat.reduceSub, Nat.reduceMul, Nat.reduceLT, Nat.reduceLeDiff, Nat.reduceEqDiff, Nat.reducePow, Int.reduceToNat, Int.reducePow, pickL, List.filterMap_cons, List.filterMap_nil, and_self, Int.reduceLT, Int.reduceLE, Int.reduceNeg, Int.reduceAdd, Int.reduceMul, Int.reduceSub, Int.reduceEq, reduceIte, reduceCtorEq, lit_eq, String.reduceEq, Ev.rEq, Ev.rNe, Ev.rInD, cut_toN, cut_fromN, List.map_take, List.forall_mem_cons, List.forall_mem_nil, List.not_mem_nil, false_imp_iff, implies_true, forall_const, D.cm, D.lay, D.lays, D.dep, D.deps, strOk_lit, lays_ints, deps_ints, Nat.max_self, Nat.max_zero, Nat.zero_max, Bool.and_self, Bool.true_and, Bool.and_true, Bool.and_false, Bool.false_and, Bool.or_false, Bool.or_true, Bool.true_or, Bool.false_or, List.any_cons, List.any_nil, decide_eq_true_eq, eq_self, b__law_draw, n__law_draw, p__law_draw_x2_0, p__law_draw_x2_1, p__law_draw_x2_2, b__law_draw_x2_2, b__law_draw_x2_1, b__law_draw_x2_0, p__law_draw_x3_0, p__law_draw_x3_1, b__law_draw_x3_1, b__law_draw_x3_0, p__law_draw_0, p__law_draw_1, p__law_draw_2, p__law_draw_3, p__law_draw_4, p__law_draw_5, p__law_draw_6, p__law_draw_7, p__law_draw_8, b__law_draw_8, b__law_draw_7, b__law_draw_6, b__law_draw_5, b__law_draw_4, b__law_draw_3, b__law_draw_2, b__law_draw_1, b__law_draw_0, penD, hm]
    refine ⟨n0, ⟨n0, by omega⟩, _, _, _, rfl, Int.emod_nonneg _ (by omega), Int.emod_lt_of_pos _ n0, k0, by omega, dv _ m0, rfl⟩
  · have t0 := mul_bnd (a := 70019 * k) (b := k) (A := 70019 * 65536) (B := 65536) (by omega) (by omega) k0 (by omega)
    have leaf : ∀ c : Int, CMul 48017 k ∧ CPow (c % 2147483579 + 48017 * k + 67) 3 ∧ CMul 70019 k ∧ CMul (70019 * k) k ∧ CMul 2 k ∧ ∀ low : Int, 0 ≤ low → low < 2147483629 → CPow (low + 70019 * k * k + 31) 5 := fun c =>
      ⟨.inl ⟨by decide, by decide⟩, ⟨by decide, by decide, by omega⟩, .inl ⟨by decide, by decide⟩, .inr ⟨by omega, by omega⟩, .inl ⟨by decide, by decide⟩, fun low h1 h2 => ⟨by decide, by decide, by omega⟩⟩
    have top : ∀ z : Int, CMul z (2 * k + 35) := fun z => .inr ⟨by omega, by omega⟩
    have fin : ∀ c : Int, ∃ r k' m' : Int, D.int (c % n) = D.int r ∧ 0 ≤ r ∧ r < n ∧ 0 ≤ k' ∧ k' ≤ k + 1 ∧ 0 ≤ m' ∧ Sl.hp [D.lst (ns.map D.int), D.int (k + 1), D.int m] = Sl.hp [D.lst (ns.map D.int), D.int k', D.int m'] := fun c =>
      ⟨_, _, _, rfl, Int.emod_nonneg _ (by omega), Int.emod_lt_of_pos _ n0, by omega, by omega, m0, rfl⟩
    have cm : CMul 62003 k := .inl ⟨by decide, by decide⟩
    have cd : ∀ z : Int, CDiv z 16 := fun _ => ⟨by decide, by decide⟩
    have low : ∀ z : Int, 0 ≤ z % 2147483629 ∧ z % 2147483629 < 2147483629 := fun z => ⟨Int.emod_nonneg _ (by decide), Int.emod_lt_of_pos _ (by decide)⟩
    by_cases hn : ns = []
    · have hk : ¬ k < ns.length := by rw [hn]; simp; omega
      obtain ⟨l1, l2, l3, l4, l5, l6⟩ := leaf (62003 * k + 43)
      simp only [dLenSet, dSrtR, dRo, dRoF, dRoT, roD, ro_un, ro_dat, ro_own, ro_hp, ro_law, ro_ownK, ro_ownT, List.forall_mem_map, flat_int, flat_str, flat_bl, flat_non, dSeq, dNext, dSet, dSetF, setSl, dVar, dTake, dC, dBin, dBinF, dB, dIfS, dIf, dRet, dRetN, dExpr, dNil, dCons, dTup, dLst, dFz, dAnd, dOr, dNot, dAndV, dOrV, dNotV, dCallD, dCallK, dCB, dCBF, dFor, dLC, dYes, dRng1, dRng2, dSeqI, gN, gT, gsNil, gsCons, dAsg, dNeg, dJoin, dFs, dJs, dFmt, dApp, dExt, dPop, dPopAt, dOwnIx, dOwnCB, dOwnL, dOwnR, dOwnSl, dSetIx, dSlT, dSlL, oNone, oSome, dBorn, optQ, ownAt, setOwnAt, lookAt, wipeD, dNewDT, dNewDK, dDGet, dDIn, dDPut, dSortT, rSrt, isDict, Ev.dictGet, Ev.dictPut, Option.isSome_none, Option.isSome_some, D.keyT, keysOf, D.key, exists_eq_left', exists_eq_left, Option.isSome, rRepL, rCatL, dRetF, dIfF, dPar, dRetOwn, dCallL, dCallLK, dPen2, dRev, dRevI, dIndex, endsL, startL, dNever, dBrk, dCnt, rAddD, rSubI, rIO, rMulI, rDivI, rModI, rPowI, rCI, rIxD, rIsN, rNotN, D.isN, rLen, rTuple, rList, rAbs, rInt, rStr, Ev.rRepr, Ev.rIsi, D.ty, kit_tab, startD, endsD, List.map_cons, List.map_nil, List.length_cons, List.length_nil, List.append_nil, List.nil_append, List.cons_append, List.getElem?_cons_zero, List.getElem?_cons_succ, List.getElem?_nil, List.set_cons_zero, List.set_cons_succ, List.replicate, List.replicate_succ, Nat.zero_add, Nat.zero_le, sizeLine, true_and, and_true, if_true, Ev.eq_int, Ev.eq_str, Ev.eq_bl, Ev.eq_non, lst_nil, tup_nil, List.map_eq_nil_iff, txt_join, rLt, rLe, rGt, rGe, atI_ofNat, atI_last, wLC, strsOf, intsOf, blsOf, Option.map_some, Ev.join_two, Ev.join_one, Ev.join_nil, List.sum_cons, List.sum_nil, PySem.Str.empty_append, ixN_ofNat, Option.some.injEq, exists_eq', List.length_map, decide_true, decide_false, Bool.not_true, Bool.not_false, Bool.true_eq_false, Bool.false_eq_true, false_and, and_false, if_false, ite_true, ite_false, Nat.reduceAdd, Nat.reduceSub, Nat.reduceMul, Nat.reduceLT, Nat.reduceLeDiff, Nat.reduceEqDiff, Nat.reducePow, Int.reduceToNat, Int.reducePow, pickL, List.filterMap_cons, List.filterMap_nil, and_self, Int.reduceLT, Int.reduceLE, Int.reduceNeg, Int.reduceAdd, Int.reduceMul, Int.reduceSub, Int.reduceEq, reduceIte, reduceCtorEq, lit_eq, String.reduceEq, Ev.rEq, Ev.rNe, Ev.rInD, cut_toN, cut_fromN, List.map_take, List.forall_mem_cons, List.forall_mem_nil, List.not_mem_nil, false_imp_iff, implies_true, forall_const, D.cm, D.lay, D.lays, D.dep, D.deps, strOk_lit, lays_ints, deps_ints, Nat.max_self, Nat.max_zero, Nat.zero_max, Bool.and_self, Bool.true_and, Bool.and_true, Bool.and_false, Bool.false_and, Bool.or_false, Bool.or_true, Bool.true_or, Bool.false_or, List.any_cons, List.any_nil, decide_eq_true_eq, eq_self, b__law_draw, n__law_draw, p__law_draw_x2_0, p__law_draw_x2_1, p__law_draw_x2_2, b__law_draw_x2_2, b__law_draw_x2_1, b__law_draw_x2_0, p__law_draw_x3_0, p__law_draw_x3_1, b__law_draw_x3_1, b__law_draw_x3_0, p__law_draw_0, p__law_draw_1, p__law_draw_2, p__law_draw_3, p__law_draw_4, p__law_draw_5, p__law_draw_6, p__law_draw_7, p__law_draw_8, b__law_draw_8, b__law_draw_7, b__law_draw_6, b__law_draw_5, b__law_draw_4, b__law_draw_3, b__law_draw_2, b__law_draw_1, b__law_draw_0, penD, hm, eq_true hn, hk]
      exact ⟨cm, l1, l2, l3, l4, l6 _ (low _).1 (low _).2, l5, top _, cd _, n0, fin _⟩
    · have h0 : (0 : Int) < ns.length := by
        cases ns with
        | nil => exact absurd rfl hn
        | cons x r => simp only [List.length_cons]; omega
      obtain ⟨c, hc⟩ := cell_at (k := k) h0
      obtain ⟨l1, l2, l3, l4, l5, l6⟩ := leaf c
      by_cases hk : k < ns.length
      · by_cases hb : 1000000000000000000 ≤ (if c < 0 then -c else c)
        · simp only [dLenSet, dSrtR, dRo, dRoF, dRoT, roD, ro_un, ro_dat, ro_own, ro_hp, ro_law, ro_ownK, ro_ownT, List.forall_mem_map, flat_int, flat_str, flat_bl, flat_non, dSeq, dNext, dSet, dSetF, setSl, dVar, dTake, dC, dBin, dBinF, dB, dIfS, dIf, dRet, dRetN, dExpr, dNil, dCons, dTup, dLst, dFz, dAnd, dOr, dNot, dAndV, dOrV, dNotV, dCallD, dCallK, dCB, dCBF, dFor, dLC, dYes, dRng1, dRng2, dSeqI, gN, gT, gsNil, gsCons, dAsg, dNeg, dJoin, dFs, dJs, dFmt, dApp, dExt, dPop, dPopAt, dOwnIx, dOwnCB, dOwnL, dOwnR, dOwnSl, dSetIx, dSlT, dSlL, oNone, oSome, dBorn, optQ, ownAt, setOwnAt, lookAt, wipeD, dNewDT, dNewDK, dDGet, dDIn, dDPut, dSortT, rSrt, isDict, Ev.dictGet, Ev.dictPut, Option.isSome_none, Option.isSome_some, D.keyT, keysOf, D.key, exists_eq_left', exists_eq_left, Option.isSome, rRepL, rCatL, dRetF, dIfF, dPar, dRetOwn, dCallL, dCallLK, dPen2, dRev, dRevI, dIndex, endsL, startL, dNever, dBrk, dCnt, rAddD, rSubI, rIO, rMulI, rDivI, rModI, rPowI, rCI, rIxD, rIsN, rNotN, D.isN, rLen, rTuple, rList, rAbs, rInt, rStr, Ev.rRepr, Ev.rIsi, D.ty, kit_tab, startD, endsD, List.map_cons, List.map_nil, List.length_cons, List.length_nil, List.append_nil, List.nil_append, List.cons_append, List.getElem?_cons_zero, List.getElem?_cons_succ, List.getElem?_nil, List.set_cons_zero, List.set_cons_succ, List.replicate, List.replicate_succ, Nat.zero_add, Nat.zero_le, sizeLine, true_and, and_true, if_true, Ev.eq_int, Ev.eq_str, Ev.eq_bl, Ev.eq_non, lst_nil, tup_nil, List.map_eq_nil_iff, txt_join, rLt, rLe, rGt, rGe, atI_ofNat, atI_last, wLC, strsOf, intsOf, blsOf, Option.map_some, Ev.join_two, Ev.join_one, Ev.join_nil, List.sum_cons, List.sum_nil, PySem.Str.empty_append, ixN_ofNat, Option.some.injEq, exists_eq', List.length_map, decide_true, decide_false, Bool.not_true, Bool.not_false, Bool.true_eq_false, Bool.false_eq_true, false_and, and_false, if_false, ite_true, ite_false, Nat.reduceAdd, Nat.reduceSub, Nat.reduceMul, Nat.reduceLT, Nat.reduceLeDiff, Nat.reduceEqDiff, Nat.reducePow, Int.reduceToNat, Int.reducePow, pickL, List.filterMap_cons, List.filterMap_nil, and_self, Int.reduceLT, Int.reduceLE, Int.reduceNeg, Int.reduceAdd, Int.reduceMul, Int.reduceSub, Int.reduceEq, reduceIte, reduceCtorEq, lit_eq, String.reduceEq, Ev.rEq, Ev.rNe, Ev.rInD, cut_toN, cut_fromN, List.map_take, List.forall_mem_cons, List.forall_mem_nil, List.not_mem_nil, false_imp_iff, implies_true, forall_const, D.cm, D.lay, D.lays, D.dep, D.deps, strOk_lit, lays_ints, deps_ints, Nat.max_self, Nat.max_zero, Nat.zero_max, Bool.and_self, Bool.true_and, Bool.and_true, Bool.and_false, Bool.false_and, Bool.or_false, Bool.or_true, Bool.true_or, Bool.false_or, List.any_cons, List.any_nil, decide_eq_true_eq, eq_self, b__law_draw, n__law_draw, p__law_draw_x2_0, p__law_draw_x2_1, p__law_draw_x2_2, b__law_draw_x2_2, b__law_draw_x2_1, b__law_draw_x2_0, p__law_draw_x3_0, p__law_draw_x3_1, b__law_draw_x3_1, b__law_draw_x3_0, p__law_draw_0, p__law_draw_1, p__law_draw_2, p__law_draw_3, p__law_draw_4, p__law_draw_5, p__law_draw_6, p__law_draw_7, p__law_draw_8, b__law_draw_8, b__law_draw_7, b__law_draw_6, b__law_draw_5, b__law_draw_4, b__law_draw_3, b__law_draw_2, b__law_draw_1, b__law_draw_0, penD, hm, eq_false hn, hc, hk, hb]
          exact ⟨cm, h0, ⟨by decide, by decide, by decide⟩, ⟨n0, by omega⟩, n0, _, _, _, rfl, Int.emod_nonneg _ (by omega), Int.emod_lt_of_pos _ n0, by omega, by omega, dv _ (ab c), rfl⟩
        · simp only [dLenSet, dSrtR, dRo, dRoF, dRoT, roD, ro_un, ro_dat, ro_own, ro_hp, ro_law, ro_ownK, ro_ownT, List.forall_mem_map, flat_int, flat_str, flat_bl, flat_non, dSeq, dNext, dSet, dSetF, setSl, dVar, dTake, dC, dBin, dBinF, dB, dIfS, dIf, dRet, dRetN, dExpr, dNil, dCons, dTup, dLst, dFz, dAnd, dOr, dNot, dAndV, dOrV, dNotV, dCallD, dCallK, dCB, dCBF, dFor, dLC, dYes, dRng1, dRng2, dSeqI, gN, gT, gsNil, gsCons, dAsg, dNeg, dJoin, dFs, dJs, dFmt, dApp, dExt, dPop, dPopAt, dOwnIx, dOwnCB, dOwnL, dOwnR, dOwnSl, dSetIx, dSlT, dSlL, oNone, oSome, dBorn, optQ, ownAt, setOwnAt, lookAt, wipeD, dNewDT, dNewDK, dDGet, dDIn, dDPut, dSortT, rSrt, isDict, Ev.dictGet, Ev.dictPut, Option.isSome_none, Option.isSome_some, D.keyT, keysOf, D.key, exists_eq_left', exists_eq_left, Option.isSome, rRepL, rCatL, dRetF, dIfF, dPar, dRetOwn, dCallL, dCallLK, dPen2, dRev, dRevI, dIndex, endsL, startL, dNever, dBrk, dCnt, rAddD, rSubI, rIO, rMulI, rDivI, rModI, rPowI, rCI, rIxD, rIsN, rNotN, D.isN, rLen, rTuple, rList, rAbs, rInt, rStr, Ev.rRepr, Ev.rIsi, D.ty, kit_tab, startD, endsD, List.map_cons, List.map_nil, List.length_cons, List.length_nil, List.append_nil, List.nil_append, List.cons_append, List.getElem?_cons_zero, List.getElem?_cons_succ, List.getElem?_nil, List.set_cons_zero, List.set_cons_succ, List.replicate, List.replicate_succ, Nat.zero_add, Nat.zero_le, sizeLine, true_and, and_true, if_true, Ev.eq_int, Ev.eq_str, Ev.eq_bl, Ev.eq_non, lst_nil, tup_nil, List.map_eq_nil_iff, txt_join, rLt, rLe, rGt, rGe, atI_ofNat, atI_last, wLC, strsOf, intsOf, blsOf, Option.map_some, Ev.join_two, Ev.join_one, Ev.join_nil, List.sum_cons, List.sum_nil, PySem.Str.empty_append, ixN_ofNat, Option.some.injEq, exists_eq', List.length_map, decide_true, decide_false, Bool.not_true, Bool.not_false, Bool.true_eq_false, Bool.false_eq_true, false_and, and_false, if_false, ite_true, ite_false, Nat.reduceAdd, Nat.reduceSub, Nat.reduceMul, Nat.reduceLT, Nat.reduceLeDiff, Nat.reduceEqDiff, Nat.reducePow, Int.reduceToNat, Int.reducePow, pickL, List.filterMap_cons, List.filterMap_nil, and_self, Int.reduceLT, Int.reduceLE, Int.reduceNeg, Int.reduceAdd, Int.reduceMul, Int.reduceSub, Int.reduceEq, reduceIte, reduceCtorEq, lit_eq, String.reduceEq, Ev.rEq, Ev.rNe, Ev.rInD, cut_toN, cut_fromN, List.map_take, List.forall_mem_cons, List.forall_mem_nil, List.not_mem_nil, false_imp_iff, implies_true, forall_const, D.cm, D.lay, D.lays, D.dep, D.deps, strOk_lit, lays_ints, deps_ints, Nat.max_self, Nat.max_zero, Nat.zero_max, Bool.and_self, Bool.true_and, Bool.and_true, Bool.and_false, Bool.false_and, Bool.or_false, Bool.or_true, Bool.true_or, Bool.false_or, List.any_cons, List.any_nil, decide_eq_true_eq, eq_self, b__law_draw, n__law_draw, p__law_draw_x2_0, p__law_draw_x2_1, p__law_draw_x2_2, b__law_draw_x2_2, b__law_draw_x2_1, b__law_draw_x2_0, p__law_draw_x3_0, p__law_draw_x3_1, b__law_draw_x3_1, b__law_draw_x3_0, p__law_draw_0, p__law_draw_1, p__law_draw_2, p__law_draw_3, p__law_draw_4, p__law_draw_5, p__law_draw_6, p__law_draw_7, p__law_draw_8, b__law_draw_8, b__law_draw_7, b__law_draw_6, b__law_draw_5, b__law_draw_4, b__law_draw_3, b__law_draw_2, b__law_draw_1, b__law_draw_0, penD, hm, eq_false hn, hc, hk, hb]
          exact ⟨cm, h0, ⟨by decide, by decide, by decide⟩, l1, l2, l3, l4, l6 _ (low _).1 (low _).2, l5, top _, cd _, n0, fin _⟩
      · simp only [dLenSet, dSrtR, dRo, dRoF, dRoT, roD, ro_un, ro_dat, ro_own, ro_hp, ro_law, ro_ownK, ro_ownT, List.forall_mem_map, flat_int, flat_str, flat_bl, flat_non, dSeq, dNext, dSet, dSetF, setSl, dVar, dTake, dC, dBin, dBinF, dB, dIfS, dIf, dRet, dRetN, dExpr, dNil, dCons, dTup, dLst, dFz, dAnd, dOr, dNot, dAndV, dOrV, dNotV, dCallD, dCallK, dCB, dCBF, dFor, dLC, dYes, dRng1, dRng2, dSeqI, gN, gT, gsNil, gsCons, dAsg, dNeg, dJoin, dFs, dJs, dFmt, dApp, dExt, dPop, dPopAt, dOwnIx, dOwnCB, dOwnL, dOwnR, dOwnSl, dSetIx, dSlT, dSlL, oNone, oSome, dBorn, optQ, ownAt, setOwnAt, lookAt, wipeD, dNewDT, dNewDK, dDGet, dDIn, dDPut, dSortT, rSrt, isDict, Ev.dictGet, Ev.dictPut, Option.isSome_none, Option.isSome_some, D.keyT, keysOf, D.key, exists_eq_left', exists_eq_left, Option.isSome, rRepL, rCatL, dRetF, dIfF, dPar, dRetOwn, dCallL, dCallLK, dPen2, dRev, dRevI, dIndex, endsL, startL, dNever, dBrk, dCnt, rAddD, rSubI, rIO, rMulI, rDivI, rModI, rPowI, rCI, rIxD, rIsN, rNotN, D.isN, rLen, rTuple, rList, rAbs, rInt, rStr, Ev.rRepr, Ev.rIsi, D.ty, kit_tab, startD, endsD, List.map_cons, List.map_nil, List.length_cons, List.length_nil, List.append_nil, List.nil_append, List.cons_append, List.getElem?_cons_zero, List.getElem?_cons_succ, List.getElem?_nil, List.set_cons_zero, List.set_cons_succ, List.replicate, List.replicate_succ, Nat.zero_add, Nat.zero_le, sizeLine, true_and, and_true, if_true, Ev.eq_int, Ev.eq_str, Ev.eq_bl, Ev.eq_non, lst_nil, tup_nil, List.map_eq_nil_iff, txt_join, rLt, rLe, rGt, rGe, atI_ofNat, atI_last, wLC, strsOf, intsOf, blsOf, Option.map_some, Ev.join_two, Ev.join_one, Ev.join_nil, List.sum_cons, List.sum_nil, PySem.Str.empty_append, ixN_ofNat, Option.some.injEq, exists_eq', List.length_map, decide_true, decide_false, Bool.not_true, Bool.not_false, Bool.true_eq_false, Bool.false_eq_true, false_and, and_false, if_false, ite_true, ite_false, Nat.reduceAdd, Nat.reduceSub, Nat.reduceMul, Nat.reduceLT, Nat.reduceLeDiff, Nat.reduceEqDiff, Nat.reducePow, Int.reduceToNat, Int.reducePow, pickL, List.filterMap_cons, List.filterMap_nil, and_self, Int.reduceLT, Int.reduceLE, Int.reduceNeg, Int.reduceAdd, Int.reduceMul, Int.reduceSub, Int.reduceEq, reduceIte, reduceCtorEq, lit_eq, String.reduceEq, Ev.rEq, Ev.rNe, Ev.rInD, cut_toN, cut_fromN, List.map_take, List.forall_mem_cons, List.forall_mem_nil, List.not_mem_nil, false_imp_iff, implies_true, forall_const, D.cm, D.lay, D.lays, D.dep, D.deps, strOk_lit, lays_ints, deps_ints, Nat.max_self, Nat.max_zero, Nat.zero_max, Bool.and_self, Bool.true_and, Bool.and_true, Bool.and_false, Bool.false_and, Bool.or_false, Bool.or_true, Bool.true_or, Bool.false_or, List.any_cons, List.any_nil, decide_eq_true_eq, eq_self, b__law_draw, n__law_draw, p__law_draw_x2_0, p__law_draw_x2_1, p__law_draw_x2_2, b__law_draw_x2_2, b__law_draw_x2_1, b__law_draw_x2_0, p__law_draw_x3_0, p__law_draw_x3_1, b__law_draw_x3_1, b__law_draw_x3_0, p__law_draw_0, p__law_draw_1, p__law_draw_2, p__law_draw_3, p__law_draw_4, p__law_draw_5, p__law_draw_6, p__law_draw_7, p__law_draw_8, b__law_draw_8, b__law_draw_7, b__law_draw_6, b__law_draw_5, b__law_draw_4, b__law_draw_3, b__law_draw_2, b__law_draw_1, b__law_draw_0, penD, hm, eq_false hn, hc, hk]
        exact ⟨cm, h0, l1, l2, l3, l4, l6 _ (low _).1 (low _).2, l5, top _, cd _, n0, fin _⟩
theorem ok__law_draw {P : Program} {w : World} {K : PySem.W.Frag} {mg : Str → Option Value} {base : Heap} (m_abs : mg "abs" = none) (m_len : mg "len" = none) {f : Addr} {fd : FuncData} (F : Fun K "_law_draw" "_law_draw" s__law_draw f fd) : FnG P w K mg base CX0 1 f fd ["_law_pen", "_law_upto"] (spD K 2 sp__law_draw) :=
 fn_pen (top := 65536) F sc__law_draw rfl (fun cdv A out s H E g r => run__law_draw m_abs m_len cdv A out s H E g r) hsp__law_draw

/-- a row of a book: its number, its elder, its box, whether it is shown, its maker -/
structure Row where
  n : Int
  up : Option Int
  x : Int
  y : Int
  w : Int
  h : Int
  s : Bool
  a : Int
def optD : Option Int → D
  | none => .non
  | some i => .int i
def rowD (r : Row) : D := .tup [.int r.n, optD r.up, .tup [.int r.x, .int r.y, .int r.w, .int r.h], .bl r.s, .int r.a]
def bookD (b : List Row) : D := .tup (b.map rowD)
/-- all its numbers are small -/
structure rowOk (r : Row) : Prop where
  n0 : 0 ≤ r.n
  n9 : r.n ≤ 9
  x : r.x.natAbs < 10000
  y : r.y.natAbs < 10000
  w : r.w.natAbs < 10000
  h : r.h.natAbs < 10000
  a : r.a.natAbs < 10000
  up : ∀ i, r.up = some i → 0 ≤ i ∧ i ≤ 9
/-- a book: no number twice, an elder ahead of its kids -/
structure Wf (b : List Row) : Prop where
  nd : (b.map (·.n)).Nodup
  up : ∀ (i : Nat) (h : i < b.length), b[i].up = none ∨ ∃ (j : Nat) (h2 : j < b.length), j < i ∧ b[i].up = some b[j].n
  ok : ∀ r ∈ b, rowOk r
  len : b.length ≤ 10
def rowAt (b : List Row) (n : Int) : Option Row := b.find? fun r => decide (r.n = n)
/-- the line from a room upwards -/
inductive Up (b : List Row) : Option Int → List Int → Prop
  | nil : Up b none []
  | cons {n : Int} {r : Row} {l : List Int} : rowAt b n = some r → Up b r.up l → Up b (some n) (n :: l)
theorem Up.one {b : List Row} {o : Option Int} {l m : List Int} (h : Up b o l) (g : Up b o m) : l = m := by
  induction h generalizing m with
  | nil => cases g; rfl
  | cons h1 h2 ih =>
    cases g with
    | cons g1 g2 =>
      rw [h1] at g1; cases g1
      rw [ih g2]
theorem rowAt_get {b : List Row} (nd : (b.map (·.n)).Nodup) {i : Nat} (h : i < b.length) : rowAt b b[i].n = some b[i] := by
  unfold rowAt
  rw [List.find?_eq_some_iff_getElem]
  refine ⟨by simp, i, h, rfl, fun j hj => ?_⟩
  have : b[j].n ≠ b[i].n := fun z => by
    have h1 : (b.map (·.n))[j]'(by simp; omega) = (b.map (·.n))[i]'(by simp; omega) := by simpa using z
    have := (List.getElem_inj nd).mp h1
    omega
  simp [this]
theorem rowAt_mem {b : List Row} {n : Int} {r : Row} (h : rowAt b n = some r) : r ∈ b ∧ r.n = n := by
  unfold rowAt at h
  have h1 := List.mem_of_find?_eq_some h
  have h2 := List.find?_some h
  exact ⟨h1, by simpa using h2⟩
theorem Wf.line {b : List Row} (w : Wf b) : ∀ (i : Nat) (h : i < b.length), ∃ l, Up b (some b[i].n) l ∧ l.length ≤ i + 1 ∧ ∀ x ∈ l, x ∈ b.map (·.n) := fun i => by
  induction i using Nat.strongRecOn with
  | ind i ih =>
    intro h
    have hm : b[i].n ∈ b.map (·.n) := List.mem_map.mpr ⟨_, List.getElem_mem h, rfl⟩
    rcases w.up i h with e | ⟨j, h2, hj, e⟩
    · exact ⟨[b[i].n], .cons (rowAt_get w.nd h) (by rw [e]; exact .nil), by simp, fun x hx => by rw [List.mem_singleton] at hx; subst hx; exact hm⟩
    · obtain ⟨l, u, hl, hx⟩ := ih j hj h2
      exact ⟨b[i].n :: l, .cons (rowAt_get w.nd h) (by rw [e]; exact u), by simp; omega, fun x hx' => by
        rcases List.mem_cons.mp hx' with rfl | hx'
        · exact hm
        · exact hx x hx'⟩
theorem Wf.lineM {b : List Row} (w : Wf b) {n : Int} (h : n ∈ b.map (·.n)) : ∃ l, Up b (some n) l ∧ l.length ≤ 10 ∧ ∀ x ∈ l, x ∈ b.map (·.n) := by
  obtain ⟨r, hr, rfl⟩ := List.mem_map.mp h
  obtain ⟨i, hi, rfl⟩ := List.getElem_of_mem hr
  obtain ⟨l, u, hl, hx⟩ := w.line i hi
  exact ⟨l, u, by have := w.len; omega, hx⟩
theorem Wf.row {b : List Row} (w : Wf b) {n : Int} (h : n ∈ b.map (·.n)) : ∃ r, rowAt b n = some r ∧ rowOk r ∧ r.n = n := by
  obtain ⟨r, hr, rfl⟩ := List.mem_map.mp h
  obtain ⟨i, hi, rfl⟩ := List.getElem_of_mem hr
  exact ⟨_, rowAt_get w.nd hi, w.ok _ (List.getElem_mem hi), rfl⟩
theorem row_lay (r : Row) : (rowD r).lay = true := by
  cases r with | mk n up x y w h s a => cases up <;> rfl
theorem row_dep (r : Row) : (rowD r).dep ≤ 2 := by
  cases r with | mk n up x y w h s a => cases up <;> (simp only [rowD, optD, D.dep, D.deps]; decide)
theorem rows_lay (b : List Row) : D.lays (b.map rowD) = true := lays_map fun r _ => row_lay r
theorem rows_dep (b : List Row) : D.deps (b.map rowD) ≤ 2 := deps_map fun r _ => row_dep r
theorem row_sm {r : Row} (k : rowOk r) : (rowD r).sm 2 400 := by
  refine (D.sm.tup (k := 1) (n := 31 + 2 + (31 + 2 + (31 + 2 + (31 + 2 + (31 + 2 + (31 + 2 + 0))) + 5 + 2 + (5 + 2 + (31 + 2 + 0))))) (.cons (.int (by have := k.n0; have := k.n9; omega)) (.cons ?_ (.cons (D.sm.tup (k := 0) (.cons (.int (by have := k.x; omega)) (.cons (.int (by have := k.y; omega)) (.cons (.int (by have := k.w; omega)) (.cons (.int (by have := k.h; omega)) .nil))))) (.cons .bl (.cons (.int (by have := k.a; omega)) .nil)))))).mono (by decide) (by decide)
  cases e : r.up with
  | none => exact (D.sm.non (k := 0)).mono (by decide) (by decide)
  | some i => exact .int (by have := k.up i e; omega)
theorem book_sm {b : List Row} (w : Wf b) : (bookD b).sm 3 4100 :=
  (D.sm.tup (D.sms.all (m := 10) (fun d hd => by
    obtain ⟨r, hr, rfl⟩ := List.mem_map.mp hd
    exact row_sm (w.ok r hr)) (by simpa using w.len))).mono (by decide) (by decide)

/-! ### numbers or None as data -/
theorem opt_lay (o : Option Int) : (optD o).lay = true := by cases o <;> rfl
theorem opt_dep (o : Option Int) : (optD o).dep = 0 := by cases o <;> rfl
theorem opt_isN (o : Option Int) : (optD o).isN = decide (o = none) := by cases o <;> rfl
theorem opt_eq (a b : Option Int) : (optD a).eq (optD b) = decide (a = b) := by
  cases a <;> cases b
  · rfl
  · rfl
  · rfl
  · simp only [optD, Ev.eq_int, Option.some.injEq]
theorem opt_cm (o : Option Int) : (optD o).cm := ⟨opt_lay o, by rw [opt_dep]; decide⟩
theorem opts_lay (l : List (Option Int)) : D.lays (l.map optD) = true := lays_map fun o _ => opt_lay o
theorem opts_dep (l : List (Option Int)) : D.deps (l.map optD) = 0 := Nat.le_zero.mp (deps_map fun o _ => Nat.le_of_eq (opt_dep o))
theorem opts_in (l : List (Option Int)) (o : Option Int) : ((l.map optD).any fun z => z.eq (optD o)) = decide (o ∈ l) := by
  induction l with
  | nil => simp
  | cons a l ih =>
    rw [List.map_cons, List.any_cons, ih, opt_eq, Bool.eq_iff_iff]
    simp only [Bool.or_eq_true, decide_eq_true_eq, List.mem_cons]
    constructor
    · rintro (h | h)
      · exact .inl h.symm
      · exact .inr h
    · rintro (h | h)
      · exact .inl h.symm
      · exact .inr h
theorem opts_at {l : List (Option Int)} {o : Option Int} (h : o ∈ l) : firstAt (l.map optD) (optD o) = some (l.idxOf o) := by
  unfold firstAt
  induction l with
  | nil => cases h
  | cons a l ih =>
    rw [List.map_cons, List.findIdx?_cons, opt_eq]
    by_cases e : a = o
    · subst e; simp
    · have h2 : o ∈ l := by
        rcases List.mem_cons.mp h with h | h
        · exact absurd h.symm e
        · exact h
      rw [if_neg (by simpa using e), ih h2, List.idxOf_cons, beq_eq_false_iff_ne.mpr e]
      rfl
theorem cut_one {α : Type} {xs : List α} {n : Nat} : Ev.cutD xs (some (no_index (1 : Int))) (some (no_index (n : Int))) = (xs.take n).drop 1 := cut_mid (m := 1)
theorem opts_cut (l : List (Option Int)) (n : Nat) : ((l.map optD).take n).drop 1 = ((l.take n).drop 1).map optD := by rw [List.map_drop, List.map_take]

/-! ### numbers, rows, lines -/
def sp_is_from_to : dSp := fun ds p Q _ => match ds with | [.int x, .int a, .int b] => Q (.bl (decide (a ≤ x) && decide (x ≤ b))) p | _ => False
abbrev s_is_from_to : Stmt := topS 5
abbrev n_is_from_to : List Str := ["thing", "least", "most"]
theorem sc_is_from_to : FnScope n_is_from_to ["thing", "least", "most"] (defScope s_is_from_to) := ⟨rfl, rfl, rfl, by decide +kernel, rfl, by decide +kernel, by decide +kernel⟩
def b_is_from_to : dS := (dRet (dAndV (dCB (rIsi "int") (dCons (dVar 0) (dCons (dC (.raw (.ty "int"))) dNil))) (dAndV (dNotV (dCB (rIsi "bool") (dCons (dVar 0) (dCons (dC (.raw (.ty "bool"))) dNil)))) (dChain rLe rLe (dVar 1) (dVar 0) (dVar 2)))))
theorem run_is_from_to {P : Program} {w : World} {K : PySem.W.Frag} {mg : Str → Option Value} {base : Heap} (m_bool : mg "bool" = none) (m_int : mg "int" = none) (m_isinstance : mg "isinstance" = none) {f : Addr} (cdv : Value) (A : Around) (out : List Env) (s : Shared) (H : Hp) (E : XK) (g : A.guards = some []) (hrA : Room 0 (A.deeper (envOfC "is_from_to" (defScope s_is_from_to) s.heap.objs.size f cdv))) :
  DSs (cx0 P w K mg base n_is_from_to "is_from_to" (defScope s_is_from_to) f cdv A out s H E) E00 (defBody s_is_from_to) b_is_from_to := by
 have hgA : (A.deeper (envOfC "is_from_to" (defScope s_is_from_to) s.heap.objs.size f cdv)).guards = some [] := g
 have hun := hrA.un
 exact (dss_one (ds_ret (de_and (de_callB (cd_isi "int") (by rfl) m_isinstance (by decide +kernel) (da_cons (de_var (pv 0)) (da_cons (de_ty (n := "int") (by rfl) m_int (by decide +kernel)) da_nil))) (de_and (de_not (de_callB (cd_isi "bool") (by rfl) m_isinstance (by decide +kernel) (da_cons (de_var (pv 0)) (da_cons (de_ty (n := "bool") (by rfl) m_bool (by decide +kernel)) da_nil)))) (de_one (de_chain (od_le) (od_le) (de_var (pv 1)) (de_var (pv 0)) (de_var (pv 2))))))))
theorem hsp_is_from_to : ∀ ds p Q W, ds.length = 3 → sp_is_from_to ds p Q W → b_is_from_to W0 (endsD Q) (startD n_is_from_to.length ds p) := by
  intro ds p Q W _ h
  match ds, h with
  | [.int x, .int a, .int b], q =>
    have q : Q (.bl (decide (a ≤ x) && decide (x ≤ b))) p := q
    simp only [dLenSet, dSrtR, dRo, dRoF, dRoT, roD, ro_un, ro_dat, ro_own, ro_hp, ro_law, ro_ownK, ro_ownT, List.forall_mem_map, flat_int, flat_str, flat_bl, flat_non, dSeq, dNext, dSet, dSetF, setSl, dVar, dTake, dC, dBin, dBinF, dB, dIfS, dIf, dRet, dRetN, dExpr, dNil, dCons, dTup, dLst, dFz, dAnd, dOr, dNot, dAndV, dOrV, dNotV, dCallD, dCallK, dCB, dCBF, dFor, dLC, dYes, dRng1, dRng2, dSeqI, gN, gT, gsNil, gsCons, dAsg, dNeg, dJoin, dFs, dJs, dFmt, dApp, dExt, dPop, dPopAt, dOwnIx, dOwnCB, dOwnL, dOwnR, dOwnSl, dSetIx, dSlT, dSlL, oNone, oSome, dBorn, optQ, ownAt, setOwnAt, lookAt, wipeD, dNewDT, dNewDK, dDGet, dDIn, dDPut, dSortT, rSrt, isDict, Ev.dictGet, Ev.dictPut, Option.isSome_none, Option.isSome_some, D.keyT, keysOf, D.key, exists_eq_left', exists_eq_left, Option.isSome, rRepL, rCatL, dRetF, dIfF, dPar, dRetOwn, dCallL, dCallLK, dPen2, dRev, dRevI, dIndex, endsL, startL, dNever, dBrk, dCnt, rAddD, rSubI, rIO, rMulI, rDivI, rModI, rPowI, rCI, rIxD, rIsN, rNotN, D.isN, rLen, rTuple, rList, rAbs, rInt, rStr, Ev.rRepr, Ev.rIsi, D.ty, kit_tab, startD, endsD, List.map_cons, List.map_nil, List.length_cons, List.length_nil, List.append_nil, List.nil_append, List.cons_append, List.getElem?_cons_zero, List.getElem?_cons_succ, List.getElem?_nil, List.set_cons_zero, List.set_cons_succ, List.replicate, List.replicate_succ, Nat.zero_add, Nat.zero_le, sizeLine, true_and, and_true, if_true, Ev.eq_int, Ev.eq_str, Ev.eq_bl, Ev.eq_non, lst_nil, tup_nil, List.map_eq_nil_iff, txt_join, rLt, rLe, rGt, rGe, atI_ofNat, atI_last, wLC, strsOf, intsOf, blsOf, Option.map_some, Ev.join_two, Ev.join_one, Ev.join_nil, List.sum_cons, List.sum_nil, PySem.Str.empty_append, ixN_ofNat, Option.some.injEq, exists_eq', List.length_map, decide_true, decide_false, Bool.not_true, Bool.not_false, Bool.true_eq_false, Bool.false_eq_true, false_and, and_false, if_false, ite_true, ite_false, Nat.reduceAdd, Nat.reduceSub, Nat.reduceMul, Nat.reduceLT, Nat.reduceLeDiff, Nat.reduceEqDiff, Nat.reducePow, Int.reduceToNat, Int.reducePow, pickL, List.filterMap_cons, List.filterMap_nil, and_self, Int.reduceLT, Int.reduceLE, Int.reduceNeg, Int.reduceAdd, Int.reduceMul, Int.reduceSub, Int.reduceEq, reduceIte, reduceCtorEq, lit_eq, String.reduceEq, Ev.rEq, Ev.rNe, Ev.rInD, cut_toN, cut_fromN, List.map_take, List.forall_mem_cons, List.forall_mem_nil, List.not_mem_nil, false_imp_iff, implies_true, forall_const, D.cm, D.lay, D.lays, D.dep, D.deps, strOk_lit, lays_ints, deps_ints, Nat.max_self, Nat.max_zero, Nat.zero_max, Bool.and_self, Bool.true_and, Bool.and_true, Bool.and_false, Bool.false_and, Bool.or_false, Bool.or_true, Bool.true_or, Bool.false_or, List.any_cons, List.any_nil, decide_eq_true_eq, eq_self, b_is_from_to, n_is_from_to, dChain]
    by_cases h1 : a ≤ x
    · simp only [dLenSet, dSrtR, dRo, dRoF, dRoT, roD, ro_un, ro_dat, ro_own, ro_hp, ro_law, ro_ownK, ro_ownT, List.forall_mem_map, flat_int, flat_str, flat_bl, flat_non, dSeq, dNext, dSet, dSetF, setSl, dVar, dTake, dC, dBin, dBinF, dB, dIfS, dIf, dRet, dRetN, dExpr, dNil, dCons, dTup, dLst, dFz, dAnd, dOr, dNot, dAndV, dOrV, dNotV, dCallD, dCallK, dCB, dCBF, dFor, dLC, dYes, dRng1, dRng2, dSeqI, gN, gT, gsNil, gsCons, dAsg, dNeg, dJoin, dFs, dJs, dFmt, dApp, dExt, dPop, dPopAt, dOwnIx, dOwnCB, dOwnL, dOwnR, dOwnSl, dSetIx, dSlT, dSlL, oNone, oSome, dBorn, optQ, ownAt, setOwnAt, lookAt, wipeD, dNewDT, dNewDK, dDGet, dDIn, dDPut, dSortT, rSrt, isDict, Ev.dictGet, Ev.dictPut, Option.isSome_none, Option.isSome_some, D.keyT, keysOf, D.key, exists_eq_left', exists_eq_left, Option.isSome, rRepL, rCatL, dRetF, dIfF, dPar, dRetOwn, dCallL, dCallLK, dPen2, dRev, dRevI, dIndex, endsL, startL, dNever, dBrk, dCnt, rAddD, rSubI, rIO, rMulI, rDivI, rModI, rPowI, rCI, rIxD, rIsN, rNotN, D.isN, rLen, rTuple, rList, rAbs, rInt, rStr, Ev.rRepr, Ev.rIsi, D.ty, kit_tab, startD, endsD, List.map_cons, List.map_nil, List.length_cons, List.length_nil, List.append_nil, List.nil_append, List.cons_append, List.getElem?_cons_zero, List.getElem?_cons_succ, List.getElem?_nil, List.set_cons_zero, List.set_cons_succ, List.replicate, List.replicate_succ, Nat.zero_add, Nat.zero_le, sizeLine, true_and, and_true, if_true, Ev.eq_int, Ev.eq_str, Ev.eq_bl, Ev.eq_non, lst_nil, tup_nil, List.map_eq_nil_iff, txt_join, rLt, rLe, rGt, rGe, atI_ofNat, atI_last, wLC, strsOf, intsOf, blsOf, Option.map_some, Ev.join_two, Ev.join_one, Ev.join_nil, List.sum_cons, List.sum_nil, PySem.Str.empty_append, ixN_ofNat, Option.some.injEq, exists_eq', List.length_map, decide_true, decide_false, Bool.not_true, Bool.not_false, Bool.true_eq_false, Bool.false_eq_true, false_and, and_false, if_false, ite_true, ite_false, Nat.reduceAdd, Nat.reduceSub, Nat.reduceMul, Nat.reduceLT, Nat.reduceLeDiff, Nat.reduceEqDiff, Nat.reducePow, Int.reduceToNat, Int.reducePow, pickL, List.filterMap_cons, List.filterMap_nil, and_self, Int.reduceLT, Int.reduceLE, Int.reduceNeg, Int.reduceAdd, Int.reduceMul, Int.reduceSub, Int.reduceEq, reduceIte, reduceCtorEq, lit_eq, String.reduceEq, Ev.rEq, Ev.rNe, Ev.rInD, cut_toN, cut_fromN, List.map_take, List.forall_mem_cons, List.forall_mem_nil, List.not_mem_nil, false_imp_iff, implies_true, forall_const, D.cm, D.lay, D.lays, D.dep, D.deps, strOk_lit, lays_ints, deps_ints, Nat.max_self, Nat.max_zero, Nat.zero_max, Bool.and_self, Bool.true_and, Bool.and_true, Bool.and_false, Bool.false_and, Bool.or_false, Bool.or_true, Bool.true_or, Bool.false_or, List.any_cons, List.any_nil, decide_eq_true_eq, eq_self, h1]
      simpa [h1] using q
    · simp only [dLenSet, dSrtR, dRo, dRoF, dRoT, roD, ro_un, ro_dat, ro_own, ro_hp, ro_law, ro_ownK, ro_ownT, List.forall_mem_map, flat_int, flat_str, flat_bl, flat_non, dSeq, dNext, dSet, dSetF, setSl, dVar, dTake, dC, dBin, dBinF, dB, dIfS, dIf, dRet, dRetN, dExpr, dNil, dCons, dTup, dLst, dFz, dAnd, dOr, dNot, dAndV, dOrV, dNotV, dCallD, dCallK, dCB, dCBF, dFor, dLC, dYes, dRng1, dRng2, dSeqI, gN, gT, gsNil, gsCons, dAsg, dNeg, dJoin, dFs, dJs, dFmt, dApp, dExt, dPop, dPopAt, dOwnIx, dOwnCB, dOwnL, dOwnR, dOwnSl, dSetIx, dSlT, dSlL, oNone, oSome, dBorn, optQ, ownAt, setOwnAt, lookAt, wipeD, dNewDT, dNewDK, dDGet, dDIn, dDPut, dSortT, rSrt, isDict, Ev.dictGet, Ev.dictPut, Option.isSome_none, Option.isSome_some, D.keyT, keysOf, D.key, exists_eq_left', exists_eq_left, Option.isSome, rRepL, rCatL, dRetF, dIfF, dPar, dRetOwn, dCallL, dCallLK, dPen2, dRev, dRevI, dIndex, endsL, startL, dNever, dBrk, dCnt, rAddD, rSubI, rIO, rMulI, rDivI, rModI, rPowI, rCI, rIxD, rIsN, rNotN, D.isN, rLen, rTuple, rList, rAbs, rInt, rStr, Ev.rRepr, Ev.rIsi, D.ty, kit_tab, startD, endsD, List.map_cons, List.map_nil, List.length_cons, List.length_nil, List.append_nil, List.nil_append, List.cons_append, List.getElem?_cons_zero, List.getElem?_cons_succ, List.getElem?_nil, List.set_cons_zero, List.set_cons_succ, List.replicate, List.replicate_succ, Nat.zero_add, Nat.zero_le, sizeLine, true_and, and_true, if_true, Ev.eq_int, Ev.eq_str, Ev.eq_bl, Ev.eq_non, lst_nil, tup_nil, List.map_eq_nil_iff, txt_join, rLt, rLe, rGt, rGe, atI_ofNat, atI_last, wLC, strsOf, intsOf, blsOf, Option.map_some, Ev.join_two, Ev.join_one, Ev.join_nil, List.sum_cons, List.sum_nil, PySem.Str.empty_append, ixN_ofNat, Option.some.injEq, exists_eq', List.length_map, decide_true, decide_false, Bool.not_true, Bool.not_false, Bool.true_eq_false, Bool.false_eq_true, false_and, and_false, if_false, ite_true, ite_false, Nat.reduceAdd, Nat.reduceSub, Nat.reduceMul, Nat.reduceLT, Nat.reduceLeDiff, Nat.reduceEqDiff, Nat.reducePow, Int.reduceToNat, Int.reducePow, pickL, List.filterMap_cons, List.filterMap_nil, and_self, Int.reduceLT, Int.reduceLE, Int.reduceNeg, Int.reduceAdd, Int.reduceMul, Int.reduceSub, Int.reduceEq, reduceIte, reduceCtorEq, lit_eq, String.reduceEq, Ev.rEq, Ev.rNe, Ev.rInD, cut_toN, cut_fromN, List.map_take, List.forall_mem_cons, List.forall_mem_nil, List.not_mem_nil, false_imp_iff, implies_true, forall_const, D.cm, D.lay, D.lays, D.dep, D.deps, strOk_lit, lays_ints, deps_ints, Nat.max_self, Nat.max_zero, Nat.zero_max, Bool.and_self, Bool.true_and, Bool.and_true, Bool.and_false, Bool.false_and, Bool.or_false, Bool.or_true, Bool.true_or, Bool.false_or, List.any_cons, List.any_nil, decide_eq_true_eq, eq_self, h1]
      simpa [h1] using q
theorem ok_is_from_to {P : Program} {w : World} {K : PySem.W.Frag} {mg : Str → Option Value} {base : Heap} (m_bool : mg "bool" = none) (m_int : mg "int" = none) (m_isinstance : mg "isinstance" = none) {f : Addr} {fd : FuncData} (F : Fun K "is_from_to" "is_from_to" s_is_from_to f fd) : FnG P w K mg base CX0 1 f fd ["thing", "least", "most"] (spD K 3 sp_is_from_to) :=
 fn_d0 F sc_is_from_to rfl (fun cdv A out s H E g r => run_is_from_to m_bool m_int m_isinstance cdv A out s H E g r) hsp_is_from_to
def sp_row_of : dSp := fun ds p Q _ => ∃ (b : List Row) (n : Int) (r : Row), ds = [bookD b, .int n] ∧ b.length ≤ 10 ∧ 0 ≤ n ∧ n ≤ 9 ∧ rowAt b n = some r ∧ Q (rowD r) p
abbrev s_row_of : Stmt := topS 6
abbrev n_row_of : List Str := ["book", "room", "found", "row"]
theorem sc_row_of : FnScope n_row_of ["book", "room"] (defScope s_row_of) := ⟨rfl, rfl, rfl, by decide +kernel, rfl, by decide +kernel, by decide +kernel⟩
def p_row_of_0 : dS := (dSetF 2 (dLC (dSeqI (dVar 0)) (gN 3) (dAnd (dB (dCallD 3 [] sp_is_from_to (dCons (dVar 1) (dCons (dC (.int 0)) (dCons (dC (.int 9)) dNil))))) (dB (dBin (rEq) (dBin rIxD (dVar 3) (dC (.int 0))) (dVar 1)))) (dVar 3) [3]))
def p_row_of_1 : dS := (dIfS (dB (dOwnL 2 (rEq) (dFz (dLst dNil)))) dNever dNext)
def p_row_of_2 : dS := (dRet (dOwnIx 2 (dC (.int 0))))
def b_row_of_2 : dS := p_row_of_2
def b_row_of_1 : dS := dSeq p_row_of_1 b_row_of_2
def b_row_of_0 : dS := dSeq p_row_of_0 b_row_of_1
def b_row_of : dS := b_row_of_0
theorem run_row_of {P : Program} {w : World} {K : PySem.W.Frag} {mg : Str → Option Value} {base : Heap} (v_MOST_NUMBER : ∃ t, mg "MOST_NUMBER" = some (.int 9 t)) (v_SCREEN : ∃ t, mg "SCREEN" = some (.int 0 t)) (K_is_from_to_3 : Def P w K mg base 1 "is_from_to" 3 sp_is_from_to []) {f : Addr} (cdv : Value) (A : Around) (out : List Env) (s : Shared) (H : Hp) (E : XK) (g : A.guards = some []) (hrA : Room 1 (A.deeper (envOfC "row_of" (defScope s_row_of) s.heap.objs.size f cdv))) :
  DSs (cx0 P w K mg base n_row_of "row_of" (defScope s_row_of) f cdv A out s H E) E00 (defBody s_row_of) b_row_of := by
 have hgA : (A.deeper (envOfC "row_of" (defScope s_row_of) s.heap.objs.size f cdv)).guards = some [] := g
 have hun := hrA.un
 exact (dss_cons (t := p_row_of_0) (u := b_row_of_1) (ds_setLc (E2 := E00) (own := [("row", 3)]) (i := 2) rfl sc_row_of.nd rfl rfl (sw_true rfl rfl rfl (by decide +kernel)) (di_seq (de_var (pv 0))) (blkOk_by (N := n_row_of) (sc := (defScope s_row_of)) (own := [("row", 3)]) (by decide +kernel)) (by decide) (fun _ _ _ _ _ => (dg_name (pg_name (i := 3) sc_row_of.nd rfl (by first | exact .inl rfl | exact .inr rfl)))) (fun _ _ _ _ _ => (dts_one ((dw_and (dt_val (de_callD K_is_from_to_3 hgA hrA (by rfl) (da_cons (de_var (pv 1)) (da_cons (de_gint (by rfl) v_SCREEN) (da_cons (de_gint (by rfl) v_MOST_NUMBER) da_nil))))) (dw_and1 (dt_cmp (od_eq (Nat.lt_of_le_of_lt (Nat.add_le_add_left (by decide) _) hun)) (de_ix (de_var (pv 3)) de_int (fun _ _ => rfl)) (de_var (pv 1)) (nomark _))))).dt)) (fun _ _ _ _ _ => (de_var (pv 3))))
  (dss_cons (t := p_row_of_1) (u := b_row_of_2) (ds_if (dt_ownL (od_eq (Nat.lt_of_le_of_lt (Nat.add_le_add_left (by decide) _) hun)) (pv 2) (de_fz (df_lst da_nil)) (nomark _)) (dss_one ds_never) dss_nil)
  (dss_one (t := p_row_of_2) (ds_ret (de_ownIx (pv 2) de_int (fun _ _ => rfl))))))
theorem hsp_row_of : ∀ ds p Q W, ds.length = 2 → sp_row_of ds p Q W → b_row_of W0 (endsD Q) (startD n_row_of.length ds p) := by
  rintro _ p Q W - ⟨b, n, r, rfl, hl, n0, n9, e, q⟩
  simp only [dLenSet, dSrtR, dRo, dRoF, dRoT, roD, ro_un, ro_dat, ro_own, ro_hp, ro_law, ro_ownK, ro_ownT, List.forall_mem_map, flat_int, flat_str, flat_bl, flat_non, dSeq, dNext, dSet, dSetF, setSl, dVar, dTake, dC, dBin, dBinF, dB, dIfS, dIf, dRet, dRetN, dExpr, dNil, dCons, dTup, dLst, dFz, dAnd, dOr, dNot, dAndV, dOrV, dNotV, dCallD, dCallK, dCB, dCBF, dFor, dLC, dYes, dRng1, dRng2, dSeqI, gN, gT, gsNil, gsCons, dAsg, dNeg, dJoin, dFs, dJs, dFmt, dApp, dExt, dPop, dPopAt, dOwnIx, dOwnCB, dOwnL, dOwnR, dOwnSl, dSetIx, dSlT, dSlL, oNone, oSome, dBorn, optQ, ownAt, setOwnAt, lookAt, wipeD, dNewDT, dNewDK, dDGet, dDIn, dDPut, dSortT, rSrt, isDict, Ev.dictGet, Ev.dictPut, Option.isSome_none, Option.isSome_some, D.keyT, keysOf, D.key, exists_eq_left', exists_eq_left, Option.isSome, rRepL, rCatL, dRetF, dIfF, dPar, dRetOwn, dCallL, dCallLK, dPen2, dRev, dRevI, dIndex, endsL, startL, dNever, dBrk, dCnt, rAddD, rSubI, rIO, rMulI, rDivI, rModI, rPowI, rCI, rIxD, rIsN, rNotN, D.isN, rLen, rTuple, rList, rAbs, rInt, rStr, Ev.rRepr, Ev.rIsi, D.ty, kit_tab, startD, endsD, List.map_cons, List.map_nil, List.length_cons, List.length_nil, List.append_nil, List.nil_append, List.cons_append, List.getElem?_cons_zero, List.getElem?_cons_succ, List.getElem?_nil, List.set_cons_zero, List.set_cons_succ, List.replicate, List.replicate_succ, Nat.zero_add, Nat.zero_le, sizeLine, true_and, and_true, if_true, Ev.eq_int, Ev.eq_str, Ev.eq_bl, Ev.eq_non, lst_nil, tup_nil, List.map_eq_nil_iff, txt_join, rLt, rLe, rGt, rGe, atI_ofNat, atI_last, wLC, strsOf, intsOf, blsOf, Option.map_some, Ev.join_two, Ev.join_one, Ev.join_nil, List.sum_cons, List.sum_nil, PySem.Str.empty_append, ixN_ofNat, Option.some.injEq, exists_eq', List.length_map, decide_true, decide_false, Bool.not_true, Bool.not_false, Bool.true_eq_false, Bool.false_eq_true, false_and, and_false, if_false, ite_true, ite_false, Nat.reduceAdd, Nat.reduceSub, Nat.reduceMul, Nat.reduceLT, Nat.reduceLeDiff, Nat.reduceEqDiff, Nat.reducePow, Int.reduceToNat, Int.reducePow, pickL, List.filterMap_cons, List.filterMap_nil, and_self, Int.reduceLT, Int.reduceLE, Int.reduceNeg, Int.reduceAdd, Int.reduceMul, Int.reduceSub, Int.reduceEq, reduceIte, reduceCtorEq, lit_eq, String.reduceEq, Ev.rEq, Ev.rNe, Ev.rInD, cut_toN, cut_fromN, List.map_take, List.forall_mem_cons, List.forall_mem_nil, List.not_mem_nil, false_imp_iff, implies_true, forall_const, D.cm, D.lay, D.lays, D.dep, D.deps, strOk_lit, lays_ints, deps_ints, Nat.max_self, Nat.max_zero, Nat.zero_max, Bool.and_self, Bool.true_and, Bool.and_true, Bool.and_false, Bool.false_and, Bool.or_false, Bool.or_true, Bool.true_or, Bool.false_or, List.any_cons, List.any_nil, decide_eq_true_eq, eq_self, n_row_of, b_row_of, b_row_of_0, p_row_of_0, bookD]
  refine wLC_filt (l := b) (ι := rowD) (f := rowD) (t := fun r => decide (r.n = n)) (fun r hr acc k hz h1 h2 => ?_) (by rw [sizeLine_eq]; omega) ?_
  · simp only [dLenSet, dSrtR, dRo, dRoF, dRoT, roD, ro_un, ro_dat, ro_own, ro_hp, ro_law, ro_ownK, ro_ownT, List.forall_mem_map, flat_int, flat_str, flat_bl, flat_non, dSeq, dNext, dSet, dSetF, setSl, dVar, dTake, dC, dBin, dBinF, dB, dIfS, dIf, dRet, dRetN, dExpr, dNil, dCons, dTup, dLst, dFz, dAnd, dOr, dNot, dAndV, dOrV, dNotV, dCallD, dCallK, dCB, dCBF, dFor, dLC, dYes, dRng1, dRng2, dSeqI, gN, gT, gsNil, gsCons, dAsg, dNeg, dJoin, dFs, dJs, dFmt, dApp, dExt, dPop, dPopAt, dOwnIx, dOwnCB, dOwnL, dOwnR, dOwnSl, dSetIx, dSlT, dSlL, oNone, oSome, dBorn, optQ, ownAt, setOwnAt, lookAt, wipeD, dNewDT, dNewDK, dDGet, dDIn, dDPut, dSortT, rSrt, isDict, Ev.dictGet, Ev.dictPut, Option.isSome_none, Option.isSome_some, D.keyT, keysOf, D.key, exists_eq_left', exists_eq_left, Option.isSome, rRepL, rCatL, dRetF, dIfF, dPar, dRetOwn, dCallL, dCallLK, dPen2, dRev, dRevI, dIndex, endsL, startL, dNever, dBrk, dCnt, rAddD, rSubI, rIO, rMulI, rDivI, rModI, rPowI, rCI, rIxD, rIsN, rNotN, D.isN, rLen, rTuple, rList, rAbs, rInt, rStr, Ev.rRepr, Ev.rIsi, D.ty, kit_tab, startD, endsD, List.map_cons, List.map_nil, List.length_cons, List.length_nil, List.append_nil, List.nil_append, List.cons_append, List.getElem?_cons_zero, List.getElem?_cons_succ, List.getElem?_nil, List.set_cons_zero, List.set_cons_succ, List.replicate, List.replicate_succ, Nat.zero_add, Nat.zero_le, sizeLine, true_and, and_true, if_true, Ev.eq_int, Ev.eq_str, Ev.eq_bl, Ev.eq_non, lst_nil, tup_nil, List.map_eq_nil_iff, txt_join, rLt, rLe, rGt, rGe, atI_ofNat, atI_last, wLC, strsOf, intsOf, blsOf, Option.map_some, Ev.join_two, Ev.join_one, Ev.join_nil, List.sum_cons, List.sum_nil, PySem.Str.empty_append, ixN_ofNat, Option.some.injEq, exists_eq', List.length_map, decide_true, decide_false, Bool.not_true, Bool.not_false, Bool.true_eq_false, Bool.false_eq_true, false_and, and_false, if_false, ite_true, ite_false, Nat.reduceAdd, Nat.reduceSub, Nat.reduceMul, Nat.reduceLT, Nat.reduceLeDiff, Nat.reduceEqDiff, Nat.reducePow, Int.reduceToNat, Int.reducePow, pickL, List.filterMap_cons, List.filterMap_nil, and_self, Int.reduceLT, Int.reduceLE, Int.reduceNeg, Int.reduceAdd, Int.reduceMul, Int.reduceSub, Int.reduceEq, reduceIte, reduceCtorEq, lit_eq, String.reduceEq, Ev.rEq, Ev.rNe, Ev.rInD, cut_toN, cut_fromN, List.map_take, List.forall_mem_cons, List.forall_mem_nil, List.not_mem_nil, false_imp_iff, implies_true, forall_const, D.cm, D.lay, D.lays, D.dep, D.deps, strOk_lit, lays_ints, deps_ints, Nat.max_self, Nat.max_zero, Nat.zero_max, Bool.and_self, Bool.true_and, Bool.and_true, Bool.and_false, Bool.false_and, Bool.or_false, Bool.or_true, Bool.true_or, Bool.false_or, List.any_cons, List.any_nil, decide_eq_true_eq, eq_self, sp_is_from_to, rowD, n0, n9]
    by_cases e1 : r.n = n
    · simp only [dLenSet, dSrtR, dRo, dRoF, dRoT, roD, ro_un, ro_dat, ro_own, ro_hp, ro_law, ro_ownK, ro_ownT, List.forall_mem_map, flat_int, flat_str, flat_bl, flat_non, dSeq, dNext, dSet, dSetF, setSl, dVar, dTake, dC, dBin, dBinF, dB, dIfS, dIf, dRet, dRetN, dExpr, dNil, dCons, dTup, dLst, dFz, dAnd, dOr, dNot, dAndV, dOrV, dNotV, dCallD, dCallK, dCB, dCBF, dFor, dLC, dYes, dRng1, dRng2, dSeqI, gN, gT, gsNil, gsCons, dAsg, dNeg, dJoin, dFs, dJs, dFmt, dApp, dExt, dPop, dPopAt, dOwnIx, dOwnCB, dOwnL, dOwnR, dOwnSl, dSetIx, dSlT, dSlL, oNone, oSome, dBorn, optQ, ownAt, setOwnAt, lookAt, wipeD, dNewDT, dNewDK, dDGet, dDIn, dDPut, dSortT, rSrt, isDict, Ev.dictGet, Ev.dictPut, Option.isSome_none, Option.isSome_some, D.keyT, keysOf, D.key, exists_eq_left', exists_eq_left, Option.isSome, rRepL, rCatL, dRetF, dIfF, dPar, dRetOwn, dCallL, dCallLK, dPen2, dRev, dRevI, dIndex, endsL, startL, dNever, dBrk, dCnt, rAddD, rSubI, rIO, rMulI, rDivI, rModI, rPowI, rCI, rIxD, rIsN, rNotN, D.isN, rLen, rTuple, rList, rAbs, rInt, rStr, Ev.rRepr, Ev.rIsi, D.ty, kit_tab, startD, endsD, List.map_cons, List.map_nil, List.length_cons, List.length_nil, List.append_nil, List.nil_append, List.cons_append, List.getElem?_cons_zero, List.getElem?_cons_succ, List.getElem?_nil, List.set_cons_zero, List.set_cons_succ, List.replicate, List.replicate_succ, Nat.zero_add, Nat.zero_le, sizeLine, true_and, and_true, if_true, Ev.eq_int, Ev.eq_str, Ev.eq_bl, Ev.eq_non, lst_nil, tup_nil, List.map_eq_nil_iff, txt_join, rLt, rLe, rGt, rGe, atI_ofNat, atI_last, wLC, strsOf, intsOf, blsOf, Option.map_some, Ev.join_two, Ev.join_one, Ev.join_nil, List.sum_cons, List.sum_nil, PySem.Str.empty_append, ixN_ofNat, Option.some.injEq, exists_eq', List.length_map, decide_true, decide_false, Bool.not_true, Bool.not_false, Bool.true_eq_false, Bool.false_eq_true, false_and, and_false, if_false, ite_true, ite_false, Nat.reduceAdd, Nat.reduceSub, Nat.reduceMul, Nat.reduceLT, Nat.reduceLeDiff, Nat.reduceEqDiff, Nat.reducePow, Int.reduceToNat, Int.reducePow, pickL, List.filterMap_cons, List.filterMap_nil, and_self, Int.reduceLT, Int.reduceLE, Int.reduceNeg, Int.reduceAdd, Int.reduceMul, Int.reduceSub, Int.reduceEq, reduceIte, reduceCtorEq, lit_eq, String.reduceEq, Ev.rEq, Ev.rNe, Ev.rInD, cut_toN, cut_fromN, List.map_take, List.forall_mem_cons, List.forall_mem_nil, List.not_mem_nil, false_imp_iff, implies_true, forall_const, D.cm, D.lay, D.lays, D.dep, D.deps, strOk_lit, lays_ints, deps_ints, Nat.max_self, Nat.max_zero, Nat.zero_max, Bool.and_self, Bool.true_and, Bool.and_true, Bool.and_false, Bool.false_and, Bool.or_false, Bool.or_true, Bool.true_or, Bool.false_or, List.any_cons, List.any_nil, decide_eq_true_eq, eq_self, e1]
      exact ⟨hz, by have w := h1 (by simp [e1]); rw [rowD, e1] at w; exact w⟩
    · simp only [dLenSet, dSrtR, dRo, dRoF, dRoT, roD, ro_un, ro_dat, ro_own, ro_hp, ro_law, ro_ownK, ro_ownT, List.forall_mem_map, flat_int, flat_str, flat_bl, flat_non, dSeq, dNext, dSet, dSetF, setSl, dVar, dTake, dC, dBin, dBinF, dB, dIfS, dIf, dRet, dRetN, dExpr, dNil, dCons, dTup, dLst, dFz, dAnd, dOr, dNot, dAndV, dOrV, dNotV, dCallD, dCallK, dCB, dCBF, dFor, dLC, dYes, dRng1, dRng2, dSeqI, gN, gT, gsNil, gsCons, dAsg, dNeg, dJoin, dFs, dJs, dFmt, dApp, dExt, dPop, dPopAt, dOwnIx, dOwnCB, dOwnL, dOwnR, dOwnSl, dSetIx, dSlT, dSlL, oNone, oSome, dBorn, optQ, ownAt, setOwnAt, lookAt, wipeD, dNewDT, dNewDK, dDGet, dDIn, dDPut, dSortT, rSrt, isDict, Ev.dictGet, Ev.dictPut, Option.isSome_none, Option.isSome_some, D.keyT, keysOf, D.key, exists_eq_left', exists_eq_left, Option.isSome, rRepL, rCatL, dRetF, dIfF, dPar, dRetOwn, dCallL, dCallLK, dPen2, dRev, dRevI, dIndex, endsL, startL, dNever, dBrk, dCnt, rAddD, rSubI, rIO, rMulI, rDivI, rModI, rPowI, rCI, rIxD, rIsN, rNotN, D.isN, rLen, rTuple, rList, rAbs, rInt, rStr, Ev.rRepr, Ev.rIsi, D.ty, kit_tab, startD, endsD, List.map_cons, List.map_nil, List.length_cons, List.length_nil, List.append_nil, List.nil_append, List.cons_append, List.getElem?_cons_zero, List.getElem?_cons_succ, List.getElem?_nil, List.set_cons_zero, List.set_cons_succ, List.replicate, List.replicate_succ, Nat.zero_add, Nat.zero_le, sizeLine, true_and, and_true, if_true, Ev.eq_int, Ev.eq_str, Ev.eq_bl, Ev.eq_non, lst_nil, tup_nil, List.map_eq_nil_iff, txt_join, rLt, rLe, rGt, rGe, atI_ofNat, atI_last, wLC, strsOf, intsOf, blsOf, Option.map_some, Ev.join_two, Ev.join_one, Ev.join_nil, List.sum_cons, List.sum_nil, PySem.Str.empty_append, ixN_ofNat, Option.some.injEq, exists_eq', List.length_map, decide_true, decide_false, Bool.not_true, Bool.not_false, Bool.true_eq_false, Bool.false_eq_true, false_and, and_false, if_false, ite_true, ite_false, Nat.reduceAdd, Nat.reduceSub, Nat.reduceMul, Nat.reduceLT, Nat.reduceLeDiff, Nat.reduceEqDiff, Nat.reducePow, Int.reduceToNat, Int.reducePow, pickL, List.filterMap_cons, List.filterMap_nil, and_self, Int.reduceLT, Int.reduceLE, Int.reduceNeg, Int.reduceAdd, Int.reduceMul, Int.reduceSub, Int.reduceEq, reduceIte, reduceCtorEq, lit_eq, String.reduceEq, Ev.rEq, Ev.rNe, Ev.rInD, cut_toN, cut_fromN, List.map_take, List.forall_mem_cons, List.forall_mem_nil, List.not_mem_nil, false_imp_iff, implies_true, forall_const, D.cm, D.lay, D.lays, D.dep, D.deps, strOk_lit, lays_ints, deps_ints, Nat.max_self, Nat.max_zero, Nat.zero_max, Bool.and_self, Bool.true_and, Bool.and_true, Bool.and_false, Bool.false_and, Bool.or_false, Bool.or_true, Bool.true_or, Bool.false_or, List.any_cons, List.any_nil, decide_eq_true_eq, eq_self, e1]
      exact h2 (by simp [e1])
  · have hm := rowAt_mem e
    have hf : (b.filter fun r => decide (r.n = n)).head? = some r := by rw [List.head?_filter]; exact e
    have ne : (b.filter fun r => decide (r.n = n)) ≠ [] := fun z => by rw [z] at hf; cases hf
    simp only [dLenSet, dSrtR, dRo, dRoF, dRoT, roD, ro_un, ro_dat, ro_own, ro_hp, ro_law, ro_ownK, ro_ownT, List.forall_mem_map, flat_int, flat_str, flat_bl, flat_non, dSeq, dNext, dSet, dSetF, setSl, dVar, dTake, dC, dBin, dBinF, dB, dIfS, dIf, dRet, dRetN, dExpr, dNil, dCons, dTup, dLst, dFz, dAnd, dOr, dNot, dAndV, dOrV, dNotV, dCallD, dCallK, dCB, dCBF, dFor, dLC, dYes, dRng1, dRng2, dSeqI, gN, gT, gsNil, gsCons, dAsg, dNeg, dJoin, dFs, dJs, dFmt, dApp, dExt, dPop, dPopAt, dOwnIx, dOwnCB, dOwnL, dOwnR, dOwnSl, dSetIx, dSlT, dSlL, oNone, oSome, dBorn, optQ, ownAt, setOwnAt, lookAt, wipeD, dNewDT, dNewDK, dDGet, dDIn, dDPut, dSortT, rSrt, isDict, Ev.dictGet, Ev.dictPut, Option.isSome_none, Option.isSome_some, D.keyT, keysOf, D.key, exists_eq_left', exists_eq_left, Option.isSome, rRepL, rCatL, dRetF, dIfF, dPar, dRetOwn, dCallL, dCallLK, dPen2, dRev, dRevI, dIndex, endsL, startL, dNever, dBrk, dCnt, rAddD, rSubI, rIO, rMulI, rDivI, rModI, rPowI, rCI, rIxD, rIsN, rNotN, D.isN, rLen, rTuple, rList, rAbs, rInt, rStr, Ev.rRepr, Ev.rIsi, D.ty, kit_tab, startD, endsD, List.map_cons, List.map_nil, List.length_cons, List.length_nil, List.append_nil, List.nil_append, List.cons_append, List.getElem?_cons_zero, List.getElem?_cons_succ, List.getElem?_nil, List.set_cons_zero, List.set_cons_succ, List.replicate, List.replicate_succ, Nat.zero_add, Nat.zero_le, sizeLine, true_and, and_true, if_true, Ev.eq_int, Ev.eq_str, Ev.eq_bl, Ev.eq_non, lst_nil, tup_nil, List.map_eq_nil_iff, txt_join, rLt, rLe, rGt, rGe, atI_ofNat, atI_last, wLC, strsOf, intsOf, blsOf, Option.map_some, Ev.join_two, Ev.join_one, Ev.join_nil, List.sum_cons, List.sum_nil, PySem.Str.empty_append, ixN_ofNat, Option.some.injEq, exists_eq', List.length_map, decide_true, decide_false, Bool.not_true, Bool.not_false, Bool.true_eq_false, Bool.false_eq_true, false_and, and_false, if_false, ite_true, ite_false, Nat.reduceAdd, Nat.reduceSub, Nat.reduceMul, Nat.reduceLT, Nat.reduceLeDiff, Nat.reduceEqDiff, Nat.reducePow, Int.reduceToNat, Int.reducePow, pickL, List.filterMap_cons, List.filterMap_nil, and_self, Int.reduceLT, Int.reduceLE, Int.reduceNeg, Int.reduceAdd, Int.reduceMul, Int.reduceSub, Int.reduceEq, reduceIte, reduceCtorEq, lit_eq, String.reduceEq, Ev.rEq, Ev.rNe, Ev.rInD, cut_toN, cut_fromN, List.map_take, List.forall_mem_cons, List.forall_mem_nil, List.not_mem_nil, false_imp_iff, implies_true, forall_const, D.cm, D.lay, D.lays, D.dep, D.deps, strOk_lit, lays_ints, deps_ints, Nat.max_self, Nat.max_zero, Nat.zero_max, Bool.and_self, Bool.true_and, Bool.and_true, Bool.and_false, Bool.false_and, Bool.or_false, Bool.or_true, Bool.true_or, Bool.false_or, List.any_cons, List.any_nil, decide_eq_true_eq, eq_self, b_row_of_1, p_row_of_1, b_row_of_2, p_row_of_2, rows_lay, eq_false ne]
    refine ⟨Nat.le_trans (rows_dep _) (by decide), ?_⟩
    rw [List.getElem?_map, ← List.head?_eq_getElem?, hf]
    exact q
theorem ok_row_of {P : Program} {w : World} {K : PySem.W.Frag} {mg : Str → Option Value} {base : Heap} (v_MOST_NUMBER : ∃ t, mg "MOST_NUMBER" = some (.int 9 t)) (v_SCREEN : ∃ t, mg "SCREEN" = some (.int 0 t)) (K_is_from_to_3 : Def P w K mg base 1 "is_from_to" 3 sp_is_from_to []) {f : Addr} {fd : FuncData} (F : Fun K "row_of" "row_of" s_row_of f fd) : FnG P w K mg base CX0 2 f fd ["book", "room"] (spD K 2 sp_row_of) :=
 fn_d0 F sc_row_of rfl (fun cdv A out s H E g r => run_row_of v_MOST_NUMBER v_SCREEN K_is_from_to_3 cdv A out s H E g r) hsp_row_of
def sp_elders : dSpL := fun ds p Q _ => ∃ (b : List Row) (n : Int) (l : List Int), ds = [bookD b, .int n] ∧ Wf b ∧ Up b (some n) l ∧ (∀ x ∈ l, x ∈ b.map (·.n)) ∧ l.length ≤ 10 ∧ Q (l.map .int) p
abbrev s_elders : Stmt := topS 7
abbrev n_elders : List Str := ["book", "room", "found", "here"]
theorem sc_elders : FnScope n_elders ["book", "room"] (defScope s_elders) := ⟨rfl, rfl, rfl, by decide +kernel, rfl, by decide +kernel, by decide +kernel⟩
def p_elders_x2_0 : dS := (dApp 2 (dVar 3))
def p_elders_x2_1 : dS := (dSet 3 (dBin rIxD (dCallD 2 [] sp_row_of (dCons (dVar 0) (dCons (dVar 3) dNil))) (dC (.int 1))))
def b_elders_x2_1 : dS := p_elders_x2_1
def b_elders_x2_0 : dS := dSeq p_elders_x2_0 b_elders_x2_1
def p_elders_0 : dS := (dSetF 2 (dLst (dCons (dVar 1) dNil)))
def p_elders_1 : dS := (dSet 3 (dBin rIxD (dCallD 2 [] sp_row_of (dCons (dVar 0) (dCons (dVar 1) dNil))) (dC (.int 1))))
def p_elders_2 : dS := (dWhile (dB (dBin (rNotN) (dVar 3) (dC .non))) b_elders_x2_0)
def p_elders_3 : dS := (dRetOwn 2)
def b_elders_3 : dS := p_elders_3
def b_elders_2 : dS := dSeq p_elders_2 b_elders_3
def b_elders_1 : dS := dSeq p_elders_1 b_elders_2
def b_elders_0 : dS := dSeq p_elders_0 b_elders_1
def b_elders : dS := b_elders_0
theorem run_elders {P : Program} {w : World} {K : PySem.W.Frag} {mg : Str → Option Value} {base : Heap} (K_row_of_2 : Def P w K mg base 2 "row_of" 2 sp_row_of []) {f : Addr} (cdv : Value) (A : Around) (out : List Env) (s : Shared) (H : Hp) (E : XK) (g : A.guards = some []) (hrA : Room 2 (A.deeper (envOfC "elders" (defScope s_elders) s.heap.objs.size f cdv))) :
  DSs (cx0 P w K mg base n_elders "elders" (defScope s_elders) f cdv A out s H E) E00 (defBody s_elders) b_elders := by
 have hgA : (A.deeper (envOfC "elders" (defScope s_elders) s.heap.objs.size f cdv)).guards = some [] := g
 have hun := hrA.un
 exact (dss_cons (t := p_elders_0) (u := b_elders_1) (ds_setF (i := 2) sc_elders.nd rfl (by first | exact .inl rfl | exact .inr rfl) (df_lst (da_cons (de_var (pv 1)) da_nil)))
  (dss_cons (t := p_elders_1) (u := b_elders_2) (ds_set (i := 3) sc_elders.nd rfl (by first | exact .inl rfl | exact .inr rfl) (de_ix (de_callD K_row_of_2 hgA hrA (by rfl) (da_cons (de_var (pv 0)) (da_cons (de_var (pv 1)) da_nil))) de_int (fun _ _ => rfl)))
  (dss_cons (t := p_elders_2) (u := b_elders_3) (ds_while PassesOwn.never (dt_cmp (od_notN) (de_var (pv 3)) de_non (nomark _)) (dss_cons (t := p_elders_x2_0) (u := b_elders_x2_1) (ds_app (pv 2) (de_var (pv 3)))
  (dss_one (t := p_elders_x2_1) (ds_set (i := 3) sc_elders.nd rfl (by first | exact .inl rfl | exact .inr rfl) (de_ix (de_callD K_row_of_2 hgA hrA (by rfl) (da_cons (de_var (pv 0)) (da_cons (de_var (pv 3)) da_nil))) de_int (fun _ _ => rfl))))))
  (dss_one (t := p_elders_3) (ds_retOwn (pv 2))))))
theorem hsp_elders : ∀ ds p Q W, ds.length = 2 → sp_elders ds p Q W → b_elders W0 (endsL Q) (startD n_elders.length ds p) := by
  rintro _ p Q W - ⟨b, n, l, rfl, w, u, hx, hl, q⟩
  cases u with
  | @cons _ r l e u =>
    have hr := rowAt_mem e
    have ok := w.ok r hr.1
    simp only [dLenSet, dSrtR, dRo, dRoF, dRoT, roD, ro_un, ro_dat, ro_own, ro_hp, ro_law, ro_ownK, ro_ownT, List.forall_mem_map, flat_int, flat_str, flat_bl, flat_non, dSeq, dNext, dSet, dSetF, setSl, dVar, dTake, dC, dBin, dBinF, dB, dIfS, dIf, dRet, dRetN, dExpr, dNil, dCons, dTup, dLst, dFz, dAnd, dOr, dNot, dAndV, dOrV, dNotV, dCallD, dCallK, dCB, dCBF, dFor, dLC, dYes, dRng1, dRng2, dSeqI, gN, gT, gsNil, gsCons, dAsg, dNeg, dJoin, dFs, dJs, dFmt, dApp, dExt, dPop, dPopAt, dOwnIx, dOwnCB, dOwnL, dOwnR, dOwnSl, dSetIx, dSlT, dSlL, oNone, oSome, dBorn, optQ, ownAt, setOwnAt, lookAt, wipeD, dNewDT, dNewDK, dDGet, dDIn, dDPut, dSortT, rSrt, isDict, Ev.dictGet, Ev.dictPut, Option.isSome_none, Option.isSome_some, D.keyT, keysOf, D.key, exists_eq_left', exists_eq_left, Option.isSome, rRepL, rCatL, dRetF, dIfF, dPar, dRetOwn, dCallL, dCallLK, dPen2, dRev, dRevI, dIndex, endsL, startL, dNever, dBrk, dCnt, rAddD, rSubI, rIO, rMulI, rDivI, rModI, rPowI, rCI, rIxD, rIsN, rNotN, D.isN, rLen, rTuple, rList, rAbs, rInt, rStr, Ev.rRepr, Ev.rIsi, D.ty, kit_tab, startD, endsD, List.map_cons, List.map_nil, List.length_cons, List.length_nil, List.append_nil, List.nil_append, List.cons_append, List.getElem?_cons_zero, List.getElem?_cons_succ, List.getElem?_nil, List.set_cons_zero, List.set_cons_succ, List.replicate, List.replicate_succ, Nat.zero_add, Nat.zero_le, sizeLine, true_and, and_true, if_true, Ev.eq_int, Ev.eq_str, Ev.eq_bl, Ev.eq_non, lst_nil, tup_nil, List.map_eq_nil_iff, txt_join, rLt, rLe, rGt, rGe, atI_ofNat, atI_last, wLC, strsOf, intsOf, blsOf, Option.map_some, Ev.join_two, Ev.join_one, Ev.join_nil, List.sum_cons, List.sum_nil, PySem.Str.empty_append, ixN_ofNat, Option.some.injEq, exists_eq', List.length_map, decide_true, decide_false, Bool.not_true, Bool.not_false, Bool.true_eq_false, Bool.false_eq_true, false_and, and_false, if_false, ite_true, ite_false, Nat.reduceAdd, Nat.reduceSub, Nat.reduceMul, Nat.reduceLT, Nat.reduceLeDiff, Nat.reduceEqDiff, Nat.reducePow, Int.reduceToNat, Int.reducePow, pickL, List.filterMap_cons, List.filterMap_nil, and_self, Int.reduceLT, Int.reduceLE, Int.reduceNeg, Int.reduceAdd, Int.reduceMul, Int.reduceSub, Int.reduceEq, reduceIte, reduceCtorEq, lit_eq, String.reduceEq, Ev.rEq, Ev.rNe, Ev.rInD, cut_toN, cut_fromN, List.map_take, List.forall_mem_cons, List.forall_mem_nil, List.not_mem_nil, false_imp_iff, implies_true, forall_const, D.cm, D.lay, D.lays, D.dep, D.deps, strOk_lit, lays_ints, deps_ints, Nat.max_self, Nat.max_zero, Nat.zero_max, Bool.and_self, Bool.true_and, Bool.and_true, Bool.and_false, Bool.false_and, Bool.or_false, Bool.or_true, Bool.true_or, Bool.false_or, List.any_cons, List.any_nil, decide_eq_true_eq, eq_self, n_elders, b_elders, b_elders_0, p_elders_0, b_elders_1, p_elders_1, b_elders_2, p_elders_2, sp_row_of]
    refine ⟨b, n, r, rfl, w.len, ?_, ?_, e, ?_⟩
    · have := ok.n0; rw [hr.2] at this; exact this
    · have := ok.n9; rw [hr.2] at this; exact this
    simp only [dLenSet, dSrtR, dRo, dRoF, dRoT, roD, ro_un, ro_dat, ro_own, ro_hp, ro_law, ro_ownK, ro_ownT, List.forall_mem_map, flat_int, flat_str, flat_bl, flat_non, dSeq, dNext, dSet, dSetF, setSl, dVar, dTake, dC, dBin, dBinF, dB, dIfS, dIf, dRet, dRetN, dExpr, dNil, dCons, dTup, dLst, dFz, dAnd, dOr, dNot, dAndV, dOrV, dNotV, dCallD, dCallK, dCB, dCBF, dFor, dLC, dYes, dRng1, dRng2, dSeqI, gN, gT, gsNil, gsCons, dAsg, dNeg, dJoin, dFs, dJs, dFmt, dApp, dExt, dPop, dPopAt, dOwnIx, dOwnCB, dOwnL, dOwnR, dOwnSl, dSetIx, dSlT, dSlL, oNone, oSome, dBorn, optQ, ownAt, setOwnAt, lookAt, wipeD, dNewDT, dNewDK, dDGet, dDIn, dDPut, dSortT, rSrt, isDict, Ev.dictGet, Ev.dictPut, Option.isSome_none, Option.isSome_some, D.keyT, keysOf, D.key, exists_eq_left', exists_eq_left, Option.isSome, rRepL, rCatL, dRetF, dIfF, dPar, dRetOwn, dCallL, dCallLK, dPen2, dRev, dRevI, dIndex, endsL, startL, dNever, dBrk, dCnt, rAddD, rSubI, rIO, rMulI, rDivI, rModI, rPowI, rCI, rIxD, rIsN, rNotN, D.isN, rLen, rTuple, rList, rAbs, rInt, rStr, Ev.rRepr, Ev.rIsi, D.ty, kit_tab, startD, endsD, List.map_cons, List.map_nil, List.length_cons, List.length_nil, List.append_nil, List.nil_append, List.cons_append, List.getElem?_cons_zero, List.getElem?_cons_succ, List.getElem?_nil, List.set_cons_zero, List.set_cons_succ, List.replicate, List.replicate_succ, Nat.zero_add, Nat.zero_le, sizeLine, true_and, and_true, if_true, Ev.eq_int, Ev.eq_str, Ev.eq_bl, Ev.eq_non, lst_nil, tup_nil, List.map_eq_nil_iff, txt_join, rLt, rLe, rGt, rGe, atI_ofNat, atI_last, wLC, strsOf, intsOf, blsOf, Option.map_some, Ev.join_two, Ev.join_one, Ev.join_nil, List.sum_cons, List.sum_nil, PySem.Str.empty_append, ixN_ofNat, Option.some.injEq, exists_eq', List.length_map, decide_true, decide_false, Bool.not_true, Bool.not_false, Bool.true_eq_false, Bool.false_eq_true, false_and, and_false, if_false, ite_true, ite_false, Nat.reduceAdd, Nat.reduceSub, Nat.reduceMul, Nat.reduceLT, Nat.reduceLeDiff, Nat.reduceEqDiff, Nat.reducePow, Int.reduceToNat, Int.reducePow, pickL, List.filterMap_cons, List.filterMap_nil, and_self, Int.reduceLT, Int.reduceLE, Int.reduceNeg, Int.reduceAdd, Int.reduceMul, Int.reduceSub, Int.reduceEq, reduceIte, reduceCtorEq, lit_eq, String.reduceEq, Ev.rEq, Ev.rNe, Ev.rInD, cut_toN, cut_fromN, List.map_take, List.forall_mem_cons, List.forall_mem_nil, List.not_mem_nil, false_imp_iff, implies_true, forall_const, D.cm, D.lay, D.lays, D.dep, D.deps, strOk_lit, lays_ints, deps_ints, Nat.max_self, Nat.max_zero, Nat.zero_max, Bool.and_self, Bool.true_and, Bool.and_true, Bool.and_false, Bool.false_and, Bool.or_false, Bool.or_true, Bool.true_or, Bool.false_or, List.any_cons, List.any_nil, decide_eq_true_eq, eq_self, rowD]
    refine ⟨fun m δ => ∃ (acc : List Int) (o : Option Int) (l2 : List Int), δ = ⟨[.dat (bookD b), .dat (.int n), .own (acc.map .int), .dat (optD o)], p⟩ ∧ Up b o l2 ∧ acc ++ l2 = n :: l ∧ m = l2.length, ⟨_, [n], _, l, rfl, u, rfl, rfl⟩, ?_⟩
    rintro m _ ⟨acc, o, l2, rfl, u2, ha, rfl⟩
    cases u2 with
    | nil =>
      simp only [dLenSet, dSrtR, dRo, dRoF, dRoT, roD, ro_un, ro_dat, ro_own, ro_hp, ro_law, ro_ownK, ro_ownT, List.forall_mem_map, flat_int, flat_str, flat_bl, flat_non, dSeq, dNext, dSet, dSetF, setSl, dVar, dTake, dC, dBin, dBinF, dB, dIfS, dIf, dRet, dRetN, dExpr, dNil, dCons, dTup, dLst, dFz, dAnd, dOr, dNot, dAndV, dOrV, dNotV, dCallD, dCallK, dCB, dCBF, dFor, dLC, dYes, dRng1, dRng2, dSeqI, gN, gT, gsNil, gsCons, dAsg, dNeg, dJoin, dFs, dJs, dFmt, dApp, dExt, dPop, dPopAt, dOwnIx, dOwnCB, dOwnL, dOwnR, dOwnSl, dSetIx, dSlT, dSlL, oNone, oSome, dBorn, optQ, ownAt, setOwnAt, lookAt, wipeD, dNewDT, dNewDK, dDGet, dDIn, dDPut, dSortT, rSrt, isDict, Ev.dictGet, Ev.dictPut, Option.isSome_none, Option.isSome_some, D.keyT, keysOf, D.key, exists_eq_left', exists_eq_left, Option.isSome, rRepL, rCatL, dRetF, dIfF, dPar, dRetOwn, dCallL, dCallLK, dPen2, dRev, dRevI, dIndex, endsL, startL, dNever, dBrk, dCnt, rAddD, rSubI, rIO, rMulI, rDivI, rModI, rPowI, rCI, rIxD, rIsN, rNotN, D.isN, rLen, rTuple, rList, rAbs, rInt, rStr, Ev.rRepr, Ev.rIsi, D.ty, kit_tab, startD, endsD, List.map_cons, List.map_nil, List.length_cons, List.length_nil, List.append_nil, List.nil_append, List.cons_append, List.getElem?_cons_zero, List.getElem?_cons_succ, List.getElem?_nil, List.set_cons_zero, List.set_cons_succ, List.replicate, List.replicate_succ, Nat.zero_add, Nat.zero_le, sizeLine, true_and, and_true, if_true, Ev.eq_int, Ev.eq_str, Ev.eq_bl, Ev.eq_non, lst_nil, tup_nil, List.map_eq_nil_iff, txt_join, rLt, rLe, rGt, rGe, atI_ofNat, atI_last, wLC, strsOf, intsOf, blsOf, Option.map_some, Ev.join_two, Ev.join_one, Ev.join_nil, List.sum_cons, List.sum_nil, PySem.Str.empty_append, ixN_ofNat, Option.some.injEq, exists_eq', List.length_map, decide_true, decide_false, Bool.not_true, Bool.not_false, Bool.true_eq_false, Bool.false_eq_true, false_and, and_false, if_false, ite_true, ite_false, Nat.reduceAdd, Nat.reduceSub, Nat.reduceMul, Nat.reduceLT, Nat.reduceLeDiff, Nat.reduceEqDiff, Nat.reducePow, Int.reduceToNat, Int.reducePow, pickL, List.filterMap_cons, List.filterMap_nil, and_self, Int.reduceLT, Int.reduceLE, Int.reduceNeg, Int.reduceAdd, Int.reduceMul, Int.reduceSub, Int.reduceEq, reduceIte, reduceCtorEq, lit_eq, String.reduceEq, Ev.rEq, Ev.rNe, Ev.rInD, cut_toN, cut_fromN, List.map_take, List.forall_mem_cons, List.forall_mem_nil, List.not_mem_nil, false_imp_iff, implies_true, forall_const, D.cm, D.lay, D.lays, D.dep, D.deps, strOk_lit, lays_ints, deps_ints, Nat.max_self, Nat.max_zero, Nat.zero_max, Bool.and_self, Bool.true_and, Bool.and_true, Bool.and_false, Bool.false_and, Bool.or_false, Bool.or_true, Bool.true_or, Bool.false_or, List.any_cons, List.any_nil, decide_eq_true_eq, eq_self, optD, b_elders_3, p_elders_3]
      rw [List.append_nil] at ha
      rw [ha]
      exact q
    | @cons n2 r2 l3 e2 u3 =>
      have hr2 := rowAt_mem e2
      have ok2 := w.ok r2 hr2.1
      have hlen : acc.length + (l3.length + 1) = l.length + 1 := by rw [← List.length_cons (a := n2), ← List.length_append, ha, List.length_cons]
      simp only [dLenSet, dSrtR, dRo, dRoF, dRoT, roD, ro_un, ro_dat, ro_own, ro_hp, ro_law, ro_ownK, ro_ownT, List.forall_mem_map, flat_int, flat_str, flat_bl, flat_non, dSeq, dNext, dSet, dSetF, setSl, dVar, dTake, dC, dBin, dBinF, dB, dIfS, dIf, dRet, dRetN, dExpr, dNil, dCons, dTup, dLst, dFz, dAnd, dOr, dNot, dAndV, dOrV, dNotV, dCallD, dCallK, dCB, dCBF, dFor, dLC, dYes, dRng1, dRng2, dSeqI, gN, gT, gsNil, gsCons, dAsg, dNeg, dJoin, dFs, dJs, dFmt, dApp, dExt, dPop, dPopAt, dOwnIx, dOwnCB, dOwnL, dOwnR, dOwnSl, dSetIx, dSlT, dSlL, oNone, oSome, dBorn, optQ, ownAt, setOwnAt, lookAt, wipeD, dNewDT, dNewDK, dDGet, dDIn, dDPut, dSortT, rSrt, isDict, Ev.dictGet, Ev.dictPut, Option.isSome_none, Option.isSome_some, D.keyT, keysOf, D.key, exists_eq_left', exists_eq_left, Option.isSome, rRepL, rCatL, dRetF, dIfF, dPar, dRetOwn, dCallL, dCallLK, dPen2, dRev, dRevI, dIndex, endsL, startL, dNever, dBrk, dCnt, rAddD, rSubI, rIO, rMulI, rDivI, rModI, rPowI, rCI, rIxD, rIsN, rNotN, D.isN, rLen, rTuple, rList, rAbs, rInt, rStr, Ev.rRepr, Ev.rIsi, D.ty, kit_tab, startD, endsD, List.map_cons, List.map_nil, List.length_cons, List.length_nil, List.append_nil, List.nil_append, List.cons_append, List.getElem?_cons_zero, List.getElem?_cons_succ, List.getElem?_nil, List.set_cons_zero, List.set_cons_succ, List.replicate, List.replicate_succ, Nat.zero_add, Nat.zero_le, sizeLine, true_and, and_true, if_true, Ev.eq_int, Ev.eq_str, Ev.eq_bl, Ev.eq_non, lst_nil, tup_nil, List.map_eq_nil_iff, txt_join, rLt, rLe, rGt, rGe, atI_ofNat, atI_last, wLC, strsOf, intsOf, blsOf, Option.map_some, Ev.join_two, Ev.join_one, Ev.join_nil, List.sum_cons, List.sum_nil, PySem.Str.empty_append, ixN_ofNat, Option.some.injEq, exists_eq', List.length_map, decide_true, decide_false, Bool.not_true, Bool.not_false, Bool.true_eq_false, Bool.false_eq_true, false_and, and_false, if_false, ite_true, ite_false, Nat.reduceAdd, Nat.reduceSub, Nat.reduceMul, Nat.reduceLT, Nat.reduceLeDiff, Nat.reduceEqDiff, Nat.reducePow, Int.reduceToNat, Int.reducePow, pickL, List.filterMap_cons, List.filterMap_nil, and_self, Int.reduceLT, Int.reduceLE, Int.reduceNeg, Int.reduceAdd, Int.reduceMul, Int.reduceSub, Int.reduceEq, reduceIte, reduceCtorEq, lit_eq, String.reduceEq, Ev.rEq, Ev.rNe, Ev.rInD, cut_toN, cut_fromN, List.map_take, List.forall_mem_cons, List.forall_mem_nil, List.not_mem_nil, false_imp_iff, implies_true, forall_const, D.cm, D.lay, D.lays, D.dep, D.deps, strOk_lit, lays_ints, deps_ints, Nat.max_self, Nat.max_zero, Nat.zero_max, Bool.and_self, Bool.true_and, Bool.and_true, Bool.and_false, Bool.false_and, Bool.or_false, Bool.or_true, Bool.true_or, Bool.false_or, List.any_cons, List.any_nil, decide_eq_true_eq, eq_self, optD, b_elders_x2_0, b_elders_x2_1, b_elders_x2_0, p_elders_x2_0, b_elders_x2_1, p_elders_x2_1, sp_row_of]
      simp only [List.length_cons] at hl
      refine ⟨by omega, b, n2, r2, rfl, w.len, ?_, ?_, e2, ?_⟩
      · have := ok2.n0; rw [hr2.2] at this; exact this
      · have := ok2.n9; rw [hr2.2] at this; exact this
      simp only [dLenSet, dSrtR, dRo, dRoF, dRoT, roD, ro_un, ro_dat, ro_own, ro_hp, ro_law, ro_ownK, ro_ownT, List.forall_mem_map, flat_int, flat_str, flat_bl, flat_non, dSeq, dNext, dSet, dSetF, setSl, dVar, dTake, dC, dBin, dBinF, dB, dIfS, dIf, dRet, dRetN, dExpr, dNil, dCons, dTup, dLst, dFz, dAnd, dOr, dNot, dAndV, dOrV, dNotV, dCallD, dCallK, dCB, dCBF, dFor, dLC, dYes, dRng1, dRng2, dSeqI, gN, gT, gsNil, gsCons, dAsg, dNeg, dJoin, dFs, dJs, dFmt, dApp, dExt, dPop, dPopAt, dOwnIx, dOwnCB, dOwnL, dOwnR, dOwnSl, dSetIx, dSlT, dSlL, oNone, oSome, dBorn, optQ, ownAt, setOwnAt, lookAt, wipeD, dNewDT, dNewDK, dDGet, dDIn, dDPut, dSortT, rSrt, isDict, Ev.dictGet, Ev.dictPut, Option.isSome_none, Option.isSome_some, D.keyT, keysOf, D.key, exists_eq_left', exists_eq_left, Option.isSome, rRepL, rCatL, dRetF, dIfF, dPar, dRetOwn, dCallL, dCallLK, dPen2, dRev, dRevI, dIndex, endsL, startL, dNever, dBrk, dCnt, rAddD, rSubI, rIO, rMulI, rDivI, rModI, rPowI, rCI, rIxD, rIsN, rNotN, D.isN, rLen, rTuple, rList, rAbs, rInt, rStr, Ev.rRepr, Ev.rIsi, D.ty, kit_tab, startD, endsD, List.map_cons, List.map_nil, List.length_cons, List.length_nil, List.append_nil, List.nil_append, List.cons_append, List.getElem?_cons_zero, List.getElem?_cons_succ, List.getElem?_nil, List.set_cons_zero, List.set_cons_succ, List.replicate, List.replicate_succ, Nat.zero_add, Nat.zero_le, sizeLine, true_and, and_true, if_true, Ev.eq_int, Ev.eq_str, Ev.eq_bl, Ev.eq_non, lst_nil, tup_nil, List.map_eq_nil_iff, txt_join, rLt, rLe, rGt, rGe, atI_ofNat, atI_last, wLC, strsOf, intsOf, blsOf, Option.map_some, Ev.join_two, Ev.join_one, Ev.join_nil, List.sum_cons, List.sum_nil, PySem.Str.empty_append, ixN_ofNat, Option.some.injEq, exists_eq', List.length_map, decide_true, decide_false, Bool.not_true, Bool.not_false, Bool.true_eq_false, Bool.false_eq_true, false_and, and_false, if_false, ite_true, ite_false, Nat.reduceAdd, Nat.reduceSub, Nat.reduceMul, Nat.reduceLT, Nat.reduceLeDiff, Nat.reduceEqDiff, Nat.reducePow, Int.reduceToNat, Int.reducePow, pickL, List.filterMap_cons, List.filterMap_nil, and_self, Int.reduceLT, Int.reduceLE, Int.reduceNeg, Int.reduceAdd, Int.reduceMul, Int.reduceSub, Int.reduceEq, reduceIte, reduceCtorEq, lit_eq, String.reduceEq, Ev.rEq, Ev.rNe, Ev.rInD, cut_toN, cut_fromN, List.map_take, List.forall_mem_cons, List.forall_mem_nil, List.not_mem_nil, false_imp_iff, implies_true, forall_const, D.cm, D.lay, D.lays, D.dep, D.deps, strOk_lit, lays_ints, deps_ints, Nat.max_self, Nat.max_zero, Nat.zero_max, Bool.and_self, Bool.true_and, Bool.and_true, Bool.and_false, Bool.false_and, Bool.or_false, Bool.or_true, Bool.true_or, Bool.false_or, List.any_cons, List.any_nil, decide_eq_true_eq, eq_self, rowD]
      exact ⟨l3.length, by simp, acc ++ [n2], r2.up, l3, by simp; cases r2.up <;> rfl, u3, by simp [ha], rfl⟩
theorem ok_elders {P : Program} {w : World} {K : PySem.W.Frag} {mg : Str → Option Value} {base : Heap} (K_row_of_2 : Def P w K mg base 2 "row_of" 2 sp_row_of []) {f : Addr} {fd : FuncData} (F : Fun K "elders" "elders" s_elders f fd) : FnG P w K mg base CX0 3 f fd ["book", "room"] (spDL K 2 sp_elders) :=
 fn_dL F sc_elders rfl (fun cdv A out s H E g r => run_elders K_row_of_2 cdv A out s H E g r) hsp_elders
def sp_line_of : dSpL := fun ds p Q _ => ∃ (b : List Row) (o : Option Int) (l : List Int), ds = [bookD b, optD o] ∧ Wf b ∧ Up b o l ∧ (∀ x ∈ l, x ∈ b.map (·.n)) ∧ l.length ≤ 10 ∧ Q ((l.map some ++ [none]).map optD) p
abbrev s_line_of : Stmt := topS 16
abbrev n_line_of : List Str := ["book", "room"]
theorem sc_line_of : FnScope n_line_of ["book", "room"] (defScope s_line_of) := ⟨rfl, rfl, rfl, by decide +kernel, rfl, by decide +kernel, by decide +kernel⟩
def b_line_of : dS := (dRetF (dIfF (dB (dBin (rIsN) (dVar 1) (dC .non))) (dLst (dCons (dC .non) dNil)) (dBinF rCatL (dFz (dCallL 2 [] sp_elders (dCons (dVar 0) (dCons (dVar 1) dNil)))) (dFz (dLst (dCons (dC .non) dNil))))))
theorem run_line_of {P : Program} {w : World} {K : PySem.W.Frag} {mg : Str → Option Value} {base : Heap} (K_elders_2 : DefL P w K mg base 3 "elders" 2 sp_elders []) {f : Addr} (cdv : Value) (A : Around) (out : List Env) (s : Shared) (H : Hp) (E : XK) (g : A.guards = some []) (hrA : Room 3 (A.deeper (envOfC "line_of" (defScope s_line_of) s.heap.objs.size f cdv))) :
  DSs (cx0 P w K mg base n_line_of "line_of" (defScope s_line_of) f cdv A out s H E) E00 (defBody s_line_of) b_line_of := by
 have hgA : (A.deeper (envOfC "line_of" (defScope s_line_of) s.heap.objs.size f cdv)).guards = some [] := g
 have hun := hrA.un
 exact (dss_one (ds_retF (df_if (dt_cmp (od_isN) (de_var (pv 1)) de_non (nomark _)) (df_lst (da_cons de_non da_nil)) (df_op od_catL (de_fz (df_callL K_elders_2 hgA hrA (by rfl) (da_cons (de_var (pv 0)) (da_cons (de_var (pv 1)) da_nil)))) (de_fz (df_lst (da_cons de_non da_nil)))))))
theorem hsp_line_of : ∀ ds p Q W, ds.length = 2 → sp_line_of ds p Q W → b_line_of W0 (endsL Q) (startD n_line_of.length ds p) := by
  rintro _ p Q W - ⟨b, o, l, rfl, w, u, hx, hl, q⟩
  cases u with
  | nil =>
    simp only [dLenSet, dSrtR, dRo, dRoF, dRoT, roD, ro_un, ro_dat, ro_own, ro_hp, ro_law, ro_ownK, ro_ownT, List.forall_mem_map, flat_int, flat_str, flat_bl, flat_non, dSeq, dNext, dSet, dSetF, setSl, dVar, dTake, dC, dBin, dBinF, dB, dIfS, dIf, dRet, dRetN, dExpr, dNil, dCons, dTup, dLst, dFz, dAnd, dOr, dNot, dAndV, dOrV, dNotV, dCallD, dCallK, dCB, dCBF, dFor, dLC, dYes, dRng1, dRng2, dSeqI, gN, gT, gsNil, gsCons, dAsg, dNeg, dJoin, dFs, dJs, dFmt, dApp, dExt, dPop, dPopAt, dOwnIx, dOwnCB, dOwnL, dOwnR, dOwnSl, dSetIx, dSlT, dSlL, oNone, oSome, dBorn, optQ, ownAt, setOwnAt, lookAt, wipeD, dNewDT, dNewDK, dDGet, dDIn, dDPut, dSortT, rSrt, isDict, Ev.dictGet, Ev.dictPut, Option.isSome_none, Option.isSome_some, D.keyT, keysOf, D.key, exists_eq_left', exists_eq_left, Option.isSome, rRepL, rCatL, dRetF, dIfF, dPar, dRetOwn, dCallL, dCallLK, dPen2, dRev, dRevI, dIndex, endsL, startL, dNever, dBrk, dCnt, rAddD, rSubI, rIO, rMulI, rDivI, rModI, rPowI, rCI, rIxD, rIsN, rNotN, D.isN, rLen, rTuple, rList, rAbs, rInt, rStr, Ev.rRepr, Ev.rIsi, D.ty, kit_tab, startD, endsD, List.map_cons, List.map_nil, List.length_cons, List.length_nil, List.append_nil, List.nil_append, List.cons_append, List.getElem?_cons_zero, List.getElem?_cons_succ, List.getElem?_nil, List.set_cons_zero, List.set_cons_succ, List.replicate, List.replicate_succ, Nat.zero_add, Nat.zero_le, sizeLine, true_and, and_true, if_true, Ev.eq_int, Ev.eq_str, Ev.eq_bl, Ev.eq_non, lst_nil, tup_nil, List.map_eq_nil_iff, txt_join, rLt, rLe, rGt, rGe, atI_ofNat, atI_last, wLC, strsOf, intsOf, blsOf, Option.map_some, Ev.join_two, Ev.join_one, Ev.join_nil, List.sum_cons, List.sum_nil, PySem.Str.empty_append, ixN_ofNat, Option.some.injEq, exists_eq', List.length_map, decide_true, decide_false, Bool.not_true, Bool.not_false, Bool.true_eq_false, Bool.false_eq_true, false_and, and_false, if_false, ite_true, ite_false, Nat.reduceAdd, Nat.reduceSub, Nat.reduceMul, Nat.reduceLT, Nat.reduceLeDiff, Nat.reduceEqDiff, Nat.reducePow, Int.reduceToNat, Int.reducePow, pickL, List.filterMap_cons, List.filterMap_nil, and_self, Int.reduceLT, Int.reduceLE, Int.reduceNeg, Int.reduceAdd, Int.reduceMul, Int.reduceSub, Int.reduceEq, reduceIte, reduceCtorEq, lit_eq, String.reduceEq, Ev.rEq, Ev.rNe, Ev.rInD, cut_toN, cut_fromN, List.map_take, List.forall_mem_cons, List.forall_mem_nil, List.not_mem_nil, false_imp_iff, implies_true, forall_const, D.cm, D.lay, D.lays, D.dep, D.deps, strOk_lit, lays_ints, deps_ints, Nat.max_self, Nat.max_zero, Nat.zero_max, Bool.and_self, Bool.true_and, Bool.and_true, Bool.and_false, Bool.false_and, Bool.or_false, Bool.or_true, Bool.true_or, Bool.false_or, List.any_cons, List.any_nil, decide_eq_true_eq, eq_self, n_line_of, b_line_of, optD]
    exact q
  | @cons n r l e u =>
    simp only [dLenSet, dSrtR, dRo, dRoF, dRoT, roD, ro_un, ro_dat, ro_own, ro_hp, ro_law, ro_ownK, ro_ownT, List.forall_mem_map, flat_int, flat_str, flat_bl, flat_non, dSeq, dNext, dSet, dSetF, setSl, dVar, dTake, dC, dBin, dBinF, dB, dIfS, dIf, dRet, dRetN, dExpr, dNil, dCons, dTup, dLst, dFz, dAnd, dOr, dNot, dAndV, dOrV, dNotV, dCallD, dCallK, dCB, dCBF, dFor, dLC, dYes, dRng1, dRng2, dSeqI, gN, gT, gsNil, gsCons, dAsg, dNeg, dJoin, dFs, dJs, dFmt, dApp, dExt, dPop, dPopAt, dOwnIx, dOwnCB, dOwnL, dOwnR, dOwnSl, dSetIx, dSlT, dSlL, oNone, oSome, dBorn, optQ, ownAt, setOwnAt, lookAt, wipeD, dNewDT, dNewDK, dDGet, dDIn, dDPut, dSortT, rSrt, isDict, Ev.dictGet, Ev.dictPut, Option.isSome_none, Option.isSome_some, D.keyT, keysOf, D.key, exists_eq_left', exists_eq_left, Option.isSome, rRepL, rCatL, dRetF, dIfF, dPar, dRetOwn, dCallL, dCallLK, dPen2, dRev, dRevI, dIndex, endsL, startL, dNever, dBrk, dCnt, rAddD, rSubI, rIO, rMulI, rDivI, rModI, rPowI, rCI, rIxD, rIsN, rNotN, D.isN, rLen, rTuple, rList, rAbs, rInt, rStr, Ev.rRepr, Ev.rIsi, D.ty, kit_tab, startD, endsD, List.map_cons, List.map_nil, List.length_cons, List.length_nil, List.append_nil, List.nil_append, List.cons_append, List.getElem?_cons_zero, List.getElem?_cons_succ, List.getElem?_nil, List.set_cons_zero, List.set_cons_succ, List.replicate, List.replicate_succ, Nat.zero_add, Nat.zero_le, sizeLine, true_and, and_true, if_true, Ev.eq_int, Ev.eq_str, Ev.eq_bl, Ev.eq_non, lst_nil, tup_nil, List.map_eq_nil_iff, txt_join, rLt, rLe, rGt, rGe, atI_ofNat, atI_last, wLC, strsOf, intsOf, blsOf, Option.map_some, Ev.join_two, Ev.join_one, Ev.join_nil, List.sum_cons, List.sum_nil, PySem.Str.empty_append, ixN_ofNat, Option.some.injEq, exists_eq', List.length_map, decide_true, decide_false, Bool.not_true, Bool.not_false, Bool.true_eq_false, Bool.false_eq_true, false_and, and_false, if_false, ite_true, ite_false, Nat.reduceAdd, Nat.reduceSub, Nat.reduceMul, Nat.reduceLT, Nat.reduceLeDiff, Nat.reduceEqDiff, Nat.reducePow, Int.reduceToNat, Int.reducePow, pickL, List.filterMap_cons, List.filterMap_nil, and_self, Int.reduceLT, Int.reduceLE, Int.reduceNeg, Int.reduceAdd, Int.reduceMul, Int.reduceSub, Int.reduceEq, reduceIte, reduceCtorEq, lit_eq, String.reduceEq, Ev.rEq, Ev.rNe, Ev.rInD, cut_toN, cut_fromN, List.map_take, List.forall_mem_cons, List.forall_mem_nil, List.not_mem_nil, false_imp_iff, implies_true, forall_const, D.cm, D.lay, D.lays, D.dep, D.deps, strOk_lit, lays_ints, deps_ints, Nat.max_self, Nat.max_zero, Nat.zero_max, Bool.and_self, Bool.true_and, Bool.and_true, Bool.and_false, Bool.false_and, Bool.or_false, Bool.or_true, Bool.true_or, Bool.false_or, List.any_cons, List.any_nil, decide_eq_true_eq, eq_self, n_line_of, b_line_of, optD, sp_elders]
    simp only [List.length_cons] at hl
    exact ⟨b, n, n :: l, rfl, w, .cons e u, hx, hl, by simp only [List.length_cons]; omega, by simpa [List.map_map, optD, Function.comp_def] using q⟩
theorem ok_line_of {P : Program} {w : World} {K : PySem.W.Frag} {mg : Str → Option Value} {base : Heap} (K_elders_2 : DefL P w K mg base 3 "elders" 2 sp_elders []) {f : Addr} {fd : FuncData} (F : Fun K "line_of" "line_of" s_line_of f fd) : FnG P w K mg base CX0 4 f fd ["book", "room"] (spDL K 2 sp_line_of) :=
 fn_dL F sc_line_of rfl (fun cdv A out s H E g r => run_line_of K_elders_2 cdv A out s H E g r) hsp_line_of
structure Told where
  ev : Str
  rm : Option Int
  way : Str
def toldD (t : Told) : D := .tup [.str t.ev, optD t.rm, .str t.way]
def toldP (first : Option Int) (way : Str) (up down : List (Option Int)) (last : Option Int) (way2 : Str) : List Told :=
  [⟨"leave", first, way⟩] ++ up.map (fun r => ⟨"leave", r, "passed"⟩) ++ (down.reverse.map (fun r => ⟨"enter", r, "passed"⟩) ++ [⟨"enter", last, way2⟩])
def sp_told_of : dSpL := fun ds p Q _ => ∃ (first : Option Int) (way : Str) (up down : List (Option Int)) (last : Option Int) (way2 : Str),
  ds = [optD first, .str way, .lst (up.map optD), .lst (down.map optD), optD last, .str way2] ∧ up.length ≤ 20 ∧ down.length ≤ 20 ∧ Q ((toldP first way up down last way2).map toldD) p
abbrev s_told_of : Stmt := topS 17
abbrev n_told_of : List Str := ["first", "way", "up", "down", "last", "way2", "found", "room"]
theorem sc_told_of : FnScope n_told_of ["first", "way", "up", "down", "last", "way2"] (defScope s_told_of) := ⟨rfl, rfl, rfl, by decide +kernel, rfl, by decide +kernel, by decide +kernel⟩
def p_told_of_0 : dS := (dSet 6 (dFz (dBinF rCatL (dFz (dLst (dCons (dTup (dCons (dC (.str "leave")) (dCons (dVar 0) (dCons (dVar 1) dNil)))) dNil))) (dFz (dLC (dSeqI (dVar 2)) (gN 7) dYes (dTup (dCons (dC (.str "leave")) (dCons (dVar 7) (dCons (dC (.str "passed")) dNil)))) [7])))))
def p_told_of_1 : dS := (dRetF (dBinF rCatL (dFz (dBinF rCatL (dVar 6) (dFz (dLC (dRevI (dVar 3)) (gN 7) dYes (dTup (dCons (dC (.str "enter")) (dCons (dVar 7) (dCons (dC (.str "passed")) dNil)))) [7])))) (dFz (dLst (dCons (dTup (dCons (dC (.str "enter")) (dCons (dVar 4) (dCons (dVar 5) dNil)))) dNil)))))
def b_told_of_1 : dS := p_told_of_1
def b_told_of_0 : dS := dSeq p_told_of_0 b_told_of_1
def b_told_of : dS := b_told_of_0
theorem run_told_of {P : Program} {w : World} {K : PySem.W.Frag} {mg : Str → Option Value} {base : Heap} (v_ENTER : ∃ t, mg "ENTER" = some (.str "enter" t)) (v_LEAVE : ∃ t, mg "LEAVE" = some (.str "leave" t)) (v_PASSED : ∃ t, mg "PASSED" = some (.str "passed" t)) (m_reversed : mg "reversed" = none) {f : Addr} (cdv : Value) (A : Around) (out : List Env) (s : Shared) (H : Hp) (E : XK) (g : A.guards = some []) (hrA : Room 0 (A.deeper (envOfC "told_of" (defScope s_told_of) s.heap.objs.size f cdv))) :
  DSs (cx0 P w K mg base n_told_of "told_of" (defScope s_told_of) f cdv A out s H E) E00 (defBody s_told_of) b_told_of := by
 have hgA : (A.deeper (envOfC "told_of" (defScope s_told_of) s.heap.objs.size f cdv)).guards = some [] := g
 have hun := hrA.un
 exact (dss_cons (t := p_told_of_0) (u := b_told_of_1) (ds_set (i := 6) sc_told_of.nd rfl (by first | exact .inl rfl | exact .inr rfl) (de_fz (df_op od_catL (de_fz (df_lst (da_cons (de_tup (da_cons (de_gstr (by rfl) v_LEAVE) (da_cons (de_var (pv 0)) (da_cons (de_var (pv 1)) da_nil)))) da_nil))) (de_fz (df_lc (E2 := E00) (own := [("room", 7)]) rfl sc_told_of.nd (di_seq (de_var (pv 2))) (blkOk_by (N := n_told_of) (sc := (defScope s_told_of)) (own := [("room", 7)]) (by decide +kernel)) (by decide) (fun _ _ _ _ _ => (dg_name (pg_name (i := 7) sc_told_of.nd rfl (by first | exact .inl rfl | exact .inr rfl)))) (fun _ _ _ _ _ => dts_nil) (fun _ _ _ _ _ => (de_tup (da_cons (de_gstr (by rfl) v_LEAVE) (da_cons (de_var (pv 7)) (da_cons (de_gstr (by rfl) v_PASSED) da_nil))))))))))
  (dss_one (t := p_told_of_1) (ds_retF (df_op od_catL (de_fz (df_op od_catL (de_var (pv 6)) (de_fz (df_lc (E2 := E00) (own := [("room", 7)]) rfl sc_told_of.nd (di_rev (by rfl) m_reversed (de_var (pv 3))) (blkOk_by (N := n_told_of) (sc := (defScope s_told_of)) (own := [("room", 7)]) (by decide +kernel)) (by decide) (fun _ _ _ _ _ => (dg_name (pg_name (i := 7) sc_told_of.nd rfl (by first | exact .inl rfl | exact .inr rfl)))) (fun _ _ _ _ _ => dts_nil) (fun _ _ _ _ _ => (de_tup (da_cons (de_gstr (by rfl) v_ENTER) (da_cons (de_var (pv 7)) (da_cons (de_gstr (by rfl) v_PASSED) da_nil))))))))) (de_fz (df_lst (da_cons (de_tup (da_cons (de_gstr (by rfl) v_ENTER) (da_cons (de_var (pv 4)) (da_cons (de_var (pv 5)) da_nil)))) da_nil)))))))
theorem hsp_told_of : ∀ ds p Q W, ds.length = 6 → sp_told_of ds p Q W → b_told_of W0 (endsL Q) (startD n_told_of.length ds p) := by
  rintro _ p Q W - ⟨first, way, up, down, last, way2, rfl, h1, h2, q⟩
  simp only [dLenSet, dSrtR, dRo, dRoF, dRoT, roD, ro_un, ro_dat, ro_own, ro_hp, ro_law, ro_ownK, ro_ownT, List.forall_mem_map, flat_int, flat_str, flat_bl, flat_non, dSeq, dNext, dSet, dSetF, setSl, dVar, dTake, dC, dBin, dBinF, dB, dIfS, dIf, dRet, dRetN, dExpr, dNil, dCons, dTup, dLst, dFz, dAnd, dOr, dNot, dAndV, dOrV, dNotV, dCallD, dCallK, dCB, dCBF, dFor, dLC, dYes, dRng1, dRng2, dSeqI, gN, gT, gsNil, gsCons, dAsg, dNeg, dJoin, dFs, dJs, dFmt, dApp, dExt, dPop, dPopAt, dOwnIx, dOwnCB, dOwnL, dOwnR, dOwnSl, dSetIx, dSlT, dSlL, oNone, oSome, dBorn, optQ, ownAt, setOwnAt, lookAt, wipeD, dNewDT, dNewDK, dDGet, dDIn, dDPut, dSortT, rSrt, isDict, Ev.dictGet, Ev.dictPut, Option.isSome_none, Option.isSome_some, D.keyT, keysOf, D.key, exists_eq_left', exists_eq_left, Option.isSome, rRepL, rCatL, dRetF, dIfF, dPar, dRetOwn, dCallL, dCallLK, dPen2, dRev, dRevI, dIndex, endsL, startL, dNever, dBrk, dCnt, rAddD, rSubI, rIO, rMulI, rDivI, rModI, rPowI, rCI, rIxD, rIsN, rNotN, D.isN, rLen, rTuple, rList, rAbs, rInt, rStr, Ev.rRepr, Ev.rIsi, D.ty, kit_tab, startD, endsD, List.map_cons, List.map_nil, List.length_cons, List.length_nil, List.append_nil, List.nil_append, List.cons_append, List.getElem?_cons_zero, List.getElem?_cons_succ, List.getElem?_nil, List.set_cons_zero, List.set_cons_succ, List.replicate, List.replicate_succ, Nat.zero_add, Nat.zero_le, sizeLine, true_and, and_true, if_true, Ev.eq_int, Ev.eq_str, Ev.eq_bl, Ev.eq_non, lst_nil, tup_nil, List.map_eq_nil_iff, txt_join, rLt, rLe, rGt, rGe, atI_ofNat, atI_last, wLC, strsOf, intsOf, blsOf, Option.map_some, Ev.join_two, Ev.join_one, Ev.join_nil, List.sum_cons, List.sum_nil, PySem.Str.empty_append, ixN_ofNat, Option.some.injEq, exists_eq', List.length_map, decide_true, decide_false, Bool.not_true, Bool.not_false, Bool.true_eq_false, Bool.false_eq_true, false_and, and_false, if_false, ite_true, ite_false, Nat.reduceAdd, Nat.reduceSub, Nat.reduceMul, Nat.reduceLT, Nat.reduceLeDiff, Nat.reduceEqDiff, Nat.reducePow, Int.reduceToNat, Int.reducePow, pickL, List.filterMap_cons, List.filterMap_nil, and_self, Int.reduceLT, Int.reduceLE, Int.reduceNeg, Int.reduceAdd, Int.reduceMul, Int.reduceSub, Int.reduceEq, reduceIte, reduceCtorEq, lit_eq, String.reduceEq, Ev.rEq, Ev.rNe, Ev.rInD, cut_toN, cut_fromN, List.map_take, List.forall_mem_cons, List.forall_mem_nil, List.not_mem_nil, false_imp_iff, implies_true, forall_const, D.cm, D.lay, D.lays, D.dep, D.deps, strOk_lit, lays_ints, deps_ints, Nat.max_self, Nat.max_zero, Nat.zero_max, Bool.and_self, Bool.true_and, Bool.and_true, Bool.and_false, Bool.false_and, Bool.or_false, Bool.or_true, Bool.true_or, Bool.false_or, List.any_cons, List.any_nil, decide_eq_true_eq, eq_self, n_told_of, b_told_of, b_told_of_0, p_told_of_0, b_told_of_1, p_told_of_1]
  refine wLC_maps (l := up) (ι := optD) (f := fun r => toldD ⟨"leave", r, "passed"⟩) (fun r hr acc k hz h => ?_) (by rw [sizeLine_eq]; omega) ?_
  · simp only [dLenSet, dSrtR, dRo, dRoF, dRoT, roD, ro_un, ro_dat, ro_own, ro_hp, ro_law, ro_ownK, ro_ownT, List.forall_mem_map, flat_int, flat_str, flat_bl, flat_non, dSeq, dNext, dSet, dSetF, setSl, dVar, dTake, dC, dBin, dBinF, dB, dIfS, dIf, dRet, dRetN, dExpr, dNil, dCons, dTup, dLst, dFz, dAnd, dOr, dNot, dAndV, dOrV, dNotV, dCallD, dCallK, dCB, dCBF, dFor, dLC, dYes, dRng1, dRng2, dSeqI, gN, gT, gsNil, gsCons, dAsg, dNeg, dJoin, dFs, dJs, dFmt, dApp, dExt, dPop, dPopAt, dOwnIx, dOwnCB, dOwnL, dOwnR, dOwnSl, dSetIx, dSlT, dSlL, oNone, oSome, dBorn, optQ, ownAt, setOwnAt, lookAt, wipeD, dNewDT, dNewDK, dDGet, dDIn, dDPut, dSortT, rSrt, isDict, Ev.dictGet, Ev.dictPut, Option.isSome_none, Option.isSome_some, D.keyT, keysOf, D.key, exists_eq_left', exists_eq_left, Option.isSome, rRepL, rCatL, dRetF, dIfF, dPar, dRetOwn, dCallL, dCallLK, dPen2, dRev, dRevI, dIndex, endsL, startL, dNever, dBrk, dCnt, rAddD, rSubI, rIO, rMulI, rDivI, rModI, rPowI, rCI, rIxD, rIsN, rNotN, D.isN, rLen, rTuple, rList, rAbs, rInt, rStr, Ev.rRepr, Ev.rIsi, D.ty, kit_tab, startD, endsD, List.map_cons, List.map_nil, List.length_cons, List.length_nil, List.append_nil, List.nil_append, List.cons_append, List.getElem?_cons_zero, List.getElem?_cons_succ, List.getElem?_nil, List.set_cons_zero, List.set_cons_succ, List.replicate, List.replicate_succ, Nat.zero_add, Nat.zero_le, sizeLine, true_and, and_true, if_true, Ev.eq_int, Ev.eq_str, Ev.eq_bl, Ev.eq_non, lst_nil, tup_nil, List.map_eq_nil_iff, txt_join, rLt, rLe, rGt, rGe, atI_ofNat, atI_last, wLC, strsOf, intsOf, blsOf, Option.map_some, Ev.join_two, Ev.join_one, Ev.join_nil, List.sum_cons, List.sum_nil, PySem.Str.empty_append, ixN_ofNat, Option.some.injEq, exists_eq', List.length_map, decide_true, decide_false, Bool.not_true, Bool.not_false, Bool.true_eq_false, Bool.false_eq_true, false_and, and_false, if_false, ite_true, ite_false, Nat.reduceAdd, Nat.reduceSub, Nat.reduceMul, Nat.reduceLT, Nat.reduceLeDiff, Nat.reduceEqDiff, Nat.reducePow, Int.reduceToNat, Int.reducePow, pickL, List.filterMap_cons, List.filterMap_nil, and_self, Int.reduceLT, Int.reduceLE, Int.reduceNeg, Int.reduceAdd, Int.reduceMul, Int.reduceSub, Int.reduceEq, reduceIte, reduceCtorEq, lit_eq, String.reduceEq, Ev.rEq, Ev.rNe, Ev.rInD, cut_toN, cut_fromN, List.map_take, List.forall_mem_cons, List.forall_mem_nil, List.not_mem_nil, false_imp_iff, implies_true, forall_const, D.cm, D.lay, D.lays, D.dep, D.deps, strOk_lit, lays_ints, deps_ints, Nat.max_self, Nat.max_zero, Nat.zero_max, Bool.and_self, Bool.true_and, Bool.and_true, Bool.and_false, Bool.false_and, Bool.or_false, Bool.or_true, Bool.true_or, Bool.false_or, List.any_cons, List.any_nil, decide_eq_true_eq, eq_self]
    exact ⟨hz, h⟩
  simp only [dLenSet, dSrtR, dRo, dRoF, dRoT, roD, ro_un, ro_dat, ro_own, ro_hp, ro_law, ro_ownK, ro_ownT, List.forall_mem_map, flat_int, flat_str, flat_bl, flat_non, dSeq, dNext, dSet, dSetF, setSl, dVar, dTake, dC, dBin, dBinF, dB, dIfS, dIf, dRet, dRetN, dExpr, dNil, dCons, dTup, dLst, dFz, dAnd, dOr, dNot, dAndV, dOrV, dNotV, dCallD, dCallK, dCB, dCBF, dFor, dLC, dYes, dRng1, dRng2, dSeqI, gN, gT, gsNil, gsCons, dAsg, dNeg, dJoin, dFs, dJs, dFmt, dApp, dExt, dPop, dPopAt, dOwnIx, dOwnCB, dOwnL, dOwnR, dOwnSl, dSetIx, dSlT, dSlL, oNone, oSome, dBorn, optQ, ownAt, setOwnAt, lookAt, wipeD, dNewDT, dNewDK, dDGet, dDIn, dDPut, dSortT, rSrt, isDict, Ev.dictGet, Ev.dictPut, Option.isSome_none, Option.isSome_some, D.keyT, keysOf, D.key, exists_eq_left', exists_eq_left, Option.isSome, rRepL, rCatL, dRetF, dIfF, dPar, dRetOwn, dCallL, dCallLK, dPen2, dRev, dRevI, dIndex, endsL, startL, dNever, dBrk, dCnt, rAddD, rSubI, rIO, rMulI, rDivI, rModI, rPowI, rCI, rIxD, rIsN, rNotN, D.isN, rLen, rTuple, rList, rAbs, rInt, rStr, Ev.rRepr, Ev.rIsi, D.ty, kit_tab, startD, endsD, List.map_cons, List.map_nil, List.length_cons, List.length_nil, List.append_nil, List.nil_append, List.cons_append, List.getElem?_cons_zero, List.getElem?_cons_succ, List.getElem?_nil, List.set_cons_zero, List.set_cons_succ, List.replicate, List.replicate_succ, Nat.zero_add, Nat.zero_le, sizeLine, true_and, and_true, if_true, Ev.eq_int, Ev.eq_str, Ev.eq_bl, Ev.eq_non, lst_nil, tup_nil, List.map_eq_nil_iff, txt_join, rLt, rLe, rGt, rGe, atI_ofNat, atI_last, wLC, strsOf, intsOf, blsOf, Option.map_some, Ev.join_two, Ev.join_one, Ev.join_nil, List.sum_cons, List.sum_nil, PySem.Str.empty_append, ixN_ofNat, Option.some.injEq, exists_eq', List.length_map, decide_true, decide_false, Bool.not_true, Bool.not_false, Bool.true_eq_false, Bool.false_eq_true, false_and, and_false, if_false, ite_true, ite_false, Nat.reduceAdd, Nat.reduceSub, Nat.reduceMul, Nat.reduceLT, Nat.reduceLeDiff, Nat.reduceEqDiff, Nat.reducePow, Int.reduceToNat, Int.reducePow, pickL, List.filterMap_cons, List.filterMap_nil, and_self, Int.reduceLT, Int.reduceLE, Int.reduceNeg, Int.reduceAdd, Int.reduceMul, Int.reduceSub, Int.reduceEq, reduceIte, reduceCtorEq, lit_eq, String.reduceEq, Ev.rEq, Ev.rNe, Ev.rInD, cut_toN, cut_fromN, List.map_take, List.forall_mem_cons, List.forall_mem_nil, List.not_mem_nil, false_imp_iff, implies_true, forall_const, D.cm, D.lay, D.lays, D.dep, D.deps, strOk_lit, lays_ints, deps_ints, Nat.max_self, Nat.max_zero, Nat.zero_max, Bool.and_self, Bool.true_and, Bool.and_true, Bool.and_false, Bool.false_and, Bool.or_false, Bool.or_true, Bool.true_or, Bool.false_or, List.any_cons, List.any_nil, decide_eq_true_eq, eq_self]
  simp only [← List.map_reverse]
  refine ⟨by omega, ?_⟩
  refine wLC_maps (l := down.reverse) (ι := optD) (f := fun r => toldD ⟨"enter", r, "passed"⟩) (fun r hr acc k hz h => ?_) (by rw [sizeLine_eq, List.length_reverse]; omega) ?_
  · simp only [dLenSet, dSrtR, dRo, dRoF, dRoT, roD, ro_un, ro_dat, ro_own, ro_hp, ro_law, ro_ownK, ro_ownT, List.forall_mem_map, flat_int, flat_str, flat_bl, flat_non, dSeq, dNext, dSet, dSetF, setSl, dVar, dTake, dC, dBin, dBinF, dB, dIfS, dIf, dRet, dRetN, dExpr, dNil, dCons, dTup, dLst, dFz, dAnd, dOr, dNot, dAndV, dOrV, dNotV, dCallD, dCallK, dCB, dCBF, dFor, dLC, dYes, dRng1, dRng2, dSeqI, gN, gT, gsNil, gsCons, dAsg, dNeg, dJoin, dFs, dJs, dFmt, dApp, dExt, dPop, dPopAt, dOwnIx, dOwnCB, dOwnL, dOwnR, dOwnSl, dSetIx, dSlT, dSlL, oNone, oSome, dBorn, optQ, ownAt, setOwnAt, lookAt, wipeD, dNewDT, dNewDK, dDGet, dDIn, dDPut, dSortT, rSrt, isDict, Ev.dictGet, Ev.dictPut, Option.isSome_none, Option.isSome_some, D.keyT, keysOf, D.key, exists_eq_left', exists_eq_left, Option.isSome, rRepL, rCatL, dRetF, dIfF, dPar, dRetOwn, dCallL, dCallLK, dPen2, dRev, dRevI, dIndex, endsL, startL, dNever, dBrk, dCnt, rAddD, rSubI, rIO, rMulI, rDivI, rModI, rPowI, rCI, rIxD, rIsN, rNotN, D.isN, rLen, rTuple, rList, rAbs, rInt, rStr, Ev.rRepr, Ev.rIsi, D.ty, kit_tab, startD, endsD, List.map_cons, List.map_nil, List.length_cons, List.length_nil, List.append_nil, List.nil_append, List.cons_append, List.getElem?_cons_zero, List.getElem?_cons_succ, List.getElem?_nil, List.set_cons_zero, List.set_cons_succ, List.replicate, List.replicate_succ, Nat.zero_add, Nat.zero_le, sizeLine, true_and, and_true, if_true, Ev.eq_int, Ev.eq_str, Ev.eq_bl, Ev.eq_non, lst_nil, tup_nil, List.map_eq_nil_iff, txt_join, rLt, rLe, rGt, rGe, atI_ofNat, atI_last, wLC, strsOf, intsOf, blsOf, Option.map_some, Ev.join_two, Ev.join_one, Ev.join_nil, List.sum_cons, List.sum_nil, PySem.Str.empty_append, ixN_ofNat, Option.some.injEq, exists_eq', List.length_map, decide_true, decide_false, Bool.not_true, Bool.not_false, Bool.true_eq_false, Bool.false_eq_true, false_and, and_false, if_false, ite_true, ite_false, Nat.reduceAdd, Nat.reduceSub, Nat.reduceMul, Nat.reduceLT, Nat.reduceLeDiff, Nat.reduceEqDiff, Nat.reducePow, Int.reduceToNat, Int.reducePow, pickL, List.filterMap_cons, List.filterMap_nil, and_self, Int.reduceLT, Int.reduceLE, Int.reduceNeg, Int.reduceAdd, Int.reduceMul, Int.reduceSub, Int.reduceEq, reduceIte, reduceCtorEq, lit_eq, String.reduceEq, Ev.rEq, Ev.rNe, Ev.rInD, cut_toN, cut_fromN, List.map_take, List.forall_mem_cons, List.forall_mem_nil, List.not_mem_nil, false_imp_iff, implies_true, forall_const, D.cm, D.lay, D.lays, D.dep, D.deps, strOk_lit, lays_ints, deps_ints, Nat.max_self, Nat.max_zero, Nat.zero_max, Bool.and_self, Bool.true_and, Bool.and_true, Bool.and_false, Bool.false_and, Bool.or_false, Bool.or_true, Bool.true_or, Bool.false_or, List.any_cons, List.any_nil, decide_eq_true_eq, eq_self]
    exact ⟨hz, h⟩
  simp only [dLenSet, dSrtR, dRo, dRoF, dRoT, roD, ro_un, ro_dat, ro_own, ro_hp, ro_law, ro_ownK, ro_ownT, List.forall_mem_map, flat_int, flat_str, flat_bl, flat_non, dSeq, dNext, dSet, dSetF, setSl, dVar, dTake, dC, dBin, dBinF, dB, dIfS, dIf, dRet, dRetN, dExpr, dNil, dCons, dTup, dLst, dFz, dAnd, dOr, dNot, dAndV, dOrV, dNotV, dCallD, dCallK, dCB, dCBF, dFor, dLC, dYes, dRng1, dRng2, dSeqI, gN, gT, gsNil, gsCons, dAsg, dNeg, dJoin, dFs, dJs, dFmt, dApp, dExt, dPop, dPopAt, dOwnIx, dOwnCB, dOwnL, dOwnR, dOwnSl, dSetIx, dSlT, dSlL, oNone, oSome, dBorn, optQ, ownAt, setOwnAt, lookAt, wipeD, dNewDT, dNewDK, dDGet, dDIn, dDPut, dSortT, rSrt, isDict, Ev.dictGet, Ev.dictPut, Option.isSome_none, Option.isSome_some, D.keyT, keysOf, D.key, exists_eq_left', exists_eq_left, Option.isSome, rRepL, rCatL, dRetF, dIfF, dPar, dRetOwn, dCallL, dCallLK, dPen2, dRev, dRevI, dIndex, endsL, startL, dNever, dBrk, dCnt, rAddD, rSubI, rIO, rMulI, rDivI, rModI, rPowI, rCI, rIxD, rIsN, rNotN, D.isN, rLen, rTuple, rList, rAbs, rInt, rStr, Ev.rRepr, Ev.rIsi, D.ty, kit_tab, startD, endsD, List.map_cons, List.map_nil, List.length_cons, List.length_nil, List.append_nil, List.nil_append, List.cons_append, List.getElem?_cons_zero, List.getElem?_cons_succ, List.getElem?_nil, List.set_cons_zero, List.set_cons_succ, List.replicate, List.replicate_succ, Nat.zero_add, Nat.zero_le, sizeLine, true_and, and_true, if_true, Ev.eq_int, Ev.eq_str, Ev.eq_bl, Ev.eq_non, lst_nil, tup_nil, List.map_eq_nil_iff, txt_join, rLt, rLe, rGt, rGe, atI_ofNat, atI_last, wLC, strsOf, intsOf, blsOf, Option.map_some, Ev.join_two, Ev.join_one, Ev.join_nil, List.sum_cons, List.sum_nil, PySem.Str.empty_append, ixN_ofNat, Option.some.injEq, exists_eq', List.length_map, decide_true, decide_false, Bool.not_true, Bool.not_false, Bool.true_eq_false, Bool.false_eq_true, false_and, and_false, if_false, ite_true, ite_false, Nat.reduceAdd, Nat.reduceSub, Nat.reduceMul, Nat.reduceLT, Nat.reduceLeDiff, Nat.reduceEqDiff, Nat.reducePow, Int.reduceToNat, Int.reducePow, pickL, List.filterMap_cons, List.filterMap_nil, and_self, Int.reduceLT, Int.reduceLE, Int.reduceNeg, Int.reduceAdd, Int.reduceMul, Int.reduceSub, Int.reduceEq, reduceIte, reduceCtorEq, lit_eq, String.reduceEq, Ev.rEq, Ev.rNe, Ev.rInD, cut_toN, cut_fromN, List.map_take, List.forall_mem_cons, List.forall_mem_nil, List.not_mem_nil, false_imp_iff, implies_true, forall_const, D.cm, D.lay, D.lays, D.dep, D.deps, strOk_lit, lays_ints, deps_ints, Nat.max_self, Nat.max_zero, Nat.zero_max, Bool.and_self, Bool.true_and, Bool.and_true, Bool.and_false, Bool.false_and, Bool.or_false, Bool.or_true, Bool.true_or, Bool.false_or, List.any_cons, List.any_nil, decide_eq_true_eq, eq_self, List.length_append, List.length_reverse]
  refine ⟨by omega, by omega, ?_⟩
  simpa [toldP, toldD, Function.comp_def] using q
theorem ok_told_of {P : Program} {w : World} {K : PySem.W.Frag} {mg : Str → Option Value} {base : Heap} (v_ENTER : ∃ t, mg "ENTER" = some (.str "enter" t)) (v_LEAVE : ∃ t, mg "LEAVE" = some (.str "leave" t)) (v_PASSED : ∃ t, mg "PASSED" = some (.str "passed" t)) (m_reversed : mg "reversed" = none) {f : Addr} {fd : FuncData} (F : Fun K "told_of" "told_of" s_told_of f fd) : FnG P w K mg base CX0 1 f fd ["first", "way", "up", "down", "last", "way2"] (spDL K 6 sp_told_of) :=
 fn_dL F sc_told_of rfl (fun cdv A out s H E g r => run_told_of v_ENTER v_LEAVE v_PASSED m_reversed cdv A out s H E g r) hsp_told_of
def cutP (l : List (Option Int)) (m : Option Int) : List (Option Int) := (l.take (l.idxOf m)).drop 1
theorem cutP_len (l : List (Option Int)) (m : Option Int) : (cutP l m).length ≤ l.length := by unfold cutP; rw [List.length_drop, List.length_take]; omega
def betweenP (ahead behind : List (Option Int)) (f l : Option Int) : List Told :=
  if f ∈ behind then toldP f "inner" [] (cutP behind f) l "outer"
  else if l ∈ ahead then toldP f "outer" (cutP ahead l) [] l "inner"
  else
    let m := ((ahead.filter fun r => decide (r ∈ behind)).head?).getD none
    toldP f "across" (cutP ahead m) (cutP behind m) l "across"
def sp_passed_between : dSpL := fun ds p Q _ => ∃ (ahead behind : List (Option Int)) (f l : Option Int),
  ds = [.lst (ahead.map optD), .lst (behind.map optD)] ∧ ahead.length ≤ 20 ∧ behind.length ≤ 20 ∧ ahead.head? = some f ∧ behind.head? = some l ∧ none ∈ ahead ∧ none ∈ behind ∧
  Q ((betweenP ahead behind f l).map toldD) p
abbrev s_passed_between : Stmt := topS 18
abbrev n_passed_between : List Str := ["ahead", "behind", "first", "last", "least", "room"]
theorem sc_passed_between : FnScope n_passed_between ["ahead", "behind"] (defScope s_passed_between) := ⟨rfl, rfl, rfl, by decide +kernel, rfl, by decide +kernel, by decide +kernel⟩
def p_passed_between_0 : dS := (dPar 2 3 (dCons (dBin rIxD (dVar 0) (dC (.int 0))) (dCons (dBin rIxD (dVar 1) (dC (.int 0))) dNil)))
def p_passed_between_1 : dS := (dIfS (dB (dBin (rInD false) (dVar 2) (dVar 1))) (dRetF (dCallL 6 [] sp_told_of (dCons (dVar 2) (dCons (dC (.str "inner")) (dCons (dFz (dLst dNil)) (dCons (dFz (dSlL (dVar 1) (oSome (dC (.int 1))) (oSome (dIndex 1 (dVar 2))))) (dCons (dVar 3) (dCons (dC (.str "outer")) dNil)))))))) dNext)
def p_passed_between_2 : dS := (dIfS (dB (dBin (rInD false) (dVar 3) (dVar 0))) (dRetF (dCallL 6 [] sp_told_of (dCons (dVar 2) (dCons (dC (.str "outer")) (dCons (dFz (dSlL (dVar 0) (oSome (dC (.int 1))) (oSome (dIndex 0 (dVar 3))))) (dCons (dFz (dLst dNil)) (dCons (dVar 3) (dCons (dC (.str "inner")) dNil)))))))) dNext)
def p_passed_between_3 : dS := (dSet 4 (dBin rIxD (dFz (dLC (dSeqI (dVar 0)) (gN 5) (dB (dBin (rInD false) (dVar 5) (dVar 1))) (dVar 5) [5])) (dC (.int 0))))
def p_passed_between_4 : dS := (dRetF (dCallL 6 [] sp_told_of (dCons (dVar 2) (dCons (dC (.str "across")) (dCons (dFz (dSlL (dVar 0) (oSome (dC (.int 1))) (oSome (dIndex 0 (dVar 4))))) (dCons (dFz (dSlL (dVar 1) (oSome (dC (.int 1))) (oSome (dIndex 1 (dVar 4))))) (dCons (dVar 3) (dCons (dC (.str "across")) dNil))))))))
def b_passed_between_4 : dS := p_passed_between_4
def b_passed_between_3 : dS := dSeq p_passed_between_3 b_passed_between_4
def b_passed_between_2 : dS := dSeq p_passed_between_2 b_passed_between_3
def b_passed_between_1 : dS := dSeq p_passed_between_1 b_passed_between_2
def b_passed_between_0 : dS := dSeq p_passed_between_0 b_passed_between_1
def b_passed_between : dS := b_passed_between_0
theorem run_passed_between {P : Program} {w : World} {K : PySem.W.Frag} {mg : Str → Option Value} {base : Heap} (v_ACROSS : ∃ t, mg "ACROSS" = some (.str "across" t)) (v_INNER : ∃ t, mg "INNER" = some (.str "inner" t)) (v_OUTER : ∃ t, mg "OUTER" = some (.str "outer" t)) (K_told_of_6 : DefL P w K mg base 1 "told_of" 6 sp_told_of []) {f : Addr} (cdv : Value) (A : Around) (out : List Env) (s : Shared) (H : Hp) (E : XK) (g : A.guards = some []) (hrA : Room 1 (A.deeper (envOfC "passed_between" (defScope s_passed_between) s.heap.objs.size f cdv))) :
  DSs (cx0 P w K mg base n_passed_between "passed_between" (defScope s_passed_between) f cdv A out s H E) E00 (defBody s_passed_between) b_passed_between := by
 have hgA : (A.deeper (envOfC "passed_between" (defScope s_passed_between) s.heap.objs.size f cdv)).guards = some [] := g
 have hun := hrA.un
 exact (dss_cons (t := p_passed_between_0) (u := b_passed_between_1) (ds_par (i := 2) (j := 3) rfl sc_passed_between.nd rfl rfl (by decide) rfl rfl (da_cons (de_ix (de_var (pv 0)) de_int (fun _ _ => rfl)) (da_cons (de_ix (de_var (pv 1)) de_int (fun _ _ => rfl)) da_nil)) (by rfl))
  (dss_cons (t := p_passed_between_1) (u := b_passed_between_2) (ds_if (dt_cmp (od_in (Nat.lt_of_le_of_lt (Nat.add_le_add_left (by decide) _) hun)) (de_var (pv 2)) (de_var (pv 1)) (by with_unfolding_all rfl)) (dss_one (ds_retF (df_callL K_told_of_6 hgA hrA (by rfl) (da_cons (de_var (pv 2)) (da_cons (de_gstr (by rfl) v_INNER) (da_cons (de_fz (df_lst da_nil)) (da_cons (de_fz (df_slL (de_var (pv 1)) (do_some de_int) (do_some (de_index (Nat.lt_of_le_of_lt (Nat.add_le_add_left (by decide) _) hun) (pv 1) (de_var (pv 2)))))) (da_cons (de_var (pv 3)) (da_cons (de_gstr (by rfl) v_OUTER) da_nil))))))))) dss_nil)
  (dss_cons (t := p_passed_between_2) (u := b_passed_between_3) (ds_if (dt_cmp (od_in (Nat.lt_of_le_of_lt (Nat.add_le_add_left (by decide) _) hun)) (de_var (pv 3)) (de_var (pv 0)) (by with_unfolding_all rfl)) (dss_one (ds_retF (df_callL K_told_of_6 hgA hrA (by rfl) (da_cons (de_var (pv 2)) (da_cons (de_gstr (by rfl) v_OUTER) (da_cons (de_fz (df_slL (de_var (pv 0)) (do_some de_int) (do_some (de_index (Nat.lt_of_le_of_lt (Nat.add_le_add_left (by decide) _) hun) (pv 0) (de_var (pv 3)))))) (da_cons (de_fz (df_lst da_nil)) (da_cons (de_var (pv 3)) (da_cons (de_gstr (by rfl) v_INNER) da_nil))))))))) dss_nil)
  (dss_cons (t := p_passed_between_3) (u := b_passed_between_4) (ds_set (i := 4) sc_passed_between.nd rfl (by first | exact .inl rfl | exact .inr rfl) (de_ix (de_fz (df_lc (E2 := E00) (own := [("room", 5)]) rfl sc_passed_between.nd (di_seq (de_var (pv 0))) (blkOk_by (N := n_passed_between) (sc := (defScope s_passed_between)) (own := [("room", 5)]) (by decide +kernel)) (by decide) (fun _ _ _ _ _ => (dg_name (pg_name (i := 5) sc_passed_between.nd rfl (by first | exact .inl rfl | exact .inr rfl)))) (fun _ _ _ _ _ => (dts_one (dt_cmp (od_in (Nat.lt_of_le_of_lt (Nat.add_le_add_left (by decide) _) hun)) (de_var (pv 5)) (de_var (pv 1)) (by with_unfolding_all rfl)))) (fun _ _ _ _ _ => (de_var (pv 5))))) de_int (fun _ _ => rfl)))
  (dss_one (t := p_passed_between_4) (ds_retF (df_callL K_told_of_6 hgA hrA (by rfl) (da_cons (de_var (pv 2)) (da_cons (de_gstr (by rfl) v_ACROSS) (da_cons (de_fz (df_slL (de_var (pv 0)) (do_some de_int) (do_some (de_index (Nat.lt_of_le_of_lt (Nat.add_le_add_left (by decide) _) hun) (pv 0) (de_var (pv 4)))))) (da_cons (de_fz (df_slL (de_var (pv 1)) (do_some de_int) (do_some (de_index (Nat.lt_of_le_of_lt (Nat.add_le_add_left (by decide) _) hun) (pv 1) (de_var (pv 4)))))) (da_cons (de_var (pv 3)) (da_cons (de_gstr (by rfl) v_ACROSS) da_nil)))))))))))))
theorem hsp_passed_between : ∀ ds p Q W, ds.length = 2 → sp_passed_between ds p Q W → b_passed_between W0 (endsL Q) (startD n_passed_between.length ds p) := by
  rintro _ p Q W - ⟨ahead, behind, f, l, rfl, h1, h2, ea, eb, na, nb, q⟩
  have ea2 : (ahead.map optD)[0]? = some (optD f) := by rw [List.getElem?_map, ← List.head?_eq_getElem?, ea]; rfl
  have eb2 : (behind.map optD)[0]? = some (optD l) := by rw [List.getElem?_map, ← List.head?_eq_getElem?, eb]; rfl
  simp only [dLenSet, dSrtR, dRo, dRoF, dRoT, roD, ro_un, ro_dat, ro_own, ro_hp, ro_law, ro_ownK, ro_ownT, List.forall_mem_map, flat_int, flat_str, flat_bl, flat_non, dSeq, dNext, dSet, dSetF, setSl, dVar, dTake, dC, dBin, dBinF, dB, dIfS, dIf, dRet, dRetN, dExpr, dNil, dCons, dTup, dLst, dFz, dAnd, dOr, dNot, dAndV, dOrV, dNotV, dCallD, dCallK, dCB, dCBF, dFor, dLC, dYes, dRng1, dRng2, dSeqI, gN, gT, gsNil, gsCons, dAsg, dNeg, dJoin, dFs, dJs, dFmt, dApp, dExt, dPop, dPopAt, dOwnIx, dOwnCB, dOwnL, dOwnR, dOwnSl, dSetIx, dSlT, dSlL, oNone, oSome, dBorn, optQ, ownAt, setOwnAt, lookAt, wipeD, dNewDT, dNewDK, dDGet, dDIn, dDPut, dSortT, rSrt, isDict, Ev.dictGet, Ev.dictPut, Option.isSome_none, Option.isSome_some, D.keyT, keysOf, D.key, exists_eq_left', exists_eq_left, Option.isSome, rRepL, rCatL, dRetF, dIfF, dPar, dRetOwn, dCallL, dCallLK, dPen2, dRev, dRevI, dIndex, endsL, startL, dNever, dBrk, dCnt, rAddD, rSubI, rIO, rMulI, rDivI, rModI, rPowI, rCI, rIxD, rIsN, rNotN, D.isN, rLen, rTuple, rList, rAbs, rInt, rStr, Ev.rRepr, Ev.rIsi, D.ty, kit_tab, startD, endsD, List.map_cons, List.map_nil, List.length_cons, List.length_nil, List.append_nil, List.nil_append, List.cons_append, List.getElem?_cons_zero, List.getElem?_cons_succ, List.getElem?_nil, List.set_cons_zero, List.set_cons_succ, List.replicate, List.replicate_succ, Nat.zero_add, Nat.zero_le, sizeLine, true_and, and_true, if_true, Ev.eq_int, Ev.eq_str, Ev.eq_bl, Ev.eq_non, lst_nil, tup_nil, List.map_eq_nil_iff, txt_join, rLt, rLe, rGt, rGe, atI_ofNat, atI_last, wLC, strsOf, intsOf, blsOf, Option.map_some, Ev.join_two, Ev.join_one, Ev.join_nil, List.sum_cons, List.sum_nil, PySem.Str.empty_append, ixN_ofNat, Option.some.injEq, exists_eq', List.length_map, decide_true, decide_false, Bool.not_true, Bool.not_false, Bool.true_eq_false, Bool.false_eq_true, false_and, and_false, if_false, ite_true, ite_false, Nat.reduceAdd, Nat.reduceSub, Nat.reduceMul, Nat.reduceLT, Nat.reduceLeDiff, Nat.reduceEqDiff, Nat.reducePow, Int.reduceToNat, Int.reducePow, pickL, List.filterMap_cons, List.filterMap_nil, and_self, Int.reduceLT, Int.reduceLE, Int.reduceNeg, Int.reduceAdd, Int.reduceMul, Int.reduceSub, Int.reduceEq, reduceIte, reduceCtorEq, lit_eq, String.reduceEq, Ev.rEq, Ev.rNe, Ev.rInD, cut_toN, cut_fromN, List.map_take, List.forall_mem_cons, List.forall_mem_nil, List.not_mem_nil, false_imp_iff, implies_true, forall_const, D.cm, D.lay, D.lays, D.dep, D.deps, strOk_lit, lays_ints, deps_ints, Nat.max_self, Nat.max_zero, Nat.zero_max, Bool.and_self, Bool.true_and, Bool.and_true, Bool.and_false, Bool.false_and, Bool.or_false, Bool.or_true, Bool.true_or, Bool.false_or, List.any_cons, List.any_nil, decide_eq_true_eq, eq_self, n_passed_between, b_passed_between, b_passed_between_0, p_passed_between_0, ea2, eb2]
  simp only [dLenSet, dSrtR, dRo, dRoF, dRoT, roD, ro_un, ro_dat, ro_own, ro_hp, ro_law, ro_ownK, ro_ownT, List.forall_mem_map, flat_int, flat_str, flat_bl, flat_non, dSeq, dNext, dSet, dSetF, setSl, dVar, dTake, dC, dBin, dBinF, dB, dIfS, dIf, dRet, dRetN, dExpr, dNil, dCons, dTup, dLst, dFz, dAnd, dOr, dNot, dAndV, dOrV, dNotV, dCallD, dCallK, dCB, dCBF, dFor, dLC, dYes, dRng1, dRng2, dSeqI, gN, gT, gsNil, gsCons, dAsg, dNeg, dJoin, dFs, dJs, dFmt, dApp, dExt, dPop, dPopAt, dOwnIx, dOwnCB, dOwnL, dOwnR, dOwnSl, dSetIx, dSlT, dSlL, oNone, oSome, dBorn, optQ, ownAt, setOwnAt, lookAt, wipeD, dNewDT, dNewDK, dDGet, dDIn, dDPut, dSortT, rSrt, isDict, Ev.dictGet, Ev.dictPut, Option.isSome_none, Option.isSome_some, D.keyT, keysOf, D.key, exists_eq_left', exists_eq_left, Option.isSome, rRepL, rCatL, dRetF, dIfF, dPar, dRetOwn, dCallL, dCallLK, dPen2, dRev, dRevI, dIndex, endsL, startL, dNever, dBrk, dCnt, rAddD, rSubI, rIO, rMulI, rDivI, rModI, rPowI, rCI, rIxD, rIsN, rNotN, D.isN, rLen, rTuple, rList, rAbs, rInt, rStr, Ev.rRepr, Ev.rIsi, D.ty, kit_tab, startD, endsD, List.map_cons, List.map_nil, List.length_cons, List.length_nil, List.append_nil, List.nil_append, List.cons_append, List.getElem?_cons_zero, List.getElem?_cons_succ, List.getElem?_nil, List.set_cons_zero, List.set_cons_succ, List.replicate, List.replicate_succ, Nat.zero_add, Nat.zero_le, sizeLine, true_and, and_true, if_true, Ev.eq_int, Ev.eq_str, Ev.eq_bl, Ev.eq_non, lst_nil, tup_nil, List.map_eq_nil_iff, txt_join, rLt, rLe, rGt, rGe, atI_ofNat, atI_last, wLC, strsOf, intsOf, blsOf, Option.map_some, Ev.join_two, Ev.join_one, Ev.join_nil, List.sum_cons, List.sum_nil, PySem.Str.empty_append, ixN_ofNat, Option.some.injEq, exists_eq', List.length_map, decide_true, decide_false, Bool.not_true, Bool.not_false, Bool.true_eq_false, Bool.false_eq_true, false_and, and_false, if_false, ite_true, ite_false, Nat.reduceAdd, Nat.reduceSub, Nat.reduceMul, Nat.reduceLT, Nat.reduceLeDiff, Nat.reduceEqDiff, Nat.reducePow, Int.reduceToNat, Int.reducePow, pickL, List.filterMap_cons, List.filterMap_nil, and_self, Int.reduceLT, Int.reduceLE, Int.reduceNeg, Int.reduceAdd, Int.reduceMul, Int.reduceSub, Int.reduceEq, reduceIte, reduceCtorEq, lit_eq, String.reduceEq, Ev.rEq, Ev.rNe, Ev.rInD, cut_toN, cut_fromN, List.map_take, List.forall_mem_cons, List.forall_mem_nil, List.not_mem_nil, false_imp_iff, implies_true, forall_const, D.cm, D.lay, D.lays, D.dep, D.deps, strOk_lit, lays_ints, deps_ints, Nat.max_self, Nat.max_zero, Nat.zero_max, Bool.and_self, Bool.true_and, Bool.and_true, Bool.and_false, Bool.false_and, Bool.or_false, Bool.or_true, Bool.true_or, Bool.false_or, List.any_cons, List.any_nil, decide_eq_true_eq, eq_self, b_passed_between_1, b_passed_between_1, p_passed_between_1, opts_in, opts_lay, opts_dep, opt_lay, opt_dep]
  unfold betweenP at q
  by_cases c1 : f ∈ behind
  · simp only [dLenSet, dSrtR, dRo, dRoF, dRoT, roD, ro_un, ro_dat, ro_own, ro_hp, ro_law, ro_ownK, ro_ownT, List.forall_mem_map, flat_int, flat_str, flat_bl, flat_non, dSeq, dNext, dSet, dSetF, setSl, dVar, dTake, dC, dBin, dBinF, dB, dIfS, dIf, dRet, dRetN, dExpr, dNil, dCons, dTup, dLst, dFz, dAnd, dOr, dNot, dAndV, dOrV, dNotV, dCallD, dCallK, dCB, dCBF, dFor, dLC, dYes, dRng1, dRng2, dSeqI, gN, gT, gsNil, gsCons, dAsg, dNeg, dJoin, dFs, dJs, dFmt, dApp, dExt, dPop, dPopAt, dOwnIx, dOwnCB, dOwnL, dOwnR, dOwnSl, dSetIx, dSlT, dSlL, oNone, oSome, dBorn, optQ, ownAt, setOwnAt, lookAt, wipeD, dNewDT, dNewDK, dDGet, dDIn, dDPut, dSortT, rSrt, isDict, Ev.dictGet, Ev.dictPut, Option.isSome_none, Option.isSome_some, D.keyT, keysOf, D.key, exists_eq_left', exists_eq_left, Option.isSome, rRepL, rCatL, dRetF, dIfF, dPar, dRetOwn, dCallL, dCallLK, dPen2, dRev, dRevI, dIndex, endsL, startL, dNever, dBrk, dCnt, rAddD, rSubI, rIO, rMulI, rDivI, rModI, rPowI, rCI, rIxD, rIsN, rNotN, D.isN, rLen, rTuple, rList, rAbs, rInt, rStr, Ev.rRepr, Ev.rIsi, D.ty, kit_tab, startD, endsD, List.map_cons, List.map_nil, List.length_cons, List.length_nil, List.append_nil, List.nil_append, List.cons_append, List.getElem?_cons_zero, List.getElem?_cons_succ, List.getElem?_nil, List.set_cons_zero, List.set_cons_succ, List.replicate, List.replicate_succ, Nat.zero_add, Nat.zero_le, sizeLine, true_and, and_true, if_true, Ev.eq_int, Ev.eq_str, Ev.eq_bl, Ev.eq_non, lst_nil, tup_nil, List.map_eq_nil_iff, txt_join, rLt, rLe, rGt, rGe, atI_ofNat, atI_last, wLC, strsOf, intsOf, blsOf, Option.map_some, Ev.join_two, Ev.join_one, Ev.join_nil, List.sum_cons, List.sum_nil, PySem.Str.empty_append, ixN_ofNat, Option.some.injEq, exists_eq', List.length_map, decide_true, decide_false, Bool.not_true, Bool.not_false, Bool.true_eq_false, Bool.false_eq_true, false_and, and_false, if_false, ite_true, ite_false, Nat.reduceAdd, Nat.reduceSub, Nat.reduceMul, Nat.reduceLT, Nat.reduceLeDiff, Nat.reduceEqDiff, Nat.reducePow, Int.reduceToNat, Int.reducePow, pickL, List.filterMap_cons, List.filterMap_nil, and_self, Int.reduceLT, Int.reduceLE, Int.reduceNeg, Int.reduceAdd, Int.reduceMul, Int.reduceSub, Int.reduceEq, reduceIte, reduceCtorEq, lit_eq, String.reduceEq, Ev.rEq, Ev.rNe, Ev.rInD, cut_toN, cut_fromN, List.map_take, List.forall_mem_cons, List.forall_mem_nil, List.not_mem_nil, false_imp_iff, implies_true, forall_const, D.cm, D.lay, D.lays, D.dep, D.deps, strOk_lit, lays_ints, deps_ints, Nat.max_self, Nat.max_zero, Nat.zero_max, Bool.and_self, Bool.true_and, Bool.and_true, Bool.and_false, Bool.false_and, Bool.or_false, Bool.or_true, Bool.true_or, Bool.false_or, List.any_cons, List.any_nil, decide_eq_true_eq, eq_self, c1, opts_at c1, cut_one, sp_told_of] at q ⊢
    have cl := cutP_len behind f
    exact ⟨f, _, [], cutP behind f, l, _, by simp only [cutP, List.map_drop, List.map_take, List.map_nil], by simp, by omega, q⟩
  simp only [dLenSet, dSrtR, dRo, dRoF, dRoT, roD, ro_un, ro_dat, ro_own, ro_hp, ro_law, ro_ownK, ro_ownT, List.forall_mem_map, flat_int, flat_str, flat_bl, flat_non, dSeq, dNext, dSet, dSetF, setSl, dVar, dTake, dC, dBin, dBinF, dB, dIfS, dIf, dRet, dRetN, dExpr, dNil, dCons, dTup, dLst, dFz, dAnd, dOr, dNot, dAndV, dOrV, dNotV, dCallD, dCallK, dCB, dCBF, dFor, dLC, dYes, dRng1, dRng2, dSeqI, gN, gT, gsNil, gsCons, dAsg, dNeg, dJoin, dFs, dJs, dFmt, dApp, dExt, dPop, dPopAt, dOwnIx, dOwnCB, dOwnL, dOwnR, dOwnSl, dSetIx, dSlT, dSlL, oNone, oSome, dBorn, optQ, ownAt, setOwnAt, lookAt, wipeD, dNewDT, dNewDK, dDGet, dDIn, dDPut, dSortT, rSrt, isDict, Ev.dictGet, Ev.dictPut, Option.isSome_none, Option.isSome_some, D.keyT, keysOf, D.key, exists_eq_left', exists_eq_left, Option.isSome, rRepL, rCatL, dRetF, dIfF, dPar, dRetOwn, dCallL, dCallLK, dPen2, dRev, dRevI, dIndex, endsL, startL, dNever, dBrk, dCnt, rAddD, rSubI, rIO, rMulI, rDivI, rModI, rPowI, rCI, rIxD, rIsN, rNotN, D.isN, rLen, rTuple, rList, rAbs, rInt, rStr, Ev.rRepr, Ev.rIsi, D.ty, kit_tab, startD, endsD, List.map_cons, List.map_nil, List.length_cons, List.length_nil, List.append_nil, List.nil_append, List.cons_append, List.getElem?_cons_zero, List.getElem?_cons_succ, List.getElem?_nil, List.set_cons_zero, List.set_cons_succ, List.replicate, List.replicate_succ, Nat.zero_add, Nat.zero_le, sizeLine, true_and, and_true, if_true, Ev.eq_int, Ev.eq_str, Ev.eq_bl, Ev.eq_non, lst_nil, tup_nil, List.map_eq_nil_iff, txt_join, rLt, rLe, rGt, rGe, atI_ofNat, atI_last, wLC, strsOf, intsOf, blsOf, Option.map_some, Ev.join_two, Ev.join_one, Ev.join_nil, List.sum_cons, List.sum_nil, PySem.Str.empty_append, ixN_ofNat, Option.some.injEq, exists_eq', List.length_map, decide_true, decide_false, Bool.not_true, Bool.not_false, Bool.true_eq_false, Bool.false_eq_true, false_and, and_false, if_false, ite_true, ite_false, Nat.reduceAdd, Nat.reduceSub, Nat.reduceMul, Nat.reduceLT, Nat.reduceLeDiff, Nat.reduceEqDiff, Nat.reducePow, Int.reduceToNat, Int.reducePow, pickL, List.filterMap_cons, List.filterMap_nil, and_self, Int.reduceLT, Int.reduceLE, Int.reduceNeg, Int.reduceAdd, Int.reduceMul, Int.reduceSub, Int.reduceEq, reduceIte, reduceCtorEq, lit_eq, String.reduceEq, Ev.rEq, Ev.rNe, Ev.rInD, cut_toN, cut_fromN, List.map_take, List.forall_mem_cons, List.forall_mem_nil, List.not_mem_nil, false_imp_iff, implies_true, forall_const, D.cm, D.lay, D.lays, D.dep, D.deps, strOk_lit, lays_ints, deps_ints, Nat.max_self, Nat.max_zero, Nat.zero_max, Bool.and_self, Bool.true_and, Bool.and_true, Bool.and_false, Bool.false_and, Bool.or_false, Bool.or_true, Bool.true_or, Bool.false_or, List.any_cons, List.any_nil, decide_eq_true_eq, eq_self, c1] at q ⊢
  simp only [dLenSet, dSrtR, dRo, dRoF, dRoT, roD, ro_un, ro_dat, ro_own, ro_hp, ro_law, ro_ownK, ro_ownT, List.forall_mem_map, flat_int, flat_str, flat_bl, flat_non, dSeq, dNext, dSet, dSetF, setSl, dVar, dTake, dC, dBin, dBinF, dB, dIfS, dIf, dRet, dRetN, dExpr, dNil, dCons, dTup, dLst, dFz, dAnd, dOr, dNot, dAndV, dOrV, dNotV, dCallD, dCallK, dCB, dCBF, dFor, dLC, dYes, dRng1, dRng2, dSeqI, gN, gT, gsNil, gsCons, dAsg, dNeg, dJoin, dFs, dJs, dFmt, dApp, dExt, dPop, dPopAt, dOwnIx, dOwnCB, dOwnL, dOwnR, dOwnSl, dSetIx, dSlT, dSlL, oNone, oSome, dBorn, optQ, ownAt, setOwnAt, lookAt, wipeD, dNewDT, dNewDK, dDGet, dDIn, dDPut, dSortT, rSrt, isDict, Ev.dictGet, Ev.dictPut, Option.isSome_none, Option.isSome_some, D.keyT, keysOf, D.key, exists_eq_left', exists_eq_left, Option.isSome, rRepL, rCatL, dRetF, dIfF, dPar, dRetOwn, dCallL, dCallLK, dPen2, dRev, dRevI, dIndex, endsL, startL, dNever, dBrk, dCnt, rAddD, rSubI, rIO, rMulI, rDivI, rModI, rPowI, rCI, rIxD, rIsN, rNotN, D.isN, rLen, rTuple, rList, rAbs, rInt, rStr, Ev.rRepr, Ev.rIsi, D.ty, kit_tab, startD, endsD, List.map_cons, List.map_nil, List.length_cons, List.length_nil, List.append_nil, List.nil_append, List.cons_append, List.getElem?_cons_zero, List.getElem?_cons_succ, List.getElem?_nil, List.set_cons_zero, List.set_cons_succ, List.replicate, List.replicate_succ, Nat.zero_add, Nat.zero_le, sizeLine, true_and, and_true, if_true, Ev.eq_int, Ev.eq_str, Ev.eq_bl, Ev.eq_non, lst_nil, tup_nil, List.map_eq_nil_iff, txt_join, rLt, rLe, rGt, rGe, atI_ofNat, atI_last, wLC, strsOf, intsOf, blsOf, Option.map_some, Ev.join_two, Ev.join_one, Ev.join_nil, List.sum_cons, List.sum_nil, PySem.Str.empty_append, ixN_ofNat, Option.some.injEq, exists_eq', List.length_map, decide_true, decide_false, Bool.not_true, Bool.not_false, Bool.true_eq_false, Bool.false_eq_true, false_and, and_false, if_false, ite_true, ite_false, Nat.reduceAdd, Nat.reduceSub, Nat.reduceMul, Nat.reduceLT, Nat.reduceLeDiff, Nat.reduceEqDiff, Nat.reducePow, Int.reduceToNat, Int.reducePow, pickL, List.filterMap_cons, List.filterMap_nil, and_self, Int.reduceLT, Int.reduceLE, Int.reduceNeg, Int.reduceAdd, Int.reduceMul, Int.reduceSub, Int.reduceEq, reduceIte, reduceCtorEq, lit_eq, String.reduceEq, Ev.rEq, Ev.rNe, Ev.rInD, cut_toN, cut_fromN, List.map_take, List.forall_mem_cons, List.forall_mem_nil, List.not_mem_nil, false_imp_iff, implies_true, forall_const, D.cm, D.lay, D.lays, D.dep, D.deps, strOk_lit, lays_ints, deps_ints, Nat.max_self, Nat.max_zero, Nat.zero_max, Bool.and_self, Bool.true_and, Bool.and_true, Bool.and_false, Bool.false_and, Bool.or_false, Bool.or_true, Bool.true_or, Bool.false_or, List.any_cons, List.any_nil, decide_eq_true_eq, eq_self, b_passed_between_2, b_passed_between_2, p_passed_between_2, opts_in, opts_lay, opts_dep, opt_lay, opt_dep]
  by_cases c2 : l ∈ ahead
  · simp only [dLenSet, dSrtR, dRo, dRoF, dRoT, roD, ro_un, ro_dat, ro_own, ro_hp, ro_law, ro_ownK, ro_ownT, List.forall_mem_map, flat_int, flat_str, flat_bl, flat_non, dSeq, dNext, dSet, dSetF, setSl, dVar, dTake, dC, dBin, dBinF, dB, dIfS, dIf, dRet, dRetN, dExpr, dNil, dCons, dTup, dLst, dFz, dAnd, dOr, dNot, dAndV, dOrV, dNotV, dCallD, dCallK, dCB, dCBF, dFor, dLC, dYes, dRng1, dRng2, dSeqI, gN, gT, gsNil, gsCons, dAsg, dNeg, dJoin, dFs, dJs, dFmt, dApp, dExt, dPop, dPopAt, dOwnIx, dOwnCB, dOwnL, dOwnR, dOwnSl, dSetIx, dSlT, dSlL, oNone, oSome, dBorn, optQ, ownAt, setOwnAt, lookAt, wipeD, dNewDT, dNewDK, dDGet, dDIn, dDPut, dSortT, rSrt, isDict, Ev.dictGet, Ev.dictPut, Option.isSome_none, Option.isSome_some, D.keyT, keysOf, D.key, exists_eq_left', exists_eq_left, Option.isSome, rRepL, rCatL, dRetF, dIfF, dPar, dRetOwn, dCallL, dCallLK, dPen2, dRev, dRevI, dIndex, endsL, startL, dNever, dBrk, dCnt, rAddD, rSubI, rIO, rMulI, rDivI, rModI, rPowI, rCI, rIxD, rIsN, rNotN, D.isN, rLen, rTuple, rList, rAbs, rInt, rStr, Ev.rRepr, Ev.rIsi, D.ty, kit_tab, startD, endsD, List.map_cons, List.map_nil, List.length_cons, List.length_nil, List.append_nil, List.nil_append, List.cons_append, List.getElem?_cons_zero, List.getElem?_cons_succ, List.getElem?_nil, List.set_cons_zero, List.set_cons_succ, List.replicate, List.replicate_succ, Nat.zero_add, Nat.zero_le, sizeLine, true_and, and_true, if_true, Ev.eq_int, Ev.eq_str, Ev.eq_bl, Ev.eq_non, lst_nil, tup_nil, List.map_eq_nil_iff, txt_join, rLt, rLe, rGt, rGe, atI_ofNat, atI_last, wLC, strsOf, intsOf, blsOf, Option.map_some, Ev.join_two, Ev.join_one, Ev.join_nil, List.sum_cons, List.sum_nil, PySem.Str.empty_append, ixN_ofNat, Option.some.injEq, exists_eq', List.length_map, decide_true, decide_false, Bool.not_true, Bool.not_false, Bool.true_eq_false, Bool.false_eq_true, false_and, and_false, if_false, ite_true, ite_false, Nat.reduceAdd, Nat.reduceSub, Nat.reduceMul, Nat.reduceLT, Nat.reduceLeDiff, Nat.reduceEqDiff, Nat.reducePow, Int.reduceToNat, Int.reducePow, pickL, List.filterMap_cons, List.filterMap_nil, and_self, Int.reduceLT, Int.reduceLE, Int.reduceNeg, Int.reduceAdd, Int.reduceMul, Int.reduceSub, Int.reduceEq, reduceIte, reduceCtorEq, lit_eq, String.reduceEq, Ev.rEq, Ev.rNe, Ev.rInD, cut_toN, cut_fromN, List.map_take, List.forall_mem_cons, List.forall_mem_nil, List.not_mem_nil, false_imp_iff, implies_true, forall_const, D.cm, D.lay, D.lays, D.dep, D.deps, strOk_lit, lays_ints, deps_ints, Nat.max_self, Nat.max_zero, Nat.zero_max, Bool.and_self, Bool.true_and, Bool.and_true, Bool.and_false, Bool.false_and, Bool.or_false, Bool.or_true, Bool.true_or, Bool.false_or, List.any_cons, List.any_nil, decide_eq_true_eq, eq_self, c2, opts_at c2, cut_one, sp_told_of] at q ⊢
    have cl := cutP_len ahead l
    exact ⟨f, _, cutP ahead l, [], l, _, by simp only [cutP, List.map_drop, List.map_take, List.map_nil], by omega, by simp, q⟩
  simp only [dLenSet, dSrtR, dRo, dRoF, dRoT, roD, ro_un, ro_dat, ro_own, ro_hp, ro_law, ro_ownK, ro_ownT, List.forall_mem_map, flat_int, flat_str, flat_bl, flat_non, dSeq, dNext, dSet, dSetF, setSl, dVar, dTake, dC, dBin, dBinF, dB, dIfS, dIf, dRet, dRetN, dExpr, dNil, dCons, dTup, dLst, dFz, dAnd, dOr, dNot, dAndV, dOrV, dNotV, dCallD, dCallK, dCB, dCBF, dFor, dLC, dYes, dRng1, dRng2, dSeqI, gN, gT, gsNil, gsCons, dAsg, dNeg, dJoin, dFs, dJs, dFmt, dApp, dExt, dPop, dPopAt, dOwnIx, dOwnCB, dOwnL, dOwnR, dOwnSl, dSetIx, dSlT, dSlL, oNone, oSome, dBorn, optQ, ownAt, setOwnAt, lookAt, wipeD, dNewDT, dNewDK, dDGet, dDIn, dDPut, dSortT, rSrt, isDict, Ev.dictGet, Ev.dictPut, Option.isSome_none, Option.isSome_some, D.keyT, keysOf, D.key, exists_eq_left', exists_eq_left, Option.isSome, rRepL, rCatL, dRetF, dIfF, dPar, dRetOwn, dCallL, dCallLK, dPen2, dRev, dRevI, dIndex, endsL, startL, dNever, dBrk, dCnt, rAddD, rSubI, rIO, rMulI, rDivI, rModI, rPowI, rCI, rIxD, rIsN, rNotN, D.isN, rLen, rTuple, rList, rAbs, rInt, rStr, Ev.rRepr, Ev.rIsi, D.ty, kit_tab, startD, endsD, List.map_cons, List.map_nil, List.length_cons, List.length_nil, List.append_nil, List.nil_append, List.cons_append, List.getElem?_cons_zero, List.getElem?_cons_succ, List.getElem?_nil, List.set_cons_zero, List.set_cons_succ, List.replicate, List.replicate_succ, Nat.zero_add, Nat.zero_le, sizeLine, true_and, and_true, if_true, Ev.eq_int, Ev.eq_str, Ev.eq_bl, Ev.eq_non, lst_nil, tup_nil, List.map_eq_nil_iff, txt_join, rLt, rLe, rGt, rGe, atI_ofNat, atI_last, wLC, strsOf, intsOf, blsOf, Option.map_some, Ev.join_two, Ev.join_one, Ev.join_nil, List.sum_cons, List.sum_nil, PySem.Str.empty_append, ixN_ofNat, Option.some.injEq, exists_eq', List.length_map, decide_true, decide_false, Bool.not_true, Bool.not_false, Bool.true_eq_false, Bool.false_eq_true, false_and, and_false, if_false, ite_true, ite_false, Nat.reduceAdd, Nat.reduceSub, Nat.reduceMul, Nat.reduceLT, Nat.reduceLeDiff, Nat.reduceEqDiff, Nat.reducePow, Int.reduceToNat, Int.reducePow, pickL, List.filterMap_cons, List.filterMap_nil, and_self, Int.reduceLT, Int.reduceLE, Int.reduceNeg, Int.reduceAdd, Int.reduceMul, Int.reduceSub, Int.reduceEq, reduceIte, reduceCtorEq, lit_eq, String.reduceEq, Ev.rEq, Ev.rNe, Ev.rInD, cut_toN, cut_fromN, List.map_take, List.forall_mem_cons, List.forall_mem_nil, List.not_mem_nil, false_imp_iff, implies_true, forall_const, D.cm, D.lay, D.lays, D.dep, D.deps, strOk_lit, lays_ints, deps_ints, Nat.max_self, Nat.max_zero, Nat.zero_max, Bool.and_self, Bool.true_and, Bool.and_true, Bool.and_false, Bool.false_and, Bool.or_false, Bool.or_true, Bool.true_or, Bool.false_or, List.any_cons, List.any_nil, decide_eq_true_eq, eq_self, c2] at q ⊢
  simp only [dLenSet, dSrtR, dRo, dRoF, dRoT, roD, ro_un, ro_dat, ro_own, ro_hp, ro_law, ro_ownK, ro_ownT, List.forall_mem_map, flat_int, flat_str, flat_bl, flat_non, dSeq, dNext, dSet, dSetF, setSl, dVar, dTake, dC, dBin, dBinF, dB, dIfS, dIf, dRet, dRetN, dExpr, dNil, dCons, dTup, dLst, dFz, dAnd, dOr, dNot, dAndV, dOrV, dNotV, dCallD, dCallK, dCB, dCBF, dFor, dLC, dYes, dRng1, dRng2, dSeqI, gN, gT, gsNil, gsCons, dAsg, dNeg, dJoin, dFs, dJs, dFmt, dApp, dExt, dPop, dPopAt, dOwnIx, dOwnCB, dOwnL, dOwnR, dOwnSl, dSetIx, dSlT, dSlL, oNone, oSome, dBorn, optQ, ownAt, setOwnAt, lookAt, wipeD, dNewDT, dNewDK, dDGet, dDIn, dDPut, dSortT, rSrt, isDict, Ev.dictGet, Ev.dictPut, Option.isSome_none, Option.isSome_some, D.keyT, keysOf, D.key, exists_eq_left', exists_eq_left, Option.isSome, rRepL, rCatL, dRetF, dIfF, dPar, dRetOwn, dCallL, dCallLK, dPen2, dRev, dRevI, dIndex, endsL, startL, dNever, dBrk, dCnt, rAddD, rSubI, rIO, rMulI, rDivI, rModI, rPowI, rCI, rIxD, rIsN, rNotN, D.isN, rLen, rTuple, rList, rAbs, rInt, rStr, Ev.rRepr, Ev.rIsi, D.ty, kit_tab, startD, endsD, List.map_cons, List.map_nil, List.length_cons, List.length_nil, List.append_nil, List.nil_append, List.cons_append, List.getElem?_cons_zero, List.getElem?_cons_succ, List.getElem?_nil, List.set_cons_zero, List.set_cons_succ, List.replicate, List.replicate_succ, Nat.zero_add, Nat.zero_le, sizeLine, true_and, and_true, if_true, Ev.eq_int, Ev.eq_str, Ev.eq_bl, Ev.eq_non, lst_nil, tup_nil, List.map_eq_nil_iff, txt_join, rLt, rLe, rGt, rGe, atI_ofNat, atI_last, wLC, strsOf, intsOf, blsOf, Option.map_some, Ev.join_two, Ev.join_one, Ev.join_nil, List.sum_cons, List.sum_nil, PySem.Str.empty_append, ixN_ofNat, Option.some.injEq, exists_eq', List.length_map, decide_true, decide_false, Bool.not_true, Bool.not_false, Bool.true_eq_false, Bool.false_eq_true, false_and, and_false, if_false, ite_true, ite_false, Nat.reduceAdd, Nat.reduceSub, Nat.reduceMul, Nat.reduceLT, Nat.reduceLeDiff, Nat.reduceEqDiff, Nat.reducePow, Int.reduceToNat, Int.reducePow, pickL, List.filterMap_cons, List.filterMap_nil, and_self, Int.reduceLT, Int.reduceLE, Int.reduceNeg, Int.reduceAdd, Int.reduceMul, Int.reduceSub, Int.reduceEq, reduceIte, reduceCtorEq, lit_eq, String.reduceEq, Ev.rEq, Ev.rNe, Ev.rInD, cut_toN, cut_fromN, List.map_take, List.forall_mem_cons, List.forall_mem_nil, List.not_mem_nil, false_imp_iff, implies_true, forall_const, D.cm, D.lay, D.lays, D.dep, D.deps, strOk_lit, lays_ints, deps_ints, Nat.max_self, Nat.max_zero, Nat.zero_max, Bool.and_self, Bool.true_and, Bool.and_true, Bool.and_false, Bool.false_and, Bool.or_false, Bool.or_true, Bool.true_or, Bool.false_or, List.any_cons, List.any_nil, decide_eq_true_eq, eq_self, b_passed_between_3, b_passed_between_3, p_passed_between_3, b_passed_between_4, p_passed_between_4, opts_in, opts_lay, opts_dep, opt_lay, opt_dep]
  refine wLC_filt (l := ahead) (ι := optD) (f := optD) (t := fun r => decide (r ∈ behind)) (fun r hr acc k hz g1 g2 => ?_) (by rw [sizeLine_eq]; omega) ?_
  · simp only [dLenSet, dSrtR, dRo, dRoF, dRoT, roD, ro_un, ro_dat, ro_own, ro_hp, ro_law, ro_ownK, ro_ownT, List.forall_mem_map, flat_int, flat_str, flat_bl, flat_non, dSeq, dNext, dSet, dSetF, setSl, dVar, dTake, dC, dBin, dBinF, dB, dIfS, dIf, dRet, dRetN, dExpr, dNil, dCons, dTup, dLst, dFz, dAnd, dOr, dNot, dAndV, dOrV, dNotV, dCallD, dCallK, dCB, dCBF, dFor, dLC, dYes, dRng1, dRng2, dSeqI, gN, gT, gsNil, gsCons, dAsg, dNeg, dJoin, dFs, dJs, dFmt, dApp, dExt, dPop, dPopAt, dOwnIx, dOwnCB, dOwnL, dOwnR, dOwnSl, dSetIx, dSlT, dSlL, oNone, oSome, dBorn, optQ, ownAt, setOwnAt, lookAt, wipeD, dNewDT, dNewDK, dDGet, dDIn, dDPut, dSortT, rSrt, isDict, Ev.dictGet, Ev.dictPut, Option.isSome_none, Option.isSome_some, D.keyT, keysOf, D.key, exists_eq_left', exists_eq_left, Option.isSome, rRepL, rCatL, dRetF, dIfF, dPar, dRetOwn, dCallL, dCallLK, dPen2, dRev, dRevI, dIndex, endsL, startL, dNever, dBrk, dCnt, rAddD, rSubI, rIO, rMulI, rDivI, rModI, rPowI, rCI, rIxD, rIsN, rNotN, D.isN, rLen, rTuple, rList, rAbs, rInt, rStr, Ev.rRepr, Ev.rIsi, D.ty, kit_tab, startD, endsD, List.map_cons, List.map_nil, List.length_cons, List.length_nil, List.append_nil, List.nil_append, List.cons_append, List.getElem?_cons_zero, List.getElem?_cons_succ, List.getElem?_nil, List.set_cons_zero, List.set_cons_succ, List.replicate, List.replicate_succ, Nat.zero_add, Nat.zero_le, sizeLine, true_and, and_true, if_true, Ev.eq_int, Ev.eq_str, Ev.eq_bl, Ev.eq_non, lst_nil, tup_nil, List.map_eq_nil_iff, txt_join, rLt, rLe, rGt, rGe, atI_ofNat, atI_last, wLC, strsOf, intsOf, blsOf, Option.map_some, Ev.join_two, Ev.join_one, Ev.join_nil, List.sum_cons, List.sum_nil, PySem.Str.empty_append, ixN_ofNat, Option.some.injEq, exists_eq', List.length_map, decide_true, decide_false, Bool.not_true, Bool.not_false, Bool.true_eq_false, Bool.false_eq_true, false_and, and_false, if_false, ite_true, ite_false, Nat.reduceAdd, Nat.reduceSub, Nat.reduceMul, Nat.reduceLT, Nat.reduceLeDiff, Nat.reduceEqDiff, Nat.reducePow, Int.reduceToNat, Int.reducePow, pickL, List.filterMap_cons, List.filterMap_nil, and_self, Int.reduceLT, Int.reduceLE, Int.reduceNeg, Int.reduceAdd, Int.reduceMul, Int.reduceSub, Int.reduceEq, reduceIte, reduceCtorEq, lit_eq, String.reduceEq, Ev.rEq, Ev.rNe, Ev.rInD, cut_toN, cut_fromN, List.map_take, List.forall_mem_cons, List.forall_mem_nil, List.not_mem_nil, false_imp_iff, implies_true, forall_const, D.cm, D.lay, D.lays, D.dep, D.deps, strOk_lit, lays_ints, deps_ints, Nat.max_self, Nat.max_zero, Nat.zero_max, Bool.and_self, Bool.true_and, Bool.and_true, Bool.and_false, Bool.false_and, Bool.or_false, Bool.or_true, Bool.true_or, Bool.false_or, List.any_cons, List.any_nil, decide_eq_true_eq, eq_self, opts_in, opts_lay, opts_dep, opt_lay, opt_dep]
    by_cases e1 : r ∈ behind
    · simp only [dLenSet, dSrtR, dRo, dRoF, dRoT, roD, ro_un, ro_dat, ro_own, ro_hp, ro_law, ro_ownK, ro_ownT, List.forall_mem_map, flat_int, flat_str, flat_bl, flat_non, dSeq, dNext, dSet, dSetF, setSl, dVar, dTake, dC, dBin, dBinF, dB, dIfS, dIf, dRet, dRetN, dExpr, dNil, dCons, dTup, dLst, dFz, dAnd, dOr, dNot, dAndV, dOrV, dNotV, dCallD, dCallK, dCB, dCBF, dFor, dLC, dYes, dRng1, dRng2, dSeqI, gN, gT, gsNil, gsCons, dAsg, dNeg, dJoin, dFs, dJs, dFmt, dApp, dExt, dPop, dPopAt, dOwnIx, dOwnCB, dOwnL, dOwnR, dOwnSl, dSetIx, dSlT, dSlL, oNone, oSome, dBorn, optQ, ownAt, setOwnAt, lookAt, wipeD, dNewDT, dNewDK, dDGet, dDIn, dDPut, dSortT, rSrt, isDict, Ev.dictGet, Ev.dictPut, Option.isSome_none, Option.isSome_some, D.keyT, keysOf, D.key, exists_eq_left', exists_eq_left, Option.isSome, rRepL, rCatL, dRetF, dIfF, dPar, dRetOwn, dCallL, dCallLK, dPen2, dRev, dRevI, dIndex, endsL, startL, dNever, dBrk, dCnt, rAddD, rSubI, rIO, rMulI, rDivI, rModI, rPowI, rCI, rIxD, rIsN, rNotN, D.isN, rLen, rTuple, rList, rAbs, rInt, rStr, Ev.rRepr, Ev.rIsi, D.ty, kit_tab, startD, endsD, List.map_cons, List.map_nil, List.length_cons, List.length_nil, List.append_nil, List.nil_append, List.cons_append, List.getElem?_cons_zero, List.getElem?_cons_succ, List.getElem?_nil, List.set_cons_zero, List.set_cons_succ, List.replicate, List.replicate_succ, Nat.zero_add, Nat.zero_le, sizeLine, true_and, and_true, if_true, Ev.eq_int, Ev.eq_str, Ev.eq_bl, Ev.eq_non, lst_nil, tup_nil, List.map_eq_nil_iff, txt_join, rLt, rLe, rGt, rGe, atI_ofNat, atI_last, wLC, strsOf, intsOf, blsOf, Option.map_some, Ev.join_two, Ev.join_one, Ev.join_nil, List.sum_cons, List.sum_nil, PySem.Str.empty_append, ixN_ofNat, Option.some.injEq, exists_eq', List.length_map, decide_true, decide_false, Bool.not_true, Bool.not_false, Bool.true_eq_false, Bool.false_eq_true, false_and, and_false, if_false, ite_true, ite_false, Nat.reduceAdd, Nat.reduceSub, Nat.reduceMul, Nat.reduceLT, Nat.reduceLeDiff, Nat.reduceEqDiff, Nat.reducePow, Int.reduceToNat, Int.reducePow, pickL, List.filterMap_cons, List.filterMap_nil, and_self, Int.reduceLT, Int.reduceLE, Int.reduceNeg, Int.reduceAdd, Int.reduceMul, Int.reduceSub, Int.reduceEq, reduceIte, reduceCtorEq, lit_eq, String.reduceEq, Ev.rEq, Ev.rNe, Ev.rInD, cut_toN, cut_fromN, List.map_take, List.forall_mem_cons, List.forall_mem_nil, List.not_mem_nil, false_imp_iff, implies_true, forall_const, D.cm, D.lay, D.lays, D.dep, D.deps, strOk_lit, lays_ints, deps_ints, Nat.max_self, Nat.max_zero, Nat.zero_max, Bool.and_self, Bool.true_and, Bool.and_true, Bool.and_false, Bool.false_and, Bool.or_false, Bool.or_true, Bool.true_or, Bool.false_or, List.any_cons, List.any_nil, decide_eq_true_eq, eq_self, e1]
      exact ⟨hz, g1 (by simp [e1])⟩
    · simp only [dLenSet, dSrtR, dRo, dRoF, dRoT, roD, ro_un, ro_dat, ro_own, ro_hp, ro_law, ro_ownK, ro_ownT, List.forall_mem_map, flat_int, flat_str, flat_bl, flat_non, dSeq, dNext, dSet, dSetF, setSl, dVar, dTake, dC, dBin, dBinF, dB, dIfS, dIf, dRet, dRetN, dExpr, dNil, dCons, dTup, dLst, dFz, dAnd, dOr, dNot, dAndV, dOrV, dNotV, dCallD, dCallK, dCB, dCBF, dFor, dLC, dYes, dRng1, dRng2, dSeqI, gN, gT, gsNil, gsCons, dAsg, dNeg, dJoin, dFs, dJs, dFmt, dApp, dExt, dPop, dPopAt, dOwnIx, dOwnCB, dOwnL, dOwnR, dOwnSl, dSetIx, dSlT, dSlL, oNone, oSome, dBorn, optQ, ownAt, setOwnAt, lookAt, wipeD, dNewDT, dNewDK, dDGet, dDIn, dDPut, dSortT, rSrt, isDict, Ev.dictGet, Ev.dictPut, Option.isSome_none, Option.isSome_some, D.keyT, keysOf, D.key, exists_eq_left', exists_eq_left, Option.isSome, rRepL, rCatL, dRetF, dIfF, dPar, dRetOwn, dCallL, dCallLK, dPen2, dRev, dRevI, dIndex, endsL, startL, dNever, dBrk, dCnt, rAddD, rSubI, rIO, rMulI, rDivI, rModI, rPowI, rCI, rIxD, rIsN, rNotN, D.isN, rLen, rTuple, rList, rAbs, rInt, rStr, Ev.rRepr, Ev.rIsi, D.ty, kit_tab, startD, endsD, List.map_cons, List.map_nil, List.length_cons, List.length_nil, List.append_nil, List.nil_append, List.cons_append, List.getElem?_cons_zero, List.getElem?_cons_succ, List.getElem?_nil, List.set_cons_zero, List.set_cons_succ, List.replicate, List.replicate_succ, Nat.zero_add, Nat.zero_le, sizeLine, true_and, and_true, if_true, Ev.eq_int, Ev.eq_str, Ev.eq_bl, Ev.eq_non, lst_nil, tup_nil, List.map_eq_nil_iff, txt_join, rLt, rLe, rGt, rGe, atI_ofNat, atI_last, wLC, strsOf, intsOf, blsOf, Option.map_some, Ev.join_two, Ev.join_one, Ev.join_nil, List.sum_cons, List.sum_nil, PySem.Str.empty_append, ixN_ofNat, Option.some.injEq, exists_eq', List.length_map, decide_true, decide_false, Bool.not_true, Bool.not_false, Bool.true_eq_false, Bool.false_eq_true, false_and, and_false, if_false, ite_true, ite_false, Nat.reduceAdd, Nat.reduceSub, Nat.reduceMul, Nat.reduceLT, Nat.reduceLeDiff, Nat.reduceEqDiff, Nat.reducePow, Int.reduceToNat, Int.reducePow, pickL, List.filterMap_cons, List.filterMap_nil, and_self, Int.reduceLT, Int.reduceLE, Int.reduceNeg, Int.reduceAdd, Int.reduceMul, Int.reduceSub, Int.reduceEq, reduceIte, reduceCtorEq, lit_eq, String.reduceEq, Ev.rEq, Ev.rNe, Ev.rInD, cut_toN, cut_fromN, List.map_take, List.forall_mem_cons, List.forall_mem_nil, List.not_mem_nil, false_imp_iff, implies_true, forall_const, D.cm, D.lay, D.lays, D.dep, D.deps, strOk_lit, lays_ints, deps_ints, Nat.max_self, Nat.max_zero, Nat.zero_max, Bool.and_self, Bool.true_and, Bool.and_true, Bool.and_false, Bool.false_and, Bool.or_false, Bool.or_true, Bool.true_or, Bool.false_or, List.any_cons, List.any_nil, decide_eq_true_eq, eq_self, e1]
      exact g2 (by simp [e1])
  obtain ⟨m, hm⟩ : ∃ m, (ahead.filter fun r => decide (r ∈ behind)).head? = some m := by
    cases e : ahead.filter fun r => decide (r ∈ behind) with
    | nil =>
      have hz : none ∈ ahead.filter fun r => decide (r ∈ behind) := List.mem_filter.mpr ⟨na, by simpa using nb⟩
      rw [e] at hz; cases hz
    | cons m t => exact ⟨m, rfl⟩
  have hm2 := List.mem_filter.mp (List.mem_of_head? hm)
  have hb : m ∈ behind := by simpa using hm2.2
  have ha : m ∈ ahead := hm2.1
  have hm3 : ((ahead.filter fun r => decide (r ∈ behind)).map optD)[0]? = some (optD m) := by rw [List.getElem?_map, ← List.head?_eq_getElem?, hm]; rfl
  simp only [hm, Option.getD_some] at q
  simp only [dLenSet, dSrtR, dRo, dRoF, dRoT, roD, ro_un, ro_dat, ro_own, ro_hp, ro_law, ro_ownK, ro_ownT, List.forall_mem_map, flat_int, flat_str, flat_bl, flat_non, dSeq, dNext, dSet, dSetF, setSl, dVar, dTake, dC, dBin, dBinF, dB, dIfS, dIf, dRet, dRetN, dExpr, dNil, dCons, dTup, dLst, dFz, dAnd, dOr, dNot, dAndV, dOrV, dNotV, dCallD, dCallK, dCB, dCBF, dFor, dLC, dYes, dRng1, dRng2, dSeqI, gN, gT, gsNil, gsCons, dAsg, dNeg, dJoin, dFs, dJs, dFmt, dApp, dExt, dPop, dPopAt, dOwnIx, dOwnCB, dOwnL, dOwnR, dOwnSl, dSetIx, dSlT, dSlL, oNone, oSome, dBorn, optQ, ownAt, setOwnAt, lookAt, wipeD, dNewDT, dNewDK, dDGet, dDIn, dDPut, dSortT, rSrt, isDict, Ev.dictGet, Ev.dictPut, Option.isSome_none, Option.isSome_some, D.keyT, keysOf, D.key, exists_eq_left', exists_eq_left, Option.isSome, rRepL, rCatL, dRetF, dIfF, dPar, dRetOwn, dCallL, dCallLK, dPen2, dRev, dRevI, dIndex, endsL, startL, dNever, dBrk, dCnt, rAddD, rSubI, rIO, rMulI, rDivI, rModI, rPowI, rCI, rIxD, rIsN, rNotN, D.isN, rLen, rTuple, rList, rAbs, rInt, rStr, Ev.rRepr, Ev.rIsi, D.ty, kit_tab, startD, endsD, List.map_cons, List.map_nil, List.length_cons, List.length_nil, List.append_nil, List.nil_append, List.cons_append, List.getElem?_cons_zero, List.getElem?_cons_succ, List.getElem?_nil, List.set_cons_zero, List.set_cons_succ, List.replicate, List.replicate_succ, Nat.zero_add, Nat.zero_le, sizeLine, true_and, and_true, if_true, Ev.eq_int, Ev.eq_str, Ev.eq_bl, Ev.eq_non, lst_nil, tup_nil, List.map_eq_nil_iff, txt_join, rLt, rLe, rGt, rGe, atI_ofNat, atI_last, wLC, strsOf, intsOf, blsOf, Option.map_some, Ev.join_two, Ev.join_one, Ev.join_nil, List.sum_cons, List.sum_nil, PySem.Str.empty_append, ixN_ofNat, Option.some.injEq, exists_eq', List.length_map, decide_true, decide_false, Bool.not_true, Bool.not_false, Bool.true_eq_false, Bool.false_eq_true, false_and, and_false, if_false, ite_true, ite_false, Nat.reduceAdd, Nat.reduceSub, Nat.reduceMul, Nat.reduceLT, Nat.reduceLeDiff, Nat.reduceEqDiff, Nat.reducePow, Int.reduceToNat, Int.reducePow, pickL, List.filterMap_cons, List.filterMap_nil, and_self, Int.reduceLT, Int.reduceLE, Int.reduceNeg, Int.reduceAdd, Int.reduceMul, Int.reduceSub, Int.reduceEq, reduceIte, reduceCtorEq, lit_eq, String.reduceEq, Ev.rEq, Ev.rNe, Ev.rInD, cut_toN, cut_fromN, List.map_take, List.forall_mem_cons, List.forall_mem_nil, List.not_mem_nil, false_imp_iff, implies_true, forall_const, D.cm, D.lay, D.lays, D.dep, D.deps, strOk_lit, lays_ints, deps_ints, Nat.max_self, Nat.max_zero, Nat.zero_max, Bool.and_self, Bool.true_and, Bool.and_true, Bool.and_false, Bool.false_and, Bool.or_false, Bool.or_true, Bool.true_or, Bool.false_or, List.any_cons, List.any_nil, decide_eq_true_eq, eq_self, hm3, b_passed_between_4, b_passed_between_4, p_passed_between_4, opts_in, opts_lay, opts_dep, opt_lay, opt_dep, opts_at hb, opts_at ha, cut_one, sp_told_of]
  have cl := cutP_len ahead m
  have cl2 := cutP_len behind m
  exact ⟨f, _, cutP ahead m, cutP behind m, l, _, by simp only [cutP, List.map_drop, List.map_take, List.map_nil], by omega, by omega, q⟩
theorem ok_passed_between {P : Program} {w : World} {K : PySem.W.Frag} {mg : Str → Option Value} {base : Heap} (v_ACROSS : ∃ t, mg "ACROSS" = some (.str "across" t)) (v_INNER : ∃ t, mg "INNER" = some (.str "inner" t)) (v_OUTER : ∃ t, mg "OUTER" = some (.str "outer" t)) (K_told_of_6 : DefL P w K mg base 1 "told_of" 6 sp_told_of []) {f : Addr} {fd : FuncData} (F : Fun K "passed_between" "passed_between" s_passed_between f fd) : FnG P w K mg base CX0 2 f fd ["ahead", "behind"] (spDL K 2 sp_passed_between) :=
 fn_dL F sc_passed_between rfl (fun cdv A out s H E g r => run_passed_between v_ACROSS v_INNER v_OUTER K_told_of_6 cdv A out s H E g r) hsp_passed_between
/-- the line from a room or from no room -/
structure Line (b : List Row) (o : Option Int) (l : List Int) : Prop where
  up : Up b o l
  mem : ∀ x ∈ l, x ∈ b.map (·.n)
  len : l.length ≤ 10
def thereP (b : List Row) (o : Option Int) : Bool := decide (o ∈ b.map fun r => some r.n)
theorem there_map (b : List Row) : (b.map fun r => D.int r.n) = (b.map fun r => some r.n).map optD := by simp [optD, Function.comp_def]
def byP (b : List Row) (l l2 : List Int) (o o2 : Option Int) : List Told :=
  if o = o2 then [] else (betweenP (l.map some ++ [none]) (l2.map some ++ [none]) o o2).filter fun t => thereP b t.rm
theorem Line.head {b : List Row} {o : Option Int} {l : List Int} (h : Line b o l) : (l.map some ++ [none]).head? = some o := by
  cases h.up <;> rfl
theorem told_len (first : Option Int) (way : Str) (up down : List (Option Int)) (last : Option Int) (way2 : Str) : (toldP first way up down last way2).length = up.length + down.length + 2 := by
  simp [toldP]; omega
theorem between_len {ahead behind : List (Option Int)} (f l : Option Int) : (betweenP ahead behind f l).length ≤ ahead.length + behind.length + 2 := by
  have h := fun m => cutP_len ahead m
  have g := fun m => cutP_len behind m
  unfold betweenP
  split
  · rw [told_len]; have := g f; simp; omega
  split
  · rw [told_len]; have := h l; simp; omega
  · simp only [told_len]
    have := h (((ahead.filter fun r => decide (r ∈ behind)).head?).getD none)
    have := g (((ahead.filter fun r => decide (r ∈ behind)).head?).getD none)
    omega
def sp_passed_by : dSpL := fun ds p Q _ => ∃ (b : List Row) (o o2 : Option Int) (l l2 : List Int), ds = [bookD b, bookD b, optD o, optD o2] ∧ Wf b ∧ Line b o l ∧ Line b o2 l2 ∧ Q ((byP b l l2 o o2).map toldD) p
abbrev s_passed_by : Stmt := topS 19
abbrev n_passed_by : List Str := ["book", "book2", "room", "room2", "there", "row"]
theorem sc_passed_by : FnScope n_passed_by ["book", "book2", "room", "room2"] (defScope s_passed_by) := ⟨rfl, rfl, rfl, by decide +kernel, rfl, by decide +kernel, by decide +kernel⟩
def p_passed_by_0 : dS := (dIfS (dB (dBin (rEq) (dVar 2) (dVar 3))) (dRetF (dLst dNil)) dNext)
def p_passed_by_1 : dS := (dSetF 4 (dLC (dSeqI (dVar 1)) (gN 5) dYes (dBin rIxD (dVar 5) (dC (.int 0))) [5]))
def p_passed_by_2 : dS := (dRetF (dLC (dSeqI (dFz (dCallL 2 [] sp_passed_between (dCons (dFz (dCallL 2 [] sp_line_of (dCons (dVar 0) (dCons (dVar 2) dNil)))) (dCons (dFz (dCallL 2 [] sp_line_of (dCons (dVar 1) (dCons (dVar 3) dNil)))) dNil))))) (gN 5) (dB (dOwnR 4 (rInD false) (dBin rIxD (dVar 5) (dC (.int 1))))) (dVar 5) [5]))
def b_passed_by_2 : dS := p_passed_by_2
def b_passed_by_1 : dS := dSeq p_passed_by_1 b_passed_by_2
def b_passed_by_0 : dS := dSeq p_passed_by_0 b_passed_by_1
def b_passed_by : dS := b_passed_by_0
theorem run_passed_by {P : Program} {w : World} {K : PySem.W.Frag} {mg : Str → Option Value} {base : Heap} (K_line_of_2 : DefL P w K mg base 4 "line_of" 2 sp_line_of []) (K_passed_between_2 : DefL P w K mg base 2 "passed_between" 2 sp_passed_between []) {f : Addr} (cdv : Value) (A : Around) (out : List Env) (s : Shared) (H : Hp) (E : XK) (g : A.guards = some []) (hrA : Room 4 (A.deeper (envOfC "passed_by" (defScope s_passed_by) s.heap.objs.size f cdv))) :
  DSs (cx0 P w K mg base n_passed_by "passed_by" (defScope s_passed_by) f cdv A out s H E) E00 (defBody s_passed_by) b_passed_by := by
 have hgA : (A.deeper (envOfC "passed_by" (defScope s_passed_by) s.heap.objs.size f cdv)).guards = some [] := g
 have hun := hrA.un
 exact (dss_cons (t := p_passed_by_0) (u := b_passed_by_1) (ds_if (dt_cmp (od_eq (Nat.lt_of_le_of_lt (Nat.add_le_add_left (by decide) _) hun)) (de_var (pv 2)) (de_var (pv 3)) (nomark _)) (dss_one (ds_retF (df_lst da_nil))) dss_nil)
  (dss_cons (t := p_passed_by_1) (u := b_passed_by_2) (ds_setF (i := 4) sc_passed_by.nd rfl (by first | exact .inl rfl | exact .inr rfl) (df_lc (E2 := E00) (own := [("row", 5)]) rfl sc_passed_by.nd (di_seq (de_var (pv 1))) (blkOk_by (N := n_passed_by) (sc := (defScope s_passed_by)) (own := [("row", 5)]) (by decide +kernel)) (by decide) (fun _ _ _ _ _ => (dg_name (pg_name (i := 5) sc_passed_by.nd rfl (by first | exact .inl rfl | exact .inr rfl)))) (fun _ _ _ _ _ => dts_nil) (fun _ _ _ _ _ => (de_ix (de_var (pv 5)) de_int (fun _ _ => rfl)))))
  (dss_one (t := p_passed_by_2) (ds_retF (df_lc (E2 := E00) (own := [("row", 5)]) rfl sc_passed_by.nd (di_seq (de_fz (df_callL K_passed_between_2 hgA hrA (by rfl) (da_cons (de_fz (df_callL K_line_of_2 hgA hrA (by rfl) (da_cons (de_var (pv 0)) (da_cons (de_var (pv 2)) da_nil)))) (da_cons (de_fz (df_callL K_line_of_2 hgA hrA (by rfl) (da_cons (de_var (pv 1)) (da_cons (de_var (pv 3)) da_nil)))) da_nil))))) (blkOk_by (N := n_passed_by) (sc := (defScope s_passed_by)) (own := [("row", 5)]) (by decide +kernel)) (by decide) (fun _ _ _ _ _ => (dg_name (pg_name (i := 5) sc_passed_by.nd rfl (by first | exact .inl rfl | exact .inr rfl)))) (fun _ _ _ _ _ => (dts_one (dt_ownR (od_in (Nat.lt_of_le_of_lt (Nat.add_le_add_left (by decide) _) hun)) (de_ix (de_var (pv 5)) de_int (fun _ _ => rfl)) (pv 4) (by with_unfolding_all rfl)))) (fun _ _ _ _ _ => (de_var (pv 5))))))))
theorem hsp_passed_by : ∀ ds p Q W, ds.length = 4 → sp_passed_by ds p Q W → b_passed_by W0 (endsL Q) (startD n_passed_by.length ds p) := by
  rintro _ p Q W - ⟨b, o, o2, l, l2, rfl, w, h1, h2, q⟩
  simp only [dLenSet, dSrtR, dRo, dRoF, dRoT, roD, ro_un, ro_dat, ro_own, ro_hp, ro_law, ro_ownK, ro_ownT, List.forall_mem_map, flat_int, flat_str, flat_bl, flat_non, dSeq, dNext, dSet, dSetF, setSl, dVar, dTake, dC, dBin, dBinF, dB, dIfS, dIf, dRet, dRetN, dExpr, dNil, dCons, dTup, dLst, dFz, dAnd, dOr, dNot, dAndV, dOrV, dNotV, dCallD, dCallK, dCB, dCBF, dFor, dLC, dYes, dRng1, dRng2, dSeqI, gN, gT, gsNil, gsCons, dAsg, dNeg, dJoin, dFs, dJs, dFmt, dApp, dExt, dPop, dPopAt, dOwnIx, dOwnCB, dOwnL, dOwnR, dOwnSl, dSetIx, dSlT, dSlL, oNone, oSome, dBorn, optQ, ownAt, setOwnAt, lookAt, wipeD, dNewDT, dNewDK, dDGet, dDIn, dDPut, dSortT, rSrt, isDict, Ev.dictGet, Ev.dictPut, Option.isSome_none, Option.isSome_some, D.keyT, keysOf, D.key, exists_eq_left', exists_eq_left, Option.isSome, rRepL, rCatL, dRetF, dIfF, dPar, dRetOwn, dCallL, dCallLK, dPen2, dRev, dRevI, dIndex, endsL, startL, dNever, dBrk, dCnt, rAddD, rSubI, rIO, rMulI, rDivI, rModI, rPowI, rCI, rIxD, rIsN, rNotN, D.isN, rLen, rTuple, rList, rAbs, rInt, rStr, Ev.rRepr, Ev.rIsi, D.ty, kit_tab, startD, endsD, List.map_cons, List.map_nil, List.length_cons, List.length_nil, List.append_nil, List.nil_append, List.cons_append, List.getElem?_cons_zero, List.getElem?_cons_succ, List.getElem?_nil, List.set_cons_zero, List.set_cons_succ, List.replicate, List.replicate_succ, Nat.zero_add, Nat.zero_le, sizeLine, true_and, and_true, if_true, Ev.eq_int, Ev.eq_str, Ev.eq_bl, Ev.eq_non, lst_nil, tup_nil, List.map_eq_nil_iff, txt_join, rLt, rLe, rGt, rGe, atI_ofNat, atI_last, wLC, strsOf, intsOf, blsOf, Option.map_some, Ev.join_two, Ev.join_one, Ev.join_nil, List.sum_cons, List.sum_nil, PySem.Str.empty_append, ixN_ofNat, Option.some.injEq, exists_eq', List.length_map, decide_true, decide_false, Bool.not_true, Bool.not_false, Bool.true_eq_false, Bool.false_eq_true, false_and, and_false, if_false, ite_true, ite_false, Nat.reduceAdd, Nat.reduceSub, Nat.reduceMul, Nat.reduceLT, Nat.reduceLeDiff, Nat.reduceEqDiff, Nat.reducePow, Int.reduceToNat, Int.reducePow, pickL, List.filterMap_cons, List.filterMap_nil, and_self, Int.reduceLT, Int.reduceLE, Int.reduceNeg, Int.reduceAdd, Int.reduceMul, Int.reduceSub, Int.reduceEq, reduceIte, reduceCtorEq, lit_eq, String.reduceEq, Ev.rEq, Ev.rNe, Ev.rInD, cut_toN, cut_fromN, List.map_take, List.forall_mem_cons, List.forall_mem_nil, List.not_mem_nil, false_imp_iff, implies_true, forall_const, D.cm, D.lay, D.lays, D.dep, D.deps, strOk_lit, lays_ints, deps_ints, Nat.max_self, Nat.max_zero, Nat.zero_max, Bool.and_self, Bool.true_and, Bool.and_true, Bool.and_false, Bool.false_and, Bool.or_false, Bool.or_true, Bool.true_or, Bool.false_or, List.any_cons, List.any_nil, decide_eq_true_eq, eq_self, n_passed_by, b_passed_by, b_passed_by_0, p_passed_by_0, opts_in, opts_lay, opts_dep, opt_lay, opt_dep, opt_eq]
  unfold byP at q
  by_cases c1 : o = o2
  · simp only [dLenSet, dSrtR, dRo, dRoF, dRoT, roD, ro_un, ro_dat, ro_own, ro_hp, ro_law, ro_ownK, ro_ownT, List.forall_mem_map, flat_int, flat_str, flat_bl, flat_non, dSeq, dNext, dSet, dSetF, setSl, dVar, dTake, dC, dBin, dBinF, dB, dIfS, dIf, dRet, dRetN, dExpr, dNil, dCons, dTup, dLst, dFz, dAnd, dOr, dNot, dAndV, dOrV, dNotV, dCallD, dCallK, dCB, dCBF, dFor, dLC, dYes, dRng1, dRng2, dSeqI, gN, gT, gsNil, gsCons, dAsg, dNeg, dJoin, dFs, dJs, dFmt, dApp, dExt, dPop, dPopAt, dOwnIx, dOwnCB, dOwnL, dOwnR, dOwnSl, dSetIx, dSlT, dSlL, oNone, oSome, dBorn, optQ, ownAt, setOwnAt, lookAt, wipeD, dNewDT, dNewDK, dDGet, dDIn, dDPut, dSortT, rSrt, isDict, Ev.dictGet, Ev.dictPut, Option.isSome_none, Option.isSome_some, D.keyT, keysOf, D.key, exists_eq_left', exists_eq_left, Option.isSome, rRepL, rCatL, dRetF, dIfF, dPar, dRetOwn, dCallL, dCallLK, dPen2, dRev, dRevI, dIndex, endsL, startL, dNever, dBrk, dCnt, rAddD, rSubI, rIO, rMulI, rDivI, rModI, rPowI, rCI, rIxD, rIsN, rNotN, D.isN, rLen, rTuple, rList, rAbs, rInt, rStr, Ev.rRepr, Ev.rIsi, D.ty, kit_tab, startD, endsD, List.map_cons, List.map_nil, List.length_cons, List.length_nil, List.append_nil, List.nil_append, List.cons_append, List.getElem?_cons_zero, List.getElem?_cons_succ, List.getElem?_nil, List.set_cons_zero, List.set_cons_succ, List.replicate, List.replicate_succ, Nat.zero_add, Nat.zero_le, sizeLine, true_and, and_true, if_true, Ev.eq_int, Ev.eq_str, Ev.eq_bl, Ev.eq_non, lst_nil, tup_nil, List.map_eq_nil_iff, txt_join, rLt, rLe, rGt, rGe, atI_ofNat, atI_last, wLC, strsOf, intsOf, blsOf, Option.map_some, Ev.join_two, Ev.join_one, Ev.join_nil, List.sum_cons, List.sum_nil, PySem.Str.empty_append, ixN_ofNat, Option.some.injEq, exists_eq', List.length_map, decide_true, decide_false, Bool.not_true, Bool.not_false, Bool.true_eq_false, Bool.false_eq_true, false_and, and_false, if_false, ite_true, ite_false, Nat.reduceAdd, Nat.reduceSub, Nat.reduceMul, Nat.reduceLT, Nat.reduceLeDiff, Nat.reduceEqDiff, Nat.reducePow, Int.reduceToNat, Int.reducePow, pickL, List.filterMap_cons, List.filterMap_nil, and_self, Int.reduceLT, Int.reduceLE, Int.reduceNeg, Int.reduceAdd, Int.reduceMul, Int.reduceSub, Int.reduceEq, reduceIte, reduceCtorEq, lit_eq, String.reduceEq, Ev.rEq, Ev.rNe, Ev.rInD, cut_toN, cut_fromN, List.map_take, List.forall_mem_cons, List.forall_mem_nil, List.not_mem_nil, false_imp_iff, implies_true, forall_const, D.cm, D.lay, D.lays, D.dep, D.deps, strOk_lit, lays_ints, deps_ints, Nat.max_self, Nat.max_zero, Nat.zero_max, Bool.and_self, Bool.true_and, Bool.and_true, Bool.and_false, Bool.false_and, Bool.or_false, Bool.or_true, Bool.true_or, Bool.false_or, List.any_cons, List.any_nil, decide_eq_true_eq, eq_self, c1] at q ⊢
    exact q
  simp only [dLenSet, dSrtR, dRo, dRoF, dRoT, roD, ro_un, ro_dat, ro_own, ro_hp, ro_law, ro_ownK, ro_ownT, List.forall_mem_map, flat_int, flat_str, flat_bl, flat_non, dSeq, dNext, dSet, dSetF, setSl, dVar, dTake, dC, dBin, dBinF, dB, dIfS, dIf, dRet, dRetN, dExpr, dNil, dCons, dTup, dLst, dFz, dAnd, dOr, dNot, dAndV, dOrV, dNotV, dCallD, dCallK, dCB, dCBF, dFor, dLC, dYes, dRng1, dRng2, dSeqI, gN, gT, gsNil, gsCons, dAsg, dNeg, dJoin, dFs, dJs, dFmt, dApp, dExt, dPop, dPopAt, dOwnIx, dOwnCB, dOwnL, dOwnR, dOwnSl, dSetIx, dSlT, dSlL, oNone, oSome, dBorn, optQ, ownAt, setOwnAt, lookAt, wipeD, dNewDT, dNewDK, dDGet, dDIn, dDPut, dSortT, rSrt, isDict, Ev.dictGet, Ev.dictPut, Option.isSome_none, Option.isSome_some, D.keyT, keysOf, D.key, exists_eq_left', exists_eq_left, Option.isSome, rRepL, rCatL, dRetF, dIfF, dPar, dRetOwn, dCallL, dCallLK, dPen2, dRev, dRevI, dIndex, endsL, startL, dNever, dBrk, dCnt, rAddD, rSubI, rIO, rMulI, rDivI, rModI, rPowI, rCI, rIxD, rIsN, rNotN, D.isN, rLen, rTuple, rList, rAbs, rInt, rStr, Ev.rRepr, Ev.rIsi, D.ty, kit_tab, startD, endsD, List.map_cons, List.map_nil, List.length_cons, List.length_nil, List.append_nil, List.nil_append, List.cons_append, List.getElem?_cons_zero, List.getElem?_cons_succ, List.getElem?_nil, List.set_cons_zero, List.set_cons_succ, List.replicate, List.replicate_succ, Nat.zero_add, Nat.zero_le, sizeLine, true_and, and_true, if_true, Ev.eq_int, Ev.eq_str, Ev.eq_bl, Ev.eq_non, lst_nil, tup_nil, List.map_eq_nil_iff, txt_join, rLt, rLe, rGt, rGe, atI_ofNat, atI_last, wLC, strsOf, intsOf, blsOf, Option.map_some, Ev.join_two, Ev.join_one, Ev.join_nil, List.sum_cons, List.sum_nil, PySem.Str.empty_append, ixN_ofNat, Option.some.injEq, exists_eq', List.length_map, decide_true, decide_false, Bool.not_true, Bool.not_false, Bool.true_eq_false, Bool.false_eq_true, false_and, and_false, if_false, ite_true, ite_false, Nat.reduceAdd, Nat.reduceSub, Nat.reduceMul, Nat.reduceLT, Nat.reduceLeDiff, Nat.reduceEqDiff, Nat.reducePow, Int.reduceToNat, Int.reducePow, pickL, List.filterMap_cons, List.filterMap_nil, and_self, Int.reduceLT, Int.reduceLE, Int.reduceNeg, Int.reduceAdd, Int.reduceMul, Int.reduceSub, Int.reduceEq, reduceIte, reduceCtorEq, lit_eq, String.reduceEq, Ev.rEq, Ev.rNe, Ev.rInD, cut_toN, cut_fromN, List.map_take, List.forall_mem_cons, List.forall_mem_nil, List.not_mem_nil, false_imp_iff, implies_true, forall_const, D.cm, D.lay, D.lays, D.dep, D.deps, strOk_lit, lays_ints, deps_ints, Nat.max_self, Nat.max_zero, Nat.zero_max, Bool.and_self, Bool.true_and, Bool.and_true, Bool.and_false, Bool.false_and, Bool.or_false, Bool.or_true, Bool.true_or, Bool.false_or, List.any_cons, List.any_nil, decide_eq_true_eq, eq_self, c1] at q ⊢
  simp only [dLenSet, dSrtR, dRo, dRoF, dRoT, roD, ro_un, ro_dat, ro_own, ro_hp, ro_law, ro_ownK, ro_ownT, List.forall_mem_map, flat_int, flat_str, flat_bl, flat_non, dSeq, dNext, dSet, dSetF, setSl, dVar, dTake, dC, dBin, dBinF, dB, dIfS, dIf, dRet, dRetN, dExpr, dNil, dCons, dTup, dLst, dFz, dAnd, dOr, dNot, dAndV, dOrV, dNotV, dCallD, dCallK, dCB, dCBF, dFor, dLC, dYes, dRng1, dRng2, dSeqI, gN, gT, gsNil, gsCons, dAsg, dNeg, dJoin, dFs, dJs, dFmt, dApp, dExt, dPop, dPopAt, dOwnIx, dOwnCB, dOwnL, dOwnR, dOwnSl, dSetIx, dSlT, dSlL, oNone, oSome, dBorn, optQ, ownAt, setOwnAt, lookAt, wipeD, dNewDT, dNewDK, dDGet, dDIn, dDPut, dSortT, rSrt, isDict, Ev.dictGet, Ev.dictPut, Option.isSome_none, Option.isSome_some, D.keyT, keysOf, D.key, exists_eq_left', exists_eq_left, Option.isSome, rRepL, rCatL, dRetF, dIfF, dPar, dRetOwn, dCallL, dCallLK, dPen2, dRev, dRevI, dIndex, endsL, startL, dNever, dBrk, dCnt, rAddD, rSubI, rIO, rMulI, rDivI, rModI, rPowI, rCI, rIxD, rIsN, rNotN, D.isN, rLen, rTuple, rList, rAbs, rInt, rStr, Ev.rRepr, Ev.rIsi, D.ty, kit_tab, startD, endsD, List.map_cons, List.map_nil, List.length_cons, List.length_nil, List.append_nil, List.nil_append, List.cons_append, List.getElem?_cons_zero, List.getElem?_cons_succ, List.getElem?_nil, List.set_cons_zero, List.set_cons_succ, List.replicate, List.replicate_succ, Nat.zero_add, Nat.zero_le, sizeLine, true_and, and_true, if_true, Ev.eq_int, Ev.eq_str, Ev.eq_bl, Ev.eq_non, lst_nil, tup_nil, List.map_eq_nil_iff, txt_join, rLt, rLe, rGt, rGe, atI_ofNat, atI_last, wLC, strsOf, intsOf, blsOf, Option.map_some, Ev.join_two, Ev.join_one, Ev.join_nil, List.sum_cons, List.sum_nil, PySem.Str.empty_append, ixN_ofNat, Option.some.injEq, exists_eq', List.length_map, decide_true, decide_false, Bool.not_true, Bool.not_false, Bool.true_eq_false, Bool.false_eq_true, false_and, and_false, if_false, ite_true, ite_false, Nat.reduceAdd, Nat.reduceSub, Nat.reduceMul, Nat.reduceLT, Nat.reduceLeDiff, Nat.reduceEqDiff, Nat.reducePow, Int.reduceToNat, Int.reducePow, pickL, List.filterMap_cons, List.filterMap_nil, and_self, Int.reduceLT, Int.reduceLE, Int.reduceNeg, Int.reduceAdd, Int.reduceMul, Int.reduceSub, Int.reduceEq, reduceIte, reduceCtorEq, lit_eq, String.reduceEq, Ev.rEq, Ev.rNe, Ev.rInD, cut_toN, cut_fromN, List.map_take, List.forall_mem_cons, List.forall_mem_nil, List.not_mem_nil, false_imp_iff, implies_true, forall_const, D.cm, D.lay, D.lays, D.dep, D.deps, strOk_lit, lays_ints, deps_ints, Nat.max_self, Nat.max_zero, Nat.zero_max, Bool.and_self, Bool.true_and, Bool.and_true, Bool.and_false, Bool.false_and, Bool.or_false, Bool.or_true, Bool.true_or, Bool.false_or, List.any_cons, List.any_nil, decide_eq_true_eq, eq_self, bookD, b_passed_by_1, p_passed_by_1]
  refine wLC_maps (l := b) (ι := rowD) (f := fun r => .int r.n) (fun r hr acc k hz h => ?_) (by have := w.len; rw [sizeLine_eq]; omega) ?_
  · simp only [dLenSet, dSrtR, dRo, dRoF, dRoT, roD, ro_un, ro_dat, ro_own, ro_hp, ro_law, ro_ownK, ro_ownT, List.forall_mem_map, flat_int, flat_str, flat_bl, flat_non, dSeq, dNext, dSet, dSetF, setSl, dVar, dTake, dC, dBin, dBinF, dB, dIfS, dIf, dRet, dRetN, dExpr, dNil, dCons, dTup, dLst, dFz, dAnd, dOr, dNot, dAndV, dOrV, dNotV, dCallD, dCallK, dCB, dCBF, dFor, dLC, dYes, dRng1, dRng2, dSeqI, gN, gT, gsNil, gsCons, dAsg, dNeg, dJoin, dFs, dJs, dFmt, dApp, dExt, dPop, dPopAt, dOwnIx, dOwnCB, dOwnL, dOwnR, dOwnSl, dSetIx, dSlT, dSlL, oNone, oSome, dBorn, optQ, ownAt, setOwnAt, lookAt, wipeD, dNewDT, dNewDK, dDGet, dDIn, dDPut, dSortT, rSrt, isDict, Ev.dictGet, Ev.dictPut, Option.isSome_none, Option.isSome_some, D.keyT, keysOf, D.key, exists_eq_left', exists_eq_left, Option.isSome, rRepL, rCatL, dRetF, dIfF, dPar, dRetOwn, dCallL, dCallLK, dPen2, dRev, dRevI, dIndex, endsL, startL, dNever, dBrk, dCnt, rAddD, rSubI, rIO, rMulI, rDivI, rModI, rPowI, rCI, rIxD, rIsN, rNotN, D.isN, rLen, rTuple, rList, rAbs, rInt, rStr, Ev.rRepr, Ev.rIsi, D.ty, kit_tab, startD, endsD, List.map_cons, List.map_nil, List.length_cons, List.length_nil, List.append_nil, List.nil_append, List.cons_append, List.getElem?_cons_zero, List.getElem?_cons_succ, List.getElem?_nil, List.set_cons_zero, List.set_cons_succ, List.replicate, List.replicate_succ, Nat.zero_add, Nat.zero_le, sizeLine, true_and, and_true, if_true, Ev.eq_int, Ev.eq_str, Ev.eq_bl, Ev.eq_non, lst_nil, tup_nil, List.map_eq_nil_iff, txt_join, rLt, rLe, rGt, rGe, atI_ofNat, atI_last, wLC, strsOf, intsOf, blsOf, Option.map_some, Ev.join_two, Ev.join_one, Ev.join_nil, List.sum_cons, List.sum_nil, PySem.Str.empty_append, ixN_ofNat, Option.some.injEq, exists_eq', List.length_map, decide_true, decide_false, Bool.not_true, Bool.not_false, Bool.true_eq_false, Bool.false_eq_true, false_and, and_false, if_false, ite_true, ite_false, Nat.reduceAdd, Nat.reduceSub, Nat.reduceMul, Nat.reduceLT, Nat.reduceLeDiff, Nat.reduceEqDiff, Nat.reducePow, Int.reduceToNat, Int.reducePow, pickL, List.filterMap_cons, List.filterMap_nil, and_self, Int.reduceLT, Int.reduceLE, Int.reduceNeg, Int.reduceAdd, Int.reduceMul, Int.reduceSub, Int.reduceEq, reduceIte, reduceCtorEq, lit_eq, String.reduceEq, Ev.rEq, Ev.rNe, Ev.rInD, cut_toN, cut_fromN, List.map_take, List.forall_mem_cons, List.forall_mem_nil, List.not_mem_nil, false_imp_iff, implies_true, forall_const, D.cm, D.lay, D.lays, D.dep, D.deps, strOk_lit, lays_ints, deps_ints, Nat.max_self, Nat.max_zero, Nat.zero_max, Bool.and_self, Bool.true_and, Bool.and_true, Bool.and_false, Bool.false_and, Bool.or_false, Bool.or_true, Bool.true_or, Bool.false_or, List.any_cons, List.any_nil, decide_eq_true_eq, eq_self, rowD]
    exact ⟨hz, h⟩
  simp only [dLenSet, dSrtR, dRo, dRoF, dRoT, roD, ro_un, ro_dat, ro_own, ro_hp, ro_law, ro_ownK, ro_ownT, List.forall_mem_map, flat_int, flat_str, flat_bl, flat_non, dSeq, dNext, dSet, dSetF, setSl, dVar, dTake, dC, dBin, dBinF, dB, dIfS, dIf, dRet, dRetN, dExpr, dNil, dCons, dTup, dLst, dFz, dAnd, dOr, dNot, dAndV, dOrV, dNotV, dCallD, dCallK, dCB, dCBF, dFor, dLC, dYes, dRng1, dRng2, dSeqI, gN, gT, gsNil, gsCons, dAsg, dNeg, dJoin, dFs, dJs, dFmt, dApp, dExt, dPop, dPopAt, dOwnIx, dOwnCB, dOwnL, dOwnR, dOwnSl, dSetIx, dSlT, dSlL, oNone, oSome, dBorn, optQ, ownAt, setOwnAt, lookAt, wipeD, dNewDT, dNewDK, dDGet, dDIn, dDPut, dSortT, rSrt, isDict, Ev.dictGet, Ev.dictPut, Option.isSome_none, Option.isSome_some, D.keyT, keysOf, D.key, exists_eq_left', exists_eq_left, Option.isSome, rRepL, rCatL, dRetF, dIfF, dPar, dRetOwn, dCallL, dCallLK, dPen2, dRev, dRevI, dIndex, endsL, startL, dNever, dBrk, dCnt, rAddD, rSubI, rIO, rMulI, rDivI, rModI, rPowI, rCI, rIxD, rIsN, rNotN, D.isN, rLen, rTuple, rList, rAbs, rInt, rStr, Ev.rRepr, Ev.rIsi, D.ty, kit_tab, startD, endsD, List.map_cons, List.map_nil, List.length_cons, List.length_nil, List.append_nil, List.nil_append, List.cons_append, List.getElem?_cons_zero, List.getElem?_cons_succ, List.getElem?_nil, List.set_cons_zero, List.set_cons_succ, List.replicate, List.replicate_succ, Nat.zero_add, Nat.zero_le, sizeLine, true_and, and_true, if_true, Ev.eq_int, Ev.eq_str, Ev.eq_bl, Ev.eq_non, lst_nil, tup_nil, List.map_eq_nil_iff, txt_join, rLt, rLe, rGt, rGe, atI_ofNat, atI_last, wLC, strsOf, intsOf, blsOf, Option.map_some, Ev.join_two, Ev.join_one, Ev.join_nil, List.sum_cons, List.sum_nil, PySem.Str.empty_append, ixN_ofNat, Option.some.injEq, exists_eq', List.length_map, decide_true, decide_false, Bool.not_true, Bool.not_false, Bool.true_eq_false, Bool.false_eq_true, false_and, and_false, if_false, ite_true, ite_false, Nat.reduceAdd, Nat.reduceSub, Nat.reduceMul, Nat.reduceLT, Nat.reduceLeDiff, Nat.reduceEqDiff, Nat.reducePow, Int.reduceToNat, Int.reducePow, pickL, List.filterMap_cons, List.filterMap_nil, and_self, Int.reduceLT, Int.reduceLE, Int.reduceNeg, Int.reduceAdd, Int.reduceMul, Int.reduceSub, Int.reduceEq, reduceIte, reduceCtorEq, lit_eq, String.reduceEq, Ev.rEq, Ev.rNe, Ev.rInD, cut_toN, cut_fromN, List.map_take, List.forall_mem_cons, List.forall_mem_nil, List.not_mem_nil, false_imp_iff, implies_true, forall_const, D.cm, D.lay, D.lays, D.dep, D.deps, strOk_lit, lays_ints, deps_ints, Nat.max_self, Nat.max_zero, Nat.zero_max, Bool.and_self, Bool.true_and, Bool.and_true, Bool.and_false, Bool.false_and, Bool.or_false, Bool.or_true, Bool.true_or, Bool.false_or, List.any_cons, List.any_nil, decide_eq_true_eq, eq_self, b_passed_by_2, p_passed_by_2, sp_line_of]
  refine ⟨b, o, l, rfl, w, h1.up, h1.mem, h1.len, b, o2, l2, rfl, w, h2.up, h2.mem, h2.len, ?_⟩
  simp only [dLenSet, dSrtR, dRo, dRoF, dRoT, roD, ro_un, ro_dat, ro_own, ro_hp, ro_law, ro_ownK, ro_ownT, List.forall_mem_map, flat_int, flat_str, flat_bl, flat_non, dSeq, dNext, dSet, dSetF, setSl, dVar, dTake, dC, dBin, dBinF, dB, dIfS, dIf, dRet, dRetN, dExpr, dNil, dCons, dTup, dLst, dFz, dAnd, dOr, dNot, dAndV, dOrV, dNotV, dCallD, dCallK, dCB, dCBF, dFor, dLC, dYes, dRng1, dRng2, dSeqI, gN, gT, gsNil, gsCons, dAsg, dNeg, dJoin, dFs, dJs, dFmt, dApp, dExt, dPop, dPopAt, dOwnIx, dOwnCB, dOwnL, dOwnR, dOwnSl, dSetIx, dSlT, dSlL, oNone, oSome, dBorn, optQ, ownAt, setOwnAt, lookAt, wipeD, dNewDT, dNewDK, dDGet, dDIn, dDPut, dSortT, rSrt, isDict, Ev.dictGet, Ev.dictPut, Option.isSome_none, Option.isSome_some, D.keyT, keysOf, D.key, exists_eq_left', exists_eq_left, Option.isSome, rRepL, rCatL, dRetF, dIfF, dPar, dRetOwn, dCallL, dCallLK, dPen2, dRev, dRevI, dIndex, endsL, startL, dNever, dBrk, dCnt, rAddD, rSubI, rIO, rMulI, rDivI, rModI, rPowI, rCI, rIxD, rIsN, rNotN, D.isN, rLen, rTuple, rList, rAbs, rInt, rStr, Ev.rRepr, Ev.rIsi, D.ty, kit_tab, startD, endsD, List.map_cons, List.map_nil, List.length_cons, List.length_nil, List.append_nil, List.nil_append, List.cons_append, List.getElem?_cons_zero, List.getElem?_cons_succ, List.getElem?_nil, List.set_cons_zero, List.set_cons_succ, List.replicate, List.replicate_succ, Nat.zero_add, Nat.zero_le, sizeLine, true_and, and_true, if_true, Ev.eq_int, Ev.eq_str, Ev.eq_bl, Ev.eq_non, lst_nil, tup_nil, List.map_eq_nil_iff, txt_join, rLt, rLe, rGt, rGe, atI_ofNat, atI_last, wLC, strsOf, intsOf, blsOf, Option.map_some, Ev.join_two, Ev.join_one, Ev.join_nil, List.sum_cons, List.sum_nil, PySem.Str.empty_append, ixN_ofNat, Option.some.injEq, exists_eq', List.length_map, decide_true, decide_false, Bool.not_true, Bool.not_false, Bool.true_eq_false, Bool.false_eq_true, false_and, and_false, if_false, ite_true, ite_false, Nat.reduceAdd, Nat.reduceSub, Nat.reduceMul, Nat.reduceLT, Nat.reduceLeDiff, Nat.reduceEqDiff, Nat.reducePow, Int.reduceToNat, Int.reducePow, pickL, List.filterMap_cons, List.filterMap_nil, and_self, Int.reduceLT, Int.reduceLE, Int.reduceNeg, Int.reduceAdd, Int.reduceMul, Int.reduceSub, Int.reduceEq, reduceIte, reduceCtorEq, lit_eq, String.reduceEq, Ev.rEq, Ev.rNe, Ev.rInD, cut_toN, cut_fromN, List.map_take, List.forall_mem_cons, List.forall_mem_nil, List.not_mem_nil, false_imp_iff, implies_true, forall_const, D.cm, D.lay, D.lays, D.dep, D.deps, strOk_lit, lays_ints, deps_ints, Nat.max_self, Nat.max_zero, Nat.zero_max, Bool.and_self, Bool.true_and, Bool.and_true, Bool.and_false, Bool.false_and, Bool.or_false, Bool.or_true, Bool.true_or, Bool.false_or, List.any_cons, List.any_nil, decide_eq_true_eq, eq_self, sp_passed_between]
  refine ⟨l.map some ++ [none], l2.map some ++ [none], o, o2, rfl, by have := h1.len; simp; omega, by have := h2.len; simp; omega, h1.head, h2.head, by simp, by simp, ?_⟩
  refine wLC_filt (f := toldD) (t := fun t => thereP b t.rm) (fun t ht acc k hz g1 g2 => ?_) (by have := between_len (ahead := l.map some ++ [none]) (behind := l2.map some ++ [none]) o o2; have := h1.len; have := h2.len; rw [sizeLine_eq]; simp at *; omega) ?_
  · rw [there_map] at g1 g2
    simp only [dLenSet, dSrtR, dRo, dRoF, dRoT, roD, ro_un, ro_dat, ro_own, ro_hp, ro_law, ro_ownK, ro_ownT, List.forall_mem_map, flat_int, flat_str, flat_bl, flat_non, dSeq, dNext, dSet, dSetF, setSl, dVar, dTake, dC, dBin, dBinF, dB, dIfS, dIf, dRet, dRetN, dExpr, dNil, dCons, dTup, dLst, dFz, dAnd, dOr, dNot, dAndV, dOrV, dNotV, dCallD, dCallK, dCB, dCBF, dFor, dLC, dYes, dRng1, dRng2, dSeqI, gN, gT, gsNil, gsCons, dAsg, dNeg, dJoin, dFs, dJs, dFmt, dApp, dExt, dPop, dPopAt, dOwnIx, dOwnCB, dOwnL, dOwnR, dOwnSl, dSetIx, dSlT, dSlL, oNone, oSome, dBorn, optQ, ownAt, setOwnAt, lookAt, wipeD, dNewDT, dNewDK, dDGet, dDIn, dDPut, dSortT, rSrt, isDict, Ev.dictGet, Ev.dictPut, Option.isSome_none, Option.isSome_some, D.keyT, keysOf, D.key, exists_eq_left', exists_eq_left, Option.isSome, rRepL, rCatL, dRetF, dIfF, dPar, dRetOwn, dCallL, dCallLK, dPen2, dRev, dRevI, dIndex, endsL, startL, dNever, dBrk, dCnt, rAddD, rSubI, rIO, rMulI, rDivI, rModI, rPowI, rCI, rIxD, rIsN, rNotN, D.isN, rLen, rTuple, rList, rAbs, rInt, rStr, Ev.rRepr, Ev.rIsi, D.ty, kit_tab, startD, endsD, List.map_cons, List.map_nil, List.length_cons, List.length_nil, List.append_nil, List.nil_append, List.cons_append, List.getElem?_cons_zero, List.getElem?_cons_succ, List.getElem?_nil, List.set_cons_zero, List.set_cons_succ, List.replicate, List.replicate_succ, Nat.zero_add, Nat.zero_le, sizeLine, true_and, and_true, if_true, Ev.eq_int, Ev.eq_str, Ev.eq_bl, Ev.eq_non, lst_nil, tup_nil, List.map_eq_nil_iff, txt_join, rLt, rLe, rGt, rGe, atI_ofNat, atI_last, wLC, strsOf, intsOf, blsOf, Option.map_some, Ev.join_two, Ev.join_one, Ev.join_nil, List.sum_cons, List.sum_nil, PySem.Str.empty_append, ixN_ofNat, Option.some.injEq, exists_eq', List.length_map, decide_true, decide_false, Bool.not_true, Bool.not_false, Bool.true_eq_false, Bool.false_eq_true, false_and, and_false, if_false, ite_true, ite_false, Nat.reduceAdd, Nat.reduceSub, Nat.reduceMul, Nat.reduceLT, Nat.reduceLeDiff, Nat.reduceEqDiff, Nat.reducePow, Int.reduceToNat, Int.reducePow, pickL, List.filterMap_cons, List.filterMap_nil, and_self, Int.reduceLT, Int.reduceLE, Int.reduceNeg, Int.reduceAdd, Int.reduceMul, Int.reduceSub, Int.reduceEq, reduceIte, reduceCtorEq, lit_eq, String.reduceEq, Ev.rEq, Ev.rNe, Ev.rInD, cut_toN, cut_fromN, List.map_take, List.forall_mem_cons, List.forall_mem_nil, List.not_mem_nil, false_imp_iff, implies_true, forall_const, D.cm, D.lay, D.lays, D.dep, D.deps, strOk_lit, lays_ints, deps_ints, Nat.max_self, Nat.max_zero, Nat.zero_max, Bool.and_self, Bool.true_and, Bool.and_true, Bool.and_false, Bool.false_and, Bool.or_false, Bool.or_true, Bool.true_or, Bool.false_or, List.any_cons, List.any_nil, decide_eq_true_eq, eq_self, toldD, there_map, opts_in, opts_lay, opts_dep, opt_lay, opt_dep] at g1 g2 ⊢
    cases e1 : thereP b t.rm with
    | true =>
      have e2 : decide (t.rm ∈ b.map fun r => some r.n) = true := e1
      simp only [dLenSet, dSrtR, dRo, dRoF, dRoT, roD, ro_un, ro_dat, ro_own, ro_hp, ro_law, ro_ownK, ro_ownT, List.forall_mem_map, flat_int, flat_str, flat_bl, flat_non, dSeq, dNext, dSet, dSetF, setSl, dVar, dTake, dC, dBin, dBinF, dB, dIfS, dIf, dRet, dRetN, dExpr, dNil, dCons, dTup, dLst, dFz, dAnd, dOr, dNot, dAndV, dOrV, dNotV, dCallD, dCallK, dCB, dCBF, dFor, dLC, dYes, dRng1, dRng2, dSeqI, gN, gT, gsNil, gsCons, dAsg, dNeg, dJoin, dFs, dJs, dFmt, dApp, dExt, dPop, dPopAt, dOwnIx, dOwnCB, dOwnL, dOwnR, dOwnSl, dSetIx, dSlT, dSlL, oNone, oSome, dBorn, optQ, ownAt, setOwnAt, lookAt, wipeD, dNewDT, dNewDK, dDGet, dDIn, dDPut, dSortT, rSrt, isDict, Ev.dictGet, Ev.dictPut, Option.isSome_none, Option.isSome_some, D.keyT, keysOf, D.key, exists_eq_left', exists_eq_left, Option.isSome, rRepL, rCatL, dRetF, dIfF, dPar, dRetOwn, dCallL, dCallLK, dPen2, dRev, dRevI, dIndex, endsL, startL, dNever, dBrk, dCnt, rAddD, rSubI, rIO, rMulI, rDivI, rModI, rPowI, rCI, rIxD, rIsN, rNotN, D.isN, rLen, rTuple, rList, rAbs, rInt, rStr, Ev.rRepr, Ev.rIsi, D.ty, kit_tab, startD, endsD, List.map_cons, List.map_nil, List.length_cons, List.length_nil, List.append_nil, List.nil_append, List.cons_append, List.getElem?_cons_zero, List.getElem?_cons_succ, List.getElem?_nil, List.set_cons_zero, List.set_cons_succ, List.replicate, List.replicate_succ, Nat.zero_add, Nat.zero_le, sizeLine, true_and, and_true, if_true, Ev.eq_int, Ev.eq_str, Ev.eq_bl, Ev.eq_non, lst_nil, tup_nil, List.map_eq_nil_iff, txt_join, rLt, rLe, rGt, rGe, atI_ofNat, atI_last, wLC, strsOf, intsOf, blsOf, Option.map_some, Ev.join_two, Ev.join_one, Ev.join_nil, List.sum_cons, List.sum_nil, PySem.Str.empty_append, ixN_ofNat, Option.some.injEq, exists_eq', List.length_map, decide_true, decide_false, Bool.not_true, Bool.not_false, Bool.true_eq_false, Bool.false_eq_true, false_and, and_false, if_false, ite_true, ite_false, Nat.reduceAdd, Nat.reduceSub, Nat.reduceMul, Nat.reduceLT, Nat.reduceLeDiff, Nat.reduceEqDiff, Nat.reducePow, Int.reduceToNat, Int.reducePow, pickL, List.filterMap_cons, List.filterMap_nil, and_self, Int.reduceLT, Int.reduceLE, Int.reduceNeg, Int.reduceAdd, Int.reduceMul, Int.reduceSub, Int.reduceEq, reduceIte, reduceCtorEq, lit_eq, String.reduceEq, Ev.rEq, Ev.rNe, Ev.rInD, cut_toN, cut_fromN, List.map_take, List.forall_mem_cons, List.forall_mem_nil, List.not_mem_nil, false_imp_iff, implies_true, forall_const, D.cm, D.lay, D.lays, D.dep, D.deps, strOk_lit, lays_ints, deps_ints, Nat.max_self, Nat.max_zero, Nat.zero_max, Bool.and_self, Bool.true_and, Bool.and_true, Bool.and_false, Bool.false_and, Bool.or_false, Bool.or_true, Bool.true_or, Bool.false_or, List.any_cons, List.any_nil, decide_eq_true_eq, eq_self, e2]
      exact ⟨hz, g1 e1⟩
    | false =>
      have e2 : decide (t.rm ∈ b.map fun r => some r.n) = false := e1
      simp only [dLenSet, dSrtR, dRo, dRoF, dRoT, roD, ro_un, ro_dat, ro_own, ro_hp, ro_law, ro_ownK, ro_ownT, List.forall_mem_map, flat_int, flat_str, flat_bl, flat_non, dSeq, dNext, dSet, dSetF, setSl, dVar, dTake, dC, dBin, dBinF, dB, dIfS, dIf, dRet, dRetN, dExpr, dNil, dCons, dTup, dLst, dFz, dAnd, dOr, dNot, dAndV, dOrV, dNotV, dCallD, dCallK, dCB, dCBF, dFor, dLC, dYes, dRng1, dRng2, dSeqI, gN, gT, gsNil, gsCons, dAsg, dNeg, dJoin, dFs, dJs, dFmt, dApp, dExt, dPop, dPopAt, dOwnIx, dOwnCB, dOwnL, dOwnR, dOwnSl, dSetIx, dSlT, dSlL, oNone, oSome, dBorn, optQ, ownAt, setOwnAt, lookAt, wipeD, dNewDT, dNewDK, dDGet, dDIn, dDPut, dSortT, rSrt, isDict, Ev.dictGet, Ev.dictPut, Option.isSome_none, Option.isSome_some, D.keyT, keysOf, D.key, exists_eq_left', exists_eq_left, Option.isSome, rRepL, rCatL, dRetF, dIfF, dPar, dRetOwn, dCallL, dCallLK, dPen2, dRev, dRevI, dIndex, endsL, startL, dNever, dBrk, dCnt, rAddD, rSubI, rIO, rMulI, rDivI, rModI, rPowI, rCI, rIxD, rIsN, rNotN, D.isN, rLen, rTuple, rList, rAbs, rInt, rStr, Ev.rRepr, Ev.rIsi, D.ty, kit_tab, startD, endsD, List.map_cons, List.map_nil, List.length_cons, List.length_nil, List.append_nil, List.nil_append, List.cons_append, List.getElem?_cons_zero, List.getElem?_cons_succ, List.getElem?_nil, List.set_cons_zero, List.set_cons_succ, List.replicate, List.replicate_succ, Nat.zero_add, Nat.zero_le, sizeLine, true_and, and_true, if_true, Ev.eq_int, Ev.eq_str, Ev.eq_bl, Ev.eq_non, lst_nil, tup_nil, List.map_eq_nil_iff, txt_join, rLt, rLe, rGt, rGe, atI_ofNat, atI_last, wLC, strsOf, intsOf, blsOf, Option.map_some, Ev.join_two, Ev.join_one, Ev.join_nil, List.sum_cons, List.sum_nil, PySem.Str.empty_append, ixN_ofNat, Option.some.injEq, exists_eq', List.length_map, decide_true, decide_false, Bool.not_true, Bool.not_false, Bool.true_eq_false, Bool.false_eq_true, false_and, and_false, if_false, ite_true, ite_false, Nat.reduceAdd, Nat.reduceSub, Nat.reduceMul, Nat.reduceLT, Nat.reduceLeDiff, Nat.reduceEqDiff, Nat.reducePow, Int.reduceToNat, Int.reducePow, pickL, List.filterMap_cons, List.filterMap_nil, and_self, Int.reduceLT, Int.reduceLE, Int.reduceNeg, Int.reduceAdd, Int.reduceMul, Int.reduceSub, Int.reduceEq, reduceIte, reduceCtorEq, lit_eq, String.reduceEq, Ev.rEq, Ev.rNe, Ev.rInD, cut_toN, cut_fromN, List.map_take, List.forall_mem_cons, List.forall_mem_nil, List.not_mem_nil, false_imp_iff, implies_true, forall_const, D.cm, D.lay, D.lays, D.dep, D.deps, strOk_lit, lays_ints, deps_ints, Nat.max_self, Nat.max_zero, Nat.zero_max, Bool.and_self, Bool.true_and, Bool.and_true, Bool.and_false, Bool.false_and, Bool.or_false, Bool.or_true, Bool.true_or, Bool.false_or, List.any_cons, List.any_nil, decide_eq_true_eq, eq_self, e2]
      exact g2 e1
  · exact q
theorem ok_passed_by {P : Program} {w : World} {K : PySem.W.Frag} {mg : Str → Option Value} {base : Heap} (K_line_of_2 : DefL P w K mg base 4 "line_of" 2 sp_line_of []) (K_passed_between_2 : DefL P w K mg base 2 "passed_between" 2 sp_passed_between []) {f : Addr} {fd : FuncData} (F : Fun K "passed_by" "passed_by" s_passed_by f fd) : FnG P w K mg base CX0 5 f fd ["book", "book2", "room", "room2"] (spDL K 4 sp_passed_by) :=
 fn_dL F sc_passed_by rfl (fun cdv A out s H E g r => run_passed_by K_line_of_2 K_passed_between_2 cdv A out s H E g r) hsp_passed_by
def sp_passed : dSpL := fun ds p Q _ => ∃ (b : List Row) (o o2 : Option Int) (l l2 : List Int), ds = [bookD b, optD o, optD o2] ∧ Wf b ∧ Line b o l ∧ Line b o2 l2 ∧ Q ((byP b l l2 o o2).map toldD) p
abbrev s_passed : Stmt := topS 20
abbrev n_passed : List Str := ["book", "room", "room2"]
theorem sc_passed : FnScope n_passed ["book", "room", "room2"] (defScope s_passed) := ⟨rfl, rfl, rfl, by decide +kernel, rfl, by decide +kernel, by decide +kernel⟩
def b_passed : dS := (dRetF (dCallL 4 [] sp_passed_by (dCons (dVar 0) (dCons (dVar 0) (dCons (dVar 1) (dCons (dVar 2) dNil))))))
theorem run_passed {P : Program} {w : World} {K : PySem.W.Frag} {mg : Str → Option Value} {base : Heap} (K_passed_by_4 : DefL P w K mg base 5 "passed_by" 4 sp_passed_by []) {f : Addr} (cdv : Value) (A : Around) (out : List Env) (s : Shared) (H : Hp) (E : XK) (g : A.guards = some []) (hrA : Room 5 (A.deeper (envOfC "passed" (defScope s_passed) s.heap.objs.size f cdv))) :
  DSs (cx0 P w K mg base n_passed "passed" (defScope s_passed) f cdv A out s H E) E00 (defBody s_passed) b_passed := by
 have hgA : (A.deeper (envOfC "passed" (defScope s_passed) s.heap.objs.size f cdv)).guards = some [] := g
 have hun := hrA.un
 exact (dss_one (ds_retF (df_callL K_passed_by_4 hgA hrA (by rfl) (da_cons (de_var (pv 0)) (da_cons (de_var (pv 0)) (da_cons (de_var (pv 1)) (da_cons (de_var (pv 2)) da_nil)))))))
theorem hsp_passed : ∀ ds p Q W, ds.length = 3 → sp_passed ds p Q W → b_passed W0 (endsL Q) (startD n_passed.length ds p) := by
  rintro _ p Q W - ⟨b, o, o2, l, l2, rfl, w, h1, h2, q⟩
  simp only [dLenSet, dSrtR, dRo, dRoF, dRoT, roD, ro_un, ro_dat, ro_own, ro_hp, ro_law, ro_ownK, ro_ownT, List.forall_mem_map, flat_int, flat_str, flat_bl, flat_non, dSeq, dNext, dSet, dSetF, setSl, dVar, dTake, dC, dBin, dBinF, dB, dIfS, dIf, dRet, dRetN, dExpr, dNil, dCons, dTup, dLst, dFz, dAnd, dOr, dNot, dAndV, dOrV, dNotV, dCallD, dCallK, dCB, dCBF, dFor, dLC, dYes, dRng1, dRng2, dSeqI, gN, gT, gsNil, gsCons, dAsg, dNeg, dJoin, dFs, dJs, dFmt, dApp, dExt, dPop, dPopAt, dOwnIx, dOwnCB, dOwnL, dOwnR, dOwnSl, dSetIx, dSlT, dSlL, oNone, oSome, dBorn, optQ, ownAt, setOwnAt, lookAt, wipeD, dNewDT, dNewDK, dDGet, dDIn, dDPut, dSortT, rSrt, isDict, Ev.dictGet, Ev.dictPut, Option.isSome_none, Option.isSome_some, D.keyT, keysOf, D.key, exists_eq_left', exists_eq_left, Option.isSome, rRepL, rCatL, dRetF, dIfF, dPar, dRetOwn, dCallL, dCallLK, dPen2, dRev, dRevI, dIndex, endsL, startL, dNever, dBrk, dCnt, rAddD, rSubI, rIO, rMulI, rDivI, rModI, rPowI, rCI, rIxD, rIsN, rNotN, D.isN, rLen, rTuple, rList, rAbs, rInt, rStr, Ev.rRepr, Ev.rIsi, D.ty, kit_tab, startD, endsD, List.map_cons, List.map_nil, List.length_cons, List.length_nil, List.append_nil, List.nil_append, List.cons_append, List.getElem?_cons_zero, List.getElem?_cons_succ, List.getElem?_nil, List.set_cons_zero, List.set_cons_succ, List.replicate, List.replicate_succ, Nat.zero_add, Nat.zero_le, sizeLine, true_and, and_true, if_true, Ev.eq_int, Ev.eq_str, Ev.eq_bl, Ev.eq_non, lst_nil, tup_nil, List.map_eq_nil_iff, txt_join, rLt, rLe, rGt, rGe, atI_ofNat, atI_last, wLC, strsOf, intsOf, blsOf, Option.map_some, Ev.join_two, Ev.join_one, Ev.join_nil, List.sum_cons, List.sum_nil, PySem.Str.empty_append, ixN_ofNat, Option.some.injEq, exists_eq', List.length_map, decide_true, decide_false, Bool.not_true, Bool.not_false, Bool.true_eq_false, Bool.false_eq_true, false_and, and_false, if_false, ite_true, ite_false, Nat.reduceAdd, Nat.reduceSub, Nat.reduceMul, Nat.reduceLT, Nat.reduceLeDiff, Nat.reduceEqDiff, Nat.reducePow, Int.reduceToNat, Int.reducePow, pickL, List.filterMap_cons, List.filterMap_nil, and_self, Int.reduceLT, Int.reduceLE, Int.reduceNeg, Int.reduceAdd, Int.reduceMul, Int.reduceSub, Int.reduceEq, reduceIte, reduceCtorEq, lit_eq, String.reduceEq, Ev.rEq, Ev.rNe, Ev.rInD, cut_toN, cut_fromN, List.map_take, List.forall_mem_cons, List.forall_mem_nil, List.not_mem_nil, false_imp_iff, implies_true, forall_const, D.cm, D.lay, D.lays, D.dep, D.deps, strOk_lit, lays_ints, deps_ints, Nat.max_self, Nat.max_zero, Nat.zero_max, Bool.and_self, Bool.true_and, Bool.and_true, Bool.and_false, Bool.false_and, Bool.or_false, Bool.or_true, Bool.true_or, Bool.false_or, List.any_cons, List.any_nil, decide_eq_true_eq, eq_self, n_passed, b_passed, sp_passed_by]
  exact ⟨b, o, o2, l, l2, rfl, w, h1, h2, q⟩
theorem ok_passed {P : Program} {w : World} {K : PySem.W.Frag} {mg : Str → Option Value} {base : Heap} (K_passed_by_4 : DefL P w K mg base 5 "passed_by" 4 sp_passed_by []) {f : Addr} {fd : FuncData} (F : Fun K "passed" "passed" s_passed f fd) : FnG P w K mg base CX0 6 f fd ["book", "room", "room2"] (spDL K 3 sp_passed) :=
 fn_dL F sc_passed rfl (fun cdv A out s H E g r => run_passed K_passed_by_4 cdv A out s H E g r) hsp_passed

end Ev38

namespace Ev38
open PySem PySem.Spec PyProof.Rows L2 Ev
def sp__law_line : dSpL := fun ds p Q _ => ∃ (bd : D) (b : List Row) (o : Option Int) (l : List Int), (bd = .tup (b.map rowD) ∨ bd = .lst (b.map rowD)) ∧ ds = [bd, optD o] ∧ b.length ≤ 10 ∧ Up b o l ∧ l.length ≤ 12 ∧ Q ((l.map some ++ [none]).map optD) p
abbrev s__law_line : Stmt := topS 23
abbrev n__law_line : List Str := ["_law_rows_so", "_law_here", "_law_found", "_law_row"]
theorem sc__law_line : FnScope n__law_line ["_law_rows_so", "_law_here"] (defScope s__law_line) := ⟨rfl, rfl, rfl, by decide +kernel, rfl, by decide +kernel, by decide +kernel⟩
def p__law_line_x2_0 : dS := (dApp 2 (dVar 1))
def p__law_line_x2_1 : dS := (dSet 1 (dBin rIxD (dFz (dLC (dSeqI (dVar 0)) (gN 3) (dB (dBin (rEq) (dBin rIxD (dVar 3) (dC (.int 0))) (dVar 1))) (dBin rIxD (dVar 3) (dC (.int 1))) [3])) (dC (.int 0))))
def b__law_line_x2_1 : dS := p__law_line_x2_1
def b__law_line_x2_0 : dS := dSeq p__law_line_x2_0 b__law_line_x2_1
def p__law_line_0 : dS := (dSetF 2 (dLst dNil))
def p__law_line_1 : dS := (dWhile (dB (dBin (rNotN) (dVar 1) (dC .non))) b__law_line_x2_0)
def p__law_line_2 : dS := (dRetF (dBinF rCatL (dTake 2) (dFz (dLst (dCons (dC .non) dNil)))))
def b__law_line_2 : dS := p__law_line_2
def b__law_line_1 : dS := dSeq p__law_line_1 b__law_line_2
def b__law_line_0 : dS := dSeq p__law_line_0 b__law_line_1
def b__law_line : dS := b__law_line_0
theorem run__law_line {P : Program} {w : World} {K : PySem.W.Frag} {mg : Str → Option Value} {base : Heap} {f : Addr} (cdv : Value) (A : Around) (out : List Env) (s : Shared) (H : Hp) (E : XK) (g : A.guards = some []) (hrA : Room 0 (A.deeper (envOfC "_law_line" (defScope s__law_line) s.heap.objs.size f cdv))) :
  DSs (cx0 P w K mg base n__law_line "_law_line" (defScope s__law_line) f cdv A out s H E) E00 (defBody s__law_line) b__law_line := by
 have hgA : (A.deeper (envOfC "_law_line" (defScope s__law_line) s.heap.objs.size f cdv)).guards = some [] := g
 have hun := hrA.un
 exact (dss_cons (t := p__law_line_0) (u := b__law_line_1) (ds_setF (i := 2) sc__law_line.nd rfl (by first | exact .inl rfl | exact .inr rfl) (df_lst da_nil))
  (dss_cons (t := p__law_line_1) (u := b__law_line_2) (ds_while PassesOwn.never (dt_cmp (od_notN) (de_var (pv 1)) de_non (nomark _)) (dss_cons (t := p__law_line_x2_0) (u := b__law_line_x2_1) (ds_app (pv 2) (de_var (pv 1)))
  (dss_one (t := p__law_line_x2_1) (ds_set (i := 1) sc__law_line.nd rfl (by first | exact .inl rfl | exact .inr rfl) (de_ix (de_fz (df_lc (E2 := E00) (own := [("_law_row", 3)]) rfl sc__law_line.nd (di_seq (de_var (pv 0))) (blkOk_by (N := n__law_line) (sc := (defScope s__law_line)) (own := [("_law_row", 3)]) (by decide +kernel)) (by decide) (fun _ _ _ _ _ => (dg_name (pg_name (i := 3) sc__law_line.nd rfl (by first | exact .inl rfl | exact .inr rfl)))) (fun _ _ _ _ _ => (dts_one (dt_cmp (od_eq (Nat.lt_of_le_of_lt (Nat.add_le_add_left (by decide) _) hun)) (de_ix (de_var (pv 3)) de_int (fun _ _ => rfl)) (de_var (pv 1)) (nomark _)))) (fun _ _ _ _ _ => (de_ix (de_var (pv 3)) de_int (fun _ _ => rfl))))) de_int (fun _ _ => rfl))))))
  (dss_one (t := p__law_line_2) (ds_retF (df_op od_catL (de_take (pv 2)) (de_fz (df_lst (da_cons de_non da_nil))))))))
theorem ups_head {b : List Row} {n : Int} {r : Row} (e : rowAt b n = some r) : ((b.filter fun r => decide (r.n = n)).map fun r => optD r.up)[0]? = some (optD r.up) := by
  rw [List.getElem?_map, ← List.head?_eq_getElem?, List.head?_filter]
  unfold rowAt at e
  rw [e]; rfl
theorem hsp__law_line : ∀ ds p Q W, ds.length = 2 → sp__law_line ds p Q W → b__law_line W0 (endsL Q) (startD n__law_line.length ds p) := by
  rintro _ p Q W - ⟨bd, b, o, l, hbd, rfl, hb, u, hl, q⟩
  simp only [dPen1, dLenSet, dSrtR, dRo, dRoF, dRoT, roD, ro_un, ro_dat, ro_own, ro_hp, ro_law, ro_ownK, ro_ownT, List.forall_mem_map, flat_int, flat_str, flat_bl, flat_non, dSeq, dNext, dSet, dSetF, setSl, dVar, dTake, dC, dBin, dBinF, dB, dIfS, dIf, dRet, dRetN, dExpr, dNil, dCons, dTup, dLst, dFz, dAnd, dOr, dNot, dAndV, dOrV, dNotV, dCallD, dCallK, dCB, dCBF, dFor, dLC, dYes, dRng1, dRng2, dSeqI, gN, gT, gsNil, gsCons, dAsg, dNeg, dJoin, dFs, dJs, dFmt, dApp, dExt, dPop, dPopAt, dOwnIx, dOwnCB, dOwnL, dOwnR, dOwnSl, dSetIx, dSlT, dSlL, oNone, oSome, dBorn, optQ, ownAt, setOwnAt, lookAt, wipeD, dNewDT, dNewDK, dDGet, dDIn, dDPut, dSortT, rSrt, isDict, Ev.dictGet, Ev.dictPut, Option.isSome_none, Option.isSome_some, D.keyT, keysOf, D.key, exists_eq_left', exists_eq_left, Option.isSome, rRepL, rCatL, dRetF, dIfF, dPar, dRetOwn, dCallL, dCallLK, dPen2, dRev, dRevI, dIndex, endsL, startL, dNever, dBrk, dCnt, rAddD, rSubI, rIO, rMulI, rDivI, rModI, rPowI, rCI, rIxD, rIsN, rNotN, D.isN, rLen, rTuple, rList, rAbs, rInt, rStr, Ev.rRepr, Ev.rIsi, D.ty, kit_tab, startD, endsD, List.map_cons, List.map_nil, List.length_cons, List.length_nil, List.append_nil, List.nil_append, List.cons_append, List.getElem?_cons_zero, List.getElem?_cons_succ, List.getElem?_nil, List.set_cons_zero, List.set_cons_succ, List.replicate, List.replicate_succ, Nat.zero_add, Nat.zero_le, sizeLine, true_and, and_true, if_true, Ev.eq_int, Ev.eq_str, Ev.eq_bl, Ev.eq_non, lst_nil, tup_nil, List.map_eq_nil_iff, txt_join, rLt, rLe, rGt, rGe, atI_ofNat, atI_last, wLC, strsOf, intsOf, blsOf, Option.map_some, Ev.join_two, Ev.join_one, Ev.join_nil, List.sum_cons, List.sum_nil, PySem.Str.empty_append, ixN_ofNat, Option.some.injEq, exists_eq', List.length_map, decide_true, decide_false, Bool.not_true, Bool.not_false, Bool.true_eq_false, Bool.false_eq_true, false_and, and_false, if_false, ite_true, ite_false, Nat.reduceAdd, Nat.reduceSub, Nat.reduceMul, Nat.reduceLT, Nat.reduceLeDiff, Nat.reduceEqDiff, Nat.reducePow, Int.reduceToNat, Int.reducePow, pickL, List.filterMap_cons, List.filterMap_nil, and_self, Int.reduceLT, Int.reduceLE, Int.reduceNeg, Int.reduceAdd, Int.reduceMul, Int.reduceSub, Int.reduceEq, reduceIte, reduceCtorEq, lit_eq, String.reduceEq, Ev.rEq, Ev.rNe, Ev.rInD, cut_toN, cut_fromN, List.map_take, List.forall_mem_cons, List.forall_mem_nil, List.not_mem_nil, false_imp_iff, implies_true, forall_const, D.cm, D.lay, D.lays, D.dep, D.deps, strOk_lit, lays_ints, deps_ints, Nat.max_self, Nat.max_zero, Nat.zero_max, Bool.and_self, Bool.true_and, Bool.and_true, Bool.and_false, Bool.false_and, Bool.or_false, Bool.or_true, Bool.true_or, Bool.false_or, List.any_cons, List.any_nil, decide_eq_true_eq, eq_self, n__law_line, b__law_line, b__law_line_0, p__law_line_0, b__law_line_1, p__law_line_1]
  refine ⟨fun m δ => ∃ (acc : List Int) (o : Option Int) (l2 : List Int), δ = ⟨[.dat bd, .dat (optD o), .own ((acc.map some).map optD), .un], p⟩ ∧ Up b o l2 ∧ acc ++ l2 = l ∧ m = l2.length, ⟨_, [], o, l, rfl, u, rfl, rfl⟩, ?_⟩
  rintro m _ ⟨acc, o, l2, rfl, u2, ha, rfl⟩
  cases u2 with
  | nil =>
    simp only [dPen1, dLenSet, dSrtR, dRo, dRoF, dRoT, roD, ro_un, ro_dat, ro_own, ro_hp, ro_law, ro_ownK, ro_ownT, List.forall_mem_map, flat_int, flat_str, flat_bl, flat_non, dSeq, dNext, dSet, dSetF, setSl, dVar, dTake, dC, dBin, dBinF, dB, dIfS, dIf, dRet, dRetN, dExpr, dNil, dCons, dTup, dLst, dFz, dAnd, dOr, dNot, dAndV, dOrV, dNotV, dCallD, dCallK, dCB, dCBF, dFor, dLC, dYes, dRng1, dRng2, dSeqI, gN, gT, gsNil, gsCons, dAsg, dNeg, dJoin, dFs, dJs, dFmt, dApp, dExt, dPop, dPopAt, dOwnIx, dOwnCB, dOwnL, dOwnR, dOwnSl, dSetIx, dSlT, dSlL, oNone, oSome, dBorn, optQ, ownAt, setOwnAt, lookAt, wipeD, dNewDT, dNewDK, dDGet, dDIn, dDPut, dSortT, rSrt, isDict, Ev.dictGet, Ev.dictPut, Option.isSome_none, Option.isSome_some, D.keyT, keysOf, D.key, exists_eq_left', exists_eq_left, Option.isSome, rRepL, rCatL, dRetF, dIfF, dPar, dRetOwn, dCallL, dCallLK, dPen2, dRev, dRevI, dIndex, endsL, startL, dNever, dBrk, dCnt, rAddD, rSubI, rIO, rMulI, rDivI, rModI, rPowI, rCI, rIxD, rIsN, rNotN, D.isN, rLen, rTuple, rList, rAbs, rInt, rStr, Ev.rRepr, Ev.rIsi, D.ty, kit_tab, startD, endsD, List.map_cons, List.map_nil, List.length_cons, List.length_nil, List.append_nil, List.nil_append, List.cons_append, List.getElem?_cons_zero, List.getElem?_cons_succ, List.getElem?_nil, List.set_cons_zero, List.set_cons_succ, List.replicate, List.replicate_succ, Nat.zero_add, Nat.zero_le, sizeLine, true_and, and_true, if_true, Ev.eq_int, Ev.eq_str, Ev.eq_bl, Ev.eq_non, lst_nil, tup_nil, List.map_eq_nil_iff, txt_join, rLt, rLe, rGt, rGe, atI_ofNat, atI_last, wLC, strsOf, intsOf, blsOf, Option.map_some, Ev.join_two, Ev.join_one, Ev.join_nil, List.sum_cons, List.sum_nil, PySem.Str.empty_append, ixN_ofNat, Option.some.injEq, exists_eq', List.length_map, decide_true, decide_false, Bool.not_true, Bool.not_false, Bool.true_eq_false, Bool.false_eq_true, false_and, and_false, if_false, ite_true, ite_false, Nat.reduceAdd, Nat.reduceSub, Nat.reduceMul, Nat.reduceLT, Nat.reduceLeDiff, Nat.reduceEqDiff, Nat.reducePow, Int.reduceToNat, Int.reducePow, pickL, List.filterMap_cons, List.filterMap_nil, and_self, Int.reduceLT, Int.reduceLE, Int.reduceNeg, Int.reduceAdd, Int.reduceMul, Int.reduceSub, Int.reduceEq, reduceIte, reduceCtorEq, lit_eq, String.reduceEq, Ev.rEq, Ev.rNe, Ev.rInD, cut_toN, cut_fromN, List.map_take, List.forall_mem_cons, List.forall_mem_nil, List.not_mem_nil, false_imp_iff, implies_true, forall_const, D.cm, D.lay, D.lays, D.dep, D.deps, strOk_lit, lays_ints, deps_ints, Nat.max_self, Nat.max_zero, Nat.zero_max, Bool.and_self, Bool.true_and, Bool.and_true, Bool.and_false, Bool.false_and, Bool.or_false, Bool.or_true, Bool.true_or, Bool.false_or, List.any_cons, List.any_nil, decide_eq_true_eq, eq_self, optD, b__law_line_2, b__law_line_2, p__law_line_2]
    rw [List.append_nil] at ha
    subst ha
    refine ⟨by omega, ?_⟩
    simpa [optD] using q
  | @cons n r l3 e u3 =>
    have hlen : acc.length + (l3.length + 1) = l.length := by rw [← ha, List.length_append, List.length_cons]
    simp only [dPen1, dLenSet, dSrtR, dRo, dRoF, dRoT, roD, ro_un, ro_dat, ro_own, ro_hp, ro_law, ro_ownK, ro_ownT, List.forall_mem_map, flat_int, flat_str, flat_bl, flat_non, dSeq, dNext, dSet, dSetF, setSl, dVar, dTake, dC, dBin, dBinF, dB, dIfS, dIf, dRet, dRetN, dExpr, dNil, dCons, dTup, dLst, dFz, dAnd, dOr, dNot, dAndV, dOrV, dNotV, dCallD, dCallK, dCB, dCBF, dFor, dLC, dYes, dRng1, dRng2, dSeqI, gN, gT, gsNil, gsCons, dAsg, dNeg, dJoin, dFs, dJs, dFmt, dApp, dExt, dPop, dPopAt, dOwnIx, dOwnCB, dOwnL, dOwnR, dOwnSl, dSetIx, dSlT, dSlL, oNone, oSome, dBorn, optQ, ownAt, setOwnAt, lookAt, wipeD, dNewDT, dNewDK, dDGet, dDIn, dDPut, dSortT, rSrt, isDict, Ev.dictGet, Ev.dictPut, Option.isSome_none, Option.isSome_some, D.keyT, keysOf, D.key, exists_eq_left', exists_eq_left, Option.isSome, rRepL, rCatL, dRetF, dIfF, dPar, dRetOwn, dCallL, dCallLK, dPen2, dRev, dRevI, dIndex, endsL, startL, dNever, dBrk, dCnt, rAddD, rSubI, rIO, rMulI, rDivI, rModI, rPowI, rCI, rIxD, rIsN, rNotN, D.isN, rLen, rTuple, rList, rAbs, rInt, rStr, Ev.rRepr, Ev.rIsi, D.ty, kit_tab, startD, endsD, List.map_cons, List.map_nil, List.length_cons, List.length_nil, List.append_nil, List.nil_append, List.cons_append, List.getElem?_cons_zero, List.getElem?_cons_succ, List.getElem?_nil, List.set_cons_zero, List.set_cons_succ, List.replicate, List.replicate_succ, Nat.zero_add, Nat.zero_le, sizeLine, true_and, and_true, if_true, Ev.eq_int, Ev.eq_str, Ev.eq_bl, Ev.eq_non, lst_nil, tup_nil, List.map_eq_nil_iff, txt_join, rLt, rLe, rGt, rGe, atI_ofNat, atI_last, wLC, strsOf, intsOf, blsOf, Option.map_some, Ev.join_two, Ev.join_one, Ev.join_nil, List.sum_cons, List.sum_nil, PySem.Str.empty_append, ixN_ofNat, Option.some.injEq, exists_eq', List.length_map, decide_true, decide_false, Bool.not_true, Bool.not_false, Bool.true_eq_false, Bool.false_eq_true, false_and, and_false, if_false, ite_true, ite_false, Nat.reduceAdd, Nat.reduceSub, Nat.reduceMul, Nat.reduceLT, Nat.reduceLeDiff, Nat.reduceEqDiff, Nat.reducePow, Int.reduceToNat, Int.reducePow, pickL, List.filterMap_cons, List.filterMap_nil, and_self, Int.reduceLT, Int.reduceLE, Int.reduceNeg, Int.reduceAdd, Int.reduceMul, Int.reduceSub, Int.reduceEq, reduceIte, reduceCtorEq, lit_eq, String.reduceEq, Ev.rEq, Ev.rNe, Ev.rInD, cut_toN, cut_fromN, List.map_take, List.forall_mem_cons, List.forall_mem_nil, List.not_mem_nil, false_imp_iff, implies_true, forall_const, D.cm, D.lay, D.lays, D.dep, D.deps, strOk_lit, lays_ints, deps_ints, Nat.max_self, Nat.max_zero, Nat.zero_max, Bool.and_self, Bool.true_and, Bool.and_true, Bool.and_false, Bool.false_and, Bool.or_false, Bool.or_true, Bool.true_or, Bool.false_or, List.any_cons, List.any_nil, decide_eq_true_eq, eq_self, optD, b__law_line_x2_0, b__law_line_x2_1, b__law_line_x2_0, p__law_line_x2_0, b__law_line_x2_1, p__law_line_x2_1]
    refine ⟨by omega, ?_⟩
    have fin : ∀ G : List D → DS → Prop, G ((b.filter fun r => decide (r.n = n)).map fun r => optD r.up) ⟨[.dat bd, .dat (.int n), .own ((acc.map some).map optD ++ [D.int n]), .un], p⟩ → wLC (gN 3) (dB (dBin rEq (dBin rIxD (dVar 3) (dC (.int 0))) (dVar 1))) (dBin rIxD (dVar 3) (dC (.int 1))) [3] G (b.map rowD) [] ⟨[.dat bd, .dat (.int n), .own ((acc.map some).map optD ++ [D.int n]), .un], p⟩ := fun G h => by
      refine wLC_filt (l := b) (ι := rowD) (f := fun r => optD r.up) (t := fun r => decide (r.n = n)) (fun r hr acc k hz g1 g2 => ?_) (by rw [sizeLine_eq]; omega) h
      by_cases c : r.n = n
      · simp only [dPen1, dLenSet, dSrtR, dRo, dRoF, dRoT, roD, ro_un, ro_dat, ro_own, ro_hp, ro_law, ro_ownK, ro_ownT, List.forall_mem_map, flat_int, flat_str, flat_bl, flat_non, dSeq, dNext, dSet, dSetF, setSl, dVar, dTake, dC, dBin, dBinF, dB, dIfS, dIf, dRet, dRetN, dExpr, dNil, dCons, dTup, dLst, dFz, dAnd, dOr, dNot, dAndV, dOrV, dNotV, dCallD, dCallK, dCB, dCBF, dFor, dLC, dYes, dRng1, dRng2, dSeqI, gN, gT, gsNil, gsCons, dAsg, dNeg, dJoin, dFs, dJs, dFmt, dApp, dExt, dPop, dPopAt, dOwnIx, dOwnCB, dOwnL, dOwnR, dOwnSl, dSetIx, dSlT, dSlL, oNone, oSome, dBorn, optQ, ownAt, setOwnAt, lookAt, wipeD, dNewDT, dNewDK, dDGet, dDIn, dDPut, dSortT, rSrt, isDict, Ev.dictGet, Ev.dictPut, Option.isSome_none, Option.isSome_some, D.keyT, keysOf, D.key, exists_eq_left', exists_eq_left, Option.isSome, rRepL, rCatL, dRetF, dIfF, dPar, dRetOwn, dCallL, dCallLK, dPen2, dRev, dRevI, dIndex, endsL, startL, dNever, dBrk, dCnt, rAddD, rSubI, rIO, rMulI, rDivI, rModI, rPowI, rCI, rIxD, rIsN, rNotN, D.isN, rLen, rTuple, rList, rAbs, rInt, rStr, Ev.rRepr, Ev.rIsi, D.ty, kit_tab, startD, endsD, List.map_cons, List.map_nil, List.length_cons, List.length_nil, List.append_nil, List.nil_append, List.cons_append, List.getElem?_cons_zero, List.getElem?_cons_succ, List.getElem?_nil, List.set_cons_zero, List.set_cons_succ, List.replicate, List.replicate_succ, Nat.zero_add, Nat.zero_le, sizeLine, true_and, and_true, if_true, Ev.eq_int, Ev.eq_str, Ev.eq_bl, Ev.eq_non, lst_nil, tup_nil, List.map_eq_nil_iff, txt_join, rLt, rLe, rGt, rGe, atI_ofNat, atI_last, wLC, strsOf, intsOf, blsOf, Option.map_some, Ev.join_two, Ev.join_one, Ev.join_nil, List.sum_cons, List.sum_nil, PySem.Str.empty_append, ixN_ofNat, Option.some.injEq, exists_eq', List.length_map, decide_true, decide_false, Bool.not_true, Bool.not_false, Bool.true_eq_false, Bool.false_eq_true, false_and, and_false, if_false, ite_true, ite_false, Nat.reduceAdd, Nat.reduceSub, Nat.reduceMul, Nat.reduceLT, Nat.reduceLeDiff, Nat.reduceEqDiff, Nat.reducePow, Int.reduceToNat, Int.reducePow, pickL, List.filterMap_cons, List.filterMap_nil, and_self, Int.reduceLT, Int.reduceLE, Int.reduceNeg, Int.reduceAdd, Int.reduceMul, Int.reduceSub, Int.reduceEq, reduceIte, reduceCtorEq, lit_eq, String.reduceEq, Ev.rEq, Ev.rNe, Ev.rInD, cut_toN, cut_fromN, List.map_take, List.forall_mem_cons, List.forall_mem_nil, List.not_mem_nil, false_imp_iff, implies_true, forall_const, D.cm, D.lay, D.lays, D.dep, D.deps, strOk_lit, lays_ints, deps_ints, Nat.max_self, Nat.max_zero, Nat.zero_max, Bool.and_self, Bool.true_and, Bool.and_true, Bool.and_false, Bool.false_and, Bool.or_false, Bool.or_true, Bool.true_or, Bool.false_or, List.any_cons, List.any_nil, decide_eq_true_eq, eq_self, rowD, c]
        exact ⟨hz, g1 (by simp [c])⟩
      · simp only [dPen1, dLenSet, dSrtR, dRo, dRoF, dRoT, roD, ro_un, ro_dat, ro_own, ro_hp, ro_law, ro_ownK, ro_ownT, List.forall_mem_map, flat_int, flat_str, flat_bl, flat_non, dSeq, dNext, dSet, dSetF, setSl, dVar, dTake, dC, dBin, dBinF, dB, dIfS, dIf, dRet, dRetN, dExpr, dNil, dCons, dTup, dLst, dFz, dAnd, dOr, dNot, dAndV, dOrV, dNotV, dCallD, dCallK, dCB, dCBF, dFor, dLC, dYes, dRng1, dRng2, dSeqI, gN, gT, gsNil, gsCons, dAsg, dNeg, dJoin, dFs, dJs, dFmt, dApp, dExt, dPop, dPopAt, dOwnIx, dOwnCB, dOwnL, dOwnR, dOwnSl, dSetIx, dSlT, dSlL, oNone, oSome, dBorn, optQ, ownAt, setOwnAt, lookAt, wipeD, dNewDT, dNewDK, dDGet, dDIn, dDPut, dSortT, rSrt, isDict, Ev.dictGet, Ev.dictPut, Option.isSome_none, Option.isSome_some, D.keyT, keysOf, D.key, exists_eq_left', exists_eq_left, Option.isSome, rRepL, rCatL, dRetF, dIfF, dPar, dRetOwn, dCallL, dCallLK, dPen2, dRev, dRevI, dIndex, endsL, startL, dNever, dBrk, dCnt, rAddD, rSubI, rIO, rMulI, rDivI, rModI, rPowI, rCI, rIxD, rIsN, rNotN, D.isN, rLen, rTuple, rList, rAbs, rInt, rStr, Ev.rRepr, Ev.rIsi, D.ty, kit_tab, startD, endsD, List.map_cons, List.map_nil, List.length_cons, List.length_nil, List.append_nil, List.nil_append, List.cons_append, List.getElem?_cons_zero, List.getElem?_cons_succ, List.getElem?_nil, List.set_cons_zero, List.set_cons_succ, List.replicate, List.replicate_succ, Nat.zero_add, Nat.zero_le, sizeLine, true_and, and_true, if_true, Ev.eq_int, Ev.eq_str, Ev.eq_bl, Ev.eq_non, lst_nil, tup_nil, List.map_eq_nil_iff, txt_join, rLt, rLe, rGt, rGe, atI_ofNat, atI_last, wLC, strsOf, intsOf, blsOf, Option.map_some, Ev.join_two, Ev.join_one, Ev.join_nil, List.sum_cons, List.sum_nil, PySem.Str.empty_append, ixN_ofNat, Option.some.injEq, exists_eq', List.length_map, decide_true, decide_false, Bool.not_true, Bool.not_false, Bool.true_eq_false, Bool.false_eq_true, false_and, and_false, if_false, ite_true, ite_false, Nat.reduceAdd, Nat.reduceSub, Nat.reduceMul, Nat.reduceLT, Nat.reduceLeDiff, Nat.reduceEqDiff, Nat.reducePow, Int.reduceToNat, Int.reducePow, pickL, List.filterMap_cons, List.filterMap_nil, and_self, Int.reduceLT, Int.reduceLE, Int.reduceNeg, Int.reduceAdd, Int.reduceMul, Int.reduceSub, Int.reduceEq, reduceIte, reduceCtorEq, lit_eq, String.reduceEq, Ev.rEq, Ev.rNe, Ev.rInD, cut_toN, cut_fromN, List.map_take, List.forall_mem_cons, List.forall_mem_nil, List.not_mem_nil, false_imp_iff, implies_true, forall_const, D.cm, D.lay, D.lays, D.dep, D.deps, strOk_lit, lays_ints, deps_ints, Nat.max_self, Nat.max_zero, Nat.zero_max, Bool.and_self, Bool.true_and, Bool.and_true, Bool.and_false, Bool.false_and, Bool.or_false, Bool.or_true, Bool.true_or, Bool.false_or, List.any_cons, List.any_nil, decide_eq_true_eq, eq_self, rowD, c]
        exact g2 (by simp [c])
    have fin2 : ∃ m', m' < l3.length + 1 ∧ ∃ (acc2 : List Int) (o : Option Int) (l2 : List Int), DS.mk [.dat bd, .dat (optD r.up), .own ((acc.map some).map optD ++ [D.int n]), .un] p = ⟨[.dat bd, .dat (optD o), .own ((acc2.map some).map optD), .un], p⟩ ∧ Up b o l2 ∧ acc2 ++ l2 = l ∧ m' = l2.length :=
      ⟨l3.length, by omega, acc ++ [n], r.up, l3, by simp [optD], u3, by simpa using ha, rfl⟩
    rcases hbd with rfl | rfl
    · simp only [dPen1, dLenSet, dSrtR, dRo, dRoF, dRoT, roD, ro_un, ro_dat, ro_own, ro_hp, ro_law, ro_ownK, ro_ownT, List.forall_mem_map, flat_int, flat_str, flat_bl, flat_non, dSeq, dNext, dSet, dSetF, setSl, dVar, dTake, dC, dBin, dBinF, dB, dIfS, dIf, dRet, dRetN, dExpr, dNil, dCons, dTup, dLst, dFz, dAnd, dOr, dNot, dAndV, dOrV, dNotV, dCallD, dCallK, dCB, dCBF, dFor, dLC, dYes, dRng1, dRng2, dSeqI, gN, gT, gsNil, gsCons, dAsg, dNeg, dJoin, dFs, dJs, dFmt, dApp, dExt, dPop, dPopAt, dOwnIx, dOwnCB, dOwnL, dOwnR, dOwnSl, dSetIx, dSlT, dSlL, oNone, oSome, dBorn, optQ, ownAt, setOwnAt, lookAt, wipeD, dNewDT, dNewDK, dDGet, dDIn, dDPut, dSortT, rSrt, isDict, Ev.dictGet, Ev.dictPut, Option.isSome_none, Option.isSome_some, D.keyT, keysOf, D.key, exists_eq_left', exists_eq_left, Option.isSome, rRepL, rCatL, dRetF, dIfF, dPar, dRetOwn, dCallL, dCallLK, dPen2, dRev, dRevI, dIndex, endsL, startL, dNever, dBrk, dCnt, rAddD, rSubI, rIO, rMulI, rDivI, rModI, rPowI, rCI, rIxD, rIsN, rNotN, D.isN, rLen, rTuple, rList, rAbs, rInt, rStr, Ev.rRepr, Ev.rIsi, D.ty, kit_tab, startD, endsD, List.map_cons, List.map_nil, List.length_cons, List.length_nil, List.append_nil, List.nil_append, List.cons_append, List.getElem?_cons_zero, List.getElem?_cons_succ, List.getElem?_nil, List.set_cons_zero, List.set_cons_succ, List.replicate, List.replicate_succ, Nat.zero_add, Nat.zero_le, sizeLine, true_and, and_true, if_true, Ev.eq_int, Ev.eq_str, Ev.eq_bl, Ev.eq_non, lst_nil, tup_nil, List.map_eq_nil_iff, txt_join, rLt, rLe, rGt, rGe, atI_ofNat, atI_last, wLC, strsOf, intsOf, blsOf, Option.map_some, Ev.join_two, Ev.join_one, Ev.join_nil, List.sum_cons, List.sum_nil, PySem.Str.empty_append, ixN_ofNat, Option.some.injEq, exists_eq', List.length_map, decide_true, decide_false, Bool.not_true, Bool.not_false, Bool.true_eq_false, Bool.false_eq_true, false_and, and_false, if_false, ite_true, ite_false, Nat.reduceAdd, Nat.reduceSub, Nat.reduceMul, Nat.reduceLT, Nat.reduceLeDiff, Nat.reduceEqDiff, Nat.reducePow, Int.reduceToNat, Int.reducePow, pickL, List.filterMap_cons, List.filterMap_nil, and_self, Int.reduceLT, Int.reduceLE, Int.reduceNeg, Int.reduceAdd, Int.reduceMul, Int.reduceSub, Int.reduceEq, reduceIte, reduceCtorEq, lit_eq, String.reduceEq, Ev.rEq, Ev.rNe, Ev.rInD, cut_toN, cut_fromN, List.map_take, List.forall_mem_cons, List.forall_mem_nil, List.not_mem_nil, false_imp_iff, implies_true, forall_const, D.cm, D.lay, D.lays, D.dep, D.deps, strOk_lit, lays_ints, deps_ints, Nat.max_self, Nat.max_zero, Nat.zero_max, Bool.and_self, Bool.true_and, Bool.and_true, Bool.and_false, Bool.false_and, Bool.or_false, Bool.or_true, Bool.true_or, Bool.false_or, List.any_cons, List.any_nil, decide_eq_true_eq, eq_self]
      refine fin _ ?_
      simp only [dPen1, dLenSet, dSrtR, dRo, dRoF, dRoT, roD, ro_un, ro_dat, ro_own, ro_hp, ro_law, ro_ownK, ro_ownT, List.forall_mem_map, flat_int, flat_str, flat_bl, flat_non, dSeq, dNext, dSet, dSetF, setSl, dVar, dTake, dC, dBin, dBinF, dB, dIfS, dIf, dRet, dRetN, dExpr, dNil, dCons, dTup, dLst, dFz, dAnd, dOr, dNot, dAndV, dOrV, dNotV, dCallD, dCallK, dCB, dCBF, dFor, dLC, dYes, dRng1, dRng2, dSeqI, gN, gT, gsNil, gsCons, dAsg, dNeg, dJoin, dFs, dJs, dFmt, dApp, dExt, dPop, dPopAt, dOwnIx, dOwnCB, dOwnL, dOwnR, dOwnSl, dSetIx, dSlT, dSlL, oNone, oSome, dBorn, optQ, ownAt, setOwnAt, lookAt, wipeD, dNewDT, dNewDK, dDGet, dDIn, dDPut, dSortT, rSrt, isDict, Ev.dictGet, Ev.dictPut, Option.isSome_none, Option.isSome_some, D.keyT, keysOf, D.key, exists_eq_left', exists_eq_left, Option.isSome, rRepL, rCatL, dRetF, dIfF, dPar, dRetOwn, dCallL, dCallLK, dPen2, dRev, dRevI, dIndex, endsL, startL, dNever, dBrk, dCnt, rAddD, rSubI, rIO, rMulI, rDivI, rModI, rPowI, rCI, rIxD, rIsN, rNotN, D.isN, rLen, rTuple, rList, rAbs, rInt, rStr, Ev.rRepr, Ev.rIsi, D.ty, kit_tab, startD, endsD, List.map_cons, List.map_nil, List.length_cons, List.length_nil, List.append_nil, List.nil_append, List.cons_append, List.getElem?_cons_zero, List.getElem?_cons_succ, List.getElem?_nil, List.set_cons_zero, List.set_cons_succ, List.replicate, List.replicate_succ, Nat.zero_add, Nat.zero_le, sizeLine, true_and, and_true, if_true, Ev.eq_int, Ev.eq_str, Ev.eq_bl, Ev.eq_non, lst_nil, tup_nil, List.map_eq_nil_iff, txt_join, rLt, rLe, rGt, rGe, atI_ofNat, atI_last, wLC, strsOf, intsOf, blsOf, Option.map_some, Ev.join_two, Ev.join_one, Ev.join_nil, List.sum_cons, List.sum_nil, PySem.Str.empty_append, ixN_ofNat, Option.some.injEq, exists_eq', List.length_map, decide_true, decide_false, Bool.not_true, Bool.not_false, Bool.true_eq_false, Bool.false_eq_true, false_and, and_false, if_false, ite_true, ite_false, Nat.reduceAdd, Nat.reduceSub, Nat.reduceMul, Nat.reduceLT, Nat.reduceLeDiff, Nat.reduceEqDiff, Nat.reducePow, Int.reduceToNat, Int.reducePow, pickL, List.filterMap_cons, List.filterMap_nil, and_self, Int.reduceLT, Int.reduceLE, Int.reduceNeg, Int.reduceAdd, Int.reduceMul, Int.reduceSub, Int.reduceEq, reduceIte, reduceCtorEq, lit_eq, String.reduceEq, Ev.rEq, Ev.rNe, Ev.rInD, cut_toN, cut_fromN, List.map_take, List.forall_mem_cons, List.forall_mem_nil, List.not_mem_nil, false_imp_iff, implies_true, forall_const, D.cm, D.lay, D.lays, D.dep, D.deps, strOk_lit, lays_ints, deps_ints, Nat.max_self, Nat.max_zero, Nat.zero_max, Bool.and_self, Bool.true_and, Bool.and_true, Bool.and_false, Bool.false_and, Bool.or_false, Bool.or_true, Bool.true_or, Bool.false_or, List.any_cons, List.any_nil, decide_eq_true_eq, eq_self, ups_head e]
      exact fin2
    · simp only [dPen1, dLenSet, dSrtR, dRo, dRoF, dRoT, roD, ro_un, ro_dat, ro_own, ro_hp, ro_law, ro_ownK, ro_ownT, List.forall_mem_map, flat_int, flat_str, flat_bl, flat_non, dSeq, dNext, dSet, dSetF, setSl, dVar, dTake, dC, dBin, dBinF, dB, dIfS, dIf, dRet, dRetN, dExpr, dNil, dCons, dTup, dLst, dFz, dAnd, dOr, dNot, dAndV, dOrV, dNotV, dCallD, dCallK, dCB, dCBF, dFor, dLC, dYes, dRng1, dRng2, dSeqI, gN, gT, gsNil, gsCons, dAsg, dNeg, dJoin, dFs, dJs, dFmt, dApp, dExt, dPop, dPopAt, dOwnIx, dOwnCB, dOwnL, dOwnR, dOwnSl, dSetIx, dSlT, dSlL, oNone, oSome, dBorn, optQ, ownAt, setOwnAt, lookAt, wipeD, dNewDT, dNewDK, dDGet, dDIn, dDPut, dSortT, rSrt, isDict, Ev.dictGet, Ev.dictPut, Option.isSome_none, Option.isSome_some, D.keyT, keysOf, D.key, exists_eq_left', exists_eq_left, Option.isSome, rRepL, rCatL, dRetF, dIfF, dPar, dRetOwn, dCallL, dCallLK, dPen2, dRev, dRevI, dIndex, endsL, startL, dNever, dBrk, dCnt, rAddD, rSubI, rIO, rMulI, rDivI, rModI, rPowI, rCI, rIxD, rIsN, rNotN, D.isN, rLen, rTuple, rList, rAbs, rInt, rStr, Ev.rRepr, Ev.rIsi, D.ty, kit_tab, startD, endsD, List.map_cons, List.map_nil, List.length_cons, List.length_nil, List.append_nil, List.nil_append, List.cons_append, List.getElem?_cons_zero, List.getElem?_cons_succ, List.getElem?_nil, List.set_cons_zero, List.set_cons_succ, List.replicate, List.replicate_succ, Nat.zero_add, Nat.zero_le, sizeLine, true_and, and_true, if_true, Ev.eq_int, Ev.eq_str, Ev.eq_bl, Ev.eq_non, lst_nil, tup_nil, List.map_eq_nil_iff, txt_join, rLt, rLe, rGt, rGe, atI_ofNat, atI_last, wLC, strsOf, intsOf, blsOf, Option.map_some, Ev.join_two, Ev.join_one, Ev.join_nil, List.sum_cons, List.sum_nil, PySem.Str.empty_append, ixN_ofNat, Option.some.injEq, exists_eq', List.length_map, decide_true, decide_false, Bool.not_true, Bool.not_false, Bool.true_eq_false, Bool.false_eq_true, false_and, and_false, if_false, ite_true, ite_false, Nat.reduceAdd, Nat.reduceSub, Nat.reduceMul, Nat.reduceLT, Nat.reduceLeDiff, Nat.reduceEqDiff, Nat.reducePow, Int.reduceToNat, Int.reducePow, pickL, List.filterMap_cons, List.filterMap_nil, and_self, Int.reduceLT, Int.reduceLE, Int.reduceNeg, Int.reduceAdd, Int.reduceMul, Int.reduceSub, Int.reduceEq, reduceIte, reduceCtorEq, lit_eq, String.reduceEq, Ev.rEq, Ev.rNe, Ev.rInD, cut_toN, cut_fromN, List.map_take, List.forall_mem_cons, List.forall_mem_nil, List.not_mem_nil, false_imp_iff, implies_true, forall_const, D.cm, D.lay, D.lays, D.dep, D.deps, strOk_lit, lays_ints, deps_ints, Nat.max_self, Nat.max_zero, Nat.zero_max, Bool.and_self, Bool.true_and, Bool.and_true, Bool.and_false, Bool.false_and, Bool.or_false, Bool.or_true, Bool.true_or, Bool.false_or, List.any_cons, List.any_nil, decide_eq_true_eq, eq_self]
      refine fin _ ?_
      simp only [dPen1, dLenSet, dSrtR, dRo, dRoF, dRoT, roD, ro_un, ro_dat, ro_own, ro_hp, ro_law, ro_ownK, ro_ownT, List.forall_mem_map, flat_int, flat_str, flat_bl, flat_non, dSeq, dNext, dSet, dSetF, setSl, dVar, dTake, dC, dBin, dBinF, dB, dIfS, dIf, dRet, dRetN, dExpr, dNil, dCons, dTup, dLst, dFz, dAnd, dOr, dNot, dAndV, dOrV, dNotV, dCallD, dCallK, dCB, dCBF, dFor, dLC, dYes, dRng1, dRng2, dSeqI, gN, gT, gsNil, gsCons, dAsg, dNeg, dJoin, dFs, dJs, dFmt, dApp, dExt, dPop, dPopAt, dOwnIx, dOwnCB, dOwnL, dOwnR, dOwnSl, dSetIx, dSlT, dSlL, oNone, oSome, dBorn, optQ, ownAt, setOwnAt, lookAt, wipeD, dNewDT, dNewDK, dDGet, dDIn, dDPut, dSortT, rSrt, isDict, Ev.dictGet, Ev.dictPut, Option.isSome_none, Option.isSome_some, D.keyT, keysOf, D.key, exists_eq_left', exists_eq_left, Option.isSome, rRepL, rCatL, dRetF, dIfF, dPar, dRetOwn, dCallL, dCallLK, dPen2, dRev, dRevI, dIndex, endsL, startL, dNever, dBrk, dCnt, rAddD, rSubI, rIO, rMulI, rDivI, rModI, rPowI, rCI, rIxD, rIsN, rNotN, D.isN, rLen, rTuple, rList, rAbs, rInt, rStr, Ev.rRepr, Ev.rIsi, D.ty, kit_tab, startD, endsD, List.map_cons, List.map_nil, List.length_cons, List.length_nil, List.append_nil, List.nil_append, List.cons_append, List.getElem?_cons_zero, List.getElem?_cons_succ, List.getElem?_nil, List.set_cons_zero, List.set_cons_succ, List.replicate, List.replicate_succ, Nat.zero_add, Nat.zero_le, sizeLine, true_and, and_true, if_true, Ev.eq_int, Ev.eq_str, Ev.eq_bl, Ev.eq_non, lst_nil, tup_nil, List.map_eq_nil_iff, txt_join, rLt, rLe, rGt, rGe, atI_ofNat, atI_last, wLC, strsOf, intsOf, blsOf, Option.map_some, Ev.join_two, Ev.join_one, Ev.join_nil, List.sum_cons, List.sum_nil, PySem.Str.empty_append, ixN_ofNat, Option.some.injEq, exists_eq', List.length_map, decide_true, decide_false, Bool.not_true, Bool.not_false, Bool.true_eq_false, Bool.false_eq_true, false_and, and_false, if_false, ite_true, ite_false, Nat.reduceAdd, Nat.reduceSub, Nat.reduceMul, Nat.reduceLT, Nat.reduceLeDiff, Nat.reduceEqDiff, Nat.reducePow, Int.reduceToNat, Int.reducePow, pickL, List.filterMap_cons, List.filterMap_nil, and_self, Int.reduceLT, Int.reduceLE, Int.reduceNeg, Int.reduceAdd, Int.reduceMul, Int.reduceSub, Int.reduceEq, reduceIte, reduceCtorEq, lit_eq, String.reduceEq, Ev.rEq, Ev.rNe, Ev.rInD, cut_toN, cut_fromN, List.map_take, List.forall_mem_cons, List.forall_mem_nil, List.not_mem_nil, false_imp_iff, implies_true, forall_const, D.cm, D.lay, D.lays, D.dep, D.deps, strOk_lit, lays_ints, deps_ints, Nat.max_self, Nat.max_zero, Nat.zero_max, Bool.and_self, Bool.true_and, Bool.and_true, Bool.and_false, Bool.false_and, Bool.or_false, Bool.or_true, Bool.true_or, Bool.false_or, List.any_cons, List.any_nil, decide_eq_true_eq, eq_self, ups_head e]
      exact fin2
theorem ok__law_line {P : Program} {w : World} {K : PySem.W.Frag} {mg : Str → Option Value} {base : Heap} {f : Addr} {fd : FuncData} (F : Fun K "_law_line" "_law_line" s__law_line f fd) : FnG P w K mg base CX0 1 f fd ["_law_rows_so", "_law_here"] (spDL K 2 sp__law_line) :=
 fn_dL F sc__law_line rfl (fun cdv A out s H E g r => run__law_line  cdv A out s H E g r) hsp__law_line
/-! ### the walk down from the root -/
theorem nodup_len : ∀ {l m : List Int}, l.Nodup → (∀ x ∈ l, x ∈ m) → l.length ≤ m.length
  | [], _, _, _ => Nat.zero_le _
  | a :: l, m, h, g => by
    have h2 := List.nodup_cons.mp h
    have ha := g a List.mem_cons_self
    have := nodup_len (l := l) (m := m.erase a) h2.2 fun x hx => (List.mem_erase_of_ne (fun e : x = a => h2.1 (e ▸ hx))).mpr (g x (List.mem_cons_of_mem _ hx))
    rw [List.length_erase_of_mem ha] at this
    have := List.length_pos_of_mem ha
    rw [List.length_cons]
    omega
structure Walk (R found : List Row) (wt : List Int) : Prop where
  mem : ∀ r ∈ found, r ∈ R
  nd : (found.map (·.n) ++ wt).Nodup
  z : (0 : Int) ∈ found.map (·.n) ++ wt
  wait : ∀ n ∈ wt, ∃ r ∈ R, r.n = n ∧ (r.up = none ∨ ∃ e ∈ found, r.up = some e.n)
  up : ∀ (i : Nat) (h : i < found.length), found[i].up = none ∨ ∃ (j : Nat) (h2 : j < found.length), j < i ∧ found[i].up = some found[j].n
def kidsOf (R : List Row) (n : Int) : List Int := (R.filter fun r => decide (r.up = some n)).map (·.n)
theorem row_one {R : List Row} (nd : (R.map (·.n)).Nodup) {r s : Row} (hr : r ∈ R) (hs : s ∈ R) (e : r.n = s.n) : r = s := by
  obtain ⟨i, hi, rfl⟩ := List.getElem_of_mem hr
  obtain ⟨j, hj, rfl⟩ := List.getElem_of_mem hs
  have a := rowAt_get nd hi
  have b := rowAt_get nd hj
  rw [e, b] at a
  exact (Option.some.inj a).symm
theorem Walk.len {R found : List Row} {wt : List Int} (w : Walk R found wt) : found.length + wt.length ≤ R.length := by
  have := nodup_len (m := R.map (·.n)) w.nd fun x hx => by
    rcases List.mem_append.mp hx with hx | hx
    · obtain ⟨r, hr, rfl⟩ := List.mem_map.mp hx
      exact List.mem_map.mpr ⟨r, w.mem r hr, rfl⟩
    · obtain ⟨r, hr, e, _⟩ := w.wait x hx
      exact List.mem_map.mpr ⟨r, hr, e⟩
  simpa using this
theorem Walk.wf {R found : List Row} {wt : List Int} (w : Walk R found wt) (ok : ∀ r ∈ R, rowOk r) (hl : R.length ≤ 10) : Wf found where
  nd := (List.nodup_append.mp w.nd).1
  up := w.up
  ok := fun r hr => ok r (w.mem r hr)
  len := by have := w.len; omega
theorem Walk.step {R found : List Row} {wt : List Int} {n : Int} {r : Row} (w : Walk R found (wt ++ [n])) (nd : (R.map (·.n)).Nodup) (e : rowAt R n = some r) :
    Walk R (found ++ [r]) (wt ++ (kidsOf R n).reverse) := by
  have hr := rowAt_mem e
  obtain ⟨nf, nw, dj⟩ := List.nodup_append.mp w.nd
  obtain ⟨nw1, _, dj2⟩ := List.nodup_append.mp nw
  have n_found : n ∉ found.map (·.n) := fun h => dj n h n (by simp) rfl
  have n_wt : n ∉ wt := fun h => dj2 n h n (by simp) rfl
  have up_r : r.up = none ∨ ∃ e ∈ found, r.up = some e.n := by
    obtain ⟨s, hs, e1, e2⟩ := w.wait n (by simp)
    have : s = r := row_one nd hs hr.1 (by rw [e1, hr.2])
    subst this
    exact e2
  have not_n : ∀ s ∈ R, (s.up = none ∨ ∃ e ∈ found, s.up = some e.n) → s.up ≠ some n := fun s hs h c => by
    rcases h with h | ⟨e, he, h⟩
    · rw [h] at c; cases c
    · rw [h] at c
      exact n_found (List.mem_map.mpr ⟨e, he, Option.some.inj c⟩)
  have kid : ∀ x ∈ kidsOf R n, ∃ s ∈ R, s.n = x ∧ s.up = some n := fun x hx => by
    obtain ⟨s, hs, rfl⟩ := List.mem_map.mp hx
    have := List.mem_filter.mp hs
    exact ⟨s, this.1, rfl, by simpa using this.2⟩
  have kid_found : ∀ x ∈ kidsOf R n, x ∉ found.map (·.n) := fun x hx h => by
    obtain ⟨s, hs, rfl, h2⟩ := kid x hx
    obtain ⟨f, hf, e1⟩ := List.mem_map.mp h
    have : f = s := row_one nd (w.mem f hf) hs e1
    subst this
    obtain ⟨i, hi, rfl⟩ := List.getElem_of_mem hf
    refine not_n _ hs ?_ h2
    rcases w.up i hi with h | ⟨j, hj, _, h⟩
    · exact .inl h
    · exact .inr ⟨_, List.getElem_mem hj, h⟩
  have kid_wt : ∀ x ∈ kidsOf R n, x ∉ wt ++ [n] := fun x hx h => by
    obtain ⟨s, hs, rfl, h2⟩ := kid x hx
    obtain ⟨f, hf, e1, e2⟩ := w.wait _ h
    have : f = s := row_one nd hf hs e1
    subst this
    exact not_n _ hs e2 h2
  refine ⟨fun s hs => ?_, ?_, ?_, fun x hx => ?_, fun i hi => ?_⟩
  · rcases List.mem_append.mp hs with hs | hs
    · exact w.mem s hs
    · rw [List.mem_singleton] at hs; subst hs; exact hr.1
  · rw [List.map_append, List.append_assoc]
    refine List.nodup_append.mpr ⟨nf, ?_, ?_⟩
    · rw [List.map_cons, List.map_nil, hr.2, List.singleton_append]
      refine List.nodup_cons.mpr ⟨?_, List.nodup_append.mpr ⟨nw1, ?_, ?_⟩⟩
      · intro h
        rcases List.mem_append.mp h with h | h
        · exact n_wt h
        · exact kid_wt n (List.mem_reverse.mp h) (by simp)
      · exact List.pairwise_reverse.mpr ((List.Pairwise.sublist (List.Sublist.map _ List.filter_sublist) nd).imp fun h => Ne.symm h)
      · rintro x hx _ hy rfl
        exact kid_wt x (List.mem_reverse.mp hy) (List.mem_append_left _ hx)
    · rintro x hx _ hy rfl
      rcases List.mem_append.mp hy with hy | hy
      · rw [List.map_cons, List.map_nil, hr.2, List.mem_singleton] at hy
        subst hy
        exact n_found hx
      rcases List.mem_append.mp hy with hy | hy
      · exact dj x hx x (List.mem_append_left _ hy) rfl
      · exact kid_found x (List.mem_reverse.mp hy) hx
  · have := w.z
    simp only [List.map_append, List.map_cons, List.map_nil, hr.2, List.mem_append, List.mem_singleton] at this ⊢
    rcases this with h | h | h
    · exact .inl (.inl h)
    · exact .inr (.inl h)
    · exact .inl (.inr h)
  · rcases List.mem_append.mp hx with hx | hx
    · obtain ⟨s, hs, e1, e2⟩ := w.wait x (List.mem_append_left _ hx)
      refine ⟨s, hs, e1, ?_⟩
      rcases e2 with e2 | ⟨f, hf, e2⟩
      · exact .inl e2
      · exact .inr ⟨f, List.mem_append_left _ hf, e2⟩
    · obtain ⟨s, hs, e1, e2⟩ := kid x (List.mem_reverse.mp hx)
      exact ⟨s, hs, e1, .inr ⟨r, by simp, by rw [e2, hr.2]⟩⟩
  · by_cases hi2 : i < found.length
    · rw [List.getElem_append_left hi2]
      rcases w.up i hi2 with h | ⟨j, hj, hij, h⟩
      · exact .inl h
      · exact .inr ⟨j, by rw [List.length_append]; omega, hij, by rw [List.getElem_append_left hj]; exact h⟩
    · have : i = found.length := by rw [List.length_append, List.length_singleton] at hi; omega
      subst this
      rw [List.getElem_append_right (by omega)]
      simp only [Nat.sub_self, List.getElem_cons_zero]
      rcases up_r with h | ⟨f, hf, h⟩
      · exact .inl h
      · obtain ⟨j, hj, rfl⟩ := List.getElem_of_mem hf
        exact .inr ⟨j, by rw [List.length_append]; omega, hj, by rw [List.getElem_append_left hj]; exact h⟩
/-- the rows as they are made -/
structure Made (R : List Row) : Prop where
  ok : ∀ r ∈ R, rowOk r
  nd : (R.map (·.n)).Nodup
  len : R.length ≤ 10
  root : ∃ r, rowAt R 0 = some r ∧ r.up = none
  one : ∀ r ∈ R, r.up = none → r.n = 0
/-- a book of one root -/
structure Bk (b : List Row) : Prop where
  wf : Wf b
  one : ∀ r ∈ b, r.up = none → r.n = 0
  root : 0 ∈ b.map (·.n)
def sp__law_in_order : dSp := fun ds p Q _ => ∃ R : List Row, ds = [.lst (R.map rowD)] ∧ Made R ∧ ∀ b, Bk b → Q (bookD b) p
abbrev s__law_in_order : Stmt := topS 24
abbrev n__law_in_order : List Str := ["_law_rows_so", "_law_found", "_law_waiting", "_law_here", "_law_row"]
theorem sc__law_in_order : FnScope n__law_in_order ["_law_rows_so"] (defScope s__law_in_order) := ⟨rfl, rfl, rfl, by decide +kernel, rfl, by decide +kernel, by decide +kernel⟩
def p__law_in_order_x2_0 : dS := (dSet 3 (dPop 2))
def p__law_in_order_x2_1 : dS := (dApp 1 (dBin rIxD (dFz (dLC (dSeqI (dVar 0)) (gN 4) (dB (dBin (rEq) (dBin rIxD (dVar 4) (dC (.int 0))) (dVar 3))) (dVar 4) [4])) (dC (.int 0))))
def p__law_in_order_x2_2 : dS := (dExt 2 (dFz (dRev (dFz (dLC (dSeqI (dVar 0)) (gN 4) (dB (dBin (rEq) (dBin rIxD (dVar 4) (dC (.int 1))) (dVar 3))) (dBin rIxD (dVar 4) (dC (.int 0))) [4])))))
def b__law_in_order_x2_2 : dS := p__law_in_order_x2_2
def b__law_in_order_x2_1 : dS := dSeq p__law_in_order_x2_1 b__law_in_order_x2_2
def b__law_in_order_x2_0 : dS := dSeq p__law_in_order_x2_0 b__law_in_order_x2_1
def p__law_in_order_0 : dS := (dSetF 1 (dLst dNil))
def p__law_in_order_1 : dS := (dSetF 2 (dLst (dCons (dC (.int 0)) dNil)))
def p__law_in_order_2 : dS := (dWhile (dB (dOwnL 2 (rNe) (dFz (dLst dNil)))) b__law_in_order_x2_0)
def p__law_in_order_3 : dS := (dRet (dCB rTuple (dCons (dTake 1) dNil)))
def b__law_in_order_3 : dS := p__law_in_order_3
def b__law_in_order_2 : dS := dSeq p__law_in_order_2 b__law_in_order_3
def b__law_in_order_1 : dS := dSeq p__law_in_order_1 b__law_in_order_2
def b__law_in_order_0 : dS := dSeq p__law_in_order_0 b__law_in_order_1
def b__law_in_order : dS := b__law_in_order_0
theorem run__law_in_order {P : Program} {w : World} {K : PySem.W.Frag} {mg : Str → Option Value} {base : Heap} (m_tuple : mg "tuple" = none) {f : Addr} (cdv : Value) (A : Around) (out : List Env) (s : Shared) (H : Hp) (E : XK) (g : A.guards = some []) (hrA : Room 0 (A.deeper (envOfC "_law_in_order" (defScope s__law_in_order) s.heap.objs.size f cdv))) :
  DSs (cx0 P w K mg base n__law_in_order "_law_in_order" (defScope s__law_in_order) f cdv A out s H E) E00 (defBody s__law_in_order) b__law_in_order := by
 have hgA : (A.deeper (envOfC "_law_in_order" (defScope s__law_in_order) s.heap.objs.size f cdv)).guards = some [] := g
 have hun := hrA.un
 exact (dss_cons (t := p__law_in_order_0) (u := b__law_in_order_1) (ds_setF (i := 1) sc__law_in_order.nd rfl (by first | exact .inl rfl | exact .inr rfl) (df_lst da_nil))
  (dss_cons (t := p__law_in_order_1) (u := b__law_in_order_2) (ds_setF (i := 2) sc__law_in_order.nd rfl (by first | exact .inl rfl | exact .inr rfl) (df_lst (da_cons de_int da_nil)))
  (dss_cons (t := p__law_in_order_2) (u := b__law_in_order_3) (ds_while PassesOwn.never (dt_ownL (od_ne (Nat.lt_of_le_of_lt (Nat.add_le_add_left (by decide) _) hun)) (pv 2) (de_fz (df_lst da_nil)) (nomark _)) (dss_cons (t := p__law_in_order_x2_0) (u := b__law_in_order_x2_1) (ds_set (i := 3) sc__law_in_order.nd rfl (by first | exact .inl rfl | exact .inr rfl) (de_pop (pv 2)))
  (dss_cons (t := p__law_in_order_x2_1) (u := b__law_in_order_x2_2) (ds_app (pv 1) (de_ix (de_fz (df_lc (E2 := E00) (own := [("_law_row", 4)]) rfl sc__law_in_order.nd (di_seq (de_var (pv 0))) (blkOk_by (N := n__law_in_order) (sc := (defScope s__law_in_order)) (own := [("_law_row", 4)]) (by decide +kernel)) (by decide) (fun _ _ _ _ _ => (dg_name (pg_name (i := 4) sc__law_in_order.nd rfl (by first | exact .inl rfl | exact .inr rfl)))) (fun _ _ _ _ _ => (dts_one (dt_cmp (od_eq (Nat.lt_of_le_of_lt (Nat.add_le_add_left (by decide) _) hun)) (de_ix (de_var (pv 4)) de_int (fun _ _ => rfl)) (de_var (pv 3)) (nomark _)))) (fun _ _ _ _ _ => (de_var (pv 4))))) de_int (fun _ _ => rfl)))
  (dss_one (t := p__law_in_order_x2_2) (ds_ext (pv 2) (de_fz (df_rev (de_fz (df_lc (E2 := E00) (own := [("_law_row", 4)]) rfl sc__law_in_order.nd (di_seq (de_var (pv 0))) (blkOk_by (N := n__law_in_order) (sc := (defScope s__law_in_order)) (own := [("_law_row", 4)]) (by decide +kernel)) (by decide) (fun _ _ _ _ _ => (dg_name (pg_name (i := 4) sc__law_in_order.nd rfl (by first | exact .inl rfl | exact .inr rfl)))) (fun _ _ _ _ _ => (dts_one (dt_cmp (od_eq (Nat.lt_of_le_of_lt (Nat.add_le_add_left (by decide) _) hun)) (de_ix (de_var (pv 4)) de_int (fun _ _ => rfl)) (de_var (pv 3)) (nomark _)))) (fun _ _ _ _ _ => (de_ix (de_var (pv 4)) de_int (fun _ _ => rfl))))))))))))
  (dss_one (t := p__law_in_order_3) (ds_ret (de_callTy (cd_tuple) (by rfl) m_tuple (by decide +kernel) (da_cons (de_take (pv 1)) da_nil)))))))
theorem hsp__law_in_order : ∀ ds p Q W, ds.length = 1 → sp__law_in_order ds p Q W → b__law_in_order W0 (endsD Q) (startD n__law_in_order.length ds p) := by
  rintro _ p Q W - ⟨R, rfl, mk, q⟩
  obtain ⟨r0, e0, u0⟩ := mk.root
  have hr0 := rowAt_mem e0
  simp only [dPen1, dLenSet, dSrtR, dRo, dRoF, dRoT, roD, ro_un, ro_dat, ro_own, ro_hp, ro_law, ro_ownK, ro_ownT, List.forall_mem_map, flat_int, flat_str, flat_bl, flat_non, dSeq, dNext, dSet, dSetF, setSl, dVar, dTake, dC, dBin, dBinF, dB, dIfS, dIf, dRet, dRetN, dExpr, dNil, dCons, dTup, dLst, dFz, dAnd, dOr, dNot, dAndV, dOrV, dNotV, dCallD, dCallK, dCB, dCBF, dFor, dLC, dYes, dRng1, dRng2, dSeqI, gN, gT, gsNil, gsCons, dAsg, dNeg, dJoin, dFs, dJs, dFmt, dApp, dExt, dPop, dPopAt, dOwnIx, dOwnCB, dOwnL, dOwnR, dOwnSl, dSetIx, dSlT, dSlL, oNone, oSome, dBorn, optQ, ownAt, setOwnAt, lookAt, wipeD, dNewDT, dNewDK, dDGet, dDIn, dDPut, dSortT, rSrt, isDict, Ev.dictGet, Ev.dictPut, Option.isSome_none, Option.isSome_some, D.keyT, keysOf, D.key, exists_eq_left', exists_eq_left, Option.isSome, rRepL, rCatL, dRetF, dIfF, dPar, dRetOwn, dCallL, dCallLK, dPen2, dRev, dRevI, dIndex, endsL, startL, dNever, dBrk, dCnt, rAddD, rSubI, rIO, rMulI, rDivI, rModI, rPowI, rCI, rIxD, rIsN, rNotN, D.isN, rLen, rTuple, rList, rAbs, rInt, rStr, Ev.rRepr, Ev.rIsi, D.ty, kit_tab, startD, endsD, List.map_cons, List.map_nil, List.length_cons, List.length_nil, List.append_nil, List.nil_append, List.cons_append, List.getElem?_cons_zero, List.getElem?_cons_succ, List.getElem?_nil, List.set_cons_zero, List.set_cons_succ, List.replicate, List.replicate_succ, Nat.zero_add, Nat.zero_le, sizeLine, true_and, and_true, if_true, Ev.eq_int, Ev.eq_str, Ev.eq_bl, Ev.eq_non, lst_nil, tup_nil, List.map_eq_nil_iff, txt_join, rLt, rLe, rGt, rGe, atI_ofNat, atI_last, wLC, strsOf, intsOf, blsOf, Option.map_some, Ev.join_two, Ev.join_one, Ev.join_nil, List.sum_cons, List.sum_nil, PySem.Str.empty_append, ixN_ofNat, Option.some.injEq, exists_eq', List.length_map, decide_true, decide_false, Bool.not_true, Bool.not_false, Bool.true_eq_false, Bool.false_eq_true, false_and, and_false, if_false, ite_true, ite_false, Nat.reduceAdd, Nat.reduceSub, Nat.reduceMul, Nat.reduceLT, Nat.reduceLeDiff, Nat.reduceEqDiff, Nat.reducePow, Int.reduceToNat, Int.reducePow, pickL, List.filterMap_cons, List.filterMap_nil, and_self, Int.reduceLT, Int.reduceLE, Int.reduceNeg, Int.reduceAdd, Int.reduceMul, Int.reduceSub, Int.reduceEq, reduceIte, reduceCtorEq, lit_eq, String.reduceEq, Ev.rEq, Ev.rNe, Ev.rInD, cut_toN, cut_fromN, List.map_take, List.forall_mem_cons, List.forall_mem_nil, List.not_mem_nil, false_imp_iff, implies_true, forall_const, D.cm, D.lay, D.lays, D.dep, D.deps, strOk_lit, lays_ints, deps_ints, Nat.max_self, Nat.max_zero, Nat.zero_max, Bool.and_self, Bool.true_and, Bool.and_true, Bool.and_false, Bool.false_and, Bool.or_false, Bool.or_true, Bool.true_or, Bool.false_or, List.any_cons, List.any_nil, decide_eq_true_eq, eq_self, n__law_in_order, b__law_in_order, b__law_in_order_0, p__law_in_order_0, b__law_in_order_1, p__law_in_order_1, b__law_in_order_2, p__law_in_order_2]
  refine ⟨fun m δ => ∃ (found : List Row) (wt : List Int) (s3 : Sl), δ = ⟨[.dat (.lst (R.map rowD)), .own (found.map rowD), .own (wt.map .int), s3, .un], p⟩ ∧ Walk R found wt ∧ m = R.length - found.length,
    ⟨_, [], [0], .un, rfl, ⟨by simp, by simp, by simp, fun n hn => by rw [List.mem_singleton] at hn; exact ⟨r0, hr0.1, by rw [hr0.2, hn], .inl u0⟩, fun i hi => by simp at hi⟩, rfl⟩, ?_⟩
  rintro m _ ⟨found, wt, s3, rfl, w, rfl⟩
  have wl := w.len
  have ml := mk.len
  rcases List.eq_nil_or_concat wt with rfl | ⟨wt, n, rfl⟩
  · simp only [dPen1, dLenSet, dSrtR, dRo, dRoF, dRoT, roD, ro_un, ro_dat, ro_own, ro_hp, ro_law, ro_ownK, ro_ownT, List.forall_mem_map, flat_int, flat_str, flat_bl, flat_non, dSeq, dNext, dSet, dSetF, setSl, dVar, dTake, dC, dBin, dBinF, dB, dIfS, dIf, dRet, dRetN, dExpr, dNil, dCons, dTup, dLst, dFz, dAnd, dOr, dNot, dAndV, dOrV, dNotV, dCallD, dCallK, dCB, dCBF, dFor, dLC, dYes, dRng1, dRng2, dSeqI, gN, gT, gsNil, gsCons, dAsg, dNeg, dJoin, dFs, dJs, dFmt, dApp, dExt, dPop, dPopAt, dOwnIx, dOwnCB, dOwnL, dOwnR, dOwnSl, dSetIx, dSlT, dSlL, oNone, oSome, dBorn, optQ, ownAt, setOwnAt, lookAt, wipeD, dNewDT, dNewDK, dDGet, dDIn, dDPut, dSortT, rSrt, isDict, Ev.dictGet, Ev.dictPut, Option.isSome_none, Option.isSome_some, D.keyT, keysOf, D.key, exists_eq_left', exists_eq_left, Option.isSome, rRepL, rCatL, dRetF, dIfF, dPar, dRetOwn, dCallL, dCallLK, dPen2, dRev, dRevI, dIndex, endsL, startL, dNever, dBrk, dCnt, rAddD, rSubI, rIO, rMulI, rDivI, rModI, rPowI, rCI, rIxD, rIsN, rNotN, D.isN, rLen, rTuple, rList, rAbs, rInt, rStr, Ev.rRepr, Ev.rIsi, D.ty, kit_tab, startD, endsD, List.map_cons, List.map_nil, List.length_cons, List.length_nil, List.append_nil, List.nil_append, List.cons_append, List.getElem?_cons_zero, List.getElem?_cons_succ, List.getElem?_nil, List.set_cons_zero, List.set_cons_succ, List.replicate, List.replicate_succ, Nat.zero_add, Nat.zero_le, sizeLine, true_and, and_true, if_true, Ev.eq_int, Ev.eq_str, Ev.eq_bl, Ev.eq_non, lst_nil, tup_nil, List.map_eq_nil_iff, txt_join, rLt, rLe, rGt, rGe, atI_ofNat, atI_last, wLC, strsOf, intsOf, blsOf, Option.map_some, Ev.join_two, Ev.join_one, Ev.join_nil, List.sum_cons, List.sum_nil, PySem.Str.empty_append, ixN_ofNat, Option.some.injEq, exists_eq', List.length_map, decide_true, decide_false, Bool.not_true, Bool.not_false, Bool.true_eq_false, Bool.false_eq_true, false_and, and_false, if_false, ite_true, ite_false, Nat.reduceAdd, Nat.reduceSub, Nat.reduceMul, Nat.reduceLT, Nat.reduceLeDiff, Nat.reduceEqDiff, Nat.reducePow, Int.reduceToNat, Int.reducePow, pickL, List.filterMap_cons, List.filterMap_nil, and_self, Int.reduceLT, Int.reduceLE, Int.reduceNeg, Int.reduceAdd, Int.reduceMul, Int.reduceSub, Int.reduceEq, reduceIte, reduceCtorEq, lit_eq, String.reduceEq, Ev.rEq, Ev.rNe, Ev.rInD, cut_toN, cut_fromN, List.map_take, List.forall_mem_cons, List.forall_mem_nil, List.not_mem_nil, false_imp_iff, implies_true, forall_const, D.cm, D.lay, D.lays, D.dep, D.deps, strOk_lit, lays_ints, deps_ints, Nat.max_self, Nat.max_zero, Nat.zero_max, Bool.and_self, Bool.true_and, Bool.and_true, Bool.and_false, Bool.false_and, Bool.or_false, Bool.or_true, Bool.true_or, Bool.false_or, List.any_cons, List.any_nil, decide_eq_true_eq, eq_self, b__law_in_order_3, p__law_in_order_3, b__law_in_order_3]
    refine q _ ⟨w.wf mk.ok mk.len, fun r hr => mk.one r (w.mem r hr), ?_⟩
    simpa using w.z
  · simp only [List.concat_eq_append] at w wl ⊢
    have ne : (wt ++ [n]) ≠ [] := by simp
    have p1 : (List.map D.int (wt ++ [n]))[(wt ++ [n]).length - 1]? = some (.int n) := by simp
    have p2 : (List.map D.int (wt ++ [n])).dropLast = wt.map D.int := by simp
    obtain ⟨r, hr, hrn, hup⟩ : ∃ r, rowAt R n = some r ∧ r.n = n ∧ True := by
      obtain ⟨s, hs, e1, _⟩ := w.wait n (by simp)
      obtain ⟨i, hi, rfl⟩ := List.getElem_of_mem hs
      exact ⟨_, by rw [← e1]; exact rowAt_get mk.nd hi, e1, trivial⟩
    have w2 := w.step mk.nd hr
    have wl2 := w2.len
    simp only [List.length_append, List.length_singleton] at wl wl2
    have fin : ∃ m', m' < R.length - found.length ∧ ∃ (found2 : List Row) (wt2 : List Int) (s3 : Sl), DS.mk [.dat (.lst (R.map rowD)), .own ((found ++ [r]).map rowD), .own ((wt ++ (kidsOf R n).reverse).map .int), .dat (.int n), .un] p = ⟨[.dat (.lst (R.map rowD)), .own (found2.map rowD), .own (wt2.map .int), s3, .un], p⟩ ∧ Walk R found2 wt2 ∧ m' = R.length - found2.length :=
      ⟨R.length - (found.length + 1), by omega, found ++ [r], _, _, rfl, w2, by rw [List.length_append, List.length_singleton]⟩
    simp only [dPen1, dLenSet, dSrtR, dRo, dRoF, dRoT, roD, ro_un, ro_dat, ro_own, ro_hp, ro_law, ro_ownK, ro_ownT, List.forall_mem_map, flat_int, flat_str, flat_bl, flat_non, dSeq, dNext, dSet, dSetF, setSl, dVar, dTake, dC, dBin, dBinF, dB, dIfS, dIf, dRet, dRetN, dExpr, dNil, dCons, dTup, dLst, dFz, dAnd, dOr, dNot, dAndV, dOrV, dNotV, dCallD, dCallK, dCB, dCBF, dFor, dLC, dYes, dRng1, dRng2, dSeqI, gN, gT, gsNil, gsCons, dAsg, dNeg, dJoin, dFs, dJs, dFmt, dApp, dExt, dPop, dPopAt, dOwnIx, dOwnCB, dOwnL, dOwnR, dOwnSl, dSetIx, dSlT, dSlL, oNone, oSome, dBorn, optQ, ownAt, setOwnAt, lookAt, wipeD, dNewDT, dNewDK, dDGet, dDIn, dDPut, dSortT, rSrt, isDict, Ev.dictGet, Ev.dictPut, Option.isSome_none, Option.isSome_some, D.keyT, keysOf, D.key, exists_eq_left', exists_eq_left, Option.isSome, rRepL, rCatL, dRetF, dIfF, dPar, dRetOwn, dCallL, dCallLK, dPen2, dRev, dRevI, dIndex, endsL, startL, dNever, dBrk, dCnt, rAddD, rSubI, rIO, rMulI, rDivI, rModI, rPowI, rCI, rIxD, rIsN, rNotN, D.isN, rLen, rTuple, rList, rAbs, rInt, rStr, Ev.rRepr, Ev.rIsi, D.ty, kit_tab, startD, endsD, List.map_cons, List.map_nil, List.length_cons, List.length_nil, List.append_nil, List.nil_append, List.cons_append, List.getElem?_cons_zero, List.getElem?_cons_succ, List.getElem?_nil, List.set_cons_zero, List.set_cons_succ, List.replicate, List.replicate_succ, Nat.zero_add, Nat.zero_le, sizeLine, true_and, and_true, if_true, Ev.eq_int, Ev.eq_str, Ev.eq_bl, Ev.eq_non, lst_nil, tup_nil, List.map_eq_nil_iff, txt_join, rLt, rLe, rGt, rGe, atI_ofNat, atI_last, wLC, strsOf, intsOf, blsOf, Option.map_some, Ev.join_two, Ev.join_one, Ev.join_nil, List.sum_cons, List.sum_nil, PySem.Str.empty_append, ixN_ofNat, Option.some.injEq, exists_eq', List.length_map, decide_true, decide_false, Bool.not_true, Bool.not_false, Bool.true_eq_false, Bool.false_eq_true, false_and, and_false, if_false, ite_true, ite_false, Nat.reduceAdd, Nat.reduceSub, Nat.reduceMul, Nat.reduceLT, Nat.reduceLeDiff, Nat.reduceEqDiff, Nat.reducePow, Int.reduceToNat, Int.reducePow, pickL, List.filterMap_cons, List.filterMap_nil, and_self, Int.reduceLT, Int.reduceLE, Int.reduceNeg, Int.reduceAdd, Int.reduceMul, Int.reduceSub, Int.reduceEq, reduceIte, reduceCtorEq, lit_eq, String.reduceEq, Ev.rEq, Ev.rNe, Ev.rInD, cut_toN, cut_fromN, List.map_take, List.forall_mem_cons, List.forall_mem_nil, List.not_mem_nil, false_imp_iff, implies_true, forall_const, D.cm, D.lay, D.lays, D.dep, D.deps, strOk_lit, lays_ints, deps_ints, Nat.max_self, Nat.max_zero, Nat.zero_max, Bool.and_self, Bool.true_and, Bool.and_true, Bool.and_false, Bool.false_and, Bool.or_false, Bool.or_true, Bool.true_or, Bool.false_or, List.any_cons, List.any_nil, decide_eq_true_eq, eq_self, eq_false ne, p1, p2, b__law_in_order_x2_0, p__law_in_order_x2_0]
    suffices h : ∀ N : dEnds, N.nx ⟨[.dat (.lst (R.map rowD)), .own ((found ++ [r]).map rowD), .own ((wt ++ (kidsOf R n).reverse).map .int), .dat (.int n), .un], p⟩ → b__law_in_order_x2_1 W0 N ⟨[.dat (.lst (R.map rowD)), .own (found.map rowD), .own (wt.map .int), .dat (.int n), .un], p⟩ from h _ fin
    intro N hN
    simp only [dPen1, dLenSet, dSrtR, dRo, dRoF, dRoT, roD, ro_un, ro_dat, ro_own, ro_hp, ro_law, ro_ownK, ro_ownT, List.forall_mem_map, flat_int, flat_str, flat_bl, flat_non, dSeq, dNext, dSet, dSetF, setSl, dVar, dTake, dC, dBin, dBinF, dB, dIfS, dIf, dRet, dRetN, dExpr, dNil, dCons, dTup, dLst, dFz, dAnd, dOr, dNot, dAndV, dOrV, dNotV, dCallD, dCallK, dCB, dCBF, dFor, dLC, dYes, dRng1, dRng2, dSeqI, gN, gT, gsNil, gsCons, dAsg, dNeg, dJoin, dFs, dJs, dFmt, dApp, dExt, dPop, dPopAt, dOwnIx, dOwnCB, dOwnL, dOwnR, dOwnSl, dSetIx, dSlT, dSlL, oNone, oSome, dBorn, optQ, ownAt, setOwnAt, lookAt, wipeD, dNewDT, dNewDK, dDGet, dDIn, dDPut, dSortT, rSrt, isDict, Ev.dictGet, Ev.dictPut, Option.isSome_none, Option.isSome_some, D.keyT, keysOf, D.key, exists_eq_left', exists_eq_left, Option.isSome, rRepL, rCatL, dRetF, dIfF, dPar, dRetOwn, dCallL, dCallLK, dPen2, dRev, dRevI, dIndex, endsL, startL, dNever, dBrk, dCnt, rAddD, rSubI, rIO, rMulI, rDivI, rModI, rPowI, rCI, rIxD, rIsN, rNotN, D.isN, rLen, rTuple, rList, rAbs, rInt, rStr, Ev.rRepr, Ev.rIsi, D.ty, kit_tab, startD, endsD, List.map_cons, List.map_nil, List.length_cons, List.length_nil, List.append_nil, List.nil_append, List.cons_append, List.getElem?_cons_zero, List.getElem?_cons_succ, List.getElem?_nil, List.set_cons_zero, List.set_cons_succ, List.replicate, List.replicate_succ, Nat.zero_add, Nat.zero_le, sizeLine, true_and, and_true, if_true, Ev.eq_int, Ev.eq_str, Ev.eq_bl, Ev.eq_non, lst_nil, tup_nil, List.map_eq_nil_iff, txt_join, rLt, rLe, rGt, rGe, atI_ofNat, atI_last, wLC, strsOf, intsOf, blsOf, Option.map_some, Ev.join_two, Ev.join_one, Ev.join_nil, List.sum_cons, List.sum_nil, PySem.Str.empty_append, ixN_ofNat, Option.some.injEq, exists_eq', List.length_map, decide_true, decide_false, Bool.not_true, Bool.not_false, Bool.true_eq_false, Bool.false_eq_true, false_and, and_false, if_false, ite_true, ite_false, Nat.reduceAdd, Nat.reduceSub, Nat.reduceMul, Nat.reduceLT, Nat.reduceLeDiff, Nat.reduceEqDiff, Nat.reducePow, Int.reduceToNat, Int.reducePow, pickL, List.filterMap_cons, List.filterMap_nil, and_self, Int.reduceLT, Int.reduceLE, Int.reduceNeg, Int.reduceAdd, Int.reduceMul, Int.reduceSub, Int.reduceEq, reduceIte, reduceCtorEq, lit_eq, String.reduceEq, Ev.rEq, Ev.rNe, Ev.rInD, cut_toN, cut_fromN, List.map_take, List.forall_mem_cons, List.forall_mem_nil, List.not_mem_nil, false_imp_iff, implies_true, forall_const, D.cm, D.lay, D.lays, D.dep, D.deps, strOk_lit, lays_ints, deps_ints, Nat.max_self, Nat.max_zero, Nat.zero_max, Bool.and_self, Bool.true_and, Bool.and_true, Bool.and_false, Bool.false_and, Bool.or_false, Bool.or_true, Bool.true_or, Bool.false_or, List.any_cons, List.any_nil, decide_eq_true_eq, eq_self, b__law_in_order_x2_1, p__law_in_order_x2_1]
    refine wLC_filt (l := R) (ι := rowD) (f := rowD) (t := fun r => decide (r.n = n)) (fun r hr acc k hz g1 g2 => ?_) (by rw [sizeLine_eq]; omega) ?_
    · by_cases c : r.n = n
      · simp only [dPen1, dLenSet, dSrtR, dRo, dRoF, dRoT, roD, ro_un, ro_dat, ro_own, ro_hp, ro_law, ro_ownK, ro_ownT, List.forall_mem_map, flat_int, flat_str, flat_bl, flat_non, dSeq, dNext, dSet, dSetF, setSl, dVar, dTake, dC, dBin, dBinF, dB, dIfS, dIf, dRet, dRetN, dExpr, dNil, dCons, dTup, dLst, dFz, dAnd, dOr, dNot, dAndV, dOrV, dNotV, dCallD, dCallK, dCB, dCBF, dFor, dLC, dYes, dRng1, dRng2, dSeqI, gN, gT, gsNil, gsCons, dAsg, dNeg, dJoin, dFs, dJs, dFmt, dApp, dExt, dPop, dPopAt, dOwnIx, dOwnCB, dOwnL, dOwnR, dOwnSl, dSetIx, dSlT, dSlL, oNone, oSome, dBorn, optQ, ownAt, setOwnAt, lookAt, wipeD, dNewDT, dNewDK, dDGet, dDIn, dDPut, dSortT, rSrt, isDict, Ev.dictGet, Ev.dictPut, Option.isSome_none, Option.isSome_some, D.keyT, keysOf, D.key, exists_eq_left', exists_eq_left, Option.isSome, rRepL, rCatL, dRetF, dIfF, dPar, dRetOwn, dCallL, dCallLK, dPen2, dRev, dRevI, dIndex, endsL, startL, dNever, dBrk, dCnt, rAddD, rSubI, rIO, rMulI, rDivI, rModI, rPowI, rCI, rIxD, rIsN, rNotN, D.isN, rLen, rTuple, rList, rAbs, rInt, rStr, Ev.rRepr, Ev.rIsi, D.ty, kit_tab, startD, endsD, List.map_cons, List.map_nil, List.length_cons, List.length_nil, List.append_nil, List.nil_append, List.cons_append, List.getElem?_cons_zero, List.getElem?_cons_succ, List.getElem?_nil, List.set_cons_zero, List.set_cons_succ, List.replicate, List.replicate_succ, Nat.zero_add, Nat.zero_le, sizeLine, true_and, and_true, if_true, Ev.eq_int, Ev.eq_str, Ev.eq_bl, Ev.eq_non, lst_nil, tup_nil, List.map_eq_nil_iff, txt_join, rLt, rLe, rGt, rGe, atI_ofNat, atI_last, wLC, strsOf, intsOf, blsOf, Option.map_some, Ev.join_two, Ev.join_one, Ev.join_nil, List.sum_cons, List.sum_nil, PySem.Str.empty_append, ixN_ofNat, Option.some.injEq, exists_eq', List.length_map, decide_true, decide_false, Bool.not_true, Bool.not_false, Bool.true_eq_false, Bool.false_eq_true, false_and, and_false, if_false, ite_true, ite_false, Nat.reduceAdd, Nat.reduceSub, Nat.reduceMul, Nat.reduceLT, Nat.reduceLeDiff, Nat.reduceEqDiff, Nat.reducePow, Int.reduceToNat, Int.reducePow, pickL, List.filterMap_cons, List.filterMap_nil, and_self, Int.reduceLT, Int.reduceLE, Int.reduceNeg, Int.reduceAdd, Int.reduceMul, Int.reduceSub, Int.reduceEq, reduceIte, reduceCtorEq, lit_eq, String.reduceEq, Ev.rEq, Ev.rNe, Ev.rInD, cut_toN, cut_fromN, List.map_take, List.forall_mem_cons, List.forall_mem_nil, List.not_mem_nil, false_imp_iff, implies_true, forall_const, D.cm, D.lay, D.lays, D.dep, D.deps, strOk_lit, lays_ints, deps_ints, Nat.max_self, Nat.max_zero, Nat.zero_max, Bool.and_self, Bool.true_and, Bool.and_true, Bool.and_false, Bool.false_and, Bool.or_false, Bool.or_true, Bool.true_or, Bool.false_or, List.any_cons, List.any_nil, decide_eq_true_eq, eq_self, rowD, c]
        exact ⟨hz, by have := g1 (by simp [c]); simpa [rowD, c] using this⟩
      · simp only [dPen1, dLenSet, dSrtR, dRo, dRoF, dRoT, roD, ro_un, ro_dat, ro_own, ro_hp, ro_law, ro_ownK, ro_ownT, List.forall_mem_map, flat_int, flat_str, flat_bl, flat_non, dSeq, dNext, dSet, dSetF, setSl, dVar, dTake, dC, dBin, dBinF, dB, dIfS, dIf, dRet, dRetN, dExpr, dNil, dCons, dTup, dLst, dFz, dAnd, dOr, dNot, dAndV, dOrV, dNotV, dCallD, dCallK, dCB, dCBF, dFor, dLC, dYes, dRng1, dRng2, dSeqI, gN, gT, gsNil, gsCons, dAsg, dNeg, dJoin, dFs, dJs, dFmt, dApp, dExt, dPop, dPopAt, dOwnIx, dOwnCB, dOwnL, dOwnR, dOwnSl, dSetIx, dSlT, dSlL, oNone, oSome, dBorn, optQ, ownAt, setOwnAt, lookAt, wipeD, dNewDT, dNewDK, dDGet, dDIn, dDPut, dSortT, rSrt, isDict, Ev.dictGet, Ev.dictPut, Option.isSome_none, Option.isSome_some, D.keyT, keysOf, D.key, exists_eq_left', exists_eq_left, Option.isSome, rRepL, rCatL, dRetF, dIfF, dPar, dRetOwn, dCallL, dCallLK, dPen2, dRev, dRevI, dIndex, endsL, startL, dNever, dBrk, dCnt, rAddD, rSubI, rIO, rMulI, rDivI, rModI, rPowI, rCI, rIxD, rIsN, rNotN, D.isN, rLen, rTuple, rList, rAbs, rInt, rStr, Ev.rRepr, Ev.rIsi, D.ty, kit_tab, startD, endsD, List.map_cons, List.map_nil, List.length_cons, List.length_nil, List.append_nil, List.nil_append, List.cons_append, List.getElem?_cons_zero, List.getElem?_cons_succ, List.getElem?_nil, List.set_cons_zero, List.set_cons_succ, List.replicate, List.replicate_succ, Nat.zero_add, Nat.zero_le, sizeLine, true_and, and_true, if_true, Ev.eq_int, Ev.eq_str, Ev.eq_bl, Ev.eq_non, lst_nil, tup_nil, List.map_eq_nil_iff, txt_join, rLt, rLe, rGt, rGe, atI_ofNat, atI_last, wLC, strsOf, intsOf, blsOf, Option.map_some, Ev.join_two, Ev.join_one, Ev.join_nil, List.sum_cons, List.sum_nil, PySem.Str.empty_append, ixN_ofNat, Option.some.injEq, exists_eq', List.length_map, decide_true, decide_false, Bool.not_true, Bool.not_false, Bool.true_eq_false, Bool.false_eq_true, false_and, and_false, if_false, ite_true, ite_false, Nat.reduceAdd, Nat.reduceSub, Nat.reduceMul, Nat.reduceLT, Nat.reduceLeDiff, Nat.reduceEqDiff, Nat.reducePow, Int.reduceToNat, Int.reducePow, pickL, List.filterMap_cons, List.filterMap_nil, and_self, Int.reduceLT, Int.reduceLE, Int.reduceNeg, Int.reduceAdd, Int.reduceMul, Int.reduceSub, Int.reduceEq, reduceIte, reduceCtorEq, lit_eq, String.reduceEq, Ev.rEq, Ev.rNe, Ev.rInD, cut_toN, cut_fromN, List.map_take, List.forall_mem_cons, List.forall_mem_nil, List.not_mem_nil, false_imp_iff, implies_true, forall_const, D.cm, D.lay, D.lays, D.dep, D.deps, strOk_lit, lays_ints, deps_ints, Nat.max_self, Nat.max_zero, Nat.zero_max, Bool.and_self, Bool.true_and, Bool.and_true, Bool.and_false, Bool.false_and, Bool.or_false, Bool.or_true, Bool.true_or, Bool.false_or, List.any_cons, List.any_nil, decide_eq_true_eq, eq_self, rowD, c]
        exact g2 (by simp [c])
    have hd : ((R.filter fun r => decide (r.n = n)).map rowD)[0]? = some (rowD r) := by
      rw [List.getElem?_map, ← List.head?_eq_getElem?, List.head?_filter]
      unfold rowAt at hr
      rw [hr]; rfl
    simp only [dPen1, dLenSet, dSrtR, dRo, dRoF, dRoT, roD, ro_un, ro_dat, ro_own, ro_hp, ro_law, ro_ownK, ro_ownT, List.forall_mem_map, flat_int, flat_str, flat_bl, flat_non, dSeq, dNext, dSet, dSetF, setSl, dVar, dTake, dC, dBin, dBinF, dB, dIfS, dIf, dRet, dRetN, dExpr, dNil, dCons, dTup, dLst, dFz, dAnd, dOr, dNot, dAndV, dOrV, dNotV, dCallD, dCallK, dCB, dCBF, dFor, dLC, dYes, dRng1, dRng2, dSeqI, gN, gT, gsNil, gsCons, dAsg, dNeg, dJoin, dFs, dJs, dFmt, dApp, dExt, dPop, dPopAt, dOwnIx, dOwnCB, dOwnL, dOwnR, dOwnSl, dSetIx, dSlT, dSlL, oNone, oSome, dBorn, optQ, ownAt, setOwnAt, lookAt, wipeD, dNewDT, dNewDK, dDGet, dDIn, dDPut, dSortT, rSrt, isDict, Ev.dictGet, Ev.dictPut, Option.isSome_none, Option.isSome_some, D.keyT, keysOf, D.key, exists_eq_left', exists_eq_left, Option.isSome, rRepL, rCatL, dRetF, dIfF, dPar, dRetOwn, dCallL, dCallLK, dPen2, dRev, dRevI, dIndex, endsL, startL, dNever, dBrk, dCnt, rAddD, rSubI, rIO, rMulI, rDivI, rModI, rPowI, rCI, rIxD, rIsN, rNotN, D.isN, rLen, rTuple, rList, rAbs, rInt, rStr, Ev.rRepr, Ev.rIsi, D.ty, kit_tab, startD, endsD, List.map_cons, List.map_nil, List.length_cons, List.length_nil, List.append_nil, List.nil_append, List.cons_append, List.getElem?_cons_zero, List.getElem?_cons_succ, List.getElem?_nil, List.set_cons_zero, List.set_cons_succ, List.replicate, List.replicate_succ, Nat.zero_add, Nat.zero_le, sizeLine, true_and, and_true, if_true, Ev.eq_int, Ev.eq_str, Ev.eq_bl, Ev.eq_non, lst_nil, tup_nil, List.map_eq_nil_iff, txt_join, rLt, rLe, rGt, rGe, atI_ofNat, atI_last, wLC, strsOf, intsOf, blsOf, Option.map_some, Ev.join_two, Ev.join_one, Ev.join_nil, List.sum_cons, List.sum_nil, PySem.Str.empty_append, ixN_ofNat, Option.some.injEq, exists_eq', List.length_map, decide_true, decide_false, Bool.not_true, Bool.not_false, Bool.true_eq_false, Bool.false_eq_true, false_and, and_false, if_false, ite_true, ite_false, Nat.reduceAdd, Nat.reduceSub, Nat.reduceMul, Nat.reduceLT, Nat.reduceLeDiff, Nat.reduceEqDiff, Nat.reducePow, Int.reduceToNat, Int.reducePow, pickL, List.filterMap_cons, List.filterMap_nil, and_self, Int.reduceLT, Int.reduceLE, Int.reduceNeg, Int.reduceAdd, Int.reduceMul, Int.reduceSub, Int.reduceEq, reduceIte, reduceCtorEq, lit_eq, String.reduceEq, Ev.rEq, Ev.rNe, Ev.rInD, cut_toN, cut_fromN, List.map_take, List.forall_mem_cons, List.forall_mem_nil, List.not_mem_nil, false_imp_iff, implies_true, forall_const, D.cm, D.lay, D.lays, D.dep, D.deps, strOk_lit, lays_ints, deps_ints, Nat.max_self, Nat.max_zero, Nat.zero_max, Bool.and_self, Bool.true_and, Bool.and_true, Bool.and_false, Bool.false_and, Bool.or_false, Bool.or_true, Bool.true_or, Bool.false_or, List.any_cons, List.any_nil, decide_eq_true_eq, eq_self, hd, b__law_in_order_x2_2, p__law_in_order_x2_2, b__law_in_order_x2_2]
    refine ⟨by omega, ?_⟩
    refine wLC_filt (l := R) (ι := rowD) (f := fun r => .int r.n) (t := fun r => decide (r.up = some n)) (fun r hr acc k hz g1 g2 => ?_) (by rw [sizeLine_eq]; omega) ?_
    · have oe : (optD r.up).eq (D.int n) = decide (r.up = some n) := opt_eq r.up (some n)
      by_cases c : r.up = some n
      · simp only [dPen1, dLenSet, dSrtR, dRo, dRoF, dRoT, roD, ro_un, ro_dat, ro_own, ro_hp, ro_law, ro_ownK, ro_ownT, List.forall_mem_map, flat_int, flat_str, flat_bl, flat_non, dSeq, dNext, dSet, dSetF, setSl, dVar, dTake, dC, dBin, dBinF, dB, dIfS, dIf, dRet, dRetN, dExpr, dNil, dCons, dTup, dLst, dFz, dAnd, dOr, dNot, dAndV, dOrV, dNotV, dCallD, dCallK, dCB, dCBF, dFor, dLC, dYes, dRng1, dRng2, dSeqI, gN, gT, gsNil, gsCons, dAsg, dNeg, dJoin, dFs, dJs, dFmt, dApp, dExt, dPop, dPopAt, dOwnIx, dOwnCB, dOwnL, dOwnR, dOwnSl, dSetIx, dSlT, dSlL, oNone, oSome, dBorn, optQ, ownAt, setOwnAt, lookAt, wipeD, dNewDT, dNewDK, dDGet, dDIn, dDPut, dSortT, rSrt, isDict, Ev.dictGet, Ev.dictPut, Option.isSome_none, Option.isSome_some, D.keyT, keysOf, D.key, exists_eq_left', exists_eq_left, Option.isSome, rRepL, rCatL, dRetF, dIfF, dPar, dRetOwn, dCallL, dCallLK, dPen2, dRev, dRevI, dIndex, endsL, startL, dNever, dBrk, dCnt, rAddD, rSubI, rIO, rMulI, rDivI, rModI, rPowI, rCI, rIxD, rIsN, rNotN, D.isN, rLen, rTuple, rList, rAbs, rInt, rStr, Ev.rRepr, Ev.rIsi, D.ty, kit_tab, startD, endsD, List.map_cons, List.map_nil, List.length_cons, List.length_nil, List.append_nil, List.nil_append, List.cons_append, List.getElem?_cons_zero, List.getElem?_cons_succ, List.getElem?_nil, List.set_cons_zero, List.set_cons_succ, List.replicate, List.replicate_succ, Nat.zero_add, Nat.zero_le, sizeLine, true_and, and_true, if_true, Ev.eq_int, Ev.eq_str, Ev.eq_bl, Ev.eq_non, lst_nil, tup_nil, List.map_eq_nil_iff, txt_join, rLt, rLe, rGt, rGe, atI_ofNat, atI_last, wLC, strsOf, intsOf, blsOf, Option.map_some, Ev.join_two, Ev.join_one, Ev.join_nil, List.sum_cons, List.sum_nil, PySem.Str.empty_append, ixN_ofNat, Option.some.injEq, exists_eq', List.length_map, decide_true, decide_false, Bool.not_true, Bool.not_false, Bool.true_eq_false, Bool.false_eq_true, false_and, and_false, if_false, ite_true, ite_false, Nat.reduceAdd, Nat.reduceSub, Nat.reduceMul, Nat.reduceLT, Nat.reduceLeDiff, Nat.reduceEqDiff, Nat.reducePow, Int.reduceToNat, Int.reducePow, pickL, List.filterMap_cons, List.filterMap_nil, and_self, Int.reduceLT, Int.reduceLE, Int.reduceNeg, Int.reduceAdd, Int.reduceMul, Int.reduceSub, Int.reduceEq, reduceIte, reduceCtorEq, lit_eq, String.reduceEq, Ev.rEq, Ev.rNe, Ev.rInD, cut_toN, cut_fromN, List.map_take, List.forall_mem_cons, List.forall_mem_nil, List.not_mem_nil, false_imp_iff, implies_true, forall_const, D.cm, D.lay, D.lays, D.dep, D.deps, strOk_lit, lays_ints, deps_ints, Nat.max_self, Nat.max_zero, Nat.zero_max, Bool.and_self, Bool.true_and, Bool.and_true, Bool.and_false, Bool.false_and, Bool.or_false, Bool.or_true, Bool.true_or, Bool.false_or, List.any_cons, List.any_nil, decide_eq_true_eq, eq_self, rowD, opt_lay, opt_dep, oe, eq_true c]
        exact ⟨hz, g1 (by simp [c])⟩
      · simp only [dPen1, dLenSet, dSrtR, dRo, dRoF, dRoT, roD, ro_un, ro_dat, ro_own, ro_hp, ro_law, ro_ownK, ro_ownT, List.forall_mem_map, flat_int, flat_str, flat_bl, flat_non, dSeq, dNext, dSet, dSetF, setSl, dVar, dTake, dC, dBin, dBinF, dB, dIfS, dIf, dRet, dRetN, dExpr, dNil, dCons, dTup, dLst, dFz, dAnd, dOr, dNot, dAndV, dOrV, dNotV, dCallD, dCallK, dCB, dCBF, dFor, dLC, dYes, dRng1, dRng2, dSeqI, gN, gT, gsNil, gsCons, dAsg, dNeg, dJoin, dFs, dJs, dFmt, dApp, dExt, dPop, dPopAt, dOwnIx, dOwnCB, dOwnL, dOwnR, dOwnSl, dSetIx, dSlT, dSlL, oNone, oSome, dBorn, optQ, ownAt, setOwnAt, lookAt, wipeD, dNewDT, dNewDK, dDGet, dDIn, dDPut, dSortT, rSrt, isDict, Ev.dictGet, Ev.dictPut, Option.isSome_none, Option.isSome_some, D.keyT, keysOf, D.key, exists_eq_left', exists_eq_left, Option.isSome, rRepL, rCatL, dRetF, dIfF, dPar, dRetOwn, dCallL, dCallLK, dPen2, dRev, dRevI, dIndex, endsL, startL, dNever, dBrk, dCnt, rAddD, rSubI, rIO, rMulI, rDivI, rModI, rPowI, rCI, rIxD, rIsN, rNotN, D.isN, rLen, rTuple, rList, rAbs, rInt, rStr, Ev.rRepr, Ev.rIsi, D.ty, kit_tab, startD, endsD, List.map_cons, List.map_nil, List.length_cons, List.length_nil, List.append_nil, List.nil_append, List.cons_append, List.getElem?_cons_zero, List.getElem?_cons_succ, List.getElem?_nil, List.set_cons_zero, List.set_cons_succ, List.replicate, List.replicate_succ, Nat.zero_add, Nat.zero_le, sizeLine, true_and, and_true, if_true, Ev.eq_int, Ev.eq_str, Ev.eq_bl, Ev.eq_non, lst_nil, tup_nil, List.map_eq_nil_iff, txt_join, rLt, rLe, rGt, rGe, atI_ofNat, atI_last, wLC, strsOf, intsOf, blsOf, Option.map_some, Ev.join_two, Ev.join_one, Ev.join_nil, List.sum_cons, List.sum_nil, PySem.Str.empty_append, ixN_ofNat, Option.some.injEq, exists_eq', List.length_map, decide_true, decide_false, Bool.not_true, Bool.not_false, Bool.true_eq_false, Bool.false_eq_true, false_and, and_false, if_false, ite_true, ite_false, Nat.reduceAdd, Nat.reduceSub, Nat.reduceMul, Nat.reduceLT, Nat.reduceLeDiff, Nat.reduceEqDiff, Nat.reducePow, Int.reduceToNat, Int.reducePow, pickL, List.filterMap_cons, List.filterMap_nil, and_self, Int.reduceLT, Int.reduceLE, Int.reduceNeg, Int.reduceAdd, Int.reduceMul, Int.reduceSub, Int.reduceEq, reduceIte, reduceCtorEq, lit_eq, String.reduceEq, Ev.rEq, Ev.rNe, Ev.rInD, cut_toN, cut_fromN, List.map_take, List.forall_mem_cons, List.forall_mem_nil, List.not_mem_nil, false_imp_iff, implies_true, forall_const, D.cm, D.lay, D.lays, D.dep, D.deps, strOk_lit, lays_ints, deps_ints, Nat.max_self, Nat.max_zero, Nat.zero_max, Bool.and_self, Bool.true_and, Bool.and_true, Bool.and_false, Bool.false_and, Bool.or_false, Bool.or_true, Bool.true_or, Bool.false_or, List.any_cons, List.any_nil, decide_eq_true_eq, eq_self, rowD, opt_lay, opt_dep, oe, eq_false c]
        exact g2 (by simp [c])
    have ek : ((R.filter fun r => decide (r.up = some n)).map fun r => D.int r.n) = (kidsOf R n).map .int := by
      unfold kidsOf; rw [List.map_map]; rfl
    have lk : (kidsOf R n).length ≤ R.length := by unfold kidsOf; rw [List.length_map]; exact List.length_filter_le _ _
    simp only [dPen1, dLenSet, dSrtR, dRo, dRoF, dRoT, roD, ro_un, ro_dat, ro_own, ro_hp, ro_law, ro_ownK, ro_ownT, List.forall_mem_map, flat_int, flat_str, flat_bl, flat_non, dSeq, dNext, dSet, dSetF, setSl, dVar, dTake, dC, dBin, dBinF, dB, dIfS, dIf, dRet, dRetN, dExpr, dNil, dCons, dTup, dLst, dFz, dAnd, dOr, dNot, dAndV, dOrV, dNotV, dCallD, dCallK, dCB, dCBF, dFor, dLC, dYes, dRng1, dRng2, dSeqI, gN, gT, gsNil, gsCons, dAsg, dNeg, dJoin, dFs, dJs, dFmt, dApp, dExt, dPop, dPopAt, dOwnIx, dOwnCB, dOwnL, dOwnR, dOwnSl, dSetIx, dSlT, dSlL, oNone, oSome, dBorn, optQ, ownAt, setOwnAt, lookAt, wipeD, dNewDT, dNewDK, dDGet, dDIn, dDPut, dSortT, rSrt, isDict, Ev.dictGet, Ev.dictPut, Option.isSome_none, Option.isSome_some, D.keyT, keysOf, D.key, exists_eq_left', exists_eq_left, Option.isSome, rRepL, rCatL, dRetF, dIfF, dPar, dRetOwn, dCallL, dCallLK, dPen2, dRev, dRevI, dIndex, endsL, startL, dNever, dBrk, dCnt, rAddD, rSubI, rIO, rMulI, rDivI, rModI, rPowI, rCI, rIxD, rIsN, rNotN, D.isN, rLen, rTuple, rList, rAbs, rInt, rStr, Ev.rRepr, Ev.rIsi, D.ty, kit_tab, startD, endsD, List.map_cons, List.map_nil, List.length_cons, List.length_nil, List.append_nil, List.nil_append, List.cons_append, List.getElem?_cons_zero, List.getElem?_cons_succ, List.getElem?_nil, List.set_cons_zero, List.set_cons_succ, List.replicate, List.replicate_succ, Nat.zero_add, Nat.zero_le, sizeLine, true_and, and_true, if_true, Ev.eq_int, Ev.eq_str, Ev.eq_bl, Ev.eq_non, lst_nil, tup_nil, List.map_eq_nil_iff, txt_join, rLt, rLe, rGt, rGe, atI_ofNat, atI_last, wLC, strsOf, intsOf, blsOf, Option.map_some, Ev.join_two, Ev.join_one, Ev.join_nil, List.sum_cons, List.sum_nil, PySem.Str.empty_append, ixN_ofNat, Option.some.injEq, exists_eq', List.length_map, decide_true, decide_false, Bool.not_true, Bool.not_false, Bool.true_eq_false, Bool.false_eq_true, false_and, and_false, if_false, ite_true, ite_false, Nat.reduceAdd, Nat.reduceSub, Nat.reduceMul, Nat.reduceLT, Nat.reduceLeDiff, Nat.reduceEqDiff, Nat.reducePow, Int.reduceToNat, Int.reducePow, pickL, List.filterMap_cons, List.filterMap_nil, and_self, Int.reduceLT, Int.reduceLE, Int.reduceNeg, Int.reduceAdd, Int.reduceMul, Int.reduceSub, Int.reduceEq, reduceIte, reduceCtorEq, lit_eq, String.reduceEq, Ev.rEq, Ev.rNe, Ev.rInD, cut_toN, cut_fromN, List.map_take, List.forall_mem_cons, List.forall_mem_nil, List.not_mem_nil, false_imp_iff, implies_true, forall_const, D.cm, D.lay, D.lays, D.dep, D.deps, strOk_lit, lays_ints, deps_ints, Nat.max_self, Nat.max_zero, Nat.zero_max, Bool.and_self, Bool.true_and, Bool.and_true, Bool.and_false, Bool.false_and, Bool.or_false, Bool.or_true, Bool.true_or, Bool.false_or, List.any_cons, List.any_nil, decide_eq_true_eq, eq_self, ek, List.length_reverse]
    refine ⟨by omega, ?_⟩
    simpa using hN
theorem ok__law_in_order {P : Program} {w : World} {K : PySem.W.Frag} {mg : Str → Option Value} {base : Heap} (m_tuple : mg "tuple" = none) {f : Addr} {fd : FuncData} (F : Fun K "_law_in_order" "_law_in_order" s__law_in_order f fd) : FnG P w K mg base CX0 1 f fd ["_law_rows_so"] (spD K 1 sp__law_in_order) :=
 fn_d0 F sc__law_in_order rfl (fun cdv A out s H E g r => run__law_in_order m_tuple cdv A out s H E g r) hsp__law_in_order
/-- rows under way: the numbers that are left -/
structure Mk (R : List Row) (left : List Int) : Prop where
  wf : Wf R
  root : ∃ r t, R = r :: t ∧ r.n = 0 ∧ r.up = none
  nd : (R.map (·.n) ++ left).Nodup
  lf : ∀ x ∈ left, 1 ≤ x ∧ x ≤ 9
  len : R.length + left.length = 10
  one : ∀ r ∈ R, r.up = none → r.n = 0
theorem Mk.add {R : List Row} {left : List Int} (m : Mk R left) {i : Nat} (hi : i < left.length) {r : Row} (hn : r.n = left[i]) {h : Int} (hh : h ∈ R.map (·.n)) (hu : r.up = some h) (ok : rowOk r) : Mk (R ++ [r]) (left.eraseIdx i) := by
  have pm : (left[i] :: left.eraseIdx i).Perm left := erase_perm hi
  have nd2 : (R.map (·.n) ++ (left[i] :: left.eraseIdx i)).Nodup := (List.Perm.nodup_iff (List.Perm.append_left _ pm)).mpr m.nd
  have e : (R ++ [r]).map (·.n) ++ left.eraseIdx i = R.map (·.n) ++ (left[i] :: left.eraseIdx i) := by simp [hn]
  have nd3 : ((R ++ [r]).map (·.n) ++ left.eraseIdx i).Nodup := by rw [e]; exact nd2
  have le : (left.eraseIdx i).length + 1 = left.length := by rw [List.length_eraseIdx, if_pos hi]; omega
  refine ⟨⟨(List.nodup_append.mp nd3).1, fun j hj => ?_, fun s hs => ?_, ?_⟩, ?_, nd3, fun x hx => m.lf x (List.mem_of_mem_eraseIdx hx), ?_, fun s hs e0 => ?_⟩
  · by_cases hj2 : j < R.length
    · rw [List.getElem_append_left hj2]
      rcases m.wf.up j hj2 with e | ⟨k, hk, hk2, e⟩
      · exact .inl e
      · exact .inr ⟨k, by rw [List.length_append]; omega, hk2, by rw [List.getElem_append_left hk]; exact e⟩
    · have : j = R.length := by rw [List.length_append, List.length_singleton] at hj; omega
      subst this
      rw [List.getElem_append_right (by omega)]
      simp only [Nat.sub_self, List.getElem_cons_zero]
      obtain ⟨s, hs, e1⟩ := List.mem_map.mp hh
      obtain ⟨k, hk, rfl⟩ := List.getElem_of_mem hs
      exact .inr ⟨k, by rw [List.length_append]; omega, hk, by rw [List.getElem_append_left hk, hu, ← e1]⟩
  · rcases List.mem_append.mp hs with hs | hs
    · exact m.wf.ok s hs
    · rw [List.mem_singleton] at hs; subst hs; exact ok
  · have := m.len; rw [List.length_append, List.length_singleton]; omega
  · obtain ⟨a, t, e1, e2, e3⟩ := m.root
    exact ⟨a, t ++ [r], by rw [e1]; rfl, e2, e3⟩
  · have := m.len; rw [List.length_append, List.length_singleton]; omega
  · rcases List.mem_append.mp hs with hs | hs
    · exact m.one s hs e0
    · rw [List.mem_singleton] at hs; rw [hs, hu] at e0; cases e0
open Classical in
noncomputable def lineOf (b : List Row) (n : Int) : List Int := if h : ∃ l, Up b (some n) l then h.choose else []
theorem lineOf_up {b : List Row} {n : Int} {l : List Int} (h : Up b (some n) l) : lineOf b n = l := by
  unfold lineOf
  rw [dif_pos ⟨l, h⟩]
  exact Up.one (Exists.choose_spec (⟨l, h⟩ : ∃ l, Up b (some n) l)) h
theorem Mk.root_up {R : List Row} {left : List Int} (m : Mk R left) : Up R (some 0) [0] := by
  obtain ⟨a, t, rfl, e2, e3⟩ := m.root
  refine .cons (r := a) ?_ (by rw [e3]; exact .nil)
  unfold rowAt
  rw [List.find?_cons_of_pos]
  simp [e2]
theorem Mk.made {R : List Row} {left : List Int} (m : Mk R left) : Made R where
  ok := m.wf.ok
  nd := m.wf.nd
  len := m.wf.len
  root := by
    obtain ⟨a, t, rfl, e2, e3⟩ := m.root
    refine ⟨a, ?_, e3⟩
    unfold rowAt
    rw [List.find?_cons_of_pos]
    simp [e2]
  one := m.one
def sp__law_rows : dSp := fun ds p Q _ => ∃ a c, ds = [.raw (.ref a), .int 9] ∧ p = some (a, c) ∧ c + 300 < 65536 ∧ ∀ b c', Bk b → c' ≤ c + 300 → Q (bookD b) (some (a, c'))
abbrev s__law_rows : Stmt := topS 25
abbrev n__law_rows : List Str := ["_law_pen", "_law_limit", "_law_rows_so", "_law_left", "_law_way", "_law_k", "_law_nth", "_law_some", "_law_high", "_law_spot", "_law_row"]
theorem sc__law_rows : FnScope n__law_rows ["_law_pen", "_law_limit"] (defScope s__law_rows) := ⟨rfl, rfl, rfl, by decide +kernel, rfl, by decide +kernel, by decide +kernel⟩
def p__law_rows_x2_0 : dS := (dSet 6 (dPopAt 3 (dCallD 2 [] sp__law_draw (dCons (dVar 0) (dCons (dOwnCB 3 rLen) dNil)))))
def p__law_rows_x2_1 : dS := (dSetF 7 (dRoF (dLC (dSeqI (dTake 2)) (gN 10) (dB (dBin (rLt) (dCB rLen (dCons (dFz (dCallL 2 [] sp__law_line (dCons (dTake 2) (dCons (dBin rIxD (dVar 10) (dC (.int 0))) dNil)))) dNil)) (dC (.int 6)))) (dBin rIxD (dVar 10) (dC (.int 0))) [10])))
def p__law_rows_x2_2 : dS := (dSet 8 (dBin rIxD (dFz (dLst (dCons (dOwnIx 7 (dCallD 2 [] sp__law_draw (dCons (dVar 0) (dCons (dOwnCB 7 rLen) dNil)))) (dCons (dOwnIx 7 (dC (.int (-1)))) (dCons (dOwnIx 7 (dCallD 2 [] sp__law_draw (dCons (dVar 0) (dCons (dOwnCB 7 rLen) dNil)))) dNil))))) (dVar 4)))
def p__law_rows_x2_3 : dS := (dSet 9 (dTup (dCons (dBin rSubI (dCallD 2 [] sp__law_draw (dCons (dVar 0) (dCons (dC (.int 12)) dNil))) (dC (.int 3))) (dCons (dBin rSubI (dCallD 2 [] sp__law_draw (dCons (dVar 0) (dCons (dC (.int 12)) dNil))) (dC (.int 3))) (dCons (dBin rAddD (dC (.int 1)) (dCallD 2 [] sp__law_draw (dCons (dVar 0) (dCons (dC (.int 9)) dNil)))) (dCons (dBin rAddD (dC (.int 1)) (dCallD 2 [] sp__law_draw (dCons (dVar 0) (dCons (dC (.int 9)) dNil)))) dNil))))))
def p__law_rows_x2_4 : dS := (dApp 2 (dTup (dCons (dVar 6) (dCons (dVar 8) (dCons (dVar 9) (dCons (dBin (rGt) (dCallD 2 [] sp__law_draw (dCons (dVar 0) (dCons (dC (.int 5)) dNil))) (dC (.int 0))) (dCons (dBin rAddD (dC (.int 1)) (dCallD 2 [] sp__law_draw (dCons (dVar 0) (dCons (dC (.int 4)) dNil)))) dNil)))))))
def b__law_rows_x2_4 : dS := p__law_rows_x2_4
def b__law_rows_x2_3 : dS := dSeq p__law_rows_x2_3 b__law_rows_x2_4
def b__law_rows_x2_2 : dS := dSeq p__law_rows_x2_2 b__law_rows_x2_3
def b__law_rows_x2_1 : dS := dSeq p__law_rows_x2_1 b__law_rows_x2_2
def b__law_rows_x2_0 : dS := dSeq p__law_rows_x2_0 b__law_rows_x2_1
def p__law_rows_0 : dS := (dSetF 2 (dLst (dCons (dTup (dCons (dC (.int 0)) (dCons (dC .non) (dCons (dTup (dCons (dC (.int 0)) (dCons (dC (.int 0)) (dCons (dBin rAddD (dC (.int 1)) (dCallD 2 [] sp__law_draw (dCons (dVar 0) (dCons (dC (.int 12)) dNil)))) (dCons (dBin rAddD (dC (.int 1)) (dCallD 2 [] sp__law_draw (dCons (dVar 0) (dCons (dC (.int 12)) dNil)))) dNil))))) (dCons (dC (.bl true)) (dCons (dC (.int 0)) dNil)))))) dNil)))
def p__law_rows_1 : dS := (dSetF 3 (dLst (dCons (dC (.int 1)) (dCons (dC (.int 2)) (dCons (dC (.int 3)) (dCons (dC (.int 4)) (dCons (dC (.int 5)) (dCons (dC (.int 6)) (dCons (dC (.int 7)) (dCons (dC (.int 8)) (dCons (dC (.int 9)) dNil)))))))))))
def p__law_rows_2 : dS := (dSet 4 (dCallD 2 [] sp__law_draw (dCons (dVar 0) (dCons (dC (.int 3)) dNil))))
def p__law_rows_3 : dS := (dFor (dRng1 (dCons (dBin rIxD (dFz (dLst (dCons (dVar 1) (dCons (dVar 1) (dCons (dBin rAddD (dC (.int 1)) (dCallD 2 [] sp__law_draw (dCons (dVar 0) (dCons (dVar 1) dNil)))) dNil))))) (dCallD 2 [] sp__law_draw (dCons (dVar 0) (dCons (dC (.int 3)) dNil)))) dNil)) (gN 5) b__law_rows_x2_0)
def p__law_rows_4 : dS := (dRet (dCallD 1 [] sp__law_in_order (dCons (dTake 2) dNil)))
def b__law_rows_4 : dS := p__law_rows_4
def b__law_rows_3 : dS := dSeq p__law_rows_3 b__law_rows_4
def b__law_rows_2 : dS := dSeq p__law_rows_2 b__law_rows_3
def b__law_rows_1 : dS := dSeq p__law_rows_1 b__law_rows_2
def b__law_rows_0 : dS := dSeq p__law_rows_0 b__law_rows_1
def b__law_rows : dS := b__law_rows_0
theorem run__law_rows {P : Program} {w : World} {K : PySem.W.Frag} {mg : Str → Option Value} {base : Heap} (m_len : mg "len" = none) (m_range : mg "range" = none) (K__law_draw_2 : Def P w K mg base 1 "_law_draw" 2 sp__law_draw []) (K__law_in_order_1 : Def P w K mg base 1 "_law_in_order" 1 sp__law_in_order []) (K__law_line_2 : DefL P w K mg base 1 "_law_line" 2 sp__law_line []) {f : Addr} (cdv : Value) (A : Around) (out : List Env) (s : Shared) (H : Hp) (E : XK) (g : A.guards = some []) (hrA : Room 1 (A.deeper (envOfC "_law_rows" (defScope s__law_rows) s.heap.objs.size f cdv))) :
  DSs (cx0 P w K mg base n__law_rows "_law_rows" (defScope s__law_rows) f cdv A out s H E) E00 (defBody s__law_rows) b__law_rows := by
 have hgA : (A.deeper (envOfC "_law_rows" (defScope s__law_rows) s.heap.objs.size f cdv)).guards = some [] := g
 have hun := hrA.un
 exact (dss_cons (t := p__law_rows_0) (u := b__law_rows_1) (ds_setF (i := 2) sc__law_rows.nd rfl (by first | exact .inl rfl | exact .inr rfl) (df_lst (da_cons (de_tup (da_cons de_int (da_cons de_non (da_cons (de_tup (da_cons de_int (da_cons de_int (da_cons (de_op od_add de_int (de_callD K__law_draw_2 hgA hrA (by rfl) (da_cons (de_var (pv 0)) (da_cons de_int da_nil)))) (da_cons (de_op od_add de_int (de_callD K__law_draw_2 hgA hrA (by rfl) (da_cons (de_var (pv 0)) (da_cons de_int da_nil)))) da_nil))))) (da_cons de_bl (da_cons de_int da_nil)))))) da_nil)))
  (dss_cons (t := p__law_rows_1) (u := b__law_rows_2) (ds_setF (i := 3) sc__law_rows.nd rfl (by first | exact .inl rfl | exact .inr rfl) (df_lst (da_cons de_int (da_cons de_int (da_cons de_int (da_cons de_int (da_cons de_int (da_cons de_int (da_cons de_int (da_cons de_int (da_cons de_int da_nil)))))))))))
  (dss_cons (t := p__law_rows_2) (u := b__law_rows_3) (ds_set (i := 4) sc__law_rows.nd rfl (by first | exact .inl rfl | exact .inr rfl) (de_callD K__law_draw_2 hgA hrA (by rfl) (da_cons (de_var (pv 0)) (da_cons de_int da_nil))))
  (dss_cons (t := p__law_rows_3) (u := b__law_rows_4) (ds_for PassesOwn.never rfl (di_range1 (by rfl) m_range (da_cons (de_ix (de_fz (df_lst (da_cons (de_var (pv 1)) (da_cons (de_var (pv 1)) (da_cons (de_op od_add de_int (de_callD K__law_draw_2 hgA hrA (by rfl) (da_cons (de_var (pv 0)) (da_cons (de_var (pv 1)) da_nil)))) da_nil))))) (de_callD K__law_draw_2 hgA hrA (by rfl) (da_cons (de_var (pv 0)) (da_cons de_int da_nil))) (fun _ _ => rfl)) da_nil)) (dg_name (pg_name (i := 5) sc__law_rows.nd rfl (by first | exact .inl rfl | exact .inr rfl))) (dss_cons (t := p__law_rows_x2_0) (u := b__law_rows_x2_1) (ds_set (i := 6) sc__law_rows.nd rfl (by first | exact .inl rfl | exact .inr rfl) (de_popAt (pv 3) (de_callD K__law_draw_2 hgA hrA (by rfl) (da_cons (de_var (pv 0)) (da_cons (de_ownB (cd_len) (pv 3) (by rfl) m_len PySem.boot_len) da_nil)))))
  (dss_cons (t := p__law_rows_x2_1) (u := b__law_rows_x2_2) (ds_setLcRo (E2 := E00) (own := [("_law_row", 10)]) (i := 7) rfl sc__law_rows.nd rfl rfl (sw_true rfl rfl rfl (by decide +kernel)) (di_seq (de_take (pv 2))) (blkOk_by (N := n__law_rows) (sc := (defScope s__law_rows)) (own := [("_law_row", 10)]) (by decide +kernel)) (by decide) (fun _ _ _ _ _ => (dg_name (pg_name (i := 10) sc__law_rows.nd rfl (by first | exact .inl rfl | exact .inr rfl)))) (fun _ _ _ _ _ => (dts_one (dt_cmp (od_lt) (de_callB (cd_len) (by rfl) m_len PySem.boot_len (da_cons (de_fz (df_callL K__law_line_2 hgA hrA (by rfl) (da_cons (de_take (pv 2)) (da_cons (de_ix (de_var (pv 10)) de_int (fun _ _ => rfl)) da_nil)))) da_nil)) de_int (nomark _)))) (fun _ _ _ _ _ => (de_ix (de_var (pv 10)) de_int (fun _ _ => rfl))))
  (dss_cons (t := p__law_rows_x2_2) (u := b__law_rows_x2_3) (ds_set (i := 8) sc__law_rows.nd rfl (by first | exact .inl rfl | exact .inr rfl) (de_ix (de_fz (df_lst (da_cons (de_ownIx (pv 7) (de_callD K__law_draw_2 hgA hrA (by rfl) (da_cons (de_var (pv 0)) (da_cons (de_ownB (cd_len) (pv 7) (by rfl) m_len PySem.boot_len) da_nil))) (fun _ _ => rfl)) (da_cons (de_ownIx (pv 7) de_neg (fun _ _ => rfl)) (da_cons (de_ownIx (pv 7) (de_callD K__law_draw_2 hgA hrA (by rfl) (da_cons (de_var (pv 0)) (da_cons (de_ownB (cd_len) (pv 7) (by rfl) m_len PySem.boot_len) da_nil))) (fun _ _ => rfl)) da_nil))))) (de_var (pv 4)) (fun _ _ => rfl)))
  (dss_cons (t := p__law_rows_x2_3) (u := b__law_rows_x2_4) (ds_set (i := 9) sc__law_rows.nd rfl (by first | exact .inl rfl | exact .inr rfl) (de_tup (da_cons (de_op od_sub (de_callD K__law_draw_2 hgA hrA (by rfl) (da_cons (de_var (pv 0)) (da_cons de_int da_nil))) de_int) (da_cons (de_op od_sub (de_callD K__law_draw_2 hgA hrA (by rfl) (da_cons (de_var (pv 0)) (da_cons de_int da_nil))) de_int) (da_cons (de_op od_add de_int (de_callD K__law_draw_2 hgA hrA (by rfl) (da_cons (de_var (pv 0)) (da_cons de_int da_nil)))) (da_cons (de_op od_add de_int (de_callD K__law_draw_2 hgA hrA (by rfl) (da_cons (de_var (pv 0)) (da_cons de_int da_nil)))) da_nil))))))
  (dss_one (t := p__law_rows_x2_4) (ds_app (pv 2) (de_tup (da_cons (de_var (pv 6)) (da_cons (de_var (pv 8)) (da_cons (de_var (pv 9)) (da_cons (de_cmp (od_gt) (de_callD K__law_draw_2 hgA hrA (by rfl) (da_cons (de_var (pv 0)) (da_cons de_int da_nil))) de_int (nomark _)) (da_cons (de_op od_add de_int (de_callD K__law_draw_2 hgA hrA (by rfl) (da_cons (de_var (pv 0)) (da_cons de_int da_nil)))) da_nil)))))))))))))
  (dss_one (t := p__law_rows_4) (ds_ret (de_callD K__law_in_order_1 hgA hrA (by rfl) (da_cons (de_take (pv 2)) da_nil))))))))
def rowsS (a : Addr) (R : List Row) (left : List Int) (way : Int) (s5 s6 s7 s8 s9 : Sl) : List Sl := [.dat (.raw (.ref a)), .dat (.int 9), .own (R.map rowD), .own (left.map .int), .dat (.int way), s5, s6, s7, s8, s9, .un]
theorem turn_rows {a : Addr} {R : List Row} {left : List Int} {way : Int} {s5 s6 s7 s8 s9 : Sl} {c : Nat} {N : dEnds} (hc : c + 20 < 65536) (w0 : 0 ≤ way) (w3 : way < 3) (m : Mk R left) (hl : R.length ≤ 9)
    (hN : ∀ R2 left2 s6 s7 s8 s9 c2, Mk R2 left2 → R2.length = R.length + 1 → c2 ≤ c + 20 → N.nx ⟨rowsS a R2 left2 way s5 s6 s7 s8 s9, some (a, c2)⟩) :
    b__law_rows_x2_0 W0 N ⟨rowsS a R left way s5 s6 s7 s8 s9, some (a, c)⟩ := by
  unfold rowsS at hN ⊢
  have ml := m.len
  simp only [dPen1, dLenSet, dSrtR, dRo, dRoF, dRoT, roD, ro_un, ro_dat, ro_own, ro_hp, ro_law, ro_ownK, ro_ownT, List.forall_mem_map, flat_int, flat_str, flat_bl, flat_non, dSeq, dNext, dSet, dSetF, setSl, dVar, dTake, dC, dBin, dBinF, dB, dIfS, dIf, dRet, dRetN, dExpr, dNil, dCons, dTup, dLst, dFz, dAnd, dOr, dNot, dAndV, dOrV, dNotV, dCallD, dCallK, dCB, dCBF, dFor, dLC, dYes, dRng1, dRng2, dSeqI, gN, gT, gsNil, gsCons, dAsg, dNeg, dJoin, dFs, dJs, dFmt, dApp, dExt, dPop, dPopAt, dOwnIx, dOwnCB, dOwnL, dOwnR, dOwnSl, dSetIx, dSlT, dSlL, oNone, oSome, dBorn, optQ, ownAt, setOwnAt, lookAt, wipeD, dNewDT, dNewDK, dDGet, dDIn, dDPut, dSortT, rSrt, isDict, Ev.dictGet, Ev.dictPut, Option.isSome_none, Option.isSome_some, D.keyT, keysOf, D.key, exists_eq_left', exists_eq_left, Option.isSome, rRepL, rCatL, dRetF, dIfF, dPar, dRetOwn, dCallL, dCallLK, dPen2, dRev, dRevI, dIndex, endsL, startL, dNever, dBrk, dCnt, rAddD, rSubI, rIO, rMulI, rDivI, rModI, rPowI, rCI, rIxD, rIsN, rNotN, D.isN, rLen, rTuple, rList, rAbs, rInt, rStr, Ev.rRepr, Ev.rIsi, D.ty, kit_tab, startD, endsD, List.map_cons, List.map_nil, List.length_cons, List.length_nil, List.append_nil, List.nil_append, List.cons_append, List.getElem?_cons_zero, List.getElem?_cons_succ, List.getElem?_nil, List.set_cons_zero, List.set_cons_succ, List.replicate, List.replicate_succ, Nat.zero_add, Nat.zero_le, sizeLine, true_and, and_true, if_true, Ev.eq_int, Ev.eq_str, Ev.eq_bl, Ev.eq_non, lst_nil, tup_nil, List.map_eq_nil_iff, txt_join, rLt, rLe, rGt, rGe, atI_ofNat, atI_last, wLC, strsOf, intsOf, blsOf, Option.map_some, Ev.join_two, Ev.join_one, Ev.join_nil, List.sum_cons, List.sum_nil, PySem.Str.empty_append, ixN_ofNat, Option.some.injEq, exists_eq', List.length_map, decide_true, decide_false, Bool.not_true, Bool.not_false, Bool.true_eq_false, Bool.false_eq_true, false_and, and_false, if_false, ite_true, ite_false, Nat.reduceAdd, Nat.reduceSub, Nat.reduceMul, Nat.reduceLT, Nat.reduceLeDiff, Nat.reduceEqDiff, Nat.reducePow, Int.reduceToNat, Int.reducePow, pickL, List.filterMap_cons, List.filterMap_nil, and_self, Int.reduceLT, Int.reduceLE, Int.reduceNeg, Int.reduceAdd, Int.reduceMul, Int.reduceSub, Int.reduceEq, reduceIte, reduceCtorEq, lit_eq, String.reduceEq, Ev.rEq, Ev.rNe, Ev.rInD, cut_toN, cut_fromN, List.map_take, List.forall_mem_cons, List.forall_mem_nil, List.not_mem_nil, false_imp_iff, implies_true, forall_const, D.cm, D.lay, D.lays, D.dep, D.deps, strOk_lit, lays_ints, deps_ints, Nat.max_self, Nat.max_zero, Nat.zero_max, Bool.and_self, Bool.true_and, Bool.and_true, Bool.and_false, Bool.false_and, Bool.or_false, Bool.or_true, Bool.true_or, Bool.false_or, List.any_cons, List.any_nil, decide_eq_true_eq, eq_self, b__law_rows_x2_0, p__law_rows_x2_0, sp__law_draw, spDraw]
  refine ⟨by omega, by omega, by omega, fun r r0 r1 => ⟨by omega, by omega, ?_⟩⟩
  have ht : r.toNat < left.length := by omega
  rw [ixN_in r0 r1]
  simp only [List.getElem?_map, List.getElem?_eq_getElem ht, Option.map_some, erase_map]
  have lr := m.lf _ (List.getElem_mem ht)
  -- the rooms not too deep
  simp only [dPen1, dLenSet, dSrtR, dRo, dRoF, dRoT, roD, ro_un, ro_dat, ro_own, ro_hp, ro_law, ro_ownK, ro_ownT, List.forall_mem_map, flat_int, flat_str, flat_bl, flat_non, dSeq, dNext, dSet, dSetF, setSl, dVar, dTake, dC, dBin, dBinF, dB, dIfS, dIf, dRet, dRetN, dExpr, dNil, dCons, dTup, dLst, dFz, dAnd, dOr, dNot, dAndV, dOrV, dNotV, dCallD, dCallK, dCB, dCBF, dFor, dLC, dYes, dRng1, dRng2, dSeqI, gN, gT, gsNil, gsCons, dAsg, dNeg, dJoin, dFs, dJs, dFmt, dApp, dExt, dPop, dPopAt, dOwnIx, dOwnCB, dOwnL, dOwnR, dOwnSl, dSetIx, dSlT, dSlL, oNone, oSome, dBorn, optQ, ownAt, setOwnAt, lookAt, wipeD, dNewDT, dNewDK, dDGet, dDIn, dDPut, dSortT, rSrt, isDict, Ev.dictGet, Ev.dictPut, Option.isSome_none, Option.isSome_some, D.keyT, keysOf, D.key, exists_eq_left', exists_eq_left, Option.isSome, rRepL, rCatL, dRetF, dIfF, dPar, dRetOwn, dCallL, dCallLK, dPen2, dRev, dRevI, dIndex, endsL, startL, dNever, dBrk, dCnt, rAddD, rSubI, rIO, rMulI, rDivI, rModI, rPowI, rCI, rIxD, rIsN, rNotN, D.isN, rLen, rTuple, rList, rAbs, rInt, rStr, Ev.rRepr, Ev.rIsi, D.ty, kit_tab, startD, endsD, List.map_cons, List.map_nil, List.length_cons, List.length_nil, List.append_nil, List.nil_append, List.cons_append, List.getElem?_cons_zero, List.getElem?_cons_succ, List.getElem?_nil, List.set_cons_zero, List.set_cons_succ, List.replicate, List.replicate_succ, Nat.zero_add, Nat.zero_le, sizeLine, true_and, and_true, if_true, Ev.eq_int, Ev.eq_str, Ev.eq_bl, Ev.eq_non, lst_nil, tup_nil, List.map_eq_nil_iff, txt_join, rLt, rLe, rGt, rGe, atI_ofNat, atI_last, wLC, strsOf, intsOf, blsOf, Option.map_some, Ev.join_two, Ev.join_one, Ev.join_nil, List.sum_cons, List.sum_nil, PySem.Str.empty_append, ixN_ofNat, Option.some.injEq, exists_eq', List.length_map, decide_true, decide_false, Bool.not_true, Bool.not_false, Bool.true_eq_false, Bool.false_eq_true, false_and, and_false, if_false, ite_true, ite_false, Nat.reduceAdd, Nat.reduceSub, Nat.reduceMul, Nat.reduceLT, Nat.reduceLeDiff, Nat.reduceEqDiff, Nat.reducePow, Int.reduceToNat, Int.reducePow, pickL, List.filterMap_cons, List.filterMap_nil, and_self, Int.reduceLT, Int.reduceLE, Int.reduceNeg, Int.reduceAdd, Int.reduceMul, Int.reduceSub, Int.reduceEq, reduceIte, reduceCtorEq, lit_eq, String.reduceEq, Ev.rEq, Ev.rNe, Ev.rInD, cut_toN, cut_fromN, List.map_take, List.forall_mem_cons, List.forall_mem_nil, List.not_mem_nil, false_imp_iff, implies_true, forall_const, D.cm, D.lay, D.lays, D.dep, D.deps, strOk_lit, lays_ints, deps_ints, Nat.max_self, Nat.max_zero, Nat.zero_max, Bool.and_self, Bool.true_and, Bool.and_true, Bool.and_false, Bool.false_and, Bool.or_false, Bool.or_true, Bool.true_or, Bool.false_or, List.any_cons, List.any_nil, decide_eq_true_eq, eq_self, b__law_rows_x2_1, p__law_rows_x2_1, sp__law_line]
  refine wLC_filt (l := R) (ι := rowD) (f := fun r => .int r.n) (t := fun r => decide ((lineOf R r.n).length + 1 < 6)) (fun r hr acc k hz g1 g2 => ?_) (by rw [sizeLine_eq]; omega) ?_
  · obtain ⟨l, u, hl2, hx⟩ := m.wf.lineM (List.mem_map.mpr ⟨r, hr, rfl⟩)
    simp only [dPen1, dLenSet, dSrtR, dRo, dRoF, dRoT, roD, ro_un, ro_dat, ro_own, ro_hp, ro_law, ro_ownK, ro_ownT, List.forall_mem_map, flat_int, flat_str, flat_bl, flat_non, dSeq, dNext, dSet, dSetF, setSl, dVar, dTake, dC, dBin, dBinF, dB, dIfS, dIf, dRet, dRetN, dExpr, dNil, dCons, dTup, dLst, dFz, dAnd, dOr, dNot, dAndV, dOrV, dNotV, dCallD, dCallK, dCB, dCBF, dFor, dLC, dYes, dRng1, dRng2, dSeqI, gN, gT, gsNil, gsCons, dAsg, dNeg, dJoin, dFs, dJs, dFmt, dApp, dExt, dPop, dPopAt, dOwnIx, dOwnCB, dOwnL, dOwnR, dOwnSl, dSetIx, dSlT, dSlL, oNone, oSome, dBorn, optQ, ownAt, setOwnAt, lookAt, wipeD, dNewDT, dNewDK, dDGet, dDIn, dDPut, dSortT, rSrt, isDict, Ev.dictGet, Ev.dictPut, Option.isSome_none, Option.isSome_some, D.keyT, keysOf, D.key, exists_eq_left', exists_eq_left, Option.isSome, rRepL, rCatL, dRetF, dIfF, dPar, dRetOwn, dCallL, dCallLK, dPen2, dRev, dRevI, dIndex, endsL, startL, dNever, dBrk, dCnt, rAddD, rSubI, rIO, rMulI, rDivI, rModI, rPowI, rCI, rIxD, rIsN, rNotN, D.isN, rLen, rTuple, rList, rAbs, rInt, rStr, Ev.rRepr, Ev.rIsi, D.ty, kit_tab, startD, endsD, List.map_cons, List.map_nil, List.length_cons, List.length_nil, List.append_nil, List.nil_append, List.cons_append, List.getElem?_cons_zero, List.getElem?_cons_succ, List.getElem?_nil, List.set_cons_zero, List.set_cons_succ, List.replicate, List.replicate_succ, Nat.zero_add, Nat.zero_le, sizeLine, true_and, and_true, if_true, Ev.eq_int, Ev.eq_str, Ev.eq_bl, Ev.eq_non, lst_nil, tup_nil, List.map_eq_nil_iff, txt_join, rLt, rLe, rGt, rGe, atI_ofNat, atI_last, wLC, strsOf, intsOf, blsOf, Option.map_some, Ev.join_two, Ev.join_one, Ev.join_nil, List.sum_cons, List.sum_nil, PySem.Str.empty_append, ixN_ofNat, Option.some.injEq, exists_eq', List.length_map, decide_true, decide_false, Bool.not_true, Bool.not_false, Bool.true_eq_false, Bool.false_eq_true, false_and, and_false, if_false, ite_true, ite_false, Nat.reduceAdd, Nat.reduceSub, Nat.reduceMul, Nat.reduceLT, Nat.reduceLeDiff, Nat.reduceEqDiff, Nat.reducePow, Int.reduceToNat, Int.reducePow, pickL, List.filterMap_cons, List.filterMap_nil, and_self, Int.reduceLT, Int.reduceLE, Int.reduceNeg, Int.reduceAdd, Int.reduceMul, Int.reduceSub, Int.reduceEq, reduceIte, reduceCtorEq, lit_eq, String.reduceEq, Ev.rEq, Ev.rNe, Ev.rInD, cut_toN, cut_fromN, List.map_take, List.forall_mem_cons, List.forall_mem_nil, List.not_mem_nil, false_imp_iff, implies_true, forall_const, D.cm, D.lay, D.lays, D.dep, D.deps, strOk_lit, lays_ints, deps_ints, Nat.max_self, Nat.max_zero, Nat.zero_max, Bool.and_self, Bool.true_and, Bool.and_true, Bool.and_false, Bool.false_and, Bool.or_false, Bool.or_true, Bool.true_or, Bool.false_or, List.any_cons, List.any_nil, decide_eq_true_eq, eq_self, rowD]
    refine ⟨_, R, some r.n, l, .inr rfl, rfl, m.wf.len, u, by omega, ?_⟩
    simp only [dPen1, dLenSet, dSrtR, dRo, dRoF, dRoT, roD, ro_un, ro_dat, ro_own, ro_hp, ro_law, ro_ownK, ro_ownT, List.forall_mem_map, flat_int, flat_str, flat_bl, flat_non, dSeq, dNext, dSet, dSetF, setSl, dVar, dTake, dC, dBin, dBinF, dB, dIfS, dIf, dRet, dRetN, dExpr, dNil, dCons, dTup, dLst, dFz, dAnd, dOr, dNot, dAndV, dOrV, dNotV, dCallD, dCallK, dCB, dCBF, dFor, dLC, dYes, dRng1, dRng2, dSeqI, gN, gT, gsNil, gsCons, dAsg, dNeg, dJoin, dFs, dJs, dFmt, dApp, dExt, dPop, dPopAt, dOwnIx, dOwnCB, dOwnL, dOwnR, dOwnSl, dSetIx, dSlT, dSlL, oNone, oSome, dBorn, optQ, ownAt, setOwnAt, lookAt, wipeD, dNewDT, dNewDK, dDGet, dDIn, dDPut, dSortT, rSrt, isDict, Ev.dictGet, Ev.dictPut, Option.isSome_none, Option.isSome_some, D.keyT, keysOf, D.key, exists_eq_left', exists_eq_left, Option.isSome, rRepL, rCatL, dRetF, dIfF, dPar, dRetOwn, dCallL, dCallLK, dPen2, dRev, dRevI, dIndex, endsL, startL, dNever, dBrk, dCnt, rAddD, rSubI, rIO, rMulI, rDivI, rModI, rPowI, rCI, rIxD, rIsN, rNotN, D.isN, rLen, rTuple, rList, rAbs, rInt, rStr, Ev.rRepr, Ev.rIsi, D.ty, kit_tab, startD, endsD, List.map_cons, List.map_nil, List.length_cons, List.length_nil, List.append_nil, List.nil_append, List.cons_append, List.getElem?_cons_zero, List.getElem?_cons_succ, List.getElem?_nil, List.set_cons_zero, List.set_cons_succ, List.replicate, List.replicate_succ, Nat.zero_add, Nat.zero_le, sizeLine, true_and, and_true, if_true, Ev.eq_int, Ev.eq_str, Ev.eq_bl, Ev.eq_non, lst_nil, tup_nil, List.map_eq_nil_iff, txt_join, rLt, rLe, rGt, rGe, atI_ofNat, atI_last, wLC, strsOf, intsOf, blsOf, Option.map_some, Ev.join_two, Ev.join_one, Ev.join_nil, List.sum_cons, List.sum_nil, PySem.Str.empty_append, ixN_ofNat, Option.some.injEq, exists_eq', List.length_map, decide_true, decide_false, Bool.not_true, Bool.not_false, Bool.true_eq_false, Bool.false_eq_true, false_and, and_false, if_false, ite_true, ite_false, Nat.reduceAdd, Nat.reduceSub, Nat.reduceMul, Nat.reduceLT, Nat.reduceLeDiff, Nat.reduceEqDiff, Nat.reducePow, Int.reduceToNat, Int.reducePow, pickL, List.filterMap_cons, List.filterMap_nil, and_self, Int.reduceLT, Int.reduceLE, Int.reduceNeg, Int.reduceAdd, Int.reduceMul, Int.reduceSub, Int.reduceEq, reduceIte, reduceCtorEq, lit_eq, String.reduceEq, Ev.rEq, Ev.rNe, Ev.rInD, cut_toN, cut_fromN, List.map_take, List.forall_mem_cons, List.forall_mem_nil, List.not_mem_nil, false_imp_iff, implies_true, forall_const, D.cm, D.lay, D.lays, D.dep, D.deps, strOk_lit, lays_ints, deps_ints, Nat.max_self, Nat.max_zero, Nat.zero_max, Bool.and_self, Bool.true_and, Bool.and_true, Bool.and_false, Bool.false_and, Bool.or_false, Bool.or_true, Bool.true_or, Bool.false_or, List.any_cons, List.any_nil, decide_eq_true_eq, eq_self, List.length_append, List.length_map]
    rw [lineOf_up u] at g1 g2
    by_cases h : l.length + 1 < 6
    · have h2 : ((l.length + 1 : Nat) : Int) < 6 := by omega
      simp only [dPen1, dLenSet, dSrtR, dRo, dRoF, dRoT, roD, ro_un, ro_dat, ro_own, ro_hp, ro_law, ro_ownK, ro_ownT, List.forall_mem_map, flat_int, flat_str, flat_bl, flat_non, dSeq, dNext, dSet, dSetF, setSl, dVar, dTake, dC, dBin, dBinF, dB, dIfS, dIf, dRet, dRetN, dExpr, dNil, dCons, dTup, dLst, dFz, dAnd, dOr, dNot, dAndV, dOrV, dNotV, dCallD, dCallK, dCB, dCBF, dFor, dLC, dYes, dRng1, dRng2, dSeqI, gN, gT, gsNil, gsCons, dAsg, dNeg, dJoin, dFs, dJs, dFmt, dApp, dExt, dPop, dPopAt, dOwnIx, dOwnCB, dOwnL, dOwnR, dOwnSl, dSetIx, dSlT, dSlL, oNone, oSome, dBorn, optQ, ownAt, setOwnAt, lookAt, wipeD, dNewDT, dNewDK, dDGet, dDIn, dDPut, dSortT, rSrt, isDict, Ev.dictGet, Ev.dictPut, Option.isSome_none, Option.isSome_some, D.keyT, keysOf, D.key, exists_eq_left', exists_eq_left, Option.isSome, rRepL, rCatL, dRetF, dIfF, dPar, dRetOwn, dCallL, dCallLK, dPen2, dRev, dRevI, dIndex, endsL, startL, dNever, dBrk, dCnt, rAddD, rSubI, rIO, rMulI, rDivI, rModI, rPowI, rCI, rIxD, rIsN, rNotN, D.isN, rLen, rTuple, rList, rAbs, rInt, rStr, Ev.rRepr, Ev.rIsi, D.ty, kit_tab, startD, endsD, List.map_cons, List.map_nil, List.length_cons, List.length_nil, List.append_nil, List.nil_append, List.cons_append, List.getElem?_cons_zero, List.getElem?_cons_succ, List.getElem?_nil, List.set_cons_zero, List.set_cons_succ, List.replicate, List.replicate_succ, Nat.zero_add, Nat.zero_le, sizeLine, true_and, and_true, if_true, Ev.eq_int, Ev.eq_str, Ev.eq_bl, Ev.eq_non, lst_nil, tup_nil, List.map_eq_nil_iff, txt_join, rLt, rLe, rGt, rGe, atI_ofNat, atI_last, wLC, strsOf, intsOf, blsOf, Option.map_some, Ev.join_two, Ev.join_one, Ev.join_nil, List.sum_cons, List.sum_nil, PySem.Str.empty_append, ixN_ofNat, Option.some.injEq, exists_eq', List.length_map, decide_true, decide_false, Bool.not_true, Bool.not_false, Bool.true_eq_false, Bool.false_eq_true, false_and, and_false, if_false, ite_true, ite_false, Nat.reduceAdd, Nat.reduceSub, Nat.reduceMul, Nat.reduceLT, Nat.reduceLeDiff, Nat.reduceEqDiff, Nat.reducePow, Int.reduceToNat, Int.reducePow, pickL, List.filterMap_cons, List.filterMap_nil, and_self, Int.reduceLT, Int.reduceLE, Int.reduceNeg, Int.reduceAdd, Int.reduceMul, Int.reduceSub, Int.reduceEq, reduceIte, reduceCtorEq, lit_eq, String.reduceEq, Ev.rEq, Ev.rNe, Ev.rInD, cut_toN, cut_fromN, List.map_take, List.forall_mem_cons, List.forall_mem_nil, List.not_mem_nil, false_imp_iff, implies_true, forall_const, D.cm, D.lay, D.lays, D.dep, D.deps, strOk_lit, lays_ints, deps_ints, Nat.max_self, Nat.max_zero, Nat.zero_max, Bool.and_self, Bool.true_and, Bool.and_true, Bool.and_false, Bool.false_and, Bool.or_false, Bool.or_true, Bool.true_or, Bool.false_or, List.any_cons, List.any_nil, decide_eq_true_eq, eq_self, eq_true h2]
      exact ⟨hz, g1 (by simp [h])⟩
    · have h2 : ¬ ((l.length + 1 : Nat) : Int) < 6 := by omega
      simp only [dPen1, dLenSet, dSrtR, dRo, dRoF, dRoT, roD, ro_un, ro_dat, ro_own, ro_hp, ro_law, ro_ownK, ro_ownT, List.forall_mem_map, flat_int, flat_str, flat_bl, flat_non, dSeq, dNext, dSet, dSetF, setSl, dVar, dTake, dC, dBin, dBinF, dB, dIfS, dIf, dRet, dRetN, dExpr, dNil, dCons, dTup, dLst, dFz, dAnd, dOr, dNot, dAndV, dOrV, dNotV, dCallD, dCallK, dCB, dCBF, dFor, dLC, dYes, dRng1, dRng2, dSeqI, gN, gT, gsNil, gsCons, dAsg, dNeg, dJoin, dFs, dJs, dFmt, dApp, dExt, dPop, dPopAt, dOwnIx, dOwnCB, dOwnL, dOwnR, dOwnSl, dSetIx, dSlT, dSlL, oNone, oSome, dBorn, optQ, ownAt, setOwnAt, lookAt, wipeD, dNewDT, dNewDK, dDGet, dDIn, dDPut, dSortT, rSrt, isDict, Ev.dictGet, Ev.dictPut, Option.isSome_none, Option.isSome_some, D.keyT, keysOf, D.key, exists_eq_left', exists_eq_left, Option.isSome, rRepL, rCatL, dRetF, dIfF, dPar, dRetOwn, dCallL, dCallLK, dPen2, dRev, dRevI, dIndex, endsL, startL, dNever, dBrk, dCnt, rAddD, rSubI, rIO, rMulI, rDivI, rModI, rPowI, rCI, rIxD, rIsN, rNotN, D.isN, rLen, rTuple, rList, rAbs, rInt, rStr, Ev.rRepr, Ev.rIsi, D.ty, kit_tab, startD, endsD, List.map_cons, List.map_nil, List.length_cons, List.length_nil, List.append_nil, List.nil_append, List.cons_append, List.getElem?_cons_zero, List.getElem?_cons_succ, List.getElem?_nil, List.set_cons_zero, List.set_cons_succ, List.replicate, List.replicate_succ, Nat.zero_add, Nat.zero_le, sizeLine, true_and, and_true, if_true, Ev.eq_int, Ev.eq_str, Ev.eq_bl, Ev.eq_non, lst_nil, tup_nil, List.map_eq_nil_iff, txt_join, rLt, rLe, rGt, rGe, atI_ofNat, atI_last, wLC, strsOf, intsOf, blsOf, Option.map_some, Ev.join_two, Ev.join_one, Ev.join_nil, List.sum_cons, List.sum_nil, PySem.Str.empty_append, ixN_ofNat, Option.some.injEq, exists_eq', List.length_map, decide_true, decide_false, Bool.not_true, Bool.not_false, Bool.true_eq_false, Bool.false_eq_true, false_and, and_false, if_false, ite_true, ite_false, Nat.reduceAdd, Nat.reduceSub, Nat.reduceMul, Nat.reduceLT, Nat.reduceLeDiff, Nat.reduceEqDiff, Nat.reducePow, Int.reduceToNat, Int.reducePow, pickL, List.filterMap_cons, List.filterMap_nil, and_self, Int.reduceLT, Int.reduceLE, Int.reduceNeg, Int.reduceAdd, Int.reduceMul, Int.reduceSub, Int.reduceEq, reduceIte, reduceCtorEq, lit_eq, String.reduceEq, Ev.rEq, Ev.rNe, Ev.rInD, cut_toN, cut_fromN, List.map_take, List.forall_mem_cons, List.forall_mem_nil, List.not_mem_nil, false_imp_iff, implies_true, forall_const, D.cm, D.lay, D.lays, D.dep, D.deps, strOk_lit, lays_ints, deps_ints, Nat.max_self, Nat.max_zero, Nat.zero_max, Bool.and_self, Bool.true_and, Bool.and_true, Bool.and_false, Bool.false_and, Bool.or_false, Bool.or_true, Bool.true_or, Bool.false_or, List.any_cons, List.any_nil, decide_eq_true_eq, eq_self, eq_false h2]
      exact g2 (by simp [h])
  have hso : (R.filter fun r => decide ((lineOf R r.n).length + 1 < 6)) ≠ [] := by
    obtain ⟨a0, t0, e1, e2, e3⟩ := m.root
    refine List.ne_nil_of_mem (a := a0) (List.mem_filter.mpr ⟨by rw [e1]; simp, ?_⟩)
    rw [e2, lineOf_up m.root_up]; rfl
  have hsl : (R.filter fun r => decide ((lineOf R r.n).length + 1 < 6)).length ≤ 10 := Nat.le_trans (List.length_filter_le _ _) m.wf.len
  have hsm : ∀ r ∈ R.filter fun r => decide ((lineOf R r.n).length + 1 < 6), r.n ∈ R.map (·.n) := fun r hr => List.mem_map.mpr ⟨r, (List.mem_filter.mp hr).1, rfl⟩
  generalize (R.filter fun r => decide ((lineOf R r.n).length + 1 < 6)) = some_ at hso hsl hsm
  have hs0 : 0 < some_.length := List.length_pos_iff.mpr hso
  refine ⟨fun x hx => by obtain ⟨r, _, rfl⟩ := List.mem_map.mp hx; rfl, ?_⟩
  simp only [dPen1, dLenSet, dSrtR, dRo, dRoF, dRoT, roD, ro_un, ro_dat, ro_own, ro_hp, ro_law, ro_ownK, ro_ownT, List.forall_mem_map, flat_int, flat_str, flat_bl, flat_non, dSeq, dNext, dSet, dSetF, setSl, dVar, dTake, dC, dBin, dBinF, dB, dIfS, dIf, dRet, dRetN, dExpr, dNil, dCons, dTup, dLst, dFz, dAnd, dOr, dNot, dAndV, dOrV, dNotV, dCallD, dCallK, dCB, dCBF, dFor, dLC, dYes, dRng1, dRng2, dSeqI, gN, gT, gsNil, gsCons, dAsg, dNeg, dJoin, dFs, dJs, dFmt, dApp, dExt, dPop, dPopAt, dOwnIx, dOwnCB, dOwnL, dOwnR, dOwnSl, dSetIx, dSlT, dSlL, oNone, oSome, dBorn, optQ, ownAt, setOwnAt, lookAt, wipeD, dNewDT, dNewDK, dDGet, dDIn, dDPut, dSortT, rSrt, isDict, Ev.dictGet, Ev.dictPut, Option.isSome_none, Option.isSome_some, D.keyT, keysOf, D.key, exists_eq_left', exists_eq_left, Option.isSome, rRepL, rCatL, dRetF, dIfF, dPar, dRetOwn, dCallL, dCallLK, dPen2, dRev, dRevI, dIndex, endsL, startL, dNever, dBrk, dCnt, rAddD, rSubI, rIO, rMulI, rDivI, rModI, rPowI, rCI, rIxD, rIsN, rNotN, D.isN, rLen, rTuple, rList, rAbs, rInt, rStr, Ev.rRepr, Ev.rIsi, D.ty, kit_tab, startD, endsD, List.map_cons, List.map_nil, List.length_cons, List.length_nil, List.append_nil, List.nil_append, List.cons_append, List.getElem?_cons_zero, List.getElem?_cons_succ, List.getElem?_nil, List.set_cons_zero, List.set_cons_succ, List.replicate, List.replicate_succ, Nat.zero_add, Nat.zero_le, sizeLine, true_and, and_true, if_true, Ev.eq_int, Ev.eq_str, Ev.eq_bl, Ev.eq_non, lst_nil, tup_nil, List.map_eq_nil_iff, txt_join, rLt, rLe, rGt, rGe, atI_ofNat, atI_last, wLC, strsOf, intsOf, blsOf, Option.map_some, Ev.join_two, Ev.join_one, Ev.join_nil, List.sum_cons, List.sum_nil, PySem.Str.empty_append, ixN_ofNat, Option.some.injEq, exists_eq', List.length_map, decide_true, decide_false, Bool.not_true, Bool.not_false, Bool.true_eq_false, Bool.false_eq_true, false_and, and_false, if_false, ite_true, ite_false, Nat.reduceAdd, Nat.reduceSub, Nat.reduceMul, Nat.reduceLT, Nat.reduceLeDiff, Nat.reduceEqDiff, Nat.reducePow, Int.reduceToNat, Int.reducePow, pickL, List.filterMap_cons, List.filterMap_nil, and_self, Int.reduceLT, Int.reduceLE, Int.reduceNeg, Int.reduceAdd, Int.reduceMul, Int.reduceSub, Int.reduceEq, reduceIte, reduceCtorEq, lit_eq, String.reduceEq, Ev.rEq, Ev.rNe, Ev.rInD, cut_toN, cut_fromN, List.map_take, List.forall_mem_cons, List.forall_mem_nil, List.not_mem_nil, false_imp_iff, implies_true, forall_const, D.cm, D.lay, D.lays, D.dep, D.deps, strOk_lit, lays_ints, deps_ints, Nat.max_self, Nat.max_zero, Nat.zero_max, Bool.and_self, Bool.true_and, Bool.and_true, Bool.and_false, Bool.false_and, Bool.or_false, Bool.or_true, Bool.true_or, Bool.false_or, List.any_cons, List.any_nil, decide_eq_true_eq, eq_self, b__law_rows_x2_2, p__law_rows_x2_2, sp__law_draw, spDraw]
  refine ⟨by omega, by omega, by omega, fun d1 d10 d11 => ?_⟩
  obtain ⟨x1, hx1, e1⟩ := atI_map (f := fun r : Row => D.int r.n) d10 d11
  obtain ⟨x2, hx2, e2⟩ := atI_mapLast (f := fun r : Row => D.int r.n) hso
  rw [e1, e2]
  refine ⟨by omega, by omega, by omega, fun d2 d20 d21 => ?_⟩
  obtain ⟨x3, hx3, e3⟩ := atI_map (f := fun r : Row => D.int r.n) d20 d21
  rw [e3]
  obtain ⟨h, hh, eh⟩ : ∃ h ∈ R.map (·.n), atI [D.int x1.n, D.int x2.n, D.int x3.n] way = some (.int h) := by
    rcases lt_cases3 w0 w3 with rfl | rfl | rfl
    · exact ⟨_, hsm _ hx1, rfl⟩
    · exact ⟨_, hsm _ hx2, rfl⟩
    · exact ⟨_, hsm _ hx3, rfl⟩
  simp only [eh]
  simp only [dPen1, dLenSet, dSrtR, dRo, dRoF, dRoT, roD, ro_un, ro_dat, ro_own, ro_hp, ro_law, ro_ownK, ro_ownT, List.forall_mem_map, flat_int, flat_str, flat_bl, flat_non, dSeq, dNext, dSet, dSetF, setSl, dVar, dTake, dC, dBin, dBinF, dB, dIfS, dIf, dRet, dRetN, dExpr, dNil, dCons, dTup, dLst, dFz, dAnd, dOr, dNot, dAndV, dOrV, dNotV, dCallD, dCallK, dCB, dCBF, dFor, dLC, dYes, dRng1, dRng2, dSeqI, gN, gT, gsNil, gsCons, dAsg, dNeg, dJoin, dFs, dJs, dFmt, dApp, dExt, dPop, dPopAt, dOwnIx, dOwnCB, dOwnL, dOwnR, dOwnSl, dSetIx, dSlT, dSlL, oNone, oSome, dBorn, optQ, ownAt, setOwnAt, lookAt, wipeD, dNewDT, dNewDK, dDGet, dDIn, dDPut, dSortT, rSrt, isDict, Ev.dictGet, Ev.dictPut, Option.isSome_none, Option.isSome_some, D.keyT, keysOf, D.key, exists_eq_left', exists_eq_left, Option.isSome, rRepL, rCatL, dRetF, dIfF, dPar, dRetOwn, dCallL, dCallLK, dPen2, dRev, dRevI, dIndex, endsL, startL, dNever, dBrk, dCnt, rAddD, rSubI, rIO, rMulI, rDivI, rModI, rPowI, rCI, rIxD, rIsN, rNotN, D.isN, rLen, rTuple, rList, rAbs, rInt, rStr, Ev.rRepr, Ev.rIsi, D.ty, kit_tab, startD, endsD, List.map_cons, List.map_nil, List.length_cons, List.length_nil, List.append_nil, List.nil_append, List.cons_append, List.getElem?_cons_zero, List.getElem?_cons_succ, List.getElem?_nil, List.set_cons_zero, List.set_cons_succ, List.replicate, List.replicate_succ, Nat.zero_add, Nat.zero_le, sizeLine, true_and, and_true, if_true, Ev.eq_int, Ev.eq_str, Ev.eq_bl, Ev.eq_non, lst_nil, tup_nil, List.map_eq_nil_iff, txt_join, rLt, rLe, rGt, rGe, atI_ofNat, atI_last, wLC, strsOf, intsOf, blsOf, Option.map_some, Ev.join_two, Ev.join_one, Ev.join_nil, List.sum_cons, List.sum_nil, PySem.Str.empty_append, ixN_ofNat, Option.some.injEq, exists_eq', List.length_map, decide_true, decide_false, Bool.not_true, Bool.not_false, Bool.true_eq_false, Bool.false_eq_true, false_and, and_false, if_false, ite_true, ite_false, Nat.reduceAdd, Nat.reduceSub, Nat.reduceMul, Nat.reduceLT, Nat.reduceLeDiff, Nat.reduceEqDiff, Nat.reducePow, Int.reduceToNat, Int.reducePow, pickL, List.filterMap_cons, List.filterMap_nil, and_self, Int.reduceLT, Int.reduceLE, Int.reduceNeg, Int.reduceAdd, Int.reduceMul, Int.reduceSub, Int.reduceEq, reduceIte, reduceCtorEq, lit_eq, String.reduceEq, Ev.rEq, Ev.rNe, Ev.rInD, cut_toN, cut_fromN, List.map_take, List.forall_mem_cons, List.forall_mem_nil, List.not_mem_nil, false_imp_iff, implies_true, forall_const, D.cm, D.lay, D.lays, D.dep, D.deps, strOk_lit, lays_ints, deps_ints, Nat.max_self, Nat.max_zero, Nat.zero_max, Bool.and_self, Bool.true_and, Bool.and_true, Bool.and_false, Bool.false_and, Bool.or_false, Bool.or_true, Bool.true_or, Bool.false_or, List.any_cons, List.any_nil, decide_eq_true_eq, eq_self, b__law_rows_x2_3, p__law_rows_x2_3, b__law_rows_x2_4, p__law_rows_x2_4, sp__law_draw, spDraw, b__law_rows_x2_4]
  refine ⟨by omega, fun y1 y10 y11 => ⟨by omega, fun y2 y20 y21 => ⟨by omega, fun y3 y30 y31 => ⟨by omega, fun y4 y40 y41 => ⟨by omega, fun y5 y50 y51 => ⟨by omega, fun y6 y60 y61 => ⟨by omega, ?_⟩⟩⟩⟩⟩⟩⟩
  have hh9 : 0 ≤ h ∧ h ≤ 9 := by
    obtain ⟨r, hr, rfl⟩ := List.mem_map.mp hh
    exact ⟨(m.wf.ok r hr).n0, (m.wf.ok r hr).n9⟩
  have m2 := m.add ht (r := ⟨left[r.toNat], some h, y1 - 3, y2 - 3, 1 + y3, 1 + y4, decide (0 < y5), 1 + y6⟩) rfl hh rfl ⟨by show 0 ≤ left[r.toNat]; omega, by show left[r.toNat] ≤ 9; omega, by show (y1 - 3).natAbs < 10000; omega, by show (y2 - 3).natAbs < 10000; omega, by show (1 + y3).natAbs < 10000; omega, by show (1 + y4).natAbs < 10000; omega, by show (1 + y6).natAbs < 10000; omega, fun i e => by cases e; exact hh9⟩
  have := hN _ _ (.dat (.int left[r.toNat])) (.own (some_.map fun r => D.int r.n)) (.dat (.int h)) (.dat (.tup [.int (y1 - 3), .int (y2 - 3), .int (1 + y3), .int (1 + y4)])) (c + 1 + 1 + 1 + 1 + 1 + 1 + 1 + 1 + 1) m2 (by simp) (by omega)
  simpa [rowD, optD] using this
theorem hsp__law_rows : ∀ ds p Q W, ds.length = 2 → sp__law_rows ds p Q W → b__law_rows W0 (endsD Q) (startD n__law_rows.length ds p) := by
  rintro _ _ Q W - ⟨a, c, rfl, rfl, hc, q⟩
  simp only [dPen1, dLenSet, dSrtR, dRo, dRoF, dRoT, roD, ro_un, ro_dat, ro_own, ro_hp, ro_law, ro_ownK, ro_ownT, List.forall_mem_map, flat_int, flat_str, flat_bl, flat_non, dSeq, dNext, dSet, dSetF, setSl, dVar, dTake, dC, dBin, dBinF, dB, dIfS, dIf, dRet, dRetN, dExpr, dNil, dCons, dTup, dLst, dFz, dAnd, dOr, dNot, dAndV, dOrV, dNotV, dCallD, dCallK, dCB, dCBF, dFor, dLC, dYes, dRng1, dRng2, dSeqI, gN, gT, gsNil, gsCons, dAsg, dNeg, dJoin, dFs, dJs, dFmt, dApp, dExt, dPop, dPopAt, dOwnIx, dOwnCB, dOwnL, dOwnR, dOwnSl, dSetIx, dSlT, dSlL, oNone, oSome, dBorn, optQ, ownAt, setOwnAt, lookAt, wipeD, dNewDT, dNewDK, dDGet, dDIn, dDPut, dSortT, rSrt, isDict, Ev.dictGet, Ev.dictPut, Option.isSome_none, Option.isSome_some, D.keyT, keysOf, D.key, exists_eq_left', exists_eq_left, Option.isSome, rRepL, rCatL, dRetF, dIfF, dPar, dRetOwn, dCallL, dCallLK, dPen2, dRev, dRevI, dIndex, endsL, startL, dNever, dBrk, dCnt, rAddD, rSubI, rIO, rMulI, rDivI, rModI, rPowI, rCI, rIxD, rIsN, rNotN, D.isN, rLen, rTuple, rList, rAbs, rInt, rStr, Ev.rRepr, Ev.rIsi, D.ty, kit_tab, startD, endsD, List.map_cons, List.map_nil, List.length_cons, List.length_nil, List.append_nil, List.nil_append, List.cons_append, List.getElem?_cons_zero, List.getElem?_cons_succ, List.getElem?_nil, List.set_cons_zero, List.set_cons_succ, List.replicate, List.replicate_succ, Nat.zero_add, Nat.zero_le, sizeLine, true_and, and_true, if_true, Ev.eq_int, Ev.eq_str, Ev.eq_bl, Ev.eq_non, lst_nil, tup_nil, List.map_eq_nil_iff, txt_join, rLt, rLe, rGt, rGe, atI_ofNat, atI_last, wLC, strsOf, intsOf, blsOf, Option.map_some, Ev.join_two, Ev.join_one, Ev.join_nil, List.sum_cons, List.sum_nil, PySem.Str.empty_append, ixN_ofNat, Option.some.injEq, exists_eq', List.length_map, decide_true, decide_false, Bool.not_true, Bool.not_false, Bool.true_eq_false, Bool.false_eq_true, false_and, and_false, if_false, ite_true, ite_false, Nat.reduceAdd, Nat.reduceSub, Nat.reduceMul, Nat.reduceLT, Nat.reduceLeDiff, Nat.reduceEqDiff, Nat.reducePow, Int.reduceToNat, Int.reducePow, pickL, List.filterMap_cons, List.filterMap_nil, and_self, Int.reduceLT, Int.reduceLE, Int.reduceNeg, Int.reduceAdd, Int.reduceMul, Int.reduceSub, Int.reduceEq, reduceIte, reduceCtorEq, lit_eq, String.reduceEq, Ev.rEq, Ev.rNe, Ev.rInD, cut_toN, cut_fromN, List.map_take, List.forall_mem_cons, List.forall_mem_nil, List.not_mem_nil, false_imp_iff, implies_true, forall_const, D.cm, D.lay, D.lays, D.dep, D.deps, strOk_lit, lays_ints, deps_ints, Nat.max_self, Nat.max_zero, Nat.zero_max, Bool.and_self, Bool.true_and, Bool.and_true, Bool.and_false, Bool.false_and, Bool.or_false, Bool.or_true, Bool.true_or, Bool.false_or, List.any_cons, List.any_nil, decide_eq_true_eq, eq_self, n__law_rows, b__law_rows, b__law_rows_0, p__law_rows_0, b__law_rows_1, p__law_rows_1, b__law_rows_2, p__law_rows_2, sp__law_draw, spDraw]
  refine ⟨by omega, fun y1 y10 y11 => ⟨by omega, fun y2 y20 y21 => ⟨by omega, fun way w0 w3 => ?_⟩⟩⟩
  simp only [dPen1, dLenSet, dSrtR, dRo, dRoF, dRoT, roD, ro_un, ro_dat, ro_own, ro_hp, ro_law, ro_ownK, ro_ownT, List.forall_mem_map, flat_int, flat_str, flat_bl, flat_non, dSeq, dNext, dSet, dSetF, setSl, dVar, dTake, dC, dBin, dBinF, dB, dIfS, dIf, dRet, dRetN, dExpr, dNil, dCons, dTup, dLst, dFz, dAnd, dOr, dNot, dAndV, dOrV, dNotV, dCallD, dCallK, dCB, dCBF, dFor, dLC, dYes, dRng1, dRng2, dSeqI, gN, gT, gsNil, gsCons, dAsg, dNeg, dJoin, dFs, dJs, dFmt, dApp, dExt, dPop, dPopAt, dOwnIx, dOwnCB, dOwnL, dOwnR, dOwnSl, dSetIx, dSlT, dSlL, oNone, oSome, dBorn, optQ, ownAt, setOwnAt, lookAt, wipeD, dNewDT, dNewDK, dDGet, dDIn, dDPut, dSortT, rSrt, isDict, Ev.dictGet, Ev.dictPut, Option.isSome_none, Option.isSome_some, D.keyT, keysOf, D.key, exists_eq_left', exists_eq_left, Option.isSome, rRepL, rCatL, dRetF, dIfF, dPar, dRetOwn, dCallL, dCallLK, dPen2, dRev, dRevI, dIndex, endsL, startL, dNever, dBrk, dCnt, rAddD, rSubI, rIO, rMulI, rDivI, rModI, rPowI, rCI, rIxD, rIsN, rNotN, D.isN, rLen, rTuple, rList, rAbs, rInt, rStr, Ev.rRepr, Ev.rIsi, D.ty, kit_tab, startD, endsD, List.map_cons, List.map_nil, List.length_cons, List.length_nil, List.append_nil, List.nil_append, List.cons_append, List.getElem?_cons_zero, List.getElem?_cons_succ, List.getElem?_nil, List.set_cons_zero, List.set_cons_succ, List.replicate, List.replicate_succ, Nat.zero_add, Nat.zero_le, sizeLine, true_and, and_true, if_true, Ev.eq_int, Ev.eq_str, Ev.eq_bl, Ev.eq_non, lst_nil, tup_nil, List.map_eq_nil_iff, txt_join, rLt, rLe, rGt, rGe, atI_ofNat, atI_last, wLC, strsOf, intsOf, blsOf, Option.map_some, Ev.join_two, Ev.join_one, Ev.join_nil, List.sum_cons, List.sum_nil, PySem.Str.empty_append, ixN_ofNat, Option.some.injEq, exists_eq', List.length_map, decide_true, decide_false, Bool.not_true, Bool.not_false, Bool.true_eq_false, Bool.false_eq_true, false_and, and_false, if_false, ite_true, ite_false, Nat.reduceAdd, Nat.reduceSub, Nat.reduceMul, Nat.reduceLT, Nat.reduceLeDiff, Nat.reduceEqDiff, Nat.reducePow, Int.reduceToNat, Int.reducePow, pickL, List.filterMap_cons, List.filterMap_nil, and_self, Int.reduceLT, Int.reduceLE, Int.reduceNeg, Int.reduceAdd, Int.reduceMul, Int.reduceSub, Int.reduceEq, reduceIte, reduceCtorEq, lit_eq, String.reduceEq, Ev.rEq, Ev.rNe, Ev.rInD, cut_toN, cut_fromN, List.map_take, List.forall_mem_cons, List.forall_mem_nil, List.not_mem_nil, false_imp_iff, implies_true, forall_const, D.cm, D.lay, D.lays, D.dep, D.deps, strOk_lit, lays_ints, deps_ints, Nat.max_self, Nat.max_zero, Nat.zero_max, Bool.and_self, Bool.true_and, Bool.and_true, Bool.and_false, Bool.false_and, Bool.or_false, Bool.or_true, Bool.true_or, Bool.false_or, List.any_cons, List.any_nil, decide_eq_true_eq, eq_self, b__law_rows_3, p__law_rows_3, sp__law_draw, spDraw]
  refine ⟨by omega, fun z1 z10 z11 => ⟨by omega, fun z2 z20 z21 => ?_⟩⟩
  obtain ⟨k, ek, k0, k9⟩ : ∃ k : Int, atI [D.int 9, D.int 9, D.int (1 + z1)] z2 = some (.int k) ∧ 0 ≤ k ∧ k ≤ 9 := by
    rcases lt_cases3 z20 z21 with rfl | rfl | rfl
    · exact ⟨9, rfl, by omega, by omega⟩
    · exact ⟨9, rfl, by omega, by omega⟩
    · exact ⟨_, rfl, by omega, by omega⟩
  simp only [dPen1, dLenSet, dSrtR, dRo, dRoF, dRoT, roD, ro_un, ro_dat, ro_own, ro_hp, ro_law, ro_ownK, ro_ownT, List.forall_mem_map, flat_int, flat_str, flat_bl, flat_non, dSeq, dNext, dSet, dSetF, setSl, dVar, dTake, dC, dBin, dBinF, dB, dIfS, dIf, dRet, dRetN, dExpr, dNil, dCons, dTup, dLst, dFz, dAnd, dOr, dNot, dAndV, dOrV, dNotV, dCallD, dCallK, dCB, dCBF, dFor, dLC, dYes, dRng1, dRng2, dSeqI, gN, gT, gsNil, gsCons, dAsg, dNeg, dJoin, dFs, dJs, dFmt, dApp, dExt, dPop, dPopAt, dOwnIx, dOwnCB, dOwnL, dOwnR, dOwnSl, dSetIx, dSlT, dSlL, oNone, oSome, dBorn, optQ, ownAt, setOwnAt, lookAt, wipeD, dNewDT, dNewDK, dDGet, dDIn, dDPut, dSortT, rSrt, isDict, Ev.dictGet, Ev.dictPut, Option.isSome_none, Option.isSome_some, D.keyT, keysOf, D.key, exists_eq_left', exists_eq_left, Option.isSome, rRepL, rCatL, dRetF, dIfF, dPar, dRetOwn, dCallL, dCallLK, dPen2, dRev, dRevI, dIndex, endsL, startL, dNever, dBrk, dCnt, rAddD, rSubI, rIO, rMulI, rDivI, rModI, rPowI, rCI, rIxD, rIsN, rNotN, D.isN, rLen, rTuple, rList, rAbs, rInt, rStr, Ev.rRepr, Ev.rIsi, D.ty, kit_tab, startD, endsD, List.map_cons, List.map_nil, List.length_cons, List.length_nil, List.append_nil, List.nil_append, List.cons_append, List.getElem?_cons_zero, List.getElem?_cons_succ, List.getElem?_nil, List.set_cons_zero, List.set_cons_succ, List.replicate, List.replicate_succ, Nat.zero_add, Nat.zero_le, sizeLine, true_and, and_true, if_true, Ev.eq_int, Ev.eq_str, Ev.eq_bl, Ev.eq_non, lst_nil, tup_nil, List.map_eq_nil_iff, txt_join, rLt, rLe, rGt, rGe, atI_ofNat, atI_last, wLC, strsOf, intsOf, blsOf, Option.map_some, Ev.join_two, Ev.join_one, Ev.join_nil, List.sum_cons, List.sum_nil, PySem.Str.empty_append, ixN_ofNat, Option.some.injEq, exists_eq', List.length_map, decide_true, decide_false, Bool.not_true, Bool.not_false, Bool.true_eq_false, Bool.false_eq_true, false_and, and_false, if_false, ite_true, ite_false, Nat.reduceAdd, Nat.reduceSub, Nat.reduceMul, Nat.reduceLT, Nat.reduceLeDiff, Nat.reduceEqDiff, Nat.reducePow, Int.reduceToNat, Int.reducePow, pickL, List.filterMap_cons, List.filterMap_nil, and_self, Int.reduceLT, Int.reduceLE, Int.reduceNeg, Int.reduceAdd, Int.reduceMul, Int.reduceSub, Int.reduceEq, reduceIte, reduceCtorEq, lit_eq, String.reduceEq, Ev.rEq, Ev.rNe, Ev.rInD, cut_toN, cut_fromN, List.map_take, List.forall_mem_cons, List.forall_mem_nil, List.not_mem_nil, false_imp_iff, implies_true, forall_const, D.cm, D.lay, D.lays, D.dep, D.deps, strOk_lit, lays_ints, deps_ints, Nat.max_self, Nat.max_zero, Nat.zero_max, Bool.and_self, Bool.true_and, Bool.and_true, Bool.and_false, Bool.false_and, Bool.or_false, Bool.or_true, Bool.true_or, Bool.false_or, List.any_cons, List.any_nil, decide_eq_true_eq, eq_self, ek]
  refine ⟨by omega, by omega, ?_⟩
  have m0 : Mk [⟨0, none, 0, 0, 1 + y1, 1 + y2, true, 0⟩] [1, 2, 3, 4, 5, 6, 7, 8, 9] := by
    refine ⟨⟨by show ([0] : List Int).Nodup; decide, fun i hi => ?_, fun r hr => ?_, by show 1 ≤ 10; decide⟩, ⟨_, _, rfl, rfl, rfl⟩, by show ([0, 1, 2, 3, 4, 5, 6, 7, 8, 9] : List Int).Nodup; decide, by decide, rfl, fun r hr _ => ?_⟩
    · have : i = 0 := by simp at hi; omega
      subst this; exact .inl rfl
    · rw [List.mem_singleton] at hr; subst hr
      exact ⟨by show (0 : Int) ≤ 0; decide, by show (0 : Int) ≤ 9; decide, by show (0 : Int).natAbs < 10000; decide, by show (0 : Int).natAbs < 10000; decide, by show (1 + y1).natAbs < 10000; omega, by show (1 + y2).natAbs < 10000; omega, by show (0 : Int).natAbs < 10000; decide, fun i e => by cases e⟩
    · rw [List.mem_singleton] at hr; subst hr; rfl
  refine wFor_ind (fun ds δ => ∃ R left s5 s6 s7 s8 s9 c', δ = ⟨rowsS a R left way s5 s6 s7 s8 s9, some (a, c')⟩ ∧ Mk R left ∧ ds.length + R.length ≤ 10 ∧ c' + 20 * ds.length ≤ c + 300) ?_ ?_ _ _ ⟨_, _, .un, .un, .un, .un, .un, _, rfl, m0, by rw [intsFrom_len]; simp; omega, by rw [intsFrom_len]; omega⟩
  · rintro d ds _ kk hk ⟨R, left, s5, s6, s7, s8, s9, c', rfl, m, hl, hc'⟩
    rw [List.length_cons] at hl hc'
    refine turn_rows (by omega) w0 w3 m (by omega) fun R2 left2 s6 s7 s8 s9 c2 m2 h2 hc2 => hk _ ⟨R2, left2, _, _, _, _, _, c2, rfl, m2, by omega, by omega⟩
  · rintro _ ⟨R, left, s5, s6, s7, s8, s9, c', rfl, m, hl, hc'⟩
    unfold rowsS
    simp only [dPen1, dLenSet, dSrtR, dRo, dRoF, dRoT, roD, ro_un, ro_dat, ro_own, ro_hp, ro_law, ro_ownK, ro_ownT, List.forall_mem_map, flat_int, flat_str, flat_bl, flat_non, dSeq, dNext, dSet, dSetF, setSl, dVar, dTake, dC, dBin, dBinF, dB, dIfS, dIf, dRet, dRetN, dExpr, dNil, dCons, dTup, dLst, dFz, dAnd, dOr, dNot, dAndV, dOrV, dNotV, dCallD, dCallK, dCB, dCBF, dFor, dLC, dYes, dRng1, dRng2, dSeqI, gN, gT, gsNil, gsCons, dAsg, dNeg, dJoin, dFs, dJs, dFmt, dApp, dExt, dPop, dPopAt, dOwnIx, dOwnCB, dOwnL, dOwnR, dOwnSl, dSetIx, dSlT, dSlL, oNone, oSome, dBorn, optQ, ownAt, setOwnAt, lookAt, wipeD, dNewDT, dNewDK, dDGet, dDIn, dDPut, dSortT, rSrt, isDict, Ev.dictGet, Ev.dictPut, Option.isSome_none, Option.isSome_some, D.keyT, keysOf, D.key, exists_eq_left', exists_eq_left, Option.isSome, rRepL, rCatL, dRetF, dIfF, dPar, dRetOwn, dCallL, dCallLK, dPen2, dRev, dRevI, dIndex, endsL, startL, dNever, dBrk, dCnt, rAddD, rSubI, rIO, rMulI, rDivI, rModI, rPowI, rCI, rIxD, rIsN, rNotN, D.isN, rLen, rTuple, rList, rAbs, rInt, rStr, Ev.rRepr, Ev.rIsi, D.ty, kit_tab, startD, endsD, List.map_cons, List.map_nil, List.length_cons, List.length_nil, List.append_nil, List.nil_append, List.cons_append, List.getElem?_cons_zero, List.getElem?_cons_succ, List.getElem?_nil, List.set_cons_zero, List.set_cons_succ, List.replicate, List.replicate_succ, Nat.zero_add, Nat.zero_le, sizeLine, true_and, and_true, if_true, Ev.eq_int, Ev.eq_str, Ev.eq_bl, Ev.eq_non, lst_nil, tup_nil, List.map_eq_nil_iff, txt_join, rLt, rLe, rGt, rGe, atI_ofNat, atI_last, wLC, strsOf, intsOf, blsOf, Option.map_some, Ev.join_two, Ev.join_one, Ev.join_nil, List.sum_cons, List.sum_nil, PySem.Str.empty_append, ixN_ofNat, Option.some.injEq, exists_eq', List.length_map, decide_true, decide_false, Bool.not_true, Bool.not_false, Bool.true_eq_false, Bool.false_eq_true, false_and, and_false, if_false, ite_true, ite_false, Nat.reduceAdd, Nat.reduceSub, Nat.reduceMul, Nat.reduceLT, Nat.reduceLeDiff, Nat.reduceEqDiff, Nat.reducePow, Int.reduceToNat, Int.reducePow, pickL, List.filterMap_cons, List.filterMap_nil, and_self, Int.reduceLT, Int.reduceLE, Int.reduceNeg, Int.reduceAdd, Int.reduceMul, Int.reduceSub, Int.reduceEq, reduceIte, reduceCtorEq, lit_eq, String.reduceEq, Ev.rEq, Ev.rNe, Ev.rInD, cut_toN, cut_fromN, List.map_take, List.forall_mem_cons, List.forall_mem_nil, List.not_mem_nil, false_imp_iff, implies_true, forall_const, D.cm, D.lay, D.lays, D.dep, D.deps, strOk_lit, lays_ints, deps_ints, Nat.max_self, Nat.max_zero, Nat.zero_max, Bool.and_self, Bool.true_and, Bool.and_true, Bool.and_false, Bool.false_and, Bool.or_false, Bool.or_true, Bool.true_or, Bool.false_or, List.any_cons, List.any_nil, decide_eq_true_eq, eq_self, b__law_rows_4, p__law_rows_4, b__law_rows_4, sp__law_in_order]
    exact ⟨R, rfl, m.made, fun b hb => q b c' hb (by simpa using hc')⟩
theorem ok__law_rows {P : Program} {w : World} {K : PySem.W.Frag} {mg : Str → Option Value} {base : Heap} (m_len : mg "len" = none) (m_range : mg "range" = none) (K__law_draw_2 : Def P w K mg base 1 "_law_draw" 2 sp__law_draw []) (K__law_in_order_1 : Def P w K mg base 1 "_law_in_order" 1 sp__law_in_order []) (K__law_line_2 : DefL P w K mg base 1 "_law_line" 2 sp__law_line []) {f : Addr} {fd : FuncData} (F : Fun K "_law_rows" "_law_rows" s__law_rows f fd) : FnG P w K mg base CX0 2 f fd ["_law_pen", "_law_limit"] (spD K 2 sp__law_rows) :=
 fn_d0 F sc__law_rows rfl (fun cdv A out s H E g r => run__law_rows m_len m_range K__law_draw_2 K__law_in_order_1 K__law_line_2 cdv A out s H E g r) hsp__law_rows

/-! ### what is told is small -/
structure toldOk (t : Told) : Prop where
  e : PyData.strOk t.ev = true ∧ t.ev.length ≤ 10
  w : PyData.strOk t.way = true ∧ t.way.length ≤ 10
abbrev wayOk (w : Str) : Prop := PyData.strOk w = true ∧ w.length ≤ 10
theorem toldP_ok {first last : Option Int} {way way2 : Str} {up down : List (Option Int)} (h1 : wayOk way) (h2 : wayOk way2) : ∀ t ∈ toldP first way up down last way2, toldOk t := fun t ht => by
  have l : wayOk "leave" := by decide +kernel
  have n : wayOk "enter" := by decide +kernel
  have s : wayOk "passed" := by decide +kernel
  simp only [toldP, List.mem_append, List.mem_map, List.mem_singleton, List.mem_reverse] at ht
  rcases ht with (rfl | ⟨r, _, rfl⟩) | (⟨r, _, rfl⟩ | rfl)
  · exact ⟨l, h1⟩
  · exact ⟨l, s⟩
  · exact ⟨n, s⟩
  · exact ⟨n, h2⟩
theorem between_ok {ahead behind : List (Option Int)} {f l : Option Int} : ∀ t ∈ betweenP ahead behind f l, toldOk t := by
  have a : wayOk "inner" := by decide +kernel
  have b : wayOk "outer" := by decide +kernel
  have c : wayOk "across" := by decide +kernel
  unfold betweenP
  split
  · exact toldP_ok a b
  split
  · exact toldP_ok b a
  · exact toldP_ok c c
theorem byP_len {b : List Row} {o o2 : Option Int} {l l2 : List Int} (h1 : Line b o l) (h2 : Line b o2 l2) : (byP b l l2 o o2).length ≤ 24 := by
  unfold byP
  split
  · simp
  · refine Nat.le_trans (List.length_filter_le _ _) (Nat.le_trans (between_len _ _) ?_)
    have := h1.len; have := h2.len; simp; omega
theorem told_sm {b : List Row} (w : Wf b) {o o2 : Option Int} {l l2 : List Int} (h1 : Line b o l) (h2 : Line b o2 l2) : (D.lst ((byP b l l2 o o2).map toldD)).sm 2 10000 := by
  have hlen := byP_len (b := b) h1 h2
  refine (D.sm.lst (k := 1) (D.sms.all (n := 250) (m := 24) (fun d hd => ?_) (by simpa using hlen))).mono (by decide) (by decide)
  obtain ⟨t, ht, rfl⟩ := List.mem_map.mp hd
  unfold byP at ht
  split at ht
  · cases ht
  · have hm := List.mem_filter.mp ht
    have ok := between_ok t hm.1
    have hr : t.rm ∈ b.map fun r => some r.n := by simpa [thereP] using hm.2
    obtain ⟨r, hr, e⟩ := List.mem_map.mp hr
    have rk := w.ok r hr
    refine (D.sm.tup (k := 0) (n := 102 + 2 + (31 + 2 + (102 + 2 + 0))) (.cons (D.sm.str ok.e.1 ok.e.2) (.cons ?_ (.cons (D.sm.str ok.w.1 ok.w.2) .nil)))).mono (by decide) (by decide)
    rw [← e]
    exact .int (by have := rk.n0; have := rk.n9; omega)

/-- the line with None at its end -/
def full (l : List Int) : List (Option Int) := l.map some ++ [none]
theorem Up.tail {b : List Row} {o : Option Int} {l : List Int} (h : Up b o l) {x : Option Int} (hx : x ∈ full l) : ∃ pre m, full l = pre ++ full m ∧ Up b x m ∧ x ∉ pre ∧ (full m).head? = some x := by
  induction h with
  | nil => simp [full] at hx; subst hx; exact ⟨[], [], rfl, .nil, by simp, rfl⟩
  | @cons n r l e u ih =>
    by_cases c : x = some n
    · subst c; exact ⟨[], n :: l, rfl, .cons e u, by simp, rfl⟩
    · have : x ∈ full l := by
        simp only [full, List.map_cons, List.cons_append, List.mem_cons] at hx ⊢
        rcases hx with hx | hx
        · exact absurd hx c
        · exact hx
      obtain ⟨pre, m, h1, h2, h3, h4⟩ := ih this
      refine ⟨some n :: pre, m, by simp only [full, List.map_cons, List.cons_append] at h1 ⊢; rw [h1], h2, ?_, h4⟩
      simp only [List.mem_cons, not_or]; exact ⟨c, h3⟩
/-- what of two lines lies in both is the end of both -/
theorem Up.fork {b : List Row} {o o2 : Option Int} {l l2 : List Int} (h : Up b o l) (g : Up b o2 l2) : ∃ p q t, full l = p ++ full t ∧ full l2 = q ++ full t ∧ (∀ x ∈ p, x ∉ full l2) ∧ (∀ x ∈ q, x ∉ full l) := by
  induction h with
  | nil =>
    obtain ⟨pre, m, h1, h2, h3, h4⟩ := g.tail (x := none) (by simp [full])
    cases h2
    exact ⟨[], pre, [], rfl, h1, by simp, fun x hx => by simp [full]; rintro rfl; exact h3 hx⟩
  | @cons n r l e u ih =>
    by_cases c : some n ∈ full l2
    · obtain ⟨pre, m, h1, h2, h3, h4⟩ := g.tail c
      have : m = n :: l := h2.one (.cons e u)
      subst this
      refine ⟨[], pre, n :: l, rfl, h1, by simp, fun x hx hc => ?_⟩
      obtain ⟨p2, m2, k1, k2, k3, k4⟩ := (Up.cons e u).tail hc
      obtain ⟨p3, m3, j1, j2, j3, j4⟩ := g.tail (x := x) (by rw [h1]; exact List.mem_append_left _ hx)
      -- x would stand ahead of n and behind it
      have : m3 = m2 := j2.one k2
      subst this
      have a1 : (full m3).length ≤ (full (n :: l)).length := by rw [k1]; simp
      have a2 : pre.length + (full (n :: l)).length = p3.length + (full m3).length := by rw [← List.length_append, ← h1, j1, List.length_append]
      obtain ⟨i, hi, rfl⟩ := List.getElem_of_mem hx
      have a3 : pre[i] ∈ p3 := by
        have e1 : (full l2)[i]? = some pre[i] := by rw [h1, List.getElem?_append_left hi, List.getElem?_eq_getElem hi]
        rw [j1, List.getElem?_append_left (by omega)] at e1
        exact List.mem_of_getElem? e1
      exact j3 a3
    · obtain ⟨p, q, t, h1, h2, h3, h4⟩ := ih
      refine ⟨some n :: p, q, t, by simp only [full, List.map_cons, List.cons_append] at h1 ⊢; rw [h1], h2, fun x hx => ?_, fun x hx => ?_⟩
      · rcases List.mem_cons.mp hx with rfl | hx
        · exact c
        · exact h3 x hx
      · have := h4 x hx
        simp only [full, List.map_cons, List.cons_append, List.mem_cons, not_or] at this ⊢
        refine ⟨?_, this⟩
        rintro rfl
        exact c (by rw [h2]; exact List.mem_append_left _ hx)
theorem Up.notin {b : List Row} {n : Int} {r : Row} {l : List Int} (e : rowAt b n = some r) (u : Up b r.up l) : some n ∉ full l := fun h => by
  obtain ⟨pre, m, h1, h2, h3, h4⟩ := u.tail h
  have : m = n :: l := h2.one (.cons e u)
  subst this
  have := congrArg List.length h1
  simp [full] at this
  omega
theorem Up.nodup {b : List Row} {o : Option Int} {l : List Int} (h : Up b o l) : (full l).Nodup := by
  induction h with
  | nil => simp [full]
  | @cons n r l e u ih =>
    have e2 : full (n :: l) = some n :: full l := rfl
    rw [e2]
    exact List.nodup_cons.mpr ⟨Up.notin e u, ih⟩
theorem full_head {b : List Row} {o : Option Int} {l : List Int} (h : Up b o l) : ∃ r, full l = o :: r := by
  cases h with
  | nil => exact ⟨[], rfl⟩
  | @cons n r l e u => exact ⟨full l, rfl⟩
/-- two lines: what each has alone, what both have -/
structure Fork (l l2 : List Int) (p q : List (Option Int)) (t : List Int) : Prop where
  a : full l = p ++ full t
  b : full l2 = q ++ full t
  pn : ∀ x ∈ p, x ∉ full l2
  qn : ∀ x ∈ q, x ∉ full l
theorem Fork.swap {l l2 p q t} (k : Fork l l2 p q t) : Fork l2 l q p t := ⟨k.b, k.a, k.qn, k.pn⟩
def wayP (p q : List (Option Int)) : Str := if p = [] then "inner" else if q = [] then "outer" else "across"
theorem idx_split {p r : List (Option Int)} {x : Option Int} (h : x ∉ p) : (p ++ x :: r).idxOf x = p.length := by
  induction p with
  | nil => simp
  | cons a p ih =>
    have h2 : a ≠ x := fun z => h (z ▸ List.mem_cons_self)
    rw [List.cons_append, List.idxOf_cons, beq_eq_false_iff_ne.mpr h2]
    simp only [List.length_cons, cond_false]
    rw [ih (fun z => h (List.mem_cons_of_mem _ z))]
theorem cut_split {p r : List (Option Int)} {x : Option Int} (h : x ∉ p) : cutP (p ++ x :: r) x = p.drop 1 := by
  unfold cutP
  rw [idx_split h, List.take_append_of_le_length (Nat.le_refl _), List.take_length]
theorem between_fork {b : List Row} {o o2 : Option Int} {l l2 : List Int} {p q : List (Option Int)} {t : List Int} (h : Up b o l) (g : Up b o2 l2) (k : Fork l l2 p q t) (ne : o ≠ o2) :
    betweenP (full l) (full l2) o o2 = toldP o (wayP p q) (p.drop 1) (q.drop 1) o2 (wayP q p) := by
  obtain ⟨x, r, hx⟩ : ∃ x r, full t = x :: r := by
    cases t with
    | nil => exact ⟨none, [], rfl⟩
    | cons a t => exact ⟨some a, full t, rfl⟩
  have xp : x ∉ p := fun z => k.pn x z (by rw [k.b, hx]; simp)
  have xq : x ∉ q := fun z => k.qn x z (by rw [k.a, hx]; simp)
  have xa : x ∈ full l := by rw [k.a, hx]; simp
  have xb : x ∈ full l2 := by rw [k.b, hx]; simp
  have ca : cutP (full l) x = p.drop 1 := by rw [k.a, hx]; exact cut_split xp
  have cb : cutP (full l2) x = q.drop 1 := by rw [k.b, hx]; exact cut_split xq
  obtain ⟨ra, ha⟩ := full_head h
  obtain ⟨rb, hb⟩ := full_head g
  unfold betweenP
  cases p with
  | nil =>
    have e : o = x := by have := k.a; rw [ha, hx] at this; exact (List.cons.inj this).1
    have e2 : q ≠ [] := fun z => by
      subst z; have := k.b; rw [hb, hx] at this; exact ne (e.trans (List.cons.inj this).1.symm)
    subst e
    rw [if_pos xb, cb]
    simp [wayP, e2]
  | cons a p =>
    have e : o = a := by have := k.a; rw [ha] at this; exact (List.cons.inj this).1
    subst e
    rw [if_neg (k.pn _ List.mem_cons_self)]
    cases q with
    | nil =>
      have e : o2 = x := by have := k.b; rw [hb, hx] at this; exact (List.cons.inj this).1
      subst e
      rw [if_pos xa, ca]
      simp [wayP]
    | cons c q =>
      have e : o2 = c := by have := k.b; rw [hb] at this; exact (List.cons.inj this).1
      subst e
      rw [if_neg (k.qn _ List.mem_cons_self)]
      have hm : ((full l).filter fun r => decide (r ∈ full l2)).head? = some x := by
        rw [k.a, List.filter_append, List.filter_eq_nil_iff.mpr (fun y hy => by simpa using k.pn y hy), List.nil_append, hx, List.filter_cons_of_pos (by simpa using xb)]
        rfl
      simp only [hm, Option.getD_some, ca, cb]
      simp [wayP]

/-- what of a line is passed, its first one ahead -/
def Lv (o : Option Int) (p q : List (Option Int)) : List (Option Int × Str) := (if o = none then [] else [(o, wayP p q)]) ++ (p.drop 1).map fun x => (x, ("passed" : Str))
def Lr (o : Option Int) (p : List (Option Int)) : List (Option Int) := (if o = none then [] else [o]) ++ p.drop 1
theorem Lv_fst (o : Option Int) (p q : List (Option Int)) : (Lv o p q).map (·.1) = Lr o p := by
  unfold Lv Lr
  split <;> simp [Function.comp_def]
def lvT (x : Option Int × Str) : Told := ⟨"leave", x.1, x.2⟩
def enT (x : Option Int × Str) : Told := ⟨"enter", x.1, x.2⟩
theorem there_full {b : List Row} {o : Option Int} {l : List Int} (h : Line b o l) {x : Option Int} (hx : x ∈ full l) : thereP b x = decide (x ≠ none) := by
  cases x with
  | none => simp [thereP]
  | some n =>
    have : n ∈ l := by simpa [full] using hx
    have := h.mem n this
    obtain ⟨r, hr, e⟩ := List.mem_map.mp this
    simp only [thereP, ne_eq, reduceCtorEq, not_false_eq_true, decide_true, decide_eq_true_eq]
    exact List.mem_map.mpr ⟨r, hr, by rw [e]⟩
theorem byP_fork {b : List Row} {o o2 : Option Int} {l l2 : List Int} {p q : List (Option Int)} {t : List Int} (h1 : Line b o l) (h2 : Line b o2 l2) (k : Fork l l2 p q t) (ne : o ≠ o2) :
    byP b l l2 o o2 = (Lv o p q).map lvT ++ (Lv o2 q p).reverse.map enT := by
  unfold byP
  rw [if_neg ne]
  have hb : betweenP (l.map some ++ [none]) (l2.map some ++ [none]) o o2 = toldP o (wayP p q) (p.drop 1) (q.drop 1) o2 (wayP q p) := between_fork h1.up h2.up k ne
  rw [hb]
  have pn : ∀ x ∈ p.drop 1, thereP b x = true := fun x hx => by
    have hx := List.mem_of_mem_drop hx
    rw [there_full h1 (by rw [k.a]; exact List.mem_append_left _ hx)]
    have : x ≠ none := fun e => k.pn x hx (by rw [e]; simp [full])
    simp [this]
  have qn : ∀ x ∈ q.drop 1, thereP b x = true := fun x hx => by
    have hx := List.mem_of_mem_drop hx
    rw [there_full h2 (by rw [k.b]; exact List.mem_append_left _ hx)]
    have : x ≠ none := fun e => k.qn x hx (by rw [e]; simp [full])
    simp [this]
  have ho : thereP b o = decide (o ≠ none) := there_full h1 (by obtain ⟨r, e⟩ := full_head h1.up; rw [e]; simp)
  have ho2 : thereP b o2 = decide (o2 ≠ none) := there_full h2 (by obtain ⟨r, e⟩ := full_head h2.up; rw [e]; simp)
  have e1 : ((p.drop 1).map (fun r => (⟨"leave", r, "passed"⟩ : Told))).filter (fun t => thereP b t.rm) = (p.drop 1).map (fun r => (⟨"leave", r, "passed"⟩ : Told)) := List.filter_eq_self.mpr fun t ht => by
    obtain ⟨x, hx, rfl⟩ := List.mem_map.mp ht
    exact pn x hx
  have e2 : ((q.drop 1).reverse.map (fun r => (⟨"enter", r, "passed"⟩ : Told))).filter (fun t => thereP b t.rm) = (q.drop 1).reverse.map (fun r => (⟨"enter", r, "passed"⟩ : Told)) := List.filter_eq_self.mpr fun t ht => by
    obtain ⟨x, hx, rfl⟩ := List.mem_map.mp ht
    exact qn x (List.mem_reverse.mp hx)
  unfold toldP Lv
  rw [List.filter_append, List.filter_append, List.filter_append, e1, e2]
  by_cases c1 : o = none
  · by_cases c2 : o2 = none
    · exact absurd (c1.trans c2.symm) ne
    · simp [c1, c2, ho, ho2, lvT, enT, Function.comp_def, thereP] <;> simp_all [thereP]
  · by_cases c2 : o2 = none
    · simp [c1, c2, ho, ho2, lvT, enT, Function.comp_def, thereP] <;> simp_all [thereP]
    · simp [c1, c2, ho, ho2, lvT, enT, Function.comp_def] <;> simp_all
theorem Lr_sub {o : Option Int} {l : List Int} {b : List Row} (u : Up b o l) {p : List (Option Int)} {t : List Int} (e : full l = p ++ full t) (hp : ∀ x ∈ p, x ≠ none) : (Lr o p).Sublist (full l) := by
  obtain ⟨r, hr⟩ := full_head u
  unfold Lr
  cases p with
  | nil =>
    rw [hr]
    split
    · simp
    · simp
  | cons a p =>
    have : o = a := by rw [hr] at e; exact (List.cons.inj e).1
    subst this
    rw [if_neg (hp _ List.mem_cons_self), e]
    simp
theorem Lr_mem {o : Option Int} {l : List Int} {b : List Row} (u : Up b o l) {p : List (Option Int)} {t : List Int} (e : full l = p ++ full t) {x : Option Int} (hx : x ∈ Lr o p) : x ∈ p ∨ (p = [] ∧ x = o) := by
  obtain ⟨r, hr⟩ := full_head u
  unfold Lr at hx
  cases p with
  | nil =>
    right
    refine ⟨rfl, ?_⟩
    split at hx <;> simp_all
  | cons a p =>
    have : o = a := by rw [hr] at e; exact (List.cons.inj e).1
    subst this
    left
    split at hx <;> simp_all
theorem Fork.nn {l l2 p q t} (k : Fork l l2 p q t) : ∀ x ∈ p, x ≠ none := fun x hx e => k.pn x hx (by rw [e]; simp [full])
theorem Lr_none {o : Option Int} {p : List (Option Int)} (hp : ∀ x ∈ p, x ≠ none) : ∀ x ∈ Lr o p, x ≠ none := fun x hx => by
  unfold Lr at hx
  rcases List.mem_append.mp hx with hx | hx
  · split at hx
    · cases hx
    · rw [List.mem_singleton] at hx; rw [hx]; assumption
  · exact hp x (List.mem_of_mem_drop hx)
theorem rooms_nodup {b : List Row} {o o2 : Option Int} {l l2 : List Int} {p q : List (Option Int)} {t : List Int} (h1 : Up b o l) (h2 : Up b o2 l2) (k : Fork l l2 p q t) (ne : o ≠ o2) : (Lr o p ++ (Lr o2 q).reverse).Nodup := by
  refine List.nodup_append.mpr ⟨List.Nodup.sublist (Lr_sub h1 k.a k.nn) h1.nodup, List.pairwise_reverse.mpr (List.Pairwise.imp (fun h => Ne.symm h) (List.Nodup.sublist (Lr_sub h2 k.b k.swap.nn) h2.nodup)), ?_⟩
  rintro x hx y hy rfl
  have hy := List.mem_reverse.mp hy
  rcases Lr_mem h1 k.a hx with c1 | ⟨c1, d1⟩
  · exact k.pn x c1 ((Lr_sub h2 k.b k.swap.nn).subset hy)
  · rcases Lr_mem h2 k.b hy with c2 | ⟨c2, d2⟩
    · exact k.qn x c2 ((Lr_sub h1 k.a k.nn).subset hx)
    · exact ne (d1.symm.trans d2)
theorem all_some : ∀ {l : List (Option Int)}, (∀ x ∈ l, x ≠ none) → ∃ ns : List Int, l = ns.map some
  | [], _ => ⟨[], rfl⟩
  | none :: _, h => absurd rfl (h none List.mem_cons_self)
  | some n :: l, h => by
    obtain ⟨ns, e⟩ := all_some (l := l) fun x hx => h x (List.mem_cons_of_mem _ hx)
    exact ⟨n :: ns, by rw [e]; rfl⟩
theorem fil_lv {L E : List (Option Int × Str)} : ((L.map lvT ++ E.map enT).filter fun t => decide (t.ev = Str.ofString "leave")) = L.map lvT := by
  have n : ¬ ((Str.ofString "enter") = Str.ofString "leave") := by decide +kernel
  rw [List.filter_append, List.filter_eq_self.mpr (fun t ht => by obtain ⟨x, _, rfl⟩ := List.mem_map.mp ht; simp [lvT]), List.filter_eq_nil_iff.mpr (fun t ht => by obtain ⟨x, _, rfl⟩ := List.mem_map.mp ht; simp [enT, n]), List.append_nil]
theorem fil_en {L E : List (Option Int × Str)} : ((L.map lvT ++ E.map enT).filter fun t => decide (t.ev = Str.ofString "enter")) = E.map enT := by
  have n : ¬ ((Str.ofString "leave") = Str.ofString "enter") := by decide +kernel
  rw [List.filter_append, List.filter_eq_nil_iff.mpr (fun t ht => by obtain ⟨x, _, rfl⟩ := List.mem_map.mp ht; simp [lvT, n]), List.filter_eq_self.mpr (fun t ht => by obtain ⟨x, _, rfl⟩ := List.mem_map.mp ht; simp [enT]), List.nil_append]

end Ev38

namespace Ev38
open PySem PySem.Spec PyProof.Rows L2 Ev
theorem byP_ok {b : List Row} {o o2 : Option Int} {l l2 : List Int} : ∀ t ∈ byP b l l2 o o2, toldOk t := fun t ht => by
  unfold byP at ht
  split at ht
  · cases ht
  · exact between_ok t (List.mem_filter.mp ht).1
def prD (t : Told) : D := .tup [optD t.rm, .str t.way]
theorem prs_lay {T : List Told} (ok : ∀ t ∈ T, toldOk t) : D.lays (T.map prD) = true := lays_map fun t ht => by
  simp only [prD, D.lay, D.lays, opt_lay, (ok t ht).w.1, Bool.and_self]
theorem prs_dep (T : List Told) : D.deps (T.map prD) ≤ 1 := deps_map fun t _ => by
  simp only [prD, D.dep, D.deps, opt_dep]; decide
def sp__law_back_right : dSp := fun ds p Q _ => ∃ (b : List Row) (o o2 : Option Int) (l l2 : List Int), ds = [bookD b, optD o, optD o2] ∧ Wf b ∧ Line b o l ∧ Line b o2 l2 ∧ Q (.bl true) p
abbrev s__law_back_right : Stmt := topS 26
abbrev n__law_back_right : List Str := ["_law_book_so", "_law_first", "_law_last", "_law_there", "_law_here", "_law_entered", "_law_row"]
theorem sc__law_back_right : FnScope n__law_back_right ["_law_book_so", "_law_first", "_law_last"] (defScope s__law_back_right) := ⟨rfl, rfl, rfl, by decide +kernel, rfl, by decide +kernel, by decide +kernel⟩
def p__law_back_right_0 : dS := (dPar 3 4 (dCons (dFz (dCallL 3 [] sp_passed (dCons (dVar 0) (dCons (dVar 1) (dCons (dVar 2) dNil))))) (dCons (dFz (dCallL 3 [] sp_passed (dCons (dVar 0) (dCons (dVar 2) (dCons (dVar 1) dNil))))) dNil)))
def p__law_back_right_1 : dS := (dSetF 5 (dLC (dSeqI (dVar 3)) (gN 6) (dB (dBin (rEq) (dBin rIxD (dVar 6) (dC (.int 0))) (dC (.str "enter")))) (dSlT (dVar 6) (oSome (dC (.int 1))) oNone) [6]))
def p__law_back_right_2 : dS := (dIfS (dB (dBin (rNe) (dFz (dLC (dSeqI (dVar 4)) (gN 6) (dB (dBin (rEq) (dBin rIxD (dVar 6) (dC (.int 0))) (dC (.str "leave")))) (dSlT (dVar 6) (oSome (dC (.int 1))) oNone) [6])) (dFz (dRev (dTake 5))))) (dRet (dC (.bl false))) dNext)
def p__law_back_right_3 : dS := (dIfS (dB (dBin (rNe) (dFz (dLC (dSeqI (dVar 3)) (gN 6) (dB (dBin (rEq) (dBin rIxD (dVar 6) (dC (.int 0))) (dC (.str "leave")))) (dSlT (dVar 6) (oSome (dC (.int 1))) oNone) [6])) (dFz (dRev (dFz (dLC (dSeqI (dVar 4)) (gN 6) (dB (dBin (rEq) (dBin rIxD (dVar 6) (dC (.int 0))) (dC (.str "enter")))) (dSlT (dVar 6) (oSome (dC (.int 1))) oNone) [6])))))) (dRet (dC (.bl false))) dNext)
def p__law_back_right_4 : dS := (dIfS (dOr (dB (dBin (rNe) (dLenSet (dFz (dLC (dSeqI (dVar 3)) (gN 6) dYes (dBin rIxD (dVar 6) (dC (.int 1))) [6]))) (dCB rLen (dCons (dVar 3) dNil)))) (dB (dBin (rNe) (dFz (dCallL 4 [] sp_passed_by (dCons (dVar 0) (dCons (dVar 0) (dCons (dVar 1) (dCons (dVar 2) dNil)))))) (dVar 3)))) (dRet (dC (.bl false))) dNext)
def p__law_back_right_5 : dS := (dRet (dBin (rEq) (dFz (dLC (dSeqI (dVar 3)) (gN 6) dYes (dBin rIxD (dVar 6) (dC (.int 0))) [6])) (dFz (dSrtR true (dCons (dFz (dLC (dSeqI (dVar 3)) (gN 6) dYes (dBin rIxD (dVar 6) (dC (.int 0))) [6])) dNil)))))
def b__law_back_right_5 : dS := p__law_back_right_5
def b__law_back_right_4 : dS := dSeq p__law_back_right_4 b__law_back_right_5
def b__law_back_right_3 : dS := dSeq p__law_back_right_3 b__law_back_right_4
def b__law_back_right_2 : dS := dSeq p__law_back_right_2 b__law_back_right_3
def b__law_back_right_1 : dS := dSeq p__law_back_right_1 b__law_back_right_2
def b__law_back_right_0 : dS := dSeq p__law_back_right_0 b__law_back_right_1
def b__law_back_right : dS := b__law_back_right_0
theorem run__law_back_right {P : Program} {w : World} {K : PySem.W.Frag} {mg : Str → Option Value} {base : Heap} (m_len : mg "len" = none) (m_set : mg "set" = none) (m_sorted : mg "sorted" = none) (K_passed_3 : DefL P w K mg base 6 "passed" 3 sp_passed []) (K_passed_by_4 : DefL P w K mg base 5 "passed_by" 4 sp_passed_by []) {f : Addr} (cdv : Value) (A : Around) (out : List Env) (s : Shared) (H : Hp) (E : XK) (g : A.guards = some []) (hrA : Room 6 (A.deeper (envOfC "_law_back_right" (defScope s__law_back_right) s.heap.objs.size f cdv))) :
  DSs (cx0 P w K mg base n__law_back_right "_law_back_right" (defScope s__law_back_right) f cdv A out s H E) E00 (defBody s__law_back_right) b__law_back_right := by
 have hgA : (A.deeper (envOfC "_law_back_right" (defScope s__law_back_right) s.heap.objs.size f cdv)).guards = some [] := g
 have hun := hrA.un
 exact (dss_cons (t := p__law_back_right_0) (u := b__law_back_right_1) (ds_par (i := 3) (j := 4) rfl sc__law_back_right.nd rfl rfl (by decide) rfl rfl (da_cons (de_fz (df_callL K_passed_3 hgA hrA (by rfl) (da_cons (de_var (pv 0)) (da_cons (de_var (pv 1)) (da_cons (de_var (pv 2)) da_nil))))) (da_cons (de_fz (df_callL K_passed_3 hgA hrA (by rfl) (da_cons (de_var (pv 0)) (da_cons (de_var (pv 2)) (da_cons (de_var (pv 1)) da_nil))))) da_nil)) (by rfl))
  (dss_cons (t := p__law_back_right_1) (u := b__law_back_right_2) (ds_setLc (E2 := E00) (own := [("_law_row", 6)]) (i := 5) rfl sc__law_back_right.nd rfl rfl (sw_true rfl rfl rfl (by decide +kernel)) (di_seq (de_var (pv 3))) (blkOk_by (N := n__law_back_right) (sc := (defScope s__law_back_right)) (own := [("_law_row", 6)]) (by decide +kernel)) (by decide) (fun _ _ _ _ _ => (dg_name (pg_name (i := 6) sc__law_back_right.nd rfl (by first | exact .inl rfl | exact .inr rfl)))) (fun _ _ _ _ _ => (dts_one (dt_cmp (od_eq (Nat.lt_of_le_of_lt (Nat.add_le_add_left (by decide) _) hun)) (de_ix (de_var (pv 6)) de_int (fun _ _ => rfl)) de_str (nomark _)))) (fun _ _ _ _ _ => (de_slT (de_var (pv 6)) (do_some de_int) do_none)))
  (dss_cons (t := p__law_back_right_2) (u := b__law_back_right_3) (ds_if (dt_cmp (od_ne (Nat.lt_of_le_of_lt (Nat.add_le_add_left (by decide) _) hun)) (de_fz (df_lc (E2 := E00) (own := [("_law_row", 6)]) rfl sc__law_back_right.nd (di_seq (de_var (pv 4))) (blkOk_by (N := n__law_back_right) (sc := (defScope s__law_back_right)) (own := [("_law_row", 6)]) (by decide +kernel)) (by decide) (fun _ _ _ _ _ => (dg_name (pg_name (i := 6) sc__law_back_right.nd rfl (by first | exact .inl rfl | exact .inr rfl)))) (fun _ _ _ _ _ => (dts_one (dt_cmp (od_eq (Nat.lt_of_le_of_lt (Nat.add_le_add_left (by decide) _) hun)) (de_ix (de_var (pv 6)) de_int (fun _ _ => rfl)) de_str (nomark _)))) (fun _ _ _ _ _ => (de_slT (de_var (pv 6)) (do_some de_int) do_none)))) (de_fz (df_rev (de_take (pv 5)))) (nomark _)) (dss_one (ds_ret de_bl)) dss_nil)
  (dss_cons (t := p__law_back_right_3) (u := b__law_back_right_4) (ds_if (dt_cmp (od_ne (Nat.lt_of_le_of_lt (Nat.add_le_add_left (by decide) _) hun)) (de_fz (df_lc (E2 := E00) (own := [("_law_row", 6)]) rfl sc__law_back_right.nd (di_seq (de_var (pv 3))) (blkOk_by (N := n__law_back_right) (sc := (defScope s__law_back_right)) (own := [("_law_row", 6)]) (by decide +kernel)) (by decide) (fun _ _ _ _ _ => (dg_name (pg_name (i := 6) sc__law_back_right.nd rfl (by first | exact .inl rfl | exact .inr rfl)))) (fun _ _ _ _ _ => (dts_one (dt_cmp (od_eq (Nat.lt_of_le_of_lt (Nat.add_le_add_left (by decide) _) hun)) (de_ix (de_var (pv 6)) de_int (fun _ _ => rfl)) de_str (nomark _)))) (fun _ _ _ _ _ => (de_slT (de_var (pv 6)) (do_some de_int) do_none)))) (de_fz (df_rev (de_fz (df_lc (E2 := E00) (own := [("_law_row", 6)]) rfl sc__law_back_right.nd (di_seq (de_var (pv 4))) (blkOk_by (N := n__law_back_right) (sc := (defScope s__law_back_right)) (own := [("_law_row", 6)]) (by decide +kernel)) (by decide) (fun _ _ _ _ _ => (dg_name (pg_name (i := 6) sc__law_back_right.nd rfl (by first | exact .inl rfl | exact .inr rfl)))) (fun _ _ _ _ _ => (dts_one (dt_cmp (od_eq (Nat.lt_of_le_of_lt (Nat.add_le_add_left (by decide) _) hun)) (de_ix (de_var (pv 6)) de_int (fun _ _ => rfl)) de_str (nomark _)))) (fun _ _ _ _ _ => (de_slT (de_var (pv 6)) (do_some de_int) do_none)))))) (nomark _)) (dss_one (ds_ret de_bl)) dss_nil)
  (dss_cons (t := p__law_back_right_4) (u := b__law_back_right_5) (ds_if ((dw_or (dt_cmp (od_ne (Nat.lt_of_le_of_lt (Nat.add_le_add_left (by decide) _) hun)) (de_lenSet (by rfl) m_len (by rfl) m_set (de_fz (df_lc (E2 := E00) (own := [("_law_row", 6)]) rfl sc__law_back_right.nd (di_seq (de_var (pv 3))) (blkOk_by (N := n__law_back_right) (sc := (defScope s__law_back_right)) (own := [("_law_row", 6)]) (by decide +kernel)) (by decide) (fun _ _ _ _ _ => (dg_name (pg_name (i := 6) sc__law_back_right.nd rfl (by first | exact .inl rfl | exact .inr rfl)))) (fun _ _ _ _ _ => dts_nil) (fun _ _ _ _ _ => (de_ix (de_var (pv 6)) de_int (fun _ _ => rfl)))))) (de_callB (cd_len) (by rfl) m_len PySem.boot_len (da_cons (de_var (pv 3)) da_nil)) (nomark _)) (dw_or1 (dt_cmp (od_ne (Nat.lt_of_le_of_lt (Nat.add_le_add_left (by decide) _) hun)) (de_fz (df_callL K_passed_by_4 hgA hrA (by rfl) (da_cons (de_var (pv 0)) (da_cons (de_var (pv 0)) (da_cons (de_var (pv 1)) (da_cons (de_var (pv 2)) da_nil)))))) (de_var (pv 3)) (nomark _))))).dt (dss_one (ds_ret de_bl)) dss_nil)
  (dss_one (t := p__law_back_right_5) (ds_ret (de_cmp (od_eq (Nat.lt_of_le_of_lt (Nat.add_le_add_left (by decide) _) hun)) (de_fz (df_lc (E2 := E00) (own := [("_law_row", 6)]) rfl sc__law_back_right.nd (di_seq (de_var (pv 3))) (blkOk_by (N := n__law_back_right) (sc := (defScope s__law_back_right)) (own := [("_law_row", 6)]) (by decide +kernel)) (by decide) (fun _ _ _ _ _ => (dg_name (pg_name (i := 6) sc__law_back_right.nd rfl (by first | exact .inl rfl | exact .inr rfl)))) (fun _ _ _ _ _ => dts_nil) (fun _ _ _ _ _ => (de_ix (de_var (pv 6)) de_int (fun _ _ => rfl))))) (de_fz (df_sortR (Nat.lt_of_le_of_lt (Nat.add_le_add_left (by decide) _) hun) (by rfl) m_sorted (da_cons (de_fz (df_lc (E2 := E00) (own := [("_law_row", 6)]) rfl sc__law_back_right.nd (di_seq (de_var (pv 3))) (blkOk_by (N := n__law_back_right) (sc := (defScope s__law_back_right)) (own := [("_law_row", 6)]) (by decide +kernel)) (by decide) (fun _ _ _ _ _ => (dg_name (pg_name (i := 6) sc__law_back_right.nd rfl (by first | exact .inl rfl | exact .inr rfl)))) (fun _ _ _ _ _ => dts_nil) (fun _ _ _ _ _ => (de_ix (de_var (pv 6)) de_int (fun _ _ => rfl))))) da_nil))) (nomark _)))))))))
theorem lc_ev {Q : List D → DS → Prop} {T : List Told} {w : Str} {s0 s1 s2 s3 s4 s5 : Sl} {p : Pen} (ok : ∀ t ∈ T, toldOk t) (hl : T.length ≤ 24) (hw : PyData.strOk w = true) (h : Q ((T.filter fun t => decide (t.ev = w)).map prD) ⟨[s0, s1, s2, s3, s4, s5, .un], p⟩) :
    wLC (gN 6) (dB (dBin Ev.rEq (dBin rIxD (dVar 6) (dC (.int 0))) (dC (.str w)))) (dSlT (dVar 6) (oSome (dC (.int 1))) oNone) [6] Q (T.map toldD) [] ⟨[s0, s1, s2, s3, s4, s5, .un], p⟩ := by
  refine wLC_filt (l := T) (ι := toldD) (f := prD) (t := fun t => decide (t.ev = w)) (fun t ht acc k hz g1 g2 => ?_) (by rw [sizeLine_eq]; omega) h
  by_cases c : t.ev = w
  · simp only [Ev.D.eq_refl, dPen1, dLenSet, dSrtR, dRo, dRoF, dRoT, roD, ro_un, ro_dat, ro_own, ro_hp, ro_law, ro_ownK, ro_ownT, List.forall_mem_map, flat_int, flat_str, flat_bl, flat_non, dSeq, dNext, dSet, dSetF, setSl, dVar, dTake, dC, dBin, dBinF, dB, dIfS, dIf, dRet, dRetN, dExpr, dNil, dCons, dTup, dLst, dFz, dAnd, dOr, dNot, dAndV, dOrV, dNotV, dCallD, dCallK, dCB, dCBF, dFor, dLC, dYes, dRng1, dRng2, dSeqI, gN, gT, gsNil, gsCons, dAsg, dNeg, dJoin, dFs, dJs, dFmt, dApp, dExt, dPop, dPopAt, dOwnIx, dOwnCB, dOwnL, dOwnR, dOwnSl, dSetIx, dSlT, dSlL, oNone, oSome, dBorn, optQ, ownAt, setOwnAt, lookAt, wipeD, dNewDT, dNewDK, dDGet, dDIn, dDPut, dSortT, rSrt, isDict, Ev.dictGet, Ev.dictPut, Option.isSome_none, Option.isSome_some, D.keyT, keysOf, D.key, exists_eq_left', exists_eq_left, Option.isSome, rRepL, rCatL, dRetF, dIfF, dPar, dRetOwn, dCallL, dCallLK, dPen2, dRev, dRevI, dIndex, endsL, startL, dNever, dBrk, dCnt, rAddD, rSubI, rIO, rMulI, rDivI, rModI, rPowI, rCI, rIxD, rIsN, rNotN, D.isN, rLen, rTuple, rList, rAbs, rInt, rStr, Ev.rRepr, Ev.rIsi, D.ty, kit_tab, startD, endsD, List.map_cons, List.map_nil, List.length_cons, List.length_nil, List.append_nil, List.nil_append, List.cons_append, List.getElem?_cons_zero, List.getElem?_cons_succ, List.getElem?_nil, List.set_cons_zero, List.set_cons_succ, List.replicate, List.replicate_succ, Nat.zero_add, Nat.zero_le, sizeLine, true_and, and_true, if_true, Ev.eq_int, Ev.eq_str, Ev.eq_bl, Ev.eq_non, lst_nil, tup_nil, List.map_eq_nil_iff, txt_join, rLt, rLe, rGt, rGe, atI_ofNat, atI_last, wLC, strsOf, intsOf, blsOf, Option.map_some, Ev.join_two, Ev.join_one, Ev.join_nil, List.sum_cons, List.sum_nil, PySem.Str.empty_append, ixN_ofNat, Option.some.injEq, exists_eq', List.length_map, decide_true, decide_false, Bool.not_true, Bool.not_false, Bool.true_eq_false, Bool.false_eq_true, false_and, and_false, if_false, ite_true, ite_false, Nat.reduceAdd, Nat.reduceSub, Nat.reduceMul, Nat.reduceLT, Nat.reduceLeDiff, Nat.reduceEqDiff, Nat.reducePow, Int.reduceToNat, Int.reducePow, pickL, List.filterMap_cons, List.filterMap_nil, and_self, Int.reduceLT, Int.reduceLE, Int.reduceNeg, Int.reduceAdd, Int.reduceMul, Int.reduceSub, Int.reduceEq, reduceIte, reduceCtorEq, lit_eq, String.reduceEq, Ev.rEq, Ev.rNe, Ev.rInD, cut_toN, cut_fromN, List.map_take, List.forall_mem_cons, List.forall_mem_nil, List.not_mem_nil, false_imp_iff, implies_true, forall_const, D.cm, D.lay, D.lays, D.dep, D.deps, strOk_lit, lays_ints, deps_ints, Nat.max_self, Nat.max_zero, Nat.zero_max, Bool.and_self, Bool.true_and, Bool.and_true, Bool.and_false, Bool.false_and, Bool.or_false, Bool.or_true, Bool.true_or, Bool.false_or, List.any_cons, List.any_nil, decide_eq_true_eq, eq_self, toldD, (ok t ht).e.1, c, hw]
    exact ⟨hz, g1 (by simp [c])⟩
  · simp only [Ev.D.eq_refl, dPen1, dLenSet, dSrtR, dRo, dRoF, dRoT, roD, ro_un, ro_dat, ro_own, ro_hp, ro_law, ro_ownK, ro_ownT, List.forall_mem_map, flat_int, flat_str, flat_bl, flat_non, dSeq, dNext, dSet, dSetF, setSl, dVar, dTake, dC, dBin, dBinF, dB, dIfS, dIf, dRet, dRetN, dExpr, dNil, dCons, dTup, dLst, dFz, dAnd, dOr, dNot, dAndV, dOrV, dNotV, dCallD, dCallK, dCB, dCBF, dFor, dLC, dYes, dRng1, dRng2, dSeqI, gN, gT, gsNil, gsCons, dAsg, dNeg, dJoin, dFs, dJs, dFmt, dApp, dExt, dPop, dPopAt, dOwnIx, dOwnCB, dOwnL, dOwnR, dOwnSl, dSetIx, dSlT, dSlL, oNone, oSome, dBorn, optQ, ownAt, setOwnAt, lookAt, wipeD, dNewDT, dNewDK, dDGet, dDIn, dDPut, dSortT, rSrt, isDict, Ev.dictGet, Ev.dictPut, Option.isSome_none, Option.isSome_some, D.keyT, keysOf, D.key, exists_eq_left', exists_eq_left, Option.isSome, rRepL, rCatL, dRetF, dIfF, dPar, dRetOwn, dCallL, dCallLK, dPen2, dRev, dRevI, dIndex, endsL, startL, dNever, dBrk, dCnt, rAddD, rSubI, rIO, rMulI, rDivI, rModI, rPowI, rCI, rIxD, rIsN, rNotN, D.isN, rLen, rTuple, rList, rAbs, rInt, rStr, Ev.rRepr, Ev.rIsi, D.ty, kit_tab, startD, endsD, List.map_cons, List.map_nil, List.length_cons, List.length_nil, List.append_nil, List.nil_append, List.cons_append, List.getElem?_cons_zero, List.getElem?_cons_succ, List.getElem?_nil, List.set_cons_zero, List.set_cons_succ, List.replicate, List.replicate_succ, Nat.zero_add, Nat.zero_le, sizeLine, true_and, and_true, if_true, Ev.eq_int, Ev.eq_str, Ev.eq_bl, Ev.eq_non, lst_nil, tup_nil, List.map_eq_nil_iff, txt_join, rLt, rLe, rGt, rGe, atI_ofNat, atI_last, wLC, strsOf, intsOf, blsOf, Option.map_some, Ev.join_two, Ev.join_one, Ev.join_nil, List.sum_cons, List.sum_nil, PySem.Str.empty_append, ixN_ofNat, Option.some.injEq, exists_eq', List.length_map, decide_true, decide_false, Bool.not_true, Bool.not_false, Bool.true_eq_false, Bool.false_eq_true, false_and, and_false, if_false, ite_true, ite_false, Nat.reduceAdd, Nat.reduceSub, Nat.reduceMul, Nat.reduceLT, Nat.reduceLeDiff, Nat.reduceEqDiff, Nat.reducePow, Int.reduceToNat, Int.reducePow, pickL, List.filterMap_cons, List.filterMap_nil, and_self, Int.reduceLT, Int.reduceLE, Int.reduceNeg, Int.reduceAdd, Int.reduceMul, Int.reduceSub, Int.reduceEq, reduceIte, reduceCtorEq, lit_eq, String.reduceEq, Ev.rEq, Ev.rNe, Ev.rInD, cut_toN, cut_fromN, List.map_take, List.forall_mem_cons, List.forall_mem_nil, List.not_mem_nil, false_imp_iff, implies_true, forall_const, D.cm, D.lay, D.lays, D.dep, D.deps, strOk_lit, lays_ints, deps_ints, Nat.max_self, Nat.max_zero, Nat.zero_max, Bool.and_self, Bool.true_and, Bool.and_true, Bool.and_false, Bool.false_and, Bool.or_false, Bool.or_true, Bool.true_or, Bool.false_or, List.any_cons, List.any_nil, decide_eq_true_eq, eq_self, toldD, (ok t ht).e.1, c, hw]
    exact g2 (by simp [c])
theorem pr_of (l : List (Option Int × Str)) : (l.map lvT).map prD = (l.map enT).map prD := by simp [prD, lvT, enT, Function.comp_def]
theorem back_eq {b : List Row} {o o2 : Option Int} {l l2 : List Int} (h1 : Line b o l) (h2 : Line b o2 l2) :
    (((byP b l2 l o2 o).filter fun t => decide (t.ev = Str.ofString "leave")).map prD) = (((byP b l l2 o o2).filter fun t => decide (t.ev = Str.ofString "enter")).map prD).reverse := by
  by_cases e : o = o2
  · have e2 := h1.up.one (e ▸ h2.up)
    subst e e2
    simp [byP]
  · obtain ⟨p, q, t, a, b', c, d⟩ := h1.up.fork h2.up
    have k : Fork l l2 p q t := ⟨a, b', c, d⟩
    rw [byP_fork h1 h2 k e, byP_fork h2 h1 k.swap (fun z => e z.symm), fil_lv, fil_en, pr_of]
    simp
theorem rooms_of {b : List Row} {o o2 : Option Int} {l l2 : List Int} (h1 : Line b o l) (h2 : Line b o2 l2) : ∃ ns : List Int, ((byP b l l2 o o2).map fun t => optD t.rm) = ns.map .int ∧ ns.Nodup := by
  by_cases e : o = o2
  · have e2 := h1.up.one (e ▸ h2.up)
    subst e e2
    exact ⟨[], by simp [byP], by simp⟩
  · obtain ⟨p, q, t, a, b', c, d⟩ := h1.up.fork h2.up
    have k : Fork l l2 p q t := ⟨a, b', c, d⟩
    rw [byP_fork h1 h2 k e]
    obtain ⟨ns, en⟩ := all_some (l := Lr o p ++ (Lr o2 q).reverse) (fun x hx => by
      rcases List.mem_append.mp hx with hx | hx
      · exact Lr_none k.nn x hx
      · exact Lr_none k.swap.nn x (List.mem_reverse.mp hx))
    refine ⟨ns, ?_, ?_⟩
    · have : (((Lv o p q).map lvT ++ (Lv o2 q p).reverse.map enT).map fun t => optD t.rm) = (Lr o p ++ (Lr o2 q).reverse).map optD := by
        rw [← Lv_fst o p q, ← Lv_fst o2 q p]; simp [lvT, enT, Function.comp_def]
      rw [this, en]; simp [optD, Function.comp_def]
    · have := rooms_nodup h1.up h2.up k e
      rw [en] at this
      exact List.Pairwise.of_map some (fun a b h z => h (by rw [z])) this
theorem evs_of {b : List Row} {o o2 : Option Int} {l l2 : List Int} (h1 : Line b o l) (h2 : Line b o2 l2) : ∃ m n : Nat, ((byP b l l2 o o2).map fun t => D.str t.ev) = List.replicate m (.str "leave") ++ List.replicate n (.str "enter") := by
  by_cases e : o = o2
  · have e2 := h1.up.one (e ▸ h2.up)
    subst e e2
    exact ⟨0, 0, by simp [byP]⟩
  · obtain ⟨p, q, t, a, b', c, d⟩ := h1.up.fork h2.up
    have k : Fork l l2 p q t := ⟨a, b', c, d⟩
    rw [byP_fork h1 h2 k e]
    refine ⟨(Lv o p q).length, (Lv o2 q p).length, ?_⟩
    rw [List.map_append, List.map_map, List.map_map]
    congr 1
    · rw [show ((fun t : Told => D.str t.ev) ∘ lvT) = fun _ => D.str "leave" from rfl, List.map_const']
    · rw [show ((fun t : Told => D.str t.ev) ∘ enT) = fun _ => D.str "enter" from rfl, List.map_const', List.length_reverse]
theorem strs_srt {l : List Str} (h : ∀ x ∈ l, PyData.strOk x = true) (hl : l.length ≤ 100) : srtOk (l.map .str) := by
  refine ⟨lays_map h, fun d hd => ?_, ?_, ?_, by rw [List.length_map, sizeLine_eq]; omega⟩
  · obtain ⟨a, _, rfl⟩ := List.mem_map.mp hd
    exact Nat.zero_le _
  · rw [List.map_map]
    exact PySem.W.AllAlike.of fun a b => by simp [D.py, PySem.W.alike]
  · rw [List.map_map]
    exact PySem.W.Sortable.others fun a => ⟨by simp [D.py], fun xs => by simp [D.py]⟩
theorem evs_sorted (m n : Nat) : sortDR true (List.replicate m (.str "leave") ++ List.replicate n (.str "enter")) = List.replicate m (.str "leave") ++ List.replicate n (.str "enter") := by
  refine List.mergeSort_of_pairwise (List.pairwise_append.mpr ⟨?_, ?_, ?_⟩)
  · exact List.pairwise_replicate.mpr (.inr (by decide +kernel))
  · exact List.pairwise_replicate.mpr (.inr (by decide +kernel))
  · intro a ha b hb
    rw [List.eq_of_mem_replicate ha, List.eq_of_mem_replicate hb]
    decide +kernel
theorem tolds_lay {T : List Told} (ok : ∀ t ∈ T, toldOk t) : D.lays (T.map toldD) = true := lays_map fun t ht => by
  simp only [toldD, D.lay, D.lays, opt_lay, (ok t ht).w.1, (ok t ht).e.1, Bool.and_self]
theorem tolds_dep (T : List Told) : D.deps (T.map toldD) ≤ 1 := deps_map fun t _ => by
  simp only [toldD, D.dep, D.deps, opt_dep]; decide
theorem hsp__law_back_right : ∀ ds p Q W, ds.length = 3 → sp__law_back_right ds p Q W → b__law_back_right W0 (endsD Q) (startD n__law_back_right.length ds p) := by
  rintro _ p Q W - ⟨b, o, o2, l, l2, rfl, w, h1, h2, q⟩
  simp only [Ev.D.eq_refl, dPen1, dLenSet, dSrtR, dRo, dRoF, dRoT, roD, ro_un, ro_dat, ro_own, ro_hp, ro_law, ro_ownK, ro_ownT, List.forall_mem_map, flat_int, flat_str, flat_bl, flat_non, dSeq, dNext, dSet, dSetF, setSl, dVar, dTake, dC, dBin, dBinF, dB, dIfS, dIf, dRet, dRetN, dExpr, dNil, dCons, dTup, dLst, dFz, dAnd, dOr, dNot, dAndV, dOrV, dNotV, dCallD, dCallK, dCB, dCBF, dFor, dLC, dYes, dRng1, dRng2, dSeqI, gN, gT, gsNil, gsCons, dAsg, dNeg, dJoin, dFs, dJs, dFmt, dApp, dExt, dPop, dPopAt, dOwnIx, dOwnCB, dOwnL, dOwnR, dOwnSl, dSetIx, dSlT, dSlL, oNone, oSome, dBorn, optQ, ownAt, setOwnAt, lookAt, wipeD, dNewDT, dNewDK, dDGet, dDIn, dDPut, dSortT, rSrt, isDict, Ev.dictGet, Ev.dictPut, Option.isSome_none, Option.isSome_some, D.keyT, keysOf, D.key, exists_eq_left', exists_eq_left, Option.isSome, rRepL, rCatL, dRetF, dIfF, dPar, dRetOwn, dCallL, dCallLK, dPen2, dRev, dRevI, dIndex, endsL, startL, dNever, dBrk, dCnt, rAddD, rSubI, rIO, rMulI, rDivI, rModI, rPowI, rCI, rIxD, rIsN, rNotN, D.isN, rLen, rTuple, rList, rAbs, rInt, rStr, Ev.rRepr, Ev.rIsi, D.ty, kit_tab, startD, endsD, List.map_cons, List.map_nil, List.length_cons, List.length_nil, List.append_nil, List.nil_append, List.cons_append, List.getElem?_cons_zero, List.getElem?_cons_succ, List.getElem?_nil, List.set_cons_zero, List.set_cons_succ, List.replicate, List.replicate_succ, Nat.zero_add, Nat.zero_le, sizeLine, true_and, and_true, if_true, Ev.eq_int, Ev.eq_str, Ev.eq_bl, Ev.eq_non, lst_nil, tup_nil, List.map_eq_nil_iff, txt_join, rLt, rLe, rGt, rGe, atI_ofNat, atI_last, wLC, strsOf, intsOf, blsOf, Option.map_some, Ev.join_two, Ev.join_one, Ev.join_nil, List.sum_cons, List.sum_nil, PySem.Str.empty_append, ixN_ofNat, Option.some.injEq, exists_eq', List.length_map, decide_true, decide_false, Bool.not_true, Bool.not_false, Bool.true_eq_false, Bool.false_eq_true, false_and, and_false, if_false, ite_true, ite_false, Nat.reduceAdd, Nat.reduceSub, Nat.reduceMul, Nat.reduceLT, Nat.reduceLeDiff, Nat.reduceEqDiff, Nat.reducePow, Int.reduceToNat, Int.reducePow, pickL, List.filterMap_cons, List.filterMap_nil, and_self, Int.reduceLT, Int.reduceLE, Int.reduceNeg, Int.reduceAdd, Int.reduceMul, Int.reduceSub, Int.reduceEq, reduceIte, reduceCtorEq, lit_eq, String.reduceEq, Ev.rEq, Ev.rNe, Ev.rInD, cut_toN, cut_fromN, List.map_take, List.forall_mem_cons, List.forall_mem_nil, List.not_mem_nil, false_imp_iff, implies_true, forall_const, D.cm, D.lay, D.lays, D.dep, D.deps, strOk_lit, lays_ints, deps_ints, Nat.max_self, Nat.max_zero, Nat.zero_max, Bool.and_self, Bool.true_and, Bool.and_true, Bool.and_false, Bool.false_and, Bool.or_false, Bool.or_true, Bool.true_or, Bool.false_or, List.any_cons, List.any_nil, decide_eq_true_eq, eq_self, n__law_back_right, b__law_back_right, b__law_back_right_0, p__law_back_right_0, sp_passed]
  refine ⟨b, o, o2, l, l2, rfl, w, h1, h2, b, o2, o, l2, l, rfl, w, h2, h1, ?_⟩
  have hl := byP_len (b := b) h1 h2
  have hl2 := byP_len (b := b) h2 h1
  have ok := byP_ok (b := b) (o := o) (o2 := o2) (l := l) (l2 := l2)
  have ok2 := byP_ok (b := b) (o := o2) (o2 := o) (l := l2) (l2 := l)
  have be := back_eq (b := b) h1 h2
  have be2 := back_eq (b := b) h2 h1
  obtain ⟨ns, en, nd⟩ := rooms_of (b := b) h1 h2
  obtain ⟨m, n, em⟩ := evs_of (b := b) h1 h2
  generalize hT : byP b l l2 o o2 = T at *
  generalize byP b l2 l o2 o = T2 at *
  have okf : ∀ {T : List Told} (f : Told → Bool), (∀ t ∈ T, toldOk t) → ∀ t ∈ T.filter f, toldOk t := fun f h t ht => h t (List.mem_filter.mp ht).1
  simp only [Ev.D.eq_refl, dPen1, dLenSet, dSrtR, dRo, dRoF, dRoT, roD, ro_un, ro_dat, ro_own, ro_hp, ro_law, ro_ownK, ro_ownT, List.forall_mem_map, flat_int, flat_str, flat_bl, flat_non, dSeq, dNext, dSet, dSetF, setSl, dVar, dTake, dC, dBin, dBinF, dB, dIfS, dIf, dRet, dRetN, dExpr, dNil, dCons, dTup, dLst, dFz, dAnd, dOr, dNot, dAndV, dOrV, dNotV, dCallD, dCallK, dCB, dCBF, dFor, dLC, dYes, dRng1, dRng2, dSeqI, gN, gT, gsNil, gsCons, dAsg, dNeg, dJoin, dFs, dJs, dFmt, dApp, dExt, dPop, dPopAt, dOwnIx, dOwnCB, dOwnL, dOwnR, dOwnSl, dSetIx, dSlT, dSlL, oNone, oSome, dBorn, optQ, ownAt, setOwnAt, lookAt, wipeD, dNewDT, dNewDK, dDGet, dDIn, dDPut, dSortT, rSrt, isDict, Ev.dictGet, Ev.dictPut, Option.isSome_none, Option.isSome_some, D.keyT, keysOf, D.key, exists_eq_left', exists_eq_left, Option.isSome, rRepL, rCatL, dRetF, dIfF, dPar, dRetOwn, dCallL, dCallLK, dPen2, dRev, dRevI, dIndex, endsL, startL, dNever, dBrk, dCnt, rAddD, rSubI, rIO, rMulI, rDivI, rModI, rPowI, rCI, rIxD, rIsN, rNotN, D.isN, rLen, rTuple, rList, rAbs, rInt, rStr, Ev.rRepr, Ev.rIsi, D.ty, kit_tab, startD, endsD, List.map_cons, List.map_nil, List.length_cons, List.length_nil, List.append_nil, List.nil_append, List.cons_append, List.getElem?_cons_zero, List.getElem?_cons_succ, List.getElem?_nil, List.set_cons_zero, List.set_cons_succ, List.replicate, List.replicate_succ, Nat.zero_add, Nat.zero_le, sizeLine, true_and, and_true, if_true, Ev.eq_int, Ev.eq_str, Ev.eq_bl, Ev.eq_non, lst_nil, tup_nil, List.map_eq_nil_iff, txt_join, rLt, rLe, rGt, rGe, atI_ofNat, atI_last, wLC, strsOf, intsOf, blsOf, Option.map_some, Ev.join_two, Ev.join_one, Ev.join_nil, List.sum_cons, List.sum_nil, PySem.Str.empty_append, ixN_ofNat, Option.some.injEq, exists_eq', List.length_map, decide_true, decide_false, Bool.not_true, Bool.not_false, Bool.true_eq_false, Bool.false_eq_true, false_and, and_false, if_false, ite_true, ite_false, Nat.reduceAdd, Nat.reduceSub, Nat.reduceMul, Nat.reduceLT, Nat.reduceLeDiff, Nat.reduceEqDiff, Nat.reducePow, Int.reduceToNat, Int.reducePow, pickL, List.filterMap_cons, List.filterMap_nil, and_self, Int.reduceLT, Int.reduceLE, Int.reduceNeg, Int.reduceAdd, Int.reduceMul, Int.reduceSub, Int.reduceEq, reduceIte, reduceCtorEq, lit_eq, String.reduceEq, Ev.rEq, Ev.rNe, Ev.rInD, cut_toN, cut_fromN, List.map_take, List.forall_mem_cons, List.forall_mem_nil, List.not_mem_nil, false_imp_iff, implies_true, forall_const, D.cm, D.lay, D.lays, D.dep, D.deps, strOk_lit, lays_ints, deps_ints, Nat.max_self, Nat.max_zero, Nat.zero_max, Bool.and_self, Bool.true_and, Bool.and_true, Bool.and_false, Bool.false_and, Bool.or_false, Bool.or_true, Bool.true_or, Bool.false_or, List.any_cons, List.any_nil, decide_eq_true_eq, eq_self, b__law_back_right_1, p__law_back_right_1]
  refine lc_ev ok hl (by decide +kernel) ?_
  simp only [Ev.D.eq_refl, dPen1, dLenSet, dSrtR, dRo, dRoF, dRoT, roD, ro_un, ro_dat, ro_own, ro_hp, ro_law, ro_ownK, ro_ownT, List.forall_mem_map, flat_int, flat_str, flat_bl, flat_non, dSeq, dNext, dSet, dSetF, setSl, dVar, dTake, dC, dBin, dBinF, dB, dIfS, dIf, dRet, dRetN, dExpr, dNil, dCons, dTup, dLst, dFz, dAnd, dOr, dNot, dAndV, dOrV, dNotV, dCallD, dCallK, dCB, dCBF, dFor, dLC, dYes, dRng1, dRng2, dSeqI, gN, gT, gsNil, gsCons, dAsg, dNeg, dJoin, dFs, dJs, dFmt, dApp, dExt, dPop, dPopAt, dOwnIx, dOwnCB, dOwnL, dOwnR, dOwnSl, dSetIx, dSlT, dSlL, oNone, oSome, dBorn, optQ, ownAt, setOwnAt, lookAt, wipeD, dNewDT, dNewDK, dDGet, dDIn, dDPut, dSortT, rSrt, isDict, Ev.dictGet, Ev.dictPut, Option.isSome_none, Option.isSome_some, D.keyT, keysOf, D.key, exists_eq_left', exists_eq_left, Option.isSome, rRepL, rCatL, dRetF, dIfF, dPar, dRetOwn, dCallL, dCallLK, dPen2, dRev, dRevI, dIndex, endsL, startL, dNever, dBrk, dCnt, rAddD, rSubI, rIO, rMulI, rDivI, rModI, rPowI, rCI, rIxD, rIsN, rNotN, D.isN, rLen, rTuple, rList, rAbs, rInt, rStr, Ev.rRepr, Ev.rIsi, D.ty, kit_tab, startD, endsD, List.map_cons, List.map_nil, List.length_cons, List.length_nil, List.append_nil, List.nil_append, List.cons_append, List.getElem?_cons_zero, List.getElem?_cons_succ, List.getElem?_nil, List.set_cons_zero, List.set_cons_succ, List.replicate, List.replicate_succ, Nat.zero_add, Nat.zero_le, sizeLine, true_and, and_true, if_true, Ev.eq_int, Ev.eq_str, Ev.eq_bl, Ev.eq_non, lst_nil, tup_nil, List.map_eq_nil_iff, txt_join, rLt, rLe, rGt, rGe, atI_ofNat, atI_last, wLC, strsOf, intsOf, blsOf, Option.map_some, Ev.join_two, Ev.join_one, Ev.join_nil, List.sum_cons, List.sum_nil, PySem.Str.empty_append, ixN_ofNat, Option.some.injEq, exists_eq', List.length_map, decide_true, decide_false, Bool.not_true, Bool.not_false, Bool.true_eq_false, Bool.false_eq_true, false_and, and_false, if_false, ite_true, ite_false, Nat.reduceAdd, Nat.reduceSub, Nat.reduceMul, Nat.reduceLT, Nat.reduceLeDiff, Nat.reduceEqDiff, Nat.reducePow, Int.reduceToNat, Int.reducePow, pickL, List.filterMap_cons, List.filterMap_nil, and_self, Int.reduceLT, Int.reduceLE, Int.reduceNeg, Int.reduceAdd, Int.reduceMul, Int.reduceSub, Int.reduceEq, reduceIte, reduceCtorEq, lit_eq, String.reduceEq, Ev.rEq, Ev.rNe, Ev.rInD, cut_toN, cut_fromN, List.map_take, List.forall_mem_cons, List.forall_mem_nil, List.not_mem_nil, false_imp_iff, implies_true, forall_const, D.cm, D.lay, D.lays, D.dep, D.deps, strOk_lit, lays_ints, deps_ints, Nat.max_self, Nat.max_zero, Nat.zero_max, Bool.and_self, Bool.true_and, Bool.and_true, Bool.and_false, Bool.false_and, Bool.or_false, Bool.or_true, Bool.true_or, Bool.false_or, List.any_cons, List.any_nil, decide_eq_true_eq, eq_self, b__law_back_right_2, p__law_back_right_2]
  refine lc_ev ok2 hl2 (by decide +kernel) ?_
  rw [be]
  have okr : ∀ {T : List Told} (f : Told → Bool), (∀ t ∈ T, toldOk t) → ∀ t ∈ (T.filter f).reverse, toldOk t := fun f h t ht => h t (List.mem_filter.mp (List.mem_reverse.mp ht)).1
  simp only [Ev.D.eq_refl, dPen1, dLenSet, dSrtR, dRo, dRoF, dRoT, roD, ro_un, ro_dat, ro_own, ro_hp, ro_law, ro_ownK, ro_ownT, List.forall_mem_map, flat_int, flat_str, flat_bl, flat_non, dSeq, dNext, dSet, dSetF, setSl, dVar, dTake, dC, dBin, dBinF, dB, dIfS, dIf, dRet, dRetN, dExpr, dNil, dCons, dTup, dLst, dFz, dAnd, dOr, dNot, dAndV, dOrV, dNotV, dCallD, dCallK, dCB, dCBF, dFor, dLC, dYes, dRng1, dRng2, dSeqI, gN, gT, gsNil, gsCons, dAsg, dNeg, dJoin, dFs, dJs, dFmt, dApp, dExt, dPop, dPopAt, dOwnIx, dOwnCB, dOwnL, dOwnR, dOwnSl, dSetIx, dSlT, dSlL, oNone, oSome, dBorn, optQ, ownAt, setOwnAt, lookAt, wipeD, dNewDT, dNewDK, dDGet, dDIn, dDPut, dSortT, rSrt, isDict, Ev.dictGet, Ev.dictPut, Option.isSome_none, Option.isSome_some, D.keyT, keysOf, D.key, exists_eq_left', exists_eq_left, Option.isSome, rRepL, rCatL, dRetF, dIfF, dPar, dRetOwn, dCallL, dCallLK, dPen2, dRev, dRevI, dIndex, endsL, startL, dNever, dBrk, dCnt, rAddD, rSubI, rIO, rMulI, rDivI, rModI, rPowI, rCI, rIxD, rIsN, rNotN, D.isN, rLen, rTuple, rList, rAbs, rInt, rStr, Ev.rRepr, Ev.rIsi, D.ty, kit_tab, startD, endsD, List.map_cons, List.map_nil, List.length_cons, List.length_nil, List.append_nil, List.nil_append, List.cons_append, List.getElem?_cons_zero, List.getElem?_cons_succ, List.getElem?_nil, List.set_cons_zero, List.set_cons_succ, List.replicate, List.replicate_succ, Nat.zero_add, Nat.zero_le, sizeLine, true_and, and_true, if_true, Ev.eq_int, Ev.eq_str, Ev.eq_bl, Ev.eq_non, lst_nil, tup_nil, List.map_eq_nil_iff, txt_join, rLt, rLe, rGt, rGe, atI_ofNat, atI_last, wLC, strsOf, intsOf, blsOf, Option.map_some, Ev.join_two, Ev.join_one, Ev.join_nil, List.sum_cons, List.sum_nil, PySem.Str.empty_append, ixN_ofNat, Option.some.injEq, exists_eq', List.length_map, decide_true, decide_false, Bool.not_true, Bool.not_false, Bool.true_eq_false, Bool.false_eq_true, false_and, and_false, if_false, ite_true, ite_false, Nat.reduceAdd, Nat.reduceSub, Nat.reduceMul, Nat.reduceLT, Nat.reduceLeDiff, Nat.reduceEqDiff, Nat.reducePow, Int.reduceToNat, Int.reducePow, pickL, List.filterMap_cons, List.filterMap_nil, and_self, Int.reduceLT, Int.reduceLE, Int.reduceNeg, Int.reduceAdd, Int.reduceMul, Int.reduceSub, Int.reduceEq, reduceIte, reduceCtorEq, lit_eq, String.reduceEq, Ev.rEq, Ev.rNe, Ev.rInD, cut_toN, cut_fromN, List.map_take, List.forall_mem_cons, List.forall_mem_nil, List.not_mem_nil, false_imp_iff, implies_true, forall_const, D.cm, D.lay, D.lays, D.dep, D.deps, strOk_lit, lays_ints, deps_ints, Nat.max_self, Nat.max_zero, Nat.zero_max, Bool.and_self, Bool.true_and, Bool.and_true, Bool.and_false, Bool.false_and, Bool.or_false, Bool.or_true, Bool.true_or, Bool.false_or, List.any_cons, List.any_nil, decide_eq_true_eq, eq_self, b__law_back_right_3, p__law_back_right_3, ← List.map_reverse]
  refine ⟨⟨prs_lay (okr _ ok), Nat.le_trans (prs_dep _) (by decide)⟩, ⟨prs_lay (okr _ ok), Nat.le_trans (prs_dep _) (by decide)⟩, ?_⟩
  refine lc_ev ok hl (by decide +kernel) ?_
  simp only [Ev.D.eq_refl, dPen1, dLenSet, dSrtR, dRo, dRoF, dRoT, roD, ro_un, ro_dat, ro_own, ro_hp, ro_law, ro_ownK, ro_ownT, List.forall_mem_map, flat_int, flat_str, flat_bl, flat_non, dSeq, dNext, dSet, dSetF, setSl, dVar, dTake, dC, dBin, dBinF, dB, dIfS, dIf, dRet, dRetN, dExpr, dNil, dCons, dTup, dLst, dFz, dAnd, dOr, dNot, dAndV, dOrV, dNotV, dCallD, dCallK, dCB, dCBF, dFor, dLC, dYes, dRng1, dRng2, dSeqI, gN, gT, gsNil, gsCons, dAsg, dNeg, dJoin, dFs, dJs, dFmt, dApp, dExt, dPop, dPopAt, dOwnIx, dOwnCB, dOwnL, dOwnR, dOwnSl, dSetIx, dSlT, dSlL, oNone, oSome, dBorn, optQ, ownAt, setOwnAt, lookAt, wipeD, dNewDT, dNewDK, dDGet, dDIn, dDPut, dSortT, rSrt, isDict, Ev.dictGet, Ev.dictPut, Option.isSome_none, Option.isSome_some, D.keyT, keysOf, D.key, exists_eq_left', exists_eq_left, Option.isSome, rRepL, rCatL, dRetF, dIfF, dPar, dRetOwn, dCallL, dCallLK, dPen2, dRev, dRevI, dIndex, endsL, startL, dNever, dBrk, dCnt, rAddD, rSubI, rIO, rMulI, rDivI, rModI, rPowI, rCI, rIxD, rIsN, rNotN, D.isN, rLen, rTuple, rList, rAbs, rInt, rStr, Ev.rRepr, Ev.rIsi, D.ty, kit_tab, startD, endsD, List.map_cons, List.map_nil, List.length_cons, List.length_nil, List.append_nil, List.nil_append, List.cons_append, List.getElem?_cons_zero, List.getElem?_cons_succ, List.getElem?_nil, List.set_cons_zero, List.set_cons_succ, List.replicate, List.replicate_succ, Nat.zero_add, Nat.zero_le, sizeLine, true_and, and_true, if_true, Ev.eq_int, Ev.eq_str, Ev.eq_bl, Ev.eq_non, lst_nil, tup_nil, List.map_eq_nil_iff, txt_join, rLt, rLe, rGt, rGe, atI_ofNat, atI_last, wLC, strsOf, intsOf, blsOf, Option.map_some, Ev.join_two, Ev.join_one, Ev.join_nil, List.sum_cons, List.sum_nil, PySem.Str.empty_append, ixN_ofNat, Option.some.injEq, exists_eq', List.length_map, decide_true, decide_false, Bool.not_true, Bool.not_false, Bool.true_eq_false, Bool.false_eq_true, false_and, and_false, if_false, ite_true, ite_false, Nat.reduceAdd, Nat.reduceSub, Nat.reduceMul, Nat.reduceLT, Nat.reduceLeDiff, Nat.reduceEqDiff, Nat.reducePow, Int.reduceToNat, Int.reducePow, pickL, List.filterMap_cons, List.filterMap_nil, and_self, Int.reduceLT, Int.reduceLE, Int.reduceNeg, Int.reduceAdd, Int.reduceMul, Int.reduceSub, Int.reduceEq, reduceIte, reduceCtorEq, lit_eq, String.reduceEq, Ev.rEq, Ev.rNe, Ev.rInD, cut_toN, cut_fromN, List.map_take, List.forall_mem_cons, List.forall_mem_nil, List.not_mem_nil, false_imp_iff, implies_true, forall_const, D.cm, D.lay, D.lays, D.dep, D.deps, strOk_lit, lays_ints, deps_ints, Nat.max_self, Nat.max_zero, Nat.zero_max, Bool.and_self, Bool.true_and, Bool.and_true, Bool.and_false, Bool.false_and, Bool.or_false, Bool.or_true, Bool.true_or, Bool.false_or, List.any_cons, List.any_nil, decide_eq_true_eq, eq_self]
  refine lc_ev ok2 hl2 (by decide +kernel) ?_
  rw [be2]
  simp only [Ev.D.eq_refl, dPen1, dLenSet, dSrtR, dRo, dRoF, dRoT, roD, ro_un, ro_dat, ro_own, ro_hp, ro_law, ro_ownK, ro_ownT, List.forall_mem_map, flat_int, flat_str, flat_bl, flat_non, dSeq, dNext, dSet, dSetF, setSl, dVar, dTake, dC, dBin, dBinF, dB, dIfS, dIf, dRet, dRetN, dExpr, dNil, dCons, dTup, dLst, dFz, dAnd, dOr, dNot, dAndV, dOrV, dNotV, dCallD, dCallK, dCB, dCBF, dFor, dLC, dYes, dRng1, dRng2, dSeqI, gN, gT, gsNil, gsCons, dAsg, dNeg, dJoin, dFs, dJs, dFmt, dApp, dExt, dPop, dPopAt, dOwnIx, dOwnCB, dOwnL, dOwnR, dOwnSl, dSetIx, dSlT, dSlL, oNone, oSome, dBorn, optQ, ownAt, setOwnAt, lookAt, wipeD, dNewDT, dNewDK, dDGet, dDIn, dDPut, dSortT, rSrt, isDict, Ev.dictGet, Ev.dictPut, Option.isSome_none, Option.isSome_some, D.keyT, keysOf, D.key, exists_eq_left', exists_eq_left, Option.isSome, rRepL, rCatL, dRetF, dIfF, dPar, dRetOwn, dCallL, dCallLK, dPen2, dRev, dRevI, dIndex, endsL, startL, dNever, dBrk, dCnt, rAddD, rSubI, rIO, rMulI, rDivI, rModI, rPowI, rCI, rIxD, rIsN, rNotN, D.isN, rLen, rTuple, rList, rAbs, rInt, rStr, Ev.rRepr, Ev.rIsi, D.ty, kit_tab, startD, endsD, List.map_cons, List.map_nil, List.length_cons, List.length_nil, List.append_nil, List.nil_append, List.cons_append, List.getElem?_cons_zero, List.getElem?_cons_succ, List.getElem?_nil, List.set_cons_zero, List.set_cons_succ, List.replicate, List.replicate_succ, Nat.zero_add, Nat.zero_le, sizeLine, true_and, and_true, if_true, Ev.eq_int, Ev.eq_str, Ev.eq_bl, Ev.eq_non, lst_nil, tup_nil, List.map_eq_nil_iff, txt_join, rLt, rLe, rGt, rGe, atI_ofNat, atI_last, wLC, strsOf, intsOf, blsOf, Option.map_some, Ev.join_two, Ev.join_one, Ev.join_nil, List.sum_cons, List.sum_nil, PySem.Str.empty_append, ixN_ofNat, Option.some.injEq, exists_eq', List.length_map, decide_true, decide_false, Bool.not_true, Bool.not_false, Bool.true_eq_false, Bool.false_eq_true, false_and, and_false, if_false, ite_true, ite_false, Nat.reduceAdd, Nat.reduceSub, Nat.reduceMul, Nat.reduceLT, Nat.reduceLeDiff, Nat.reduceEqDiff, Nat.reducePow, Int.reduceToNat, Int.reducePow, pickL, List.filterMap_cons, List.filterMap_nil, and_self, Int.reduceLT, Int.reduceLE, Int.reduceNeg, Int.reduceAdd, Int.reduceMul, Int.reduceSub, Int.reduceEq, reduceIte, reduceCtorEq, lit_eq, String.reduceEq, Ev.rEq, Ev.rNe, Ev.rInD, cut_toN, cut_fromN, List.map_take, List.forall_mem_cons, List.forall_mem_nil, List.not_mem_nil, false_imp_iff, implies_true, forall_const, D.cm, D.lay, D.lays, D.dep, D.deps, strOk_lit, lays_ints, deps_ints, Nat.max_self, Nat.max_zero, Nat.zero_max, Bool.and_self, Bool.true_and, Bool.and_true, Bool.and_false, Bool.false_and, Bool.or_false, Bool.or_true, Bool.true_or, Bool.false_or, List.any_cons, List.any_nil, decide_eq_true_eq, eq_self, b__law_back_right_4, p__law_back_right_4, ← List.map_reverse, List.reverse_reverse]
  refine ⟨⟨prs_lay (okr _ ok2), Nat.le_trans (prs_dep _) (by decide)⟩, ⟨prs_lay (okr _ ok2), Nat.le_trans (prs_dep _) (by decide)⟩, ?_⟩
  refine wLC_maps (l := T) (ι := toldD) (f := fun t => optD t.rm) (fun t ht acc k hz h => ?_) (by rw [sizeLine_eq]; omega) ?_
  · simp only [Ev.D.eq_refl, dPen1, dLenSet, dSrtR, dRo, dRoF, dRoT, roD, ro_un, ro_dat, ro_own, ro_hp, ro_law, ro_ownK, ro_ownT, List.forall_mem_map, flat_int, flat_str, flat_bl, flat_non, dSeq, dNext, dSet, dSetF, setSl, dVar, dTake, dC, dBin, dBinF, dB, dIfS, dIf, dRet, dRetN, dExpr, dNil, dCons, dTup, dLst, dFz, dAnd, dOr, dNot, dAndV, dOrV, dNotV, dCallD, dCallK, dCB, dCBF, dFor, dLC, dYes, dRng1, dRng2, dSeqI, gN, gT, gsNil, gsCons, dAsg, dNeg, dJoin, dFs, dJs, dFmt, dApp, dExt, dPop, dPopAt, dOwnIx, dOwnCB, dOwnL, dOwnR, dOwnSl, dSetIx, dSlT, dSlL, oNone, oSome, dBorn, optQ, ownAt, setOwnAt, lookAt, wipeD, dNewDT, dNewDK, dDGet, dDIn, dDPut, dSortT, rSrt, isDict, Ev.dictGet, Ev.dictPut, Option.isSome_none, Option.isSome_some, D.keyT, keysOf, D.key, exists_eq_left', exists_eq_left, Option.isSome, rRepL, rCatL, dRetF, dIfF, dPar, dRetOwn, dCallL, dCallLK, dPen2, dRev, dRevI, dIndex, endsL, startL, dNever, dBrk, dCnt, rAddD, rSubI, rIO, rMulI, rDivI, rModI, rPowI, rCI, rIxD, rIsN, rNotN, D.isN, rLen, rTuple, rList, rAbs, rInt, rStr, Ev.rRepr, Ev.rIsi, D.ty, kit_tab, startD, endsD, List.map_cons, List.map_nil, List.length_cons, List.length_nil, List.append_nil, List.nil_append, List.cons_append, List.getElem?_cons_zero, List.getElem?_cons_succ, List.getElem?_nil, List.set_cons_zero, List.set_cons_succ, List.replicate, List.replicate_succ, Nat.zero_add, Nat.zero_le, sizeLine, true_and, and_true, if_true, Ev.eq_int, Ev.eq_str, Ev.eq_bl, Ev.eq_non, lst_nil, tup_nil, List.map_eq_nil_iff, txt_join, rLt, rLe, rGt, rGe, atI_ofNat, atI_last, wLC, strsOf, intsOf, blsOf, Option.map_some, Ev.join_two, Ev.join_one, Ev.join_nil, List.sum_cons, List.sum_nil, PySem.Str.empty_append, ixN_ofNat, Option.some.injEq, exists_eq', List.length_map, decide_true, decide_false, Bool.not_true, Bool.not_false, Bool.true_eq_false, Bool.false_eq_true, false_and, and_false, if_false, ite_true, ite_false, Nat.reduceAdd, Nat.reduceSub, Nat.reduceMul, Nat.reduceLT, Nat.reduceLeDiff, Nat.reduceEqDiff, Nat.reducePow, Int.reduceToNat, Int.reducePow, pickL, List.filterMap_cons, List.filterMap_nil, and_self, Int.reduceLT, Int.reduceLE, Int.reduceNeg, Int.reduceAdd, Int.reduceMul, Int.reduceSub, Int.reduceEq, reduceIte, reduceCtorEq, lit_eq, String.reduceEq, Ev.rEq, Ev.rNe, Ev.rInD, cut_toN, cut_fromN, List.map_take, List.forall_mem_cons, List.forall_mem_nil, List.not_mem_nil, false_imp_iff, implies_true, forall_const, D.cm, D.lay, D.lays, D.dep, D.deps, strOk_lit, lays_ints, deps_ints, Nat.max_self, Nat.max_zero, Nat.zero_max, Bool.and_self, Bool.true_and, Bool.and_true, Bool.and_false, Bool.false_and, Bool.or_false, Bool.or_true, Bool.true_or, Bool.false_or, List.any_cons, List.any_nil, decide_eq_true_eq, eq_self, toldD]
    exact ⟨hz, h⟩
  rw [en]
  have hnl : ns.length = T.length := by have := congrArg List.length en; simpa using this.symm
  simp only [Ev.D.eq_refl, dPen1, dLenSet, dSrtR, dRo, dRoF, dRoT, roD, ro_un, ro_dat, ro_own, ro_hp, ro_law, ro_ownK, ro_ownT, List.forall_mem_map, flat_int, flat_str, flat_bl, flat_non, dSeq, dNext, dSet, dSetF, setSl, dVar, dTake, dC, dBin, dBinF, dB, dIfS, dIf, dRet, dRetN, dExpr, dNil, dCons, dTup, dLst, dFz, dAnd, dOr, dNot, dAndV, dOrV, dNotV, dCallD, dCallK, dCB, dCBF, dFor, dLC, dYes, dRng1, dRng2, dSeqI, gN, gT, gsNil, gsCons, dAsg, dNeg, dJoin, dFs, dJs, dFmt, dApp, dExt, dPop, dPopAt, dOwnIx, dOwnCB, dOwnL, dOwnR, dOwnSl, dSetIx, dSlT, dSlL, oNone, oSome, dBorn, optQ, ownAt, setOwnAt, lookAt, wipeD, dNewDT, dNewDK, dDGet, dDIn, dDPut, dSortT, rSrt, isDict, Ev.dictGet, Ev.dictPut, Option.isSome_none, Option.isSome_some, D.keyT, keysOf, D.key, exists_eq_left', exists_eq_left, Option.isSome, rRepL, rCatL, dRetF, dIfF, dPar, dRetOwn, dCallL, dCallLK, dPen2, dRev, dRevI, dIndex, endsL, startL, dNever, dBrk, dCnt, rAddD, rSubI, rIO, rMulI, rDivI, rModI, rPowI, rCI, rIxD, rIsN, rNotN, D.isN, rLen, rTuple, rList, rAbs, rInt, rStr, Ev.rRepr, Ev.rIsi, D.ty, kit_tab, startD, endsD, List.map_cons, List.map_nil, List.length_cons, List.length_nil, List.append_nil, List.nil_append, List.cons_append, List.getElem?_cons_zero, List.getElem?_cons_succ, List.getElem?_nil, List.set_cons_zero, List.set_cons_succ, List.replicate, List.replicate_succ, Nat.zero_add, Nat.zero_le, sizeLine, true_and, and_true, if_true, Ev.eq_int, Ev.eq_str, Ev.eq_bl, Ev.eq_non, lst_nil, tup_nil, List.map_eq_nil_iff, txt_join, rLt, rLe, rGt, rGe, atI_ofNat, atI_last, wLC, strsOf, intsOf, blsOf, Option.map_some, Ev.join_two, Ev.join_one, Ev.join_nil, List.sum_cons, List.sum_nil, PySem.Str.empty_append, ixN_ofNat, Option.some.injEq, exists_eq', List.length_map, decide_true, decide_false, Bool.not_true, Bool.not_false, Bool.true_eq_false, Bool.false_eq_true, false_and, and_false, if_false, ite_true, ite_false, Nat.reduceAdd, Nat.reduceSub, Nat.reduceMul, Nat.reduceLT, Nat.reduceLeDiff, Nat.reduceEqDiff, Nat.reducePow, Int.reduceToNat, Int.reducePow, pickL, List.filterMap_cons, List.filterMap_nil, and_self, Int.reduceLT, Int.reduceLE, Int.reduceNeg, Int.reduceAdd, Int.reduceMul, Int.reduceSub, Int.reduceEq, reduceIte, reduceCtorEq, lit_eq, String.reduceEq, Ev.rEq, Ev.rNe, Ev.rInD, cut_toN, cut_fromN, List.map_take, List.forall_mem_cons, List.forall_mem_nil, List.not_mem_nil, false_imp_iff, implies_true, forall_const, D.cm, D.lay, D.lays, D.dep, D.deps, strOk_lit, lays_ints, deps_ints, Nat.max_self, Nat.max_zero, Nat.zero_max, Bool.and_self, Bool.true_and, Bool.and_true, Bool.and_false, Bool.false_and, Bool.or_false, Bool.or_true, Bool.true_or, Bool.false_or, List.any_cons, List.any_nil, decide_eq_true_eq, eq_self, intsOf_ints, hnl, sp_passed_by]
  refine ⟨nd, by omega, b, o, o2, l, l2, rfl, w, h1, h2, ?_⟩
  rw [hT]
  simp only [Ev.D.eq_refl, dPen1, dLenSet, dSrtR, dRo, dRoF, dRoT, roD, ro_un, ro_dat, ro_own, ro_hp, ro_law, ro_ownK, ro_ownT, List.forall_mem_map, flat_int, flat_str, flat_bl, flat_non, dSeq, dNext, dSet, dSetF, setSl, dVar, dTake, dC, dBin, dBinF, dB, dIfS, dIf, dRet, dRetN, dExpr, dNil, dCons, dTup, dLst, dFz, dAnd, dOr, dNot, dAndV, dOrV, dNotV, dCallD, dCallK, dCB, dCBF, dFor, dLC, dYes, dRng1, dRng2, dSeqI, gN, gT, gsNil, gsCons, dAsg, dNeg, dJoin, dFs, dJs, dFmt, dApp, dExt, dPop, dPopAt, dOwnIx, dOwnCB, dOwnL, dOwnR, dOwnSl, dSetIx, dSlT, dSlL, oNone, oSome, dBorn, optQ, ownAt, setOwnAt, lookAt, wipeD, dNewDT, dNewDK, dDGet, dDIn, dDPut, dSortT, rSrt, isDict, Ev.dictGet, Ev.dictPut, Option.isSome_none, Option.isSome_some, D.keyT, keysOf, D.key, exists_eq_left', exists_eq_left, Option.isSome, rRepL, rCatL, dRetF, dIfF, dPar, dRetOwn, dCallL, dCallLK, dPen2, dRev, dRevI, dIndex, endsL, startL, dNever, dBrk, dCnt, rAddD, rSubI, rIO, rMulI, rDivI, rModI, rPowI, rCI, rIxD, rIsN, rNotN, D.isN, rLen, rTuple, rList, rAbs, rInt, rStr, Ev.rRepr, Ev.rIsi, D.ty, kit_tab, startD, endsD, List.map_cons, List.map_nil, List.length_cons, List.length_nil, List.append_nil, List.nil_append, List.cons_append, List.getElem?_cons_zero, List.getElem?_cons_succ, List.getElem?_nil, List.set_cons_zero, List.set_cons_succ, List.replicate, List.replicate_succ, Nat.zero_add, Nat.zero_le, sizeLine, true_and, and_true, if_true, Ev.eq_int, Ev.eq_str, Ev.eq_bl, Ev.eq_non, lst_nil, tup_nil, List.map_eq_nil_iff, txt_join, rLt, rLe, rGt, rGe, atI_ofNat, atI_last, wLC, strsOf, intsOf, blsOf, Option.map_some, Ev.join_two, Ev.join_one, Ev.join_nil, List.sum_cons, List.sum_nil, PySem.Str.empty_append, ixN_ofNat, Option.some.injEq, exists_eq', List.length_map, decide_true, decide_false, Bool.not_true, Bool.not_false, Bool.true_eq_false, Bool.false_eq_true, false_and, and_false, if_false, ite_true, ite_false, Nat.reduceAdd, Nat.reduceSub, Nat.reduceMul, Nat.reduceLT, Nat.reduceLeDiff, Nat.reduceEqDiff, Nat.reducePow, Int.reduceToNat, Int.reducePow, pickL, List.filterMap_cons, List.filterMap_nil, and_self, Int.reduceLT, Int.reduceLE, Int.reduceNeg, Int.reduceAdd, Int.reduceMul, Int.reduceSub, Int.reduceEq, reduceIte, reduceCtorEq, lit_eq, String.reduceEq, Ev.rEq, Ev.rNe, Ev.rInD, cut_toN, cut_fromN, List.map_take, List.forall_mem_cons, List.forall_mem_nil, List.not_mem_nil, false_imp_iff, implies_true, forall_const, D.cm, D.lay, D.lays, D.dep, D.deps, strOk_lit, lays_ints, deps_ints, Nat.max_self, Nat.max_zero, Nat.zero_max, Bool.and_self, Bool.true_and, Bool.and_true, Bool.and_false, Bool.false_and, Bool.or_false, Bool.or_true, Bool.true_or, Bool.false_or, List.any_cons, List.any_nil, decide_eq_true_eq, eq_self, b__law_back_right_5, p__law_back_right_5, b__law_back_right_5, tolds_lay ok]
  refine ⟨Nat.le_trans (tolds_dep _) (by decide), Nat.le_trans (tolds_dep _) (by decide), ?_⟩
  refine wLC_maps (l := T) (ι := toldD) (f := fun t => .str t.ev) (fun t ht acc k hz h => ?_) (by rw [sizeLine_eq]; omega) ?_
  · simp only [Ev.D.eq_refl, dPen1, dLenSet, dSrtR, dRo, dRoF, dRoT, roD, ro_un, ro_dat, ro_own, ro_hp, ro_law, ro_ownK, ro_ownT, List.forall_mem_map, flat_int, flat_str, flat_bl, flat_non, dSeq, dNext, dSet, dSetF, setSl, dVar, dTake, dC, dBin, dBinF, dB, dIfS, dIf, dRet, dRetN, dExpr, dNil, dCons, dTup, dLst, dFz, dAnd, dOr, dNot, dAndV, dOrV, dNotV, dCallD, dCallK, dCB, dCBF, dFor, dLC, dYes, dRng1, dRng2, dSeqI, gN, gT, gsNil, gsCons, dAsg, dNeg, dJoin, dFs, dJs, dFmt, dApp, dExt, dPop, dPopAt, dOwnIx, dOwnCB, dOwnL, dOwnR, dOwnSl, dSetIx, dSlT, dSlL, oNone, oSome, dBorn, optQ, ownAt, setOwnAt, lookAt, wipeD, dNewDT, dNewDK, dDGet, dDIn, dDPut, dSortT, rSrt, isDict, Ev.dictGet, Ev.dictPut, Option.isSome_none, Option.isSome_some, D.keyT, keysOf, D.key, exists_eq_left', exists_eq_left, Option.isSome, rRepL, rCatL, dRetF, dIfF, dPar, dRetOwn, dCallL, dCallLK, dPen2, dRev, dRevI, dIndex, endsL, startL, dNever, dBrk, dCnt, rAddD, rSubI, rIO, rMulI, rDivI, rModI, rPowI, rCI, rIxD, rIsN, rNotN, D.isN, rLen, rTuple, rList, rAbs, rInt, rStr, Ev.rRepr, Ev.rIsi, D.ty, kit_tab, startD, endsD, List.map_cons, List.map_nil, List.length_cons, List.length_nil, List.append_nil, List.nil_append, List.cons_append, List.getElem?_cons_zero, List.getElem?_cons_succ, List.getElem?_nil, List.set_cons_zero, List.set_cons_succ, List.replicate, List.replicate_succ, Nat.zero_add, Nat.zero_le, sizeLine, true_and, and_true, if_true, Ev.eq_int, Ev.eq_str, Ev.eq_bl, Ev.eq_non, lst_nil, tup_nil, List.map_eq_nil_iff, txt_join, rLt, rLe, rGt, rGe, atI_ofNat, atI_last, wLC, strsOf, intsOf, blsOf, Option.map_some, Ev.join_two, Ev.join_one, Ev.join_nil, List.sum_cons, List.sum_nil, PySem.Str.empty_append, ixN_ofNat, Option.some.injEq, exists_eq', List.length_map, decide_true, decide_false, Bool.not_true, Bool.not_false, Bool.true_eq_false, Bool.false_eq_true, false_and, and_false, if_false, ite_true, ite_false, Nat.reduceAdd, Nat.reduceSub, Nat.reduceMul, Nat.reduceLT, Nat.reduceLeDiff, Nat.reduceEqDiff, Nat.reducePow, Int.reduceToNat, Int.reducePow, pickL, List.filterMap_cons, List.filterMap_nil, and_self, Int.reduceLT, Int.reduceLE, Int.reduceNeg, Int.reduceAdd, Int.reduceMul, Int.reduceSub, Int.reduceEq, reduceIte, reduceCtorEq, lit_eq, String.reduceEq, Ev.rEq, Ev.rNe, Ev.rInD, cut_toN, cut_fromN, List.map_take, List.forall_mem_cons, List.forall_mem_nil, List.not_mem_nil, false_imp_iff, implies_true, forall_const, D.cm, D.lay, D.lays, D.dep, D.deps, strOk_lit, lays_ints, deps_ints, Nat.max_self, Nat.max_zero, Nat.zero_max, Bool.and_self, Bool.true_and, Bool.and_true, Bool.and_false, Bool.false_and, Bool.or_false, Bool.or_true, Bool.true_or, Bool.false_or, List.any_cons, List.any_nil, decide_eq_true_eq, eq_self, toldD]
    exact ⟨hz, h⟩
  simp only [Ev.D.eq_refl, dPen1, dLenSet, dSrtR, dRo, dRoF, dRoT, roD, ro_un, ro_dat, ro_own, ro_hp, ro_law, ro_ownK, ro_ownT, List.forall_mem_map, flat_int, flat_str, flat_bl, flat_non, dSeq, dNext, dSet, dSetF, setSl, dVar, dTake, dC, dBin, dBinF, dB, dIfS, dIf, dRet, dRetN, dExpr, dNil, dCons, dTup, dLst, dFz, dAnd, dOr, dNot, dAndV, dOrV, dNotV, dCallD, dCallK, dCB, dCBF, dFor, dLC, dYes, dRng1, dRng2, dSeqI, gN, gT, gsNil, gsCons, dAsg, dNeg, dJoin, dFs, dJs, dFmt, dApp, dExt, dPop, dPopAt, dOwnIx, dOwnCB, dOwnL, dOwnR, dOwnSl, dSetIx, dSlT, dSlL, oNone, oSome, dBorn, optQ, ownAt, setOwnAt, lookAt, wipeD, dNewDT, dNewDK, dDGet, dDIn, dDPut, dSortT, rSrt, isDict, Ev.dictGet, Ev.dictPut, Option.isSome_none, Option.isSome_some, D.keyT, keysOf, D.key, exists_eq_left', exists_eq_left, Option.isSome, rRepL, rCatL, dRetF, dIfF, dPar, dRetOwn, dCallL, dCallLK, dPen2, dRev, dRevI, dIndex, endsL, startL, dNever, dBrk, dCnt, rAddD, rSubI, rIO, rMulI, rDivI, rModI, rPowI, rCI, rIxD, rIsN, rNotN, D.isN, rLen, rTuple, rList, rAbs, rInt, rStr, Ev.rRepr, Ev.rIsi, D.ty, kit_tab, startD, endsD, List.map_cons, List.map_nil, List.length_cons, List.length_nil, List.append_nil, List.nil_append, List.cons_append, List.getElem?_cons_zero, List.getElem?_cons_succ, List.getElem?_nil, List.set_cons_zero, List.set_cons_succ, List.replicate, List.replicate_succ, Nat.zero_add, Nat.zero_le, sizeLine, true_and, and_true, if_true, Ev.eq_int, Ev.eq_str, Ev.eq_bl, Ev.eq_non, lst_nil, tup_nil, List.map_eq_nil_iff, txt_join, rLt, rLe, rGt, rGe, atI_ofNat, atI_last, wLC, strsOf, intsOf, blsOf, Option.map_some, Ev.join_two, Ev.join_one, Ev.join_nil, List.sum_cons, List.sum_nil, PySem.Str.empty_append, ixN_ofNat, Option.some.injEq, exists_eq', List.length_map, decide_true, decide_false, Bool.not_true, Bool.not_false, Bool.true_eq_false, Bool.false_eq_true, false_and, and_false, if_false, ite_true, ite_false, Nat.reduceAdd, Nat.reduceSub, Nat.reduceMul, Nat.reduceLT, Nat.reduceLeDiff, Nat.reduceEqDiff, Nat.reducePow, Int.reduceToNat, Int.reducePow, pickL, List.filterMap_cons, List.filterMap_nil, and_self, Int.reduceLT, Int.reduceLE, Int.reduceNeg, Int.reduceAdd, Int.reduceMul, Int.reduceSub, Int.reduceEq, reduceIte, reduceCtorEq, lit_eq, String.reduceEq, Ev.rEq, Ev.rNe, Ev.rInD, cut_toN, cut_fromN, List.map_take, List.forall_mem_cons, List.forall_mem_nil, List.not_mem_nil, false_imp_iff, implies_true, forall_const, D.cm, D.lay, D.lays, D.dep, D.deps, strOk_lit, lays_ints, deps_ints, Nat.max_self, Nat.max_zero, Nat.zero_max, Bool.and_self, Bool.true_and, Bool.and_true, Bool.and_false, Bool.false_and, Bool.or_false, Bool.or_true, Bool.true_or, Bool.false_or, List.any_cons, List.any_nil, decide_eq_true_eq, eq_self]
  refine wLC_maps (l := T) (ι := toldD) (f := fun t => .str t.ev) (fun t ht acc k hz h => ?_) (by rw [sizeLine_eq]; omega) ?_
  · simp only [Ev.D.eq_refl, dPen1, dLenSet, dSrtR, dRo, dRoF, dRoT, roD, ro_un, ro_dat, ro_own, ro_hp, ro_law, ro_ownK, ro_ownT, List.forall_mem_map, flat_int, flat_str, flat_bl, flat_non, dSeq, dNext, dSet, dSetF, setSl, dVar, dTake, dC, dBin, dBinF, dB, dIfS, dIf, dRet, dRetN, dExpr, dNil, dCons, dTup, dLst, dFz, dAnd, dOr, dNot, dAndV, dOrV, dNotV, dCallD, dCallK, dCB, dCBF, dFor, dLC, dYes, dRng1, dRng2, dSeqI, gN, gT, gsNil, gsCons, dAsg, dNeg, dJoin, dFs, dJs, dFmt, dApp, dExt, dPop, dPopAt, dOwnIx, dOwnCB, dOwnL, dOwnR, dOwnSl, dSetIx, dSlT, dSlL, oNone, oSome, dBorn, optQ, ownAt, setOwnAt, lookAt, wipeD, dNewDT, dNewDK, dDGet, dDIn, dDPut, dSortT, rSrt, isDict, Ev.dictGet, Ev.dictPut, Option.isSome_none, Option.isSome_some, D.keyT, keysOf, D.key, exists_eq_left', exists_eq_left, Option.isSome, rRepL, rCatL, dRetF, dIfF, dPar, dRetOwn, dCallL, dCallLK, dPen2, dRev, dRevI, dIndex, endsL, startL, dNever, dBrk, dCnt, rAddD, rSubI, rIO, rMulI, rDivI, rModI, rPowI, rCI, rIxD, rIsN, rNotN, D.isN, rLen, rTuple, rList, rAbs, rInt, rStr, Ev.rRepr, Ev.rIsi, D.ty, kit_tab, startD, endsD, List.map_cons, List.map_nil, List.length_cons, List.length_nil, List.append_nil, List.nil_append, List.cons_append, List.getElem?_cons_zero, List.getElem?_cons_succ, List.getElem?_nil, List.set_cons_zero, List.set_cons_succ, List.replicate, List.replicate_succ, Nat.zero_add, Nat.zero_le, sizeLine, true_and, and_true, if_true, Ev.eq_int, Ev.eq_str, Ev.eq_bl, Ev.eq_non, lst_nil, tup_nil, List.map_eq_nil_iff, txt_join, rLt, rLe, rGt, rGe, atI_ofNat, atI_last, wLC, strsOf, intsOf, blsOf, Option.map_some, Ev.join_two, Ev.join_one, Ev.join_nil, List.sum_cons, List.sum_nil, PySem.Str.empty_append, ixN_ofNat, Option.some.injEq, exists_eq', List.length_map, decide_true, decide_false, Bool.not_true, Bool.not_false, Bool.true_eq_false, Bool.false_eq_true, false_and, and_false, if_false, ite_true, ite_false, Nat.reduceAdd, Nat.reduceSub, Nat.reduceMul, Nat.reduceLT, Nat.reduceLeDiff, Nat.reduceEqDiff, Nat.reducePow, Int.reduceToNat, Int.reducePow, pickL, List.filterMap_cons, List.filterMap_nil, and_self, Int.reduceLT, Int.reduceLE, Int.reduceNeg, Int.reduceAdd, Int.reduceMul, Int.reduceSub, Int.reduceEq, reduceIte, reduceCtorEq, lit_eq, String.reduceEq, Ev.rEq, Ev.rNe, Ev.rInD, cut_toN, cut_fromN, List.map_take, List.forall_mem_cons, List.forall_mem_nil, List.not_mem_nil, false_imp_iff, implies_true, forall_const, D.cm, D.lay, D.lays, D.dep, D.deps, strOk_lit, lays_ints, deps_ints, Nat.max_self, Nat.max_zero, Nat.zero_max, Bool.and_self, Bool.true_and, Bool.and_true, Bool.and_false, Bool.false_and, Bool.or_false, Bool.or_true, Bool.true_or, Bool.false_or, List.any_cons, List.any_nil, decide_eq_true_eq, eq_self, toldD]
    exact ⟨hz, h⟩
  have es : (T.map fun t => D.str t.ev) = (T.map (·.ev)).map .str := by simp [Function.comp_def]
  have so : srtOk (T.map fun t => D.str t.ev) := by
    rw [es]
    exact strs_srt (fun x hx => by obtain ⟨t, ht, rfl⟩ := List.mem_map.mp hx; exact (ok t ht).e.1) (by rw [List.length_map]; omega)
  have e2 : sortDR true (T.map fun t => D.str t.ev) = T.map fun t => D.str t.ev := by rw [em]; exact evs_sorted m n
  have ly : D.lays (T.map fun t => D.str t.ev) = true := so.1
  have dp : D.deps (T.map fun t => D.str t.ev) ≤ 63 := Nat.le_trans (deps_map fun _ _ => Nat.le_refl 0) (by decide)
  rw [e2]
  simp only [Ev.D.eq_refl, dPen1, dLenSet, dSrtR, dRo, dRoF, dRoT, roD, ro_un, ro_dat, ro_own, ro_hp, ro_law, ro_ownK, ro_ownT, List.forall_mem_map, flat_int, flat_str, flat_bl, flat_non, dSeq, dNext, dSet, dSetF, setSl, dVar, dTake, dC, dBin, dBinF, dB, dIfS, dIf, dRet, dRetN, dExpr, dNil, dCons, dTup, dLst, dFz, dAnd, dOr, dNot, dAndV, dOrV, dNotV, dCallD, dCallK, dCB, dCBF, dFor, dLC, dYes, dRng1, dRng2, dSeqI, gN, gT, gsNil, gsCons, dAsg, dNeg, dJoin, dFs, dJs, dFmt, dApp, dExt, dPop, dPopAt, dOwnIx, dOwnCB, dOwnL, dOwnR, dOwnSl, dSetIx, dSlT, dSlL, oNone, oSome, dBorn, optQ, ownAt, setOwnAt, lookAt, wipeD, dNewDT, dNewDK, dDGet, dDIn, dDPut, dSortT, rSrt, isDict, Ev.dictGet, Ev.dictPut, Option.isSome_none, Option.isSome_some, D.keyT, keysOf, D.key, exists_eq_left', exists_eq_left, Option.isSome, rRepL, rCatL, dRetF, dIfF, dPar, dRetOwn, dCallL, dCallLK, dPen2, dRev, dRevI, dIndex, endsL, startL, dNever, dBrk, dCnt, rAddD, rSubI, rIO, rMulI, rDivI, rModI, rPowI, rCI, rIxD, rIsN, rNotN, D.isN, rLen, rTuple, rList, rAbs, rInt, rStr, Ev.rRepr, Ev.rIsi, D.ty, kit_tab, startD, endsD, List.map_cons, List.map_nil, List.length_cons, List.length_nil, List.append_nil, List.nil_append, List.cons_append, List.getElem?_cons_zero, List.getElem?_cons_succ, List.getElem?_nil, List.set_cons_zero, List.set_cons_succ, List.replicate, List.replicate_succ, Nat.zero_add, Nat.zero_le, sizeLine, true_and, and_true, if_true, Ev.eq_int, Ev.eq_str, Ev.eq_bl, Ev.eq_non, lst_nil, tup_nil, List.map_eq_nil_iff, txt_join, rLt, rLe, rGt, rGe, atI_ofNat, atI_last, wLC, strsOf, intsOf, blsOf, Option.map_some, Ev.join_two, Ev.join_one, Ev.join_nil, List.sum_cons, List.sum_nil, PySem.Str.empty_append, ixN_ofNat, Option.some.injEq, exists_eq', List.length_map, decide_true, decide_false, Bool.not_true, Bool.not_false, Bool.true_eq_false, Bool.false_eq_true, false_and, and_false, if_false, ite_true, ite_false, Nat.reduceAdd, Nat.reduceSub, Nat.reduceMul, Nat.reduceLT, Nat.reduceLeDiff, Nat.reduceEqDiff, Nat.reducePow, Int.reduceToNat, Int.reducePow, pickL, List.filterMap_cons, List.filterMap_nil, and_self, Int.reduceLT, Int.reduceLE, Int.reduceNeg, Int.reduceAdd, Int.reduceMul, Int.reduceSub, Int.reduceEq, reduceIte, reduceCtorEq, lit_eq, String.reduceEq, Ev.rEq, Ev.rNe, Ev.rInD, cut_toN, cut_fromN, List.map_take, List.forall_mem_cons, List.forall_mem_nil, List.not_mem_nil, false_imp_iff, implies_true, forall_const, D.cm, D.lay, D.lays, D.dep, D.deps, strOk_lit, lays_ints, deps_ints, Nat.max_self, Nat.max_zero, Nat.zero_max, Bool.and_self, Bool.true_and, Bool.and_true, Bool.and_false, Bool.false_and, Bool.or_false, Bool.or_true, Bool.true_or, Bool.false_or, List.any_cons, List.any_nil, decide_eq_true_eq, eq_self]
  exact ⟨so, ⟨ly, dp⟩, ⟨ly, dp⟩, q⟩
theorem ok__law_back_right {P : Program} {w : World} {K : PySem.W.Frag} {mg : Str → Option Value} {base : Heap} (m_len : mg "len" = none) (m_set : mg "set" = none) (m_sorted : mg "sorted" = none) (K_passed_3 : DefL P w K mg base 6 "passed" 3 sp_passed []) (K_passed_by_4 : DefL P w K mg base 5 "passed_by" 4 sp_passed_by []) {f : Addr} {fd : FuncData} (F : Fun K "_law_back_right" "_law_back_right" s__law_back_right f fd) : FnG P w K mg base CX0 7 f fd ["_law_book_so", "_law_first", "_law_last"] (spD K 3 sp__law_back_right) :=
 fn_d0 F sc__law_back_right rfl (fun cdv A out s H E g r => run__law_back_right m_len m_set m_sorted K_passed_3 K_passed_by_4 cdv A out s H E g r) hsp__law_back_right
def sp__law_above_right : dSp := fun ds p Q _ => ∃ (b : List Row) (o o2 : Option Int) (l l2 : List Int), ds = [bookD b, optD o, optD o2] ∧ Wf b ∧ Line b o l ∧ Line b o2 l2 ∧ o ≠ o2 ∧ Q (.bl true) p
abbrev s__law_above_right : Stmt := topS 27
abbrev n__law_above_right : List Str := ["_law_book_so", "_law_first", "_law_last", "_law_there", "_law_up", "_law_down", "_law_left", "_law_entered", "_law_row", "_law_one"]
theorem sc__law_above_right : FnScope n__law_above_right ["_law_book_so", "_law_first", "_law_last"] (defScope s__law_above_right) := ⟨rfl, rfl, rfl, by decide +kernel, rfl, by decide +kernel, by decide +kernel⟩
def p__law_above_right_0 : dS := (dSet 3 (dFz (dCallL 3 [] sp_passed (dCons (dVar 0) (dCons (dVar 1) (dCons (dVar 2) dNil))))))
def p__law_above_right_1 : dS := (dSet 4 (dIf (dB (dBin (rIsN) (dVar 1) (dC .non))) (dFz (dLst dNil)) (dFz (dCallL 2 [] sp_elders (dCons (dVar 0) (dCons (dVar 1) dNil))))))
def p__law_above_right_2 : dS := (dSet 5 (dIf (dB (dBin (rIsN) (dVar 2) (dC .non))) (dFz (dLst dNil)) (dFz (dCallL 2 [] sp_elders (dCons (dVar 0) (dCons (dVar 2) dNil))))))
def p__law_above_right_3 : dS := (dSetF 6 (dLC (dSeqI (dVar 3)) (gN 8) (dAnd (dB (dBin (rEq) (dBin rIxD (dVar 8) (dC (.int 0))) (dC (.str "leave")))) (dB (dBin (rEq) (dBin rIxD (dVar 8) (dC (.int 2))) (dC (.str "passed"))))) (dBin rIxD (dVar 8) (dC (.int 1))) [8]))
def p__law_above_right_4 : dS := (dIfS (dB (dOwnL 6 (rNe) (dFz (dLC (dSeqI (dFz (dSlL (dVar 4) (oSome (dC (.int 1))) oNone))) (gN 9) (dB (dBin (rInD true) (dVar 9) (dVar 5))) (dVar 9) [9])))) (dRet (dC (.bl false))) dNext)
def p__law_above_right_5 : dS := (dSetF 7 (dLC (dSeqI (dVar 3)) (gN 8) (dAnd (dB (dBin (rEq) (dBin rIxD (dVar 8) (dC (.int 0))) (dC (.str "enter")))) (dB (dBin (rEq) (dBin rIxD (dVar 8) (dC (.int 2))) (dC (.str "passed"))))) (dBin rIxD (dVar 8) (dC (.int 1))) [8]))
def p__law_above_right_6 : dS := (dRet (dOwnL 7 (rEq) (dFz (dRev (dFz (dLC (dSeqI (dFz (dSlL (dVar 5) (oSome (dC (.int 1))) oNone))) (gN 9) (dB (dBin (rInD true) (dVar 9) (dVar 4))) (dVar 9) [9]))))))
def b__law_above_right_6 : dS := p__law_above_right_6
def b__law_above_right_5 : dS := dSeq p__law_above_right_5 b__law_above_right_6
def b__law_above_right_4 : dS := dSeq p__law_above_right_4 b__law_above_right_5
def b__law_above_right_3 : dS := dSeq p__law_above_right_3 b__law_above_right_4
def b__law_above_right_2 : dS := dSeq p__law_above_right_2 b__law_above_right_3
def b__law_above_right_1 : dS := dSeq p__law_above_right_1 b__law_above_right_2
def b__law_above_right_0 : dS := dSeq p__law_above_right_0 b__law_above_right_1
def b__law_above_right : dS := b__law_above_right_0
theorem run__law_above_right {P : Program} {w : World} {K : PySem.W.Frag} {mg : Str → Option Value} {base : Heap} (K_elders_2 : DefL P w K mg base 3 "elders" 2 sp_elders []) (K_passed_3 : DefL P w K mg base 6 "passed" 3 sp_passed []) {f : Addr} (cdv : Value) (A : Around) (out : List Env) (s : Shared) (H : Hp) (E : XK) (g : A.guards = some []) (hrA : Room 6 (A.deeper (envOfC "_law_above_right" (defScope s__law_above_right) s.heap.objs.size f cdv))) :
  DSs (cx0 P w K mg base n__law_above_right "_law_above_right" (defScope s__law_above_right) f cdv A out s H E) E00 (defBody s__law_above_right) b__law_above_right := by
 have hgA : (A.deeper (envOfC "_law_above_right" (defScope s__law_above_right) s.heap.objs.size f cdv)).guards = some [] := g
 have hun := hrA.un
 exact (dss_cons (t := p__law_above_right_0) (u := b__law_above_right_1) (ds_set (i := 3) sc__law_above_right.nd rfl (by first | exact .inl rfl | exact .inr rfl) (de_fz (df_callL K_passed_3 hgA hrA (by rfl) (da_cons (de_var (pv 0)) (da_cons (de_var (pv 1)) (da_cons (de_var (pv 2)) da_nil))))))
  (dss_cons (t := p__law_above_right_1) (u := b__law_above_right_2) (ds_set (i := 4) sc__law_above_right.nd rfl (by first | exact .inl rfl | exact .inr rfl) (de_if (dt_cmp (od_isN) (de_var (pv 1)) de_non (nomark _)) (de_fz (df_lst da_nil)) (de_fz (df_callL K_elders_2 hgA hrA (by rfl) (da_cons (de_var (pv 0)) (da_cons (de_var (pv 1)) da_nil))))))
  (dss_cons (t := p__law_above_right_2) (u := b__law_above_right_3) (ds_set (i := 5) sc__law_above_right.nd rfl (by first | exact .inl rfl | exact .inr rfl) (de_if (dt_cmp (od_isN) (de_var (pv 2)) de_non (nomark _)) (de_fz (df_lst da_nil)) (de_fz (df_callL K_elders_2 hgA hrA (by rfl) (da_cons (de_var (pv 0)) (da_cons (de_var (pv 2)) da_nil))))))
  (dss_cons (t := p__law_above_right_3) (u := b__law_above_right_4) (ds_setLc (E2 := E00) (own := [("_law_row", 8)]) (i := 6) rfl sc__law_above_right.nd rfl rfl (sw_true rfl rfl rfl (by decide +kernel)) (di_seq (de_var (pv 3))) (blkOk_by (N := n__law_above_right) (sc := (defScope s__law_above_right)) (own := [("_law_row", 8)]) (by decide +kernel)) (by decide) (fun _ _ _ _ _ => (dg_name (pg_name (i := 8) sc__law_above_right.nd rfl (by first | exact .inl rfl | exact .inr rfl)))) (fun _ _ _ _ _ => (dts_one ((dw_and (dt_cmp (od_eq (Nat.lt_of_le_of_lt (Nat.add_le_add_left (by decide) _) hun)) (de_ix (de_var (pv 8)) de_int (fun _ _ => rfl)) de_str (nomark _)) (dw_and1 (dt_cmp (od_eq (Nat.lt_of_le_of_lt (Nat.add_le_add_left (by decide) _) hun)) (de_ix (de_var (pv 8)) de_int (fun _ _ => rfl)) de_str (nomark _))))).dt)) (fun _ _ _ _ _ => (de_ix (de_var (pv 8)) de_int (fun _ _ => rfl))))
  (dss_cons (t := p__law_above_right_4) (u := b__law_above_right_5) (ds_if (dt_ownL (od_ne (Nat.lt_of_le_of_lt (Nat.add_le_add_left (by decide) _) hun)) (pv 6) (de_fz (df_lc (E2 := E00) (own := [("_law_one", 9)]) rfl sc__law_above_right.nd (di_seq (de_fz (df_slL (de_var (pv 4)) (do_some de_int) do_none))) (blkOk_by (N := n__law_above_right) (sc := (defScope s__law_above_right)) (own := [("_law_one", 9)]) (by decide +kernel)) (by decide) (fun _ _ _ _ _ => (dg_name (pg_name (i := 9) sc__law_above_right.nd rfl (by first | exact .inl rfl | exact .inr rfl)))) (fun _ _ _ _ _ => (dts_one (dt_cmp (od_notin (Nat.lt_of_le_of_lt (Nat.add_le_add_left (by decide) _) hun)) (de_var (pv 9)) (de_var (pv 5)) (by with_unfolding_all rfl)))) (fun _ _ _ _ _ => (de_var (pv 9))))) (nomark _)) (dss_one (ds_ret de_bl)) dss_nil)
  (dss_cons (t := p__law_above_right_5) (u := b__law_above_right_6) (ds_setLc (E2 := E00) (own := [("_law_row", 8)]) (i := 7) rfl sc__law_above_right.nd rfl rfl (sw_true rfl rfl rfl (by decide +kernel)) (di_seq (de_var (pv 3))) (blkOk_by (N := n__law_above_right) (sc := (defScope s__law_above_right)) (own := [("_law_row", 8)]) (by decide +kernel)) (by decide) (fun _ _ _ _ _ => (dg_name (pg_name (i := 8) sc__law_above_right.nd rfl (by first | exact .inl rfl | exact .inr rfl)))) (fun _ _ _ _ _ => (dts_one ((dw_and (dt_cmp (od_eq (Nat.lt_of_le_of_lt (Nat.add_le_add_left (by decide) _) hun)) (de_ix (de_var (pv 8)) de_int (fun _ _ => rfl)) de_str (nomark _)) (dw_and1 (dt_cmp (od_eq (Nat.lt_of_le_of_lt (Nat.add_le_add_left (by decide) _) hun)) (de_ix (de_var (pv 8)) de_int (fun _ _ => rfl)) de_str (nomark _))))).dt)) (fun _ _ _ _ _ => (de_ix (de_var (pv 8)) de_int (fun _ _ => rfl))))
  (dss_one (t := p__law_above_right_6) (ds_ret (de_ownL (od_eq (Nat.lt_of_le_of_lt (Nat.add_le_add_left (by decide) _) hun)) (pv 7) (de_fz (df_rev (de_fz (df_lc (E2 := E00) (own := [("_law_one", 9)]) rfl sc__law_above_right.nd (di_seq (de_fz (df_slL (de_var (pv 5)) (do_some de_int) do_none))) (blkOk_by (N := n__law_above_right) (sc := (defScope s__law_above_right)) (own := [("_law_one", 9)]) (by decide +kernel)) (by decide) (fun _ _ _ _ _ => (dg_name (pg_name (i := 9) sc__law_above_right.nd rfl (by first | exact .inl rfl | exact .inr rfl)))) (fun _ _ _ _ _ => (dts_one (dt_cmp (od_notin (Nat.lt_of_le_of_lt (Nat.add_le_add_left (by decide) _) hun)) (de_var (pv 9)) (de_var (pv 4)) (by with_unfolding_all rfl)))) (fun _ _ _ _ _ => (de_var (pv 9))))))) (nomark _))))))))))
theorem lc_pass {Q : List D → DS → Prop} {T : List Told} {w : Str} {s0 s1 s2 s3 s4 s5 s6 s7 s9 : Sl} {p : Pen} (ok : ∀ t ∈ T, toldOk t) (hl : T.length ≤ 24) (hw : PyData.strOk w = true) (h : Q ((T.filter fun t => decide (t.ev = w) && decide (t.way = Str.ofString "passed")).map fun t => optD t.rm) ⟨[s0, s1, s2, s3, s4, s5, s6, s7, .un, s9], p⟩) :
    wLC (gN 8) (dAnd (dB (dBin Ev.rEq (dBin rIxD (dVar 8) (dC (.int 0))) (dC (.str w)))) (dB (dBin Ev.rEq (dBin rIxD (dVar 8) (dC (.int 2))) (dC (.str (Str.ofString "passed")))))) (dBin rIxD (dVar 8) (dC (.int 1))) [8] Q (T.map toldD) [] ⟨[s0, s1, s2, s3, s4, s5, s6, s7, .un, s9], p⟩ := by
  refine wLC_filt (l := T) (ι := toldD) (f := fun t => optD t.rm) (t := fun t => decide (t.ev = w) && decide (t.way = Str.ofString "passed")) (fun t ht acc k hz g1 g2 => ?_) (by rw [sizeLine_eq]; omega) h
  by_cases c : t.ev = w
  · by_cases c2 : t.way = Str.ofString "passed"
    · simp only [Ev.D.eq_refl, dPen1, dLenSet, dSrtR, dRo, dRoF, dRoT, roD, ro_un, ro_dat, ro_own, ro_hp, ro_law, ro_ownK, ro_ownT, List.forall_mem_map, flat_int, flat_str, flat_bl, flat_non, dSeq, dNext, dSet, dSetF, setSl, dVar, dTake, dC, dBin, dBinF, dB, dIfS, dIf, dRet, dRetN, dExpr, dNil, dCons, dTup, dLst, dFz, dAnd, dOr, dNot, dAndV, dOrV, dNotV, dCallD, dCallK, dCB, dCBF, dFor, dLC, dYes, dRng1, dRng2, dSeqI, gN, gT, gsNil, gsCons, dAsg, dNeg, dJoin, dFs, dJs, dFmt, dApp, dExt, dPop, dPopAt, dOwnIx, dOwnCB, dOwnL, dOwnR, dOwnSl, dSetIx, dSlT, dSlL, oNone, oSome, dBorn, optQ, ownAt, setOwnAt, lookAt, wipeD, dNewDT, dNewDK, dDGet, dDIn, dDPut, dSortT, rSrt, isDict, Ev.dictGet, Ev.dictPut, Option.isSome_none, Option.isSome_some, D.keyT, keysOf, D.key, exists_eq_left', exists_eq_left, Option.isSome, rRepL, rCatL, dRetF, dIfF, dPar, dRetOwn, dCallL, dCallLK, dPen2, dRev, dRevI, dIndex, endsL, startL, dNever, dBrk, dCnt, rAddD, rSubI, rIO, rMulI, rDivI, rModI, rPowI, rCI, rIxD, rIsN, rNotN, D.isN, rLen, rTuple, rList, rAbs, rInt, rStr, Ev.rRepr, Ev.rIsi, D.ty, kit_tab, startD, endsD, List.map_cons, List.map_nil, List.length_cons, List.length_nil, List.append_nil, List.nil_append, List.cons_append, List.getElem?_cons_zero, List.getElem?_cons_succ, List.getElem?_nil, List.set_cons_zero, List.set_cons_succ, List.replicate, List.replicate_succ, Nat.zero_add, Nat.zero_le, sizeLine, true_and, and_true, if_true, Ev.eq_int, Ev.eq_str, Ev.eq_bl, Ev.eq_non, lst_nil, tup_nil, List.map_eq_nil_iff, txt_join, rLt, rLe, rGt, rGe, atI_ofNat, atI_last, wLC, strsOf, intsOf, blsOf, Option.map_some, Ev.join_two, Ev.join_one, Ev.join_nil, List.sum_cons, List.sum_nil, PySem.Str.empty_append, ixN_ofNat, Option.some.injEq, exists_eq', List.length_map, decide_true, decide_false, Bool.not_true, Bool.not_false, Bool.true_eq_false, Bool.false_eq_true, false_and, and_false, if_false, ite_true, ite_false, Nat.reduceAdd, Nat.reduceSub, Nat.reduceMul, Nat.reduceLT, Nat.reduceLeDiff, Nat.reduceEqDiff, Nat.reducePow, Int.reduceToNat, Int.reducePow, pickL, List.filterMap_cons, List.filterMap_nil, and_self, Int.reduceLT, Int.reduceLE, Int.reduceNeg, Int.reduceAdd, Int.reduceMul, Int.reduceSub, Int.reduceEq, reduceIte, reduceCtorEq, lit_eq, String.reduceEq, Ev.rEq, Ev.rNe, Ev.rInD, cut_toN, cut_fromN, List.map_take, List.forall_mem_cons, List.forall_mem_nil, List.not_mem_nil, false_imp_iff, implies_true, forall_const, D.cm, D.lay, D.lays, D.dep, D.deps, strOk_lit, lays_ints, deps_ints, Nat.max_self, Nat.max_zero, Nat.zero_max, Bool.and_self, Bool.true_and, Bool.and_true, Bool.and_false, Bool.false_and, Bool.or_false, Bool.or_true, Bool.true_or, Bool.false_or, List.any_cons, List.any_nil, decide_eq_true_eq, eq_self, toldD, (ok t ht).e.1, (ok t ht).w.1, c, c2, hw]
      exact ⟨hz, g1 (by simp [c, c2])⟩
    · simp only [Ev.D.eq_refl, dPen1, dLenSet, dSrtR, dRo, dRoF, dRoT, roD, ro_un, ro_dat, ro_own, ro_hp, ro_law, ro_ownK, ro_ownT, List.forall_mem_map, flat_int, flat_str, flat_bl, flat_non, dSeq, dNext, dSet, dSetF, setSl, dVar, dTake, dC, dBin, dBinF, dB, dIfS, dIf, dRet, dRetN, dExpr, dNil, dCons, dTup, dLst, dFz, dAnd, dOr, dNot, dAndV, dOrV, dNotV, dCallD, dCallK, dCB, dCBF, dFor, dLC, dYes, dRng1, dRng2, dSeqI, gN, gT, gsNil, gsCons, dAsg, dNeg, dJoin, dFs, dJs, dFmt, dApp, dExt, dPop, dPopAt, dOwnIx, dOwnCB, dOwnL, dOwnR, dOwnSl, dSetIx, dSlT, dSlL, oNone, oSome, dBorn, optQ, ownAt, setOwnAt, lookAt, wipeD, dNewDT, dNewDK, dDGet, dDIn, dDPut, dSortT, rSrt, isDict, Ev.dictGet, Ev.dictPut, Option.isSome_none, Option.isSome_some, D.keyT, keysOf, D.key, exists_eq_left', exists_eq_left, Option.isSome, rRepL, rCatL, dRetF, dIfF, dPar, dRetOwn, dCallL, dCallLK, dPen2, dRev, dRevI, dIndex, endsL, startL, dNever, dBrk, dCnt, rAddD, rSubI, rIO, rMulI, rDivI, rModI, rPowI, rCI, rIxD, rIsN, rNotN, D.isN, rLen, rTuple, rList, rAbs, rInt, rStr, Ev.rRepr, Ev.rIsi, D.ty, kit_tab, startD, endsD, List.map_cons, List.map_nil, List.length_cons, List.length_nil, List.append_nil, List.nil_append, List.cons_append, List.getElem?_cons_zero, List.getElem?_cons_succ, List.getElem?_nil, List.set_cons_zero, List.set_cons_succ, List.replicate, List.replicate_succ, Nat.zero_add, Nat.zero_le, sizeLine, true_and, and_true, if_true, Ev.eq_int, Ev.eq_str, Ev.eq_bl, Ev.eq_non, lst_nil, tup_nil, List.map_eq_nil_iff, txt_join, rLt, rLe, rGt, rGe, atI_ofNat, atI_last, wLC, strsOf, intsOf, blsOf, Option.map_some, Ev.join_two, Ev.join_one, Ev.join_nil, List.sum_cons, List.sum_nil, PySem.Str.empty_append, ixN_ofNat, Option.some.injEq, exists_eq', List.length_map, decide_true, decide_false, Bool.not_true, Bool.not_false, Bool.true_eq_false, Bool.false_eq_true, false_and, and_false, if_false, ite_true, ite_false, Nat.reduceAdd, Nat.reduceSub, Nat.reduceMul, Nat.reduceLT, Nat.reduceLeDiff, Nat.reduceEqDiff, Nat.reducePow, Int.reduceToNat, Int.reducePow, pickL, List.filterMap_cons, List.filterMap_nil, and_self, Int.reduceLT, Int.reduceLE, Int.reduceNeg, Int.reduceAdd, Int.reduceMul, Int.reduceSub, Int.reduceEq, reduceIte, reduceCtorEq, lit_eq, String.reduceEq, Ev.rEq, Ev.rNe, Ev.rInD, cut_toN, cut_fromN, List.map_take, List.forall_mem_cons, List.forall_mem_nil, List.not_mem_nil, false_imp_iff, implies_true, forall_const, D.cm, D.lay, D.lays, D.dep, D.deps, strOk_lit, lays_ints, deps_ints, Nat.max_self, Nat.max_zero, Nat.zero_max, Bool.and_self, Bool.true_and, Bool.and_true, Bool.and_false, Bool.false_and, Bool.or_false, Bool.or_true, Bool.true_or, Bool.false_or, List.any_cons, List.any_nil, decide_eq_true_eq, eq_self, toldD, (ok t ht).e.1, (ok t ht).w.1, c, eq_false c2, hw]
      exact g2 (by simp [c, c2])
  · simp only [Ev.D.eq_refl, dPen1, dLenSet, dSrtR, dRo, dRoF, dRoT, roD, ro_un, ro_dat, ro_own, ro_hp, ro_law, ro_ownK, ro_ownT, List.forall_mem_map, flat_int, flat_str, flat_bl, flat_non, dSeq, dNext, dSet, dSetF, setSl, dVar, dTake, dC, dBin, dBinF, dB, dIfS, dIf, dRet, dRetN, dExpr, dNil, dCons, dTup, dLst, dFz, dAnd, dOr, dNot, dAndV, dOrV, dNotV, dCallD, dCallK, dCB, dCBF, dFor, dLC, dYes, dRng1, dRng2, dSeqI, gN, gT, gsNil, gsCons, dAsg, dNeg, dJoin, dFs, dJs, dFmt, dApp, dExt, dPop, dPopAt, dOwnIx, dOwnCB, dOwnL, dOwnR, dOwnSl, dSetIx, dSlT, dSlL, oNone, oSome, dBorn, optQ, ownAt, setOwnAt, lookAt, wipeD, dNewDT, dNewDK, dDGet, dDIn, dDPut, dSortT, rSrt, isDict, Ev.dictGet, Ev.dictPut, Option.isSome_none, Option.isSome_some, D.keyT, keysOf, D.key, exists_eq_left', exists_eq_left, Option.isSome, rRepL, rCatL, dRetF, dIfF, dPar, dRetOwn, dCallL, dCallLK, dPen2, dRev, dRevI, dIndex, endsL, startL, dNever, dBrk, dCnt, rAddD, rSubI, rIO, rMulI, rDivI, rModI, rPowI, rCI, rIxD, rIsN, rNotN, D.isN, rLen, rTuple, rList, rAbs, rInt, rStr, Ev.rRepr, Ev.rIsi, D.ty, kit_tab, startD, endsD, List.map_cons, List.map_nil, List.length_cons, List.length_nil, List.append_nil, List.nil_append, List.cons_append, List.getElem?_cons_zero, List.getElem?_cons_succ, List.getElem?_nil, List.set_cons_zero, List.set_cons_succ, List.replicate, List.replicate_succ, Nat.zero_add, Nat.zero_le, sizeLine, true_and, and_true, if_true, Ev.eq_int, Ev.eq_str, Ev.eq_bl, Ev.eq_non, lst_nil, tup_nil, List.map_eq_nil_iff, txt_join, rLt, rLe, rGt, rGe, atI_ofNat, atI_last, wLC, strsOf, intsOf, blsOf, Option.map_some, Ev.join_two, Ev.join_one, Ev.join_nil, List.sum_cons, List.sum_nil, PySem.Str.empty_append, ixN_ofNat, Option.some.injEq, exists_eq', List.length_map, decide_true, decide_false, Bool.not_true, Bool.not_false, Bool.true_eq_false, Bool.false_eq_true, false_and, and_false, if_false, ite_true, ite_false, Nat.reduceAdd, Nat.reduceSub, Nat.reduceMul, Nat.reduceLT, Nat.reduceLeDiff, Nat.reduceEqDiff, Nat.reducePow, Int.reduceToNat, Int.reducePow, pickL, List.filterMap_cons, List.filterMap_nil, and_self, Int.reduceLT, Int.reduceLE, Int.reduceNeg, Int.reduceAdd, Int.reduceMul, Int.reduceSub, Int.reduceEq, reduceIte, reduceCtorEq, lit_eq, String.reduceEq, Ev.rEq, Ev.rNe, Ev.rInD, cut_toN, cut_fromN, List.map_take, List.forall_mem_cons, List.forall_mem_nil, List.not_mem_nil, false_imp_iff, implies_true, forall_const, D.cm, D.lay, D.lays, D.dep, D.deps, strOk_lit, lays_ints, deps_ints, Nat.max_self, Nat.max_zero, Nat.zero_max, Bool.and_self, Bool.true_and, Bool.and_true, Bool.and_false, Bool.false_and, Bool.or_false, Bool.or_true, Bool.true_or, Bool.false_or, List.any_cons, List.any_nil, decide_eq_true_eq, eq_self, toldD, (ok t ht).e.1, c, hw]
    exact g2 (by simp [c])
theorem lc_not {Q : List D → DS → Prop} {l m : List Int} {s0 s1 s2 s3 s4 s5 s6 s7 s8 : Sl} {p : Pen} {j : Nat} (hl : l.length ≤ 10) (h : Q ((l.filter fun x => decide (x ∉ m)).map .int) ⟨[s0, s1, s2, s3, s4, s5, s6, s7, s8, .un], p⟩)
    (hj : ∀ x, ([s0, s1, s2, s3, s4, s5, s6, s7, s8, .dat (.int x)] : List Sl)[j]? = some (.dat (.lst (m.map .int)))) :
    wLC (gN 9) (dB (dBin (Ev.rInD true) (dVar 9) (dVar j))) (dVar 9) [9] Q (l.map .int) [] ⟨[s0, s1, s2, s3, s4, s5, s6, s7, s8, .un], p⟩ := by
  refine wLC_filt (l := l) (ι := .int) (f := .int) (t := fun x => decide (x ∉ m)) (fun x hx acc k hz g1 g2 => ?_) (by rw [sizeLine_eq]; omega) h
  have e : ((m.map D.int).any fun z => z.eq (.int x)) = decide (x ∈ m) := ints_any x m
  by_cases c : x ∈ m
  · simp only [Ev.D.eq_refl, dPen1, dLenSet, dSrtR, dRo, dRoF, dRoT, roD, ro_un, ro_dat, ro_own, ro_hp, ro_law, ro_ownK, ro_ownT, List.forall_mem_map, flat_int, flat_str, flat_bl, flat_non, dSeq, dNext, dSet, dSetF, setSl, dVar, dTake, dC, dBin, dBinF, dB, dIfS, dIf, dRet, dRetN, dExpr, dNil, dCons, dTup, dLst, dFz, dAnd, dOr, dNot, dAndV, dOrV, dNotV, dCallD, dCallK, dCB, dCBF, dFor, dLC, dYes, dRng1, dRng2, dSeqI, gN, gT, gsNil, gsCons, dAsg, dNeg, dJoin, dFs, dJs, dFmt, dApp, dExt, dPop, dPopAt, dOwnIx, dOwnCB, dOwnL, dOwnR, dOwnSl, dSetIx, dSlT, dSlL, oNone, oSome, dBorn, optQ, ownAt, setOwnAt, lookAt, wipeD, dNewDT, dNewDK, dDGet, dDIn, dDPut, dSortT, rSrt, isDict, Ev.dictGet, Ev.dictPut, Option.isSome_none, Option.isSome_some, D.keyT, keysOf, D.key, exists_eq_left', exists_eq_left, Option.isSome, rRepL, rCatL, dRetF, dIfF, dPar, dRetOwn, dCallL, dCallLK, dPen2, dRev, dRevI, dIndex, endsL, startL, dNever, dBrk, dCnt, rAddD, rSubI, rIO, rMulI, rDivI, rModI, rPowI, rCI, rIxD, rIsN, rNotN, D.isN, rLen, rTuple, rList, rAbs, rInt, rStr, Ev.rRepr, Ev.rIsi, D.ty, kit_tab, startD, endsD, List.map_cons, List.map_nil, List.length_cons, List.length_nil, List.append_nil, List.nil_append, List.cons_append, List.getElem?_cons_zero, List.getElem?_cons_succ, List.getElem?_nil, List.set_cons_zero, List.set_cons_succ, List.replicate, List.replicate_succ, Nat.zero_add, Nat.zero_le, sizeLine, true_and, and_true, if_true, Ev.eq_int, Ev.eq_str, Ev.eq_bl, Ev.eq_non, lst_nil, tup_nil, List.map_eq_nil_iff, txt_join, rLt, rLe, rGt, rGe, atI_ofNat, atI_last, wLC, strsOf, intsOf, blsOf, Option.map_some, Ev.join_two, Ev.join_one, Ev.join_nil, List.sum_cons, List.sum_nil, PySem.Str.empty_append, ixN_ofNat, Option.some.injEq, exists_eq', List.length_map, decide_true, decide_false, Bool.not_true, Bool.not_false, Bool.true_eq_false, Bool.false_eq_true, false_and, and_false, if_false, ite_true, ite_false, Nat.reduceAdd, Nat.reduceSub, Nat.reduceMul, Nat.reduceLT, Nat.reduceLeDiff, Nat.reduceEqDiff, Nat.reducePow, Int.reduceToNat, Int.reducePow, pickL, List.filterMap_cons, List.filterMap_nil, and_self, Int.reduceLT, Int.reduceLE, Int.reduceNeg, Int.reduceAdd, Int.reduceMul, Int.reduceSub, Int.reduceEq, reduceIte, reduceCtorEq, lit_eq, String.reduceEq, Ev.rEq, Ev.rNe, Ev.rInD, cut_toN, cut_fromN, List.map_take, List.forall_mem_cons, List.forall_mem_nil, List.not_mem_nil, false_imp_iff, implies_true, forall_const, D.cm, D.lay, D.lays, D.dep, D.deps, strOk_lit, lays_ints, deps_ints, Nat.max_self, Nat.max_zero, Nat.zero_max, Bool.and_self, Bool.true_and, Bool.and_true, Bool.and_false, Bool.false_and, Bool.or_false, Bool.or_true, Bool.true_or, Bool.false_or, List.any_cons, List.any_nil, decide_eq_true_eq, eq_self, hj, e, c]
    exact g2 (by simp [c])
  · simp only [Ev.D.eq_refl, dPen1, dLenSet, dSrtR, dRo, dRoF, dRoT, roD, ro_un, ro_dat, ro_own, ro_hp, ro_law, ro_ownK, ro_ownT, List.forall_mem_map, flat_int, flat_str, flat_bl, flat_non, dSeq, dNext, dSet, dSetF, setSl, dVar, dTake, dC, dBin, dBinF, dB, dIfS, dIf, dRet, dRetN, dExpr, dNil, dCons, dTup, dLst, dFz, dAnd, dOr, dNot, dAndV, dOrV, dNotV, dCallD, dCallK, dCB, dCBF, dFor, dLC, dYes, dRng1, dRng2, dSeqI, gN, gT, gsNil, gsCons, dAsg, dNeg, dJoin, dFs, dJs, dFmt, dApp, dExt, dPop, dPopAt, dOwnIx, dOwnCB, dOwnL, dOwnR, dOwnSl, dSetIx, dSlT, dSlL, oNone, oSome, dBorn, optQ, ownAt, setOwnAt, lookAt, wipeD, dNewDT, dNewDK, dDGet, dDIn, dDPut, dSortT, rSrt, isDict, Ev.dictGet, Ev.dictPut, Option.isSome_none, Option.isSome_some, D.keyT, keysOf, D.key, exists_eq_left', exists_eq_left, Option.isSome, rRepL, rCatL, dRetF, dIfF, dPar, dRetOwn, dCallL, dCallLK, dPen2, dRev, dRevI, dIndex, endsL, startL, dNever, dBrk, dCnt, rAddD, rSubI, rIO, rMulI, rDivI, rModI, rPowI, rCI, rIxD, rIsN, rNotN, D.isN, rLen, rTuple, rList, rAbs, rInt, rStr, Ev.rRepr, Ev.rIsi, D.ty, kit_tab, startD, endsD, List.map_cons, List.map_nil, List.length_cons, List.length_nil, List.append_nil, List.nil_append, List.cons_append, List.getElem?_cons_zero, List.getElem?_cons_succ, List.getElem?_nil, List.set_cons_zero, List.set_cons_succ, List.replicate, List.replicate_succ, Nat.zero_add, Nat.zero_le, sizeLine, true_and, and_true, if_true, Ev.eq_int, Ev.eq_str, Ev.eq_bl, Ev.eq_non, lst_nil, tup_nil, List.map_eq_nil_iff, txt_join, rLt, rLe, rGt, rGe, atI_ofNat, atI_last, wLC, strsOf, intsOf, blsOf, Option.map_some, Ev.join_two, Ev.join_one, Ev.join_nil, List.sum_cons, List.sum_nil, PySem.Str.empty_append, ixN_ofNat, Option.some.injEq, exists_eq', List.length_map, decide_true, decide_false, Bool.not_true, Bool.not_false, Bool.true_eq_false, Bool.false_eq_true, false_and, and_false, if_false, ite_true, ite_false, Nat.reduceAdd, Nat.reduceSub, Nat.reduceMul, Nat.reduceLT, Nat.reduceLeDiff, Nat.reduceEqDiff, Nat.reducePow, Int.reduceToNat, Int.reducePow, pickL, List.filterMap_cons, List.filterMap_nil, and_self, Int.reduceLT, Int.reduceLE, Int.reduceNeg, Int.reduceAdd, Int.reduceMul, Int.reduceSub, Int.reduceEq, reduceIte, reduceCtorEq, lit_eq, String.reduceEq, Ev.rEq, Ev.rNe, Ev.rInD, cut_toN, cut_fromN, List.map_take, List.forall_mem_cons, List.forall_mem_nil, List.not_mem_nil, false_imp_iff, implies_true, forall_const, D.cm, D.lay, D.lays, D.dep, D.deps, strOk_lit, lays_ints, deps_ints, Nat.max_self, Nat.max_zero, Nat.zero_max, Bool.and_self, Bool.true_and, Bool.and_true, Bool.and_false, Bool.false_and, Bool.or_false, Bool.or_true, Bool.true_or, Bool.false_or, List.any_cons, List.any_nil, decide_eq_true_eq, eq_self, hj, e, c]
    exact ⟨hz, g1 (by simp [c])⟩
theorem fork_drop {l l2 p q t} (k : Fork l l2 p q t) : p.drop 1 = ((l.drop 1).filter fun x => decide (x ∉ l2)).map some := by
  obtain ⟨p', rfl⟩ := all_some k.nn
  have e : l = p' ++ t := by
    have := k.a
    unfold full at this
    rw [← List.append_assoc] at this
    have := List.append_cancel_right this
    rw [← List.map_append] at this
    exact some_map_inj this
  have hp : ∀ x ∈ p', x ∉ l2 := fun x hx h => k.pn (some x) (List.mem_map.mpr ⟨x, hx, rfl⟩) (by simp [full, h])
  have ht : ∀ x ∈ t, x ∈ l2 := fun x hx => by
    have : some x ∈ full l2 := by rw [k.b]; simp [full, hx]
    simpa [full] using this
  subst e
  cases p' with
  | nil =>
    have : ((([] : List Int) ++ t).drop 1).filter (fun x => decide (x ∉ l2)) = [] := List.filter_eq_nil_iff.mpr fun x hx => by
      rw [List.nil_append] at hx
      simpa using ht x (List.mem_of_mem_drop hx)
    rw [this]; rfl
  | cons a p' =>
    have e1 : (((a :: p') ++ t).drop 1) = p' ++ t := rfl
    rw [e1, List.filter_append, List.filter_eq_self.mpr (fun x hx => by simpa using hp x (List.mem_cons_of_mem _ hx)), List.filter_eq_nil_iff.mpr (fun x hx => by simpa using ht x hx), List.append_nil]
    rfl
theorem way_not (p q : List (Option Int)) : ¬ wayP p q = Str.ofString "passed" := by
  unfold wayP
  split
  · decide +kernel
  split
  · decide +kernel
  · decide +kernel
theorem Lv_pass (o : Option Int) (p q : List (Option Int)) : (Lv o p q).filter (fun x => decide (x.2 = Str.ofString "passed")) = (p.drop 1).map fun x => (x, Str.ofString "passed") := by
  unfold Lv
  have e : ((p.drop 1).map fun x => (x, Str.ofString "passed")).filter (fun x => decide (x.2 = Str.ofString "passed")) = (p.drop 1).map fun x => (x, Str.ofString "passed") := List.filter_eq_self.mpr fun x hx => by obtain ⟨z, _, rfl⟩ := List.mem_map.mp hx; simp
  rw [List.filter_append, e]
  split
  · simp
  · simp [way_not]
theorem pass_lv {L E : List (Option Int × Str)} : ((L.map lvT ++ E.map enT).filter fun t => decide (t.ev = Str.ofString "leave") && decide (t.way = Str.ofString "passed")) = (L.filter fun x => decide (x.2 = Str.ofString "passed")).map lvT := by
  have n : ¬ ((Str.ofString "enter") = Str.ofString "leave") := by decide +kernel
  have e : (E.map enT).filter (fun t => decide (t.ev = Str.ofString "leave") && decide (t.way = Str.ofString "passed")) = [] := List.filter_eq_nil_iff.mpr (fun t ht => by obtain ⟨x, _, rfl⟩ := List.mem_map.mp ht; simp [enT, n])
  rw [List.filter_append, e, List.append_nil, List.filter_map]
  congr 1
theorem pass_en {L E : List (Option Int × Str)} : ((L.map lvT ++ E.map enT).filter fun t => decide (t.ev = Str.ofString "enter") && decide (t.way = Str.ofString "passed")) = (E.filter fun x => decide (x.2 = Str.ofString "passed")).map enT := by
  have n : ¬ ((Str.ofString "leave") = Str.ofString "enter") := by decide +kernel
  have e : (L.map lvT).filter (fun t => decide (t.ev = Str.ofString "enter") && decide (t.way = Str.ofString "passed")) = [] := List.filter_eq_nil_iff.mpr (fun t ht => by obtain ⟨x, _, rfl⟩ := List.mem_map.mp ht; simp [lvT, n])
  rw [List.filter_append, e, List.nil_append, List.filter_map]
  congr 1
theorem above_lv {b : List Row} {o o2 : Option Int} {l l2 : List Int} (h1 : Line b o l) (h2 : Line b o2 l2) (ne : o ≠ o2) :
    (((byP b l l2 o o2).filter fun t => decide (t.ev = Str.ofString "leave") && decide (t.way = Str.ofString "passed")).map fun t => optD t.rm) = (((l.drop 1).filter fun x => decide (x ∉ l2)).map .int) := by
  obtain ⟨p, q, t, a, b', c, d⟩ := h1.up.fork h2.up
  have k : Fork l l2 p q t := ⟨a, b', c, d⟩
  rw [byP_fork h1 h2 k ne, pass_lv, Lv_pass, fork_drop k]
  simp [lvT, optD, Function.comp_def]
theorem above_en {b : List Row} {o o2 : Option Int} {l l2 : List Int} (h1 : Line b o l) (h2 : Line b o2 l2) (ne : o ≠ o2) :
    (((byP b l l2 o o2).filter fun t => decide (t.ev = Str.ofString "enter") && decide (t.way = Str.ofString "passed")).map fun t => optD t.rm) = (((l2.drop 1).filter fun x => decide (x ∉ l)).map .int).reverse := by
  obtain ⟨p, q, t, a, b', c, d⟩ := h1.up.fork h2.up
  have k : Fork l l2 p q t := ⟨a, b', c, d⟩
  rw [byP_fork h1 h2 k ne, pass_en, List.filter_reverse, Lv_pass, fork_drop k.swap]
  simp [enT, optD, Function.comp_def]
theorem hsp__law_above_right : ∀ ds p Q W, ds.length = 3 → sp__law_above_right ds p Q W → b__law_above_right W0 (endsD Q) (startD n__law_above_right.length ds p) := by
  rintro _ p Q W - ⟨b, o, o2, l, l2, rfl, w, h1, h2, ne, q⟩
  simp only [Ev.D.eq_refl, dPen1, dLenSet, dSrtR, dRo, dRoF, dRoT, roD, ro_un, ro_dat, ro_own, ro_hp, ro_law, ro_ownK, ro_ownT, List.forall_mem_map, flat_int, flat_str, flat_bl, flat_non, dSeq, dNext, dSet, dSetF, setSl, dVar, dTake, dC, dBin, dBinF, dB, dIfS, dIf, dRet, dRetN, dExpr, dNil, dCons, dTup, dLst, dFz, dAnd, dOr, dNot, dAndV, dOrV, dNotV, dCallD, dCallK, dCB, dCBF, dFor, dLC, dYes, dRng1, dRng2, dSeqI, gN, gT, gsNil, gsCons, dAsg, dNeg, dJoin, dFs, dJs, dFmt, dApp, dExt, dPop, dPopAt, dOwnIx, dOwnCB, dOwnL, dOwnR, dOwnSl, dSetIx, dSlT, dSlL, oNone, oSome, dBorn, optQ, ownAt, setOwnAt, lookAt, wipeD, dNewDT, dNewDK, dDGet, dDIn, dDPut, dSortT, rSrt, isDict, Ev.dictGet, Ev.dictPut, Option.isSome_none, Option.isSome_some, D.keyT, keysOf, D.key, exists_eq_left', exists_eq_left, Option.isSome, rRepL, rCatL, dRetF, dIfF, dPar, dRetOwn, dCallL, dCallLK, dPen2, dRev, dRevI, dIndex, endsL, startL, dNever, dBrk, dCnt, rAddD, rSubI, rIO, rMulI, rDivI, rModI, rPowI, rCI, rIxD, rIsN, rNotN, D.isN, rLen, rTuple, rList, rAbs, rInt, rStr, Ev.rRepr, Ev.rIsi, D.ty, kit_tab, startD, endsD, List.map_cons, List.map_nil, List.length_cons, List.length_nil, List.append_nil, List.nil_append, List.cons_append, List.getElem?_cons_zero, List.getElem?_cons_succ, List.getElem?_nil, List.set_cons_zero, List.set_cons_succ, List.replicate, List.replicate_succ, Nat.zero_add, Nat.zero_le, sizeLine, true_and, and_true, if_true, Ev.eq_int, Ev.eq_str, Ev.eq_bl, Ev.eq_non, lst_nil, tup_nil, List.map_eq_nil_iff, txt_join, rLt, rLe, rGt, rGe, atI_ofNat, atI_last, wLC, strsOf, intsOf, blsOf, Option.map_some, Ev.join_two, Ev.join_one, Ev.join_nil, List.sum_cons, List.sum_nil, PySem.Str.empty_append, ixN_ofNat, Option.some.injEq, exists_eq', List.length_map, decide_true, decide_false, Bool.not_true, Bool.not_false, Bool.true_eq_false, Bool.false_eq_true, false_and, and_false, if_false, ite_true, ite_false, Nat.reduceAdd, Nat.reduceSub, Nat.reduceMul, Nat.reduceLT, Nat.reduceLeDiff, Nat.reduceEqDiff, Nat.reducePow, Int.reduceToNat, Int.reducePow, pickL, List.filterMap_cons, List.filterMap_nil, and_self, Int.reduceLT, Int.reduceLE, Int.reduceNeg, Int.reduceAdd, Int.reduceMul, Int.reduceSub, Int.reduceEq, reduceIte, reduceCtorEq, lit_eq, String.reduceEq, Ev.rEq, Ev.rNe, Ev.rInD, cut_toN, cut_fromN, List.map_take, List.forall_mem_cons, List.forall_mem_nil, List.not_mem_nil, false_imp_iff, implies_true, forall_const, D.cm, D.lay, D.lays, D.dep, D.deps, strOk_lit, lays_ints, deps_ints, Nat.max_self, Nat.max_zero, Nat.zero_max, Bool.and_self, Bool.true_and, Bool.and_true, Bool.and_false, Bool.false_and, Bool.or_false, Bool.or_true, Bool.true_or, Bool.false_or, List.any_cons, List.any_nil, decide_eq_true_eq, eq_self, n__law_above_right, b__law_above_right, b__law_above_right_0, p__law_above_right_0, sp_passed]
  refine ⟨b, o, o2, l, l2, rfl, w, h1, h2, ?_⟩
  have hl := byP_len (b := b) h1 h2
  have ok := byP_ok (b := b) (o := o) (o2 := o2) (l := l) (l2 := l2)
  suffices k2 : b__law_above_right_2 W0 (endsD Q) ⟨[.dat (bookD b), .dat (optD o), .dat (optD o2), .dat (.lst ((byP b l l2 o o2).map toldD)), .dat (.lst (l.map .int)), .un, .un, .un, .un, .un], p⟩ by
    have u := h1.up
    cases o with
    | none => cases u; simp only [Ev.D.eq_refl, dPen1, dLenSet, dSrtR, dRo, dRoF, dRoT, roD, ro_un, ro_dat, ro_own, ro_hp, ro_law, ro_ownK, ro_ownT, List.forall_mem_map, flat_int, flat_str, flat_bl, flat_non, dSeq, dNext, dSet, dSetF, setSl, dVar, dTake, dC, dBin, dBinF, dB, dIfS, dIf, dRet, dRetN, dExpr, dNil, dCons, dTup, dLst, dFz, dAnd, dOr, dNot, dAndV, dOrV, dNotV, dCallD, dCallK, dCB, dCBF, dFor, dLC, dYes, dRng1, dRng2, dSeqI, gN, gT, gsNil, gsCons, dAsg, dNeg, dJoin, dFs, dJs, dFmt, dApp, dExt, dPop, dPopAt, dOwnIx, dOwnCB, dOwnL, dOwnR, dOwnSl, dSetIx, dSlT, dSlL, oNone, oSome, dBorn, optQ, ownAt, setOwnAt, lookAt, wipeD, dNewDT, dNewDK, dDGet, dDIn, dDPut, dSortT, rSrt, isDict, Ev.dictGet, Ev.dictPut, Option.isSome_none, Option.isSome_some, D.keyT, keysOf, D.key, exists_eq_left', exists_eq_left, Option.isSome, rRepL, rCatL, dRetF, dIfF, dPar, dRetOwn, dCallL, dCallLK, dPen2, dRev, dRevI, dIndex, endsL, startL, dNever, dBrk, dCnt, rAddD, rSubI, rIO, rMulI, rDivI, rModI, rPowI, rCI, rIxD, rIsN, rNotN, D.isN, rLen, rTuple, rList, rAbs, rInt, rStr, Ev.rRepr, Ev.rIsi, D.ty, kit_tab, startD, endsD, List.map_cons, List.map_nil, List.length_cons, List.length_nil, List.append_nil, List.nil_append, List.cons_append, List.getElem?_cons_zero, List.getElem?_cons_succ, List.getElem?_nil, List.set_cons_zero, List.set_cons_succ, List.replicate, List.replicate_succ, Nat.zero_add, Nat.zero_le, sizeLine, true_and, and_true, if_true, Ev.eq_int, Ev.eq_str, Ev.eq_bl, Ev.eq_non, lst_nil, tup_nil, List.map_eq_nil_iff, txt_join, rLt, rLe, rGt, rGe, atI_ofNat, atI_last, wLC, strsOf, intsOf, blsOf, Option.map_some, Ev.join_two, Ev.join_one, Ev.join_nil, List.sum_cons, List.sum_nil, PySem.Str.empty_append, ixN_ofNat, Option.some.injEq, exists_eq', List.length_map, decide_true, decide_false, Bool.not_true, Bool.not_false, Bool.true_eq_false, Bool.false_eq_true, false_and, and_false, if_false, ite_true, ite_false, Nat.reduceAdd, Nat.reduceSub, Nat.reduceMul, Nat.reduceLT, Nat.reduceLeDiff, Nat.reduceEqDiff, Nat.reducePow, Int.reduceToNat, Int.reducePow, pickL, List.filterMap_cons, List.filterMap_nil, and_self, Int.reduceLT, Int.reduceLE, Int.reduceNeg, Int.reduceAdd, Int.reduceMul, Int.reduceSub, Int.reduceEq, reduceIte, reduceCtorEq, lit_eq, String.reduceEq, Ev.rEq, Ev.rNe, Ev.rInD, cut_toN, cut_fromN, List.map_take, List.forall_mem_cons, List.forall_mem_nil, List.not_mem_nil, false_imp_iff, implies_true, forall_const, D.cm, D.lay, D.lays, D.dep, D.deps, strOk_lit, lays_ints, deps_ints, Nat.max_self, Nat.max_zero, Nat.zero_max, Bool.and_self, Bool.true_and, Bool.and_true, Bool.and_false, Bool.false_and, Bool.or_false, Bool.or_true, Bool.true_or, Bool.false_or, List.any_cons, List.any_nil, decide_eq_true_eq, eq_self, optD, b__law_above_right_1, p__law_above_right_1]; exact k2
    | some n => simp only [Ev.D.eq_refl, dPen1, dLenSet, dSrtR, dRo, dRoF, dRoT, roD, ro_un, ro_dat, ro_own, ro_hp, ro_law, ro_ownK, ro_ownT, List.forall_mem_map, flat_int, flat_str, flat_bl, flat_non, dSeq, dNext, dSet, dSetF, setSl, dVar, dTake, dC, dBin, dBinF, dB, dIfS, dIf, dRet, dRetN, dExpr, dNil, dCons, dTup, dLst, dFz, dAnd, dOr, dNot, dAndV, dOrV, dNotV, dCallD, dCallK, dCB, dCBF, dFor, dLC, dYes, dRng1, dRng2, dSeqI, gN, gT, gsNil, gsCons, dAsg, dNeg, dJoin, dFs, dJs, dFmt, dApp, dExt, dPop, dPopAt, dOwnIx, dOwnCB, dOwnL, dOwnR, dOwnSl, dSetIx, dSlT, dSlL, oNone, oSome, dBorn, optQ, ownAt, setOwnAt, lookAt, wipeD, dNewDT, dNewDK, dDGet, dDIn, dDPut, dSortT, rSrt, isDict, Ev.dictGet, Ev.dictPut, Option.isSome_none, Option.isSome_some, D.keyT, keysOf, D.key, exists_eq_left', exists_eq_left, Option.isSome, rRepL, rCatL, dRetF, dIfF, dPar, dRetOwn, dCallL, dCallLK, dPen2, dRev, dRevI, dIndex, endsL, startL, dNever, dBrk, dCnt, rAddD, rSubI, rIO, rMulI, rDivI, rModI, rPowI, rCI, rIxD, rIsN, rNotN, D.isN, rLen, rTuple, rList, rAbs, rInt, rStr, Ev.rRepr, Ev.rIsi, D.ty, kit_tab, startD, endsD, List.map_cons, List.map_nil, List.length_cons, List.length_nil, List.append_nil, List.nil_append, List.cons_append, List.getElem?_cons_zero, List.getElem?_cons_succ, List.getElem?_nil, List.set_cons_zero, List.set_cons_succ, List.replicate, List.replicate_succ, Nat.zero_add, Nat.zero_le, sizeLine, true_and, and_true, if_true, Ev.eq_int, Ev.eq_str, Ev.eq_bl, Ev.eq_non, lst_nil, tup_nil, List.map_eq_nil_iff, txt_join, rLt, rLe, rGt, rGe, atI_ofNat, atI_last, wLC, strsOf, intsOf, blsOf, Option.map_some, Ev.join_two, Ev.join_one, Ev.join_nil, List.sum_cons, List.sum_nil, PySem.Str.empty_append, ixN_ofNat, Option.some.injEq, exists_eq', List.length_map, decide_true, decide_false, Bool.not_true, Bool.not_false, Bool.true_eq_false, Bool.false_eq_true, false_and, and_false, if_false, ite_true, ite_false, Nat.reduceAdd, Nat.reduceSub, Nat.reduceMul, Nat.reduceLT, Nat.reduceLeDiff, Nat.reduceEqDiff, Nat.reducePow, Int.reduceToNat, Int.reducePow, pickL, List.filterMap_cons, List.filterMap_nil, and_self, Int.reduceLT, Int.reduceLE, Int.reduceNeg, Int.reduceAdd, Int.reduceMul, Int.reduceSub, Int.reduceEq, reduceIte, reduceCtorEq, lit_eq, String.reduceEq, Ev.rEq, Ev.rNe, Ev.rInD, cut_toN, cut_fromN, List.map_take, List.forall_mem_cons, List.forall_mem_nil, List.not_mem_nil, false_imp_iff, implies_true, forall_const, D.cm, D.lay, D.lays, D.dep, D.deps, strOk_lit, lays_ints, deps_ints, Nat.max_self, Nat.max_zero, Nat.zero_max, Bool.and_self, Bool.true_and, Bool.and_true, Bool.and_false, Bool.false_and, Bool.or_false, Bool.or_true, Bool.true_or, Bool.false_or, List.any_cons, List.any_nil, decide_eq_true_eq, eq_self, optD, b__law_above_right_1, p__law_above_right_1, sp_elders]; exact ⟨b, n, l, rfl, w, u, h1.mem, h1.len, k2⟩
  suffices k3 : b__law_above_right_3 W0 (endsD Q) ⟨[.dat (bookD b), .dat (optD o), .dat (optD o2), .dat (.lst ((byP b l l2 o o2).map toldD)), .dat (.lst (l.map .int)), .dat (.lst (l2.map .int)), .un, .un, .un, .un], p⟩ by
    have u := h2.up
    cases o2 with
    | none => cases u; simp only [Ev.D.eq_refl, dPen1, dLenSet, dSrtR, dRo, dRoF, dRoT, roD, ro_un, ro_dat, ro_own, ro_hp, ro_law, ro_ownK, ro_ownT, List.forall_mem_map, flat_int, flat_str, flat_bl, flat_non, dSeq, dNext, dSet, dSetF, setSl, dVar, dTake, dC, dBin, dBinF, dB, dIfS, dIf, dRet, dRetN, dExpr, dNil, dCons, dTup, dLst, dFz, dAnd, dOr, dNot, dAndV, dOrV, dNotV, dCallD, dCallK, dCB, dCBF, dFor, dLC, dYes, dRng1, dRng2, dSeqI, gN, gT, gsNil, gsCons, dAsg, dNeg, dJoin, dFs, dJs, dFmt, dApp, dExt, dPop, dPopAt, dOwnIx, dOwnCB, dOwnL, dOwnR, dOwnSl, dSetIx, dSlT, dSlL, oNone, oSome, dBorn, optQ, ownAt, setOwnAt, lookAt, wipeD, dNewDT, dNewDK, dDGet, dDIn, dDPut, dSortT, rSrt, isDict, Ev.dictGet, Ev.dictPut, Option.isSome_none, Option.isSome_some, D.keyT, keysOf, D.key, exists_eq_left', exists_eq_left, Option.isSome, rRepL, rCatL, dRetF, dIfF, dPar, dRetOwn, dCallL, dCallLK, dPen2, dRev, dRevI, dIndex, endsL, startL, dNever, dBrk, dCnt, rAddD, rSubI, rIO, rMulI, rDivI, rModI, rPowI, rCI, rIxD, rIsN, rNotN, D.isN, rLen, rTuple, rList, rAbs, rInt, rStr, Ev.rRepr, Ev.rIsi, D.ty, kit_tab, startD, endsD, List.map_cons, List.map_nil, List.length_cons, List.length_nil, List.append_nil, List.nil_append, List.cons_append, List.getElem?_cons_zero, List.getElem?_cons_succ, List.getElem?_nil, List.set_cons_zero, List.set_cons_succ, List.replicate, List.replicate_succ, Nat.zero_add, Nat.zero_le, sizeLine, true_and, and_true, if_true, Ev.eq_int, Ev.eq_str, Ev.eq_bl, Ev.eq_non, lst_nil, tup_nil, List.map_eq_nil_iff, txt_join, rLt, rLe, rGt, rGe, atI_ofNat, atI_last, wLC, strsOf, intsOf, blsOf, Option.map_some, Ev.join_two, Ev.join_one, Ev.join_nil, List.sum_cons, List.sum_nil, PySem.Str.empty_append, ixN_ofNat, Option.some.injEq, exists_eq', List.length_map, decide_true, decide_false, Bool.not_true, Bool.not_false, Bool.true_eq_false, Bool.false_eq_true, false_and, and_false, if_false, ite_true, ite_false, Nat.reduceAdd, Nat.reduceSub, Nat.reduceMul, Nat.reduceLT, Nat.reduceLeDiff, Nat.reduceEqDiff, Nat.reducePow, Int.reduceToNat, Int.reducePow, pickL, List.filterMap_cons, List.filterMap_nil, and_self, Int.reduceLT, Int.reduceLE, Int.reduceNeg, Int.reduceAdd, Int.reduceMul, Int.reduceSub, Int.reduceEq, reduceIte, reduceCtorEq, lit_eq, String.reduceEq, Ev.rEq, Ev.rNe, Ev.rInD, cut_toN, cut_fromN, List.map_take, List.forall_mem_cons, List.forall_mem_nil, List.not_mem_nil, false_imp_iff, implies_true, forall_const, D.cm, D.lay, D.lays, D.dep, D.deps, strOk_lit, lays_ints, deps_ints, Nat.max_self, Nat.max_zero, Nat.zero_max, Bool.and_self, Bool.true_and, Bool.and_true, Bool.and_false, Bool.false_and, Bool.or_false, Bool.or_true, Bool.true_or, Bool.false_or, List.any_cons, List.any_nil, decide_eq_true_eq, eq_self, optD, b__law_above_right_2, p__law_above_right_2]; exact k3
    | some n => simp only [Ev.D.eq_refl, dPen1, dLenSet, dSrtR, dRo, dRoF, dRoT, roD, ro_un, ro_dat, ro_own, ro_hp, ro_law, ro_ownK, ro_ownT, List.forall_mem_map, flat_int, flat_str, flat_bl, flat_non, dSeq, dNext, dSet, dSetF, setSl, dVar, dTake, dC, dBin, dBinF, dB, dIfS, dIf, dRet, dRetN, dExpr, dNil, dCons, dTup, dLst, dFz, dAnd, dOr, dNot, dAndV, dOrV, dNotV, dCallD, dCallK, dCB, dCBF, dFor, dLC, dYes, dRng1, dRng2, dSeqI, gN, gT, gsNil, gsCons, dAsg, dNeg, dJoin, dFs, dJs, dFmt, dApp, dExt, dPop, dPopAt, dOwnIx, dOwnCB, dOwnL, dOwnR, dOwnSl, dSetIx, dSlT, dSlL, oNone, oSome, dBorn, optQ, ownAt, setOwnAt, lookAt, wipeD, dNewDT, dNewDK, dDGet, dDIn, dDPut, dSortT, rSrt, isDict, Ev.dictGet, Ev.dictPut, Option.isSome_none, Option.isSome_some, D.keyT, keysOf, D.key, exists_eq_left', exists_eq_left, Option.isSome, rRepL, rCatL, dRetF, dIfF, dPar, dRetOwn, dCallL, dCallLK, dPen2, dRev, dRevI, dIndex, endsL, startL, dNever, dBrk, dCnt, rAddD, rSubI, rIO, rMulI, rDivI, rModI, rPowI, rCI, rIxD, rIsN, rNotN, D.isN, rLen, rTuple, rList, rAbs, rInt, rStr, Ev.rRepr, Ev.rIsi, D.ty, kit_tab, startD, endsD, List.map_cons, List.map_nil, List.length_cons, List.length_nil, List.append_nil, List.nil_append, List.cons_append, List.getElem?_cons_zero, List.getElem?_cons_succ, List.getElem?_nil, List.set_cons_zero, List.set_cons_succ, List.replicate, List.replicate_succ, Nat.zero_add, Nat.zero_le, sizeLine, true_and, and_true, if_true, Ev.eq_int, Ev.eq_str, Ev.eq_bl, Ev.eq_non, lst_nil, tup_nil, List.map_eq_nil_iff, txt_join, rLt, rLe, rGt, rGe, atI_ofNat, atI_last, wLC, strsOf, intsOf, blsOf, Option.map_some, Ev.join_two, Ev.join_one, Ev.join_nil, List.sum_cons, List.sum_nil, PySem.Str.empty_append, ixN_ofNat, Option.some.injEq, exists_eq', List.length_map, decide_true, decide_false, Bool.not_true, Bool.not_false, Bool.true_eq_false, Bool.false_eq_true, false_and, and_false, if_false, ite_true, ite_false, Nat.reduceAdd, Nat.reduceSub, Nat.reduceMul, Nat.reduceLT, Nat.reduceLeDiff, Nat.reduceEqDiff, Nat.reducePow, Int.reduceToNat, Int.reducePow, pickL, List.filterMap_cons, List.filterMap_nil, and_self, Int.reduceLT, Int.reduceLE, Int.reduceNeg, Int.reduceAdd, Int.reduceMul, Int.reduceSub, Int.reduceEq, reduceIte, reduceCtorEq, lit_eq, String.reduceEq, Ev.rEq, Ev.rNe, Ev.rInD, cut_toN, cut_fromN, List.map_take, List.forall_mem_cons, List.forall_mem_nil, List.not_mem_nil, false_imp_iff, implies_true, forall_const, D.cm, D.lay, D.lays, D.dep, D.deps, strOk_lit, lays_ints, deps_ints, Nat.max_self, Nat.max_zero, Nat.zero_max, Bool.and_self, Bool.true_and, Bool.and_true, Bool.and_false, Bool.false_and, Bool.or_false, Bool.or_true, Bool.true_or, Bool.false_or, List.any_cons, List.any_nil, decide_eq_true_eq, eq_self, optD, b__law_above_right_2, p__law_above_right_2, sp_elders]; exact ⟨b, n, l2, rfl, w, u, h2.mem, h2.len, k3⟩
  simp only [Ev.D.eq_refl, dPen1, dLenSet, dSrtR, dRo, dRoF, dRoT, roD, ro_un, ro_dat, ro_own, ro_hp, ro_law, ro_ownK, ro_ownT, List.forall_mem_map, flat_int, flat_str, flat_bl, flat_non, dSeq, dNext, dSet, dSetF, setSl, dVar, dTake, dC, dBin, dBinF, dB, dIfS, dIf, dRet, dRetN, dExpr, dNil, dCons, dTup, dLst, dFz, dAnd, dOr, dNot, dAndV, dOrV, dNotV, dCallD, dCallK, dCB, dCBF, dFor, dLC, dYes, dRng1, dRng2, dSeqI, gN, gT, gsNil, gsCons, dAsg, dNeg, dJoin, dFs, dJs, dFmt, dApp, dExt, dPop, dPopAt, dOwnIx, dOwnCB, dOwnL, dOwnR, dOwnSl, dSetIx, dSlT, dSlL, oNone, oSome, dBorn, optQ, ownAt, setOwnAt, lookAt, wipeD, dNewDT, dNewDK, dDGet, dDIn, dDPut, dSortT, rSrt, isDict, Ev.dictGet, Ev.dictPut, Option.isSome_none, Option.isSome_some, D.keyT, keysOf, D.key, exists_eq_left', exists_eq_left, Option.isSome, rRepL, rCatL, dRetF, dIfF, dPar, dRetOwn, dCallL, dCallLK, dPen2, dRev, dRevI, dIndex, endsL, startL, dNever, dBrk, dCnt, rAddD, rSubI, rIO, rMulI, rDivI, rModI, rPowI, rCI, rIxD, rIsN, rNotN, D.isN, rLen, rTuple, rList, rAbs, rInt, rStr, Ev.rRepr, Ev.rIsi, D.ty, kit_tab, startD, endsD, List.map_cons, List.map_nil, List.length_cons, List.length_nil, List.append_nil, List.nil_append, List.cons_append, List.getElem?_cons_zero, List.getElem?_cons_succ, List.getElem?_nil, List.set_cons_zero, List.set_cons_succ, List.replicate, List.replicate_succ, Nat.zero_add, Nat.zero_le, sizeLine, true_and, and_true, if_true, Ev.eq_int, Ev.eq_str, Ev.eq_bl, Ev.eq_non, lst_nil, tup_nil, List.map_eq_nil_iff, txt_join, rLt, rLe, rGt, rGe, atI_ofNat, atI_last, wLC, strsOf, intsOf, blsOf, Option.map_some, Ev.join_two, Ev.join_one, Ev.join_nil, List.sum_cons, List.sum_nil, PySem.Str.empty_append, ixN_ofNat, Option.some.injEq, exists_eq', List.length_map, decide_true, decide_false, Bool.not_true, Bool.not_false, Bool.true_eq_false, Bool.false_eq_true, false_and, and_false, if_false, ite_true, ite_false, Nat.reduceAdd, Nat.reduceSub, Nat.reduceMul, Nat.reduceLT, Nat.reduceLeDiff, Nat.reduceEqDiff, Nat.reducePow, Int.reduceToNat, Int.reducePow, pickL, List.filterMap_cons, List.filterMap_nil, and_self, Int.reduceLT, Int.reduceLE, Int.reduceNeg, Int.reduceAdd, Int.reduceMul, Int.reduceSub, Int.reduceEq, reduceIte, reduceCtorEq, lit_eq, String.reduceEq, Ev.rEq, Ev.rNe, Ev.rInD, cut_toN, cut_fromN, List.map_take, List.forall_mem_cons, List.forall_mem_nil, List.not_mem_nil, false_imp_iff, implies_true, forall_const, D.cm, D.lay, D.lays, D.dep, D.deps, strOk_lit, lays_ints, deps_ints, Nat.max_self, Nat.max_zero, Nat.zero_max, Bool.and_self, Bool.true_and, Bool.and_true, Bool.and_false, Bool.false_and, Bool.or_false, Bool.or_true, Bool.true_or, Bool.false_or, List.any_cons, List.any_nil, decide_eq_true_eq, eq_self, b__law_above_right_3, p__law_above_right_3]
  refine lc_pass ok hl (by decide +kernel) ?_
  rw [above_lv h1 h2 ne]
  have ll := h1.len
  have ll2 := h2.len
  simp only [Ev.D.eq_refl, dPen1, dLenSet, dSrtR, dRo, dRoF, dRoT, roD, ro_un, ro_dat, ro_own, ro_hp, ro_law, ro_ownK, ro_ownT, List.forall_mem_map, flat_int, flat_str, flat_bl, flat_non, dSeq, dNext, dSet, dSetF, setSl, dVar, dTake, dC, dBin, dBinF, dB, dIfS, dIf, dRet, dRetN, dExpr, dNil, dCons, dTup, dLst, dFz, dAnd, dOr, dNot, dAndV, dOrV, dNotV, dCallD, dCallK, dCB, dCBF, dFor, dLC, dYes, dRng1, dRng2, dSeqI, gN, gT, gsNil, gsCons, dAsg, dNeg, dJoin, dFs, dJs, dFmt, dApp, dExt, dPop, dPopAt, dOwnIx, dOwnCB, dOwnL, dOwnR, dOwnSl, dSetIx, dSlT, dSlL, oNone, oSome, dBorn, optQ, ownAt, setOwnAt, lookAt, wipeD, dNewDT, dNewDK, dDGet, dDIn, dDPut, dSortT, rSrt, isDict, Ev.dictGet, Ev.dictPut, Option.isSome_none, Option.isSome_some, D.keyT, keysOf, D.key, exists_eq_left', exists_eq_left, Option.isSome, rRepL, rCatL, dRetF, dIfF, dPar, dRetOwn, dCallL, dCallLK, dPen2, dRev, dRevI, dIndex, endsL, startL, dNever, dBrk, dCnt, rAddD, rSubI, rIO, rMulI, rDivI, rModI, rPowI, rCI, rIxD, rIsN, rNotN, D.isN, rLen, rTuple, rList, rAbs, rInt, rStr, Ev.rRepr, Ev.rIsi, D.ty, kit_tab, startD, endsD, List.map_cons, List.map_nil, List.length_cons, List.length_nil, List.append_nil, List.nil_append, List.cons_append, List.getElem?_cons_zero, List.getElem?_cons_succ, List.getElem?_nil, List.set_cons_zero, List.set_cons_succ, List.replicate, List.replicate_succ, Nat.zero_add, Nat.zero_le, sizeLine, true_and, and_true, if_true, Ev.eq_int, Ev.eq_str, Ev.eq_bl, Ev.eq_non, lst_nil, tup_nil, List.map_eq_nil_iff, txt_join, rLt, rLe, rGt, rGe, atI_ofNat, atI_last, wLC, strsOf, intsOf, blsOf, Option.map_some, Ev.join_two, Ev.join_one, Ev.join_nil, List.sum_cons, List.sum_nil, PySem.Str.empty_append, ixN_ofNat, Option.some.injEq, exists_eq', List.length_map, decide_true, decide_false, Bool.not_true, Bool.not_false, Bool.true_eq_false, Bool.false_eq_true, false_and, and_false, if_false, ite_true, ite_false, Nat.reduceAdd, Nat.reduceSub, Nat.reduceMul, Nat.reduceLT, Nat.reduceLeDiff, Nat.reduceEqDiff, Nat.reducePow, Int.reduceToNat, Int.reducePow, pickL, List.filterMap_cons, List.filterMap_nil, and_self, Int.reduceLT, Int.reduceLE, Int.reduceNeg, Int.reduceAdd, Int.reduceMul, Int.reduceSub, Int.reduceEq, reduceIte, reduceCtorEq, lit_eq, String.reduceEq, Ev.rEq, Ev.rNe, Ev.rInD, cut_toN, cut_fromN, List.map_take, List.forall_mem_cons, List.forall_mem_nil, List.not_mem_nil, false_imp_iff, implies_true, forall_const, D.cm, D.lay, D.lays, D.dep, D.deps, strOk_lit, lays_ints, deps_ints, Nat.max_self, Nat.max_zero, Nat.zero_max, Bool.and_self, Bool.true_and, Bool.and_true, Bool.and_false, Bool.false_and, Bool.or_false, Bool.or_true, Bool.true_or, Bool.false_or, List.any_cons, List.any_nil, decide_eq_true_eq, eq_self, b__law_above_right_4, p__law_above_right_4, ← List.map_drop]
  refine lc_not (m := l2) (by rw [List.length_drop]; omega) ?_ (fun x => rfl)
  simp only [Ev.D.eq_refl, dPen1, dLenSet, dSrtR, dRo, dRoF, dRoT, roD, ro_un, ro_dat, ro_own, ro_hp, ro_law, ro_ownK, ro_ownT, List.forall_mem_map, flat_int, flat_str, flat_bl, flat_non, dSeq, dNext, dSet, dSetF, setSl, dVar, dTake, dC, dBin, dBinF, dB, dIfS, dIf, dRet, dRetN, dExpr, dNil, dCons, dTup, dLst, dFz, dAnd, dOr, dNot, dAndV, dOrV, dNotV, dCallD, dCallK, dCB, dCBF, dFor, dLC, dYes, dRng1, dRng2, dSeqI, gN, gT, gsNil, gsCons, dAsg, dNeg, dJoin, dFs, dJs, dFmt, dApp, dExt, dPop, dPopAt, dOwnIx, dOwnCB, dOwnL, dOwnR, dOwnSl, dSetIx, dSlT, dSlL, oNone, oSome, dBorn, optQ, ownAt, setOwnAt, lookAt, wipeD, dNewDT, dNewDK, dDGet, dDIn, dDPut, dSortT, rSrt, isDict, Ev.dictGet, Ev.dictPut, Option.isSome_none, Option.isSome_some, D.keyT, keysOf, D.key, exists_eq_left', exists_eq_left, Option.isSome, rRepL, rCatL, dRetF, dIfF, dPar, dRetOwn, dCallL, dCallLK, dPen2, dRev, dRevI, dIndex, endsL, startL, dNever, dBrk, dCnt, rAddD, rSubI, rIO, rMulI, rDivI, rModI, rPowI, rCI, rIxD, rIsN, rNotN, D.isN, rLen, rTuple, rList, rAbs, rInt, rStr, Ev.rRepr, Ev.rIsi, D.ty, kit_tab, startD, endsD, List.map_cons, List.map_nil, List.length_cons, List.length_nil, List.append_nil, List.nil_append, List.cons_append, List.getElem?_cons_zero, List.getElem?_cons_succ, List.getElem?_nil, List.set_cons_zero, List.set_cons_succ, List.replicate, List.replicate_succ, Nat.zero_add, Nat.zero_le, sizeLine, true_and, and_true, if_true, Ev.eq_int, Ev.eq_str, Ev.eq_bl, Ev.eq_non, lst_nil, tup_nil, List.map_eq_nil_iff, txt_join, rLt, rLe, rGt, rGe, atI_ofNat, atI_last, wLC, strsOf, intsOf, blsOf, Option.map_some, Ev.join_two, Ev.join_one, Ev.join_nil, List.sum_cons, List.sum_nil, PySem.Str.empty_append, ixN_ofNat, Option.some.injEq, exists_eq', List.length_map, decide_true, decide_false, Bool.not_true, Bool.not_false, Bool.true_eq_false, Bool.false_eq_true, false_and, and_false, if_false, ite_true, ite_false, Nat.reduceAdd, Nat.reduceSub, Nat.reduceMul, Nat.reduceLT, Nat.reduceLeDiff, Nat.reduceEqDiff, Nat.reducePow, Int.reduceToNat, Int.reducePow, pickL, List.filterMap_cons, List.filterMap_nil, and_self, Int.reduceLT, Int.reduceLE, Int.reduceNeg, Int.reduceAdd, Int.reduceMul, Int.reduceSub, Int.reduceEq, reduceIte, reduceCtorEq, lit_eq, String.reduceEq, Ev.rEq, Ev.rNe, Ev.rInD, cut_toN, cut_fromN, List.map_take, List.forall_mem_cons, List.forall_mem_nil, List.not_mem_nil, false_imp_iff, implies_true, forall_const, D.cm, D.lay, D.lays, D.dep, D.deps, strOk_lit, lays_ints, deps_ints, Nat.max_self, Nat.max_zero, Nat.zero_max, Bool.and_self, Bool.true_and, Bool.and_true, Bool.and_false, Bool.false_and, Bool.or_false, Bool.or_true, Bool.true_or, Bool.false_or, List.any_cons, List.any_nil, decide_eq_true_eq, eq_self]
  simp only [Ev.D.eq_refl, dPen1, dLenSet, dSrtR, dRo, dRoF, dRoT, roD, ro_un, ro_dat, ro_own, ro_hp, ro_law, ro_ownK, ro_ownT, List.forall_mem_map, flat_int, flat_str, flat_bl, flat_non, dSeq, dNext, dSet, dSetF, setSl, dVar, dTake, dC, dBin, dBinF, dB, dIfS, dIf, dRet, dRetN, dExpr, dNil, dCons, dTup, dLst, dFz, dAnd, dOr, dNot, dAndV, dOrV, dNotV, dCallD, dCallK, dCB, dCBF, dFor, dLC, dYes, dRng1, dRng2, dSeqI, gN, gT, gsNil, gsCons, dAsg, dNeg, dJoin, dFs, dJs, dFmt, dApp, dExt, dPop, dPopAt, dOwnIx, dOwnCB, dOwnL, dOwnR, dOwnSl, dSetIx, dSlT, dSlL, oNone, oSome, dBorn, optQ, ownAt, setOwnAt, lookAt, wipeD, dNewDT, dNewDK, dDGet, dDIn, dDPut, dSortT, rSrt, isDict, Ev.dictGet, Ev.dictPut, Option.isSome_none, Option.isSome_some, D.keyT, keysOf, D.key, exists_eq_left', exists_eq_left, Option.isSome, rRepL, rCatL, dRetF, dIfF, dPar, dRetOwn, dCallL, dCallLK, dPen2, dRev, dRevI, dIndex, endsL, startL, dNever, dBrk, dCnt, rAddD, rSubI, rIO, rMulI, rDivI, rModI, rPowI, rCI, rIxD, rIsN, rNotN, D.isN, rLen, rTuple, rList, rAbs, rInt, rStr, Ev.rRepr, Ev.rIsi, D.ty, kit_tab, startD, endsD, List.map_cons, List.map_nil, List.length_cons, List.length_nil, List.append_nil, List.nil_append, List.cons_append, List.getElem?_cons_zero, List.getElem?_cons_succ, List.getElem?_nil, List.set_cons_zero, List.set_cons_succ, List.replicate, List.replicate_succ, Nat.zero_add, Nat.zero_le, sizeLine, true_and, and_true, if_true, Ev.eq_int, Ev.eq_str, Ev.eq_bl, Ev.eq_non, lst_nil, tup_nil, List.map_eq_nil_iff, txt_join, rLt, rLe, rGt, rGe, atI_ofNat, atI_last, wLC, strsOf, intsOf, blsOf, Option.map_some, Ev.join_two, Ev.join_one, Ev.join_nil, List.sum_cons, List.sum_nil, PySem.Str.empty_append, ixN_ofNat, Option.some.injEq, exists_eq', List.length_map, decide_true, decide_false, Bool.not_true, Bool.not_false, Bool.true_eq_false, Bool.false_eq_true, false_and, and_false, if_false, ite_true, ite_false, Nat.reduceAdd, Nat.reduceSub, Nat.reduceMul, Nat.reduceLT, Nat.reduceLeDiff, Nat.reduceEqDiff, Nat.reducePow, Int.reduceToNat, Int.reducePow, pickL, List.filterMap_cons, List.filterMap_nil, and_self, Int.reduceLT, Int.reduceLE, Int.reduceNeg, Int.reduceAdd, Int.reduceMul, Int.reduceSub, Int.reduceEq, reduceIte, reduceCtorEq, lit_eq, String.reduceEq, Ev.rEq, Ev.rNe, Ev.rInD, cut_toN, cut_fromN, List.map_take, List.forall_mem_cons, List.forall_mem_nil, List.not_mem_nil, false_imp_iff, implies_true, forall_const, D.cm, D.lay, D.lays, D.dep, D.deps, strOk_lit, lays_ints, deps_ints, Nat.max_self, Nat.max_zero, Nat.zero_max, Bool.and_self, Bool.true_and, Bool.and_true, Bool.and_false, Bool.false_and, Bool.or_false, Bool.or_true, Bool.true_or, Bool.false_or, List.any_cons, List.any_nil, decide_eq_true_eq, eq_self, b__law_above_right_5, p__law_above_right_5]
  refine lc_pass ok hl (by decide +kernel) ?_
  rw [above_en h1 h2 ne]
  simp only [Ev.D.eq_refl, dPen1, dLenSet, dSrtR, dRo, dRoF, dRoT, roD, ro_un, ro_dat, ro_own, ro_hp, ro_law, ro_ownK, ro_ownT, List.forall_mem_map, flat_int, flat_str, flat_bl, flat_non, dSeq, dNext, dSet, dSetF, setSl, dVar, dTake, dC, dBin, dBinF, dB, dIfS, dIf, dRet, dRetN, dExpr, dNil, dCons, dTup, dLst, dFz, dAnd, dOr, dNot, dAndV, dOrV, dNotV, dCallD, dCallK, dCB, dCBF, dFor, dLC, dYes, dRng1, dRng2, dSeqI, gN, gT, gsNil, gsCons, dAsg, dNeg, dJoin, dFs, dJs, dFmt, dApp, dExt, dPop, dPopAt, dOwnIx, dOwnCB, dOwnL, dOwnR, dOwnSl, dSetIx, dSlT, dSlL, oNone, oSome, dBorn, optQ, ownAt, setOwnAt, lookAt, wipeD, dNewDT, dNewDK, dDGet, dDIn, dDPut, dSortT, rSrt, isDict, Ev.dictGet, Ev.dictPut, Option.isSome_none, Option.isSome_some, D.keyT, keysOf, D.key, exists_eq_left', exists_eq_left, Option.isSome, rRepL, rCatL, dRetF, dIfF, dPar, dRetOwn, dCallL, dCallLK, dPen2, dRev, dRevI, dIndex, endsL, startL, dNever, dBrk, dCnt, rAddD, rSubI, rIO, rMulI, rDivI, rModI, rPowI, rCI, rIxD, rIsN, rNotN, D.isN, rLen, rTuple, rList, rAbs, rInt, rStr, Ev.rRepr, Ev.rIsi, D.ty, kit_tab, startD, endsD, List.map_cons, List.map_nil, List.length_cons, List.length_nil, List.append_nil, List.nil_append, List.cons_append, List.getElem?_cons_zero, List.getElem?_cons_succ, List.getElem?_nil, List.set_cons_zero, List.set_cons_succ, List.replicate, List.replicate_succ, Nat.zero_add, Nat.zero_le, sizeLine, true_and, and_true, if_true, Ev.eq_int, Ev.eq_str, Ev.eq_bl, Ev.eq_non, lst_nil, tup_nil, List.map_eq_nil_iff, txt_join, rLt, rLe, rGt, rGe, atI_ofNat, atI_last, wLC, strsOf, intsOf, blsOf, Option.map_some, Ev.join_two, Ev.join_one, Ev.join_nil, List.sum_cons, List.sum_nil, PySem.Str.empty_append, ixN_ofNat, Option.some.injEq, exists_eq', List.length_map, decide_true, decide_false, Bool.not_true, Bool.not_false, Bool.true_eq_false, Bool.false_eq_true, false_and, and_false, if_false, ite_true, ite_false, Nat.reduceAdd, Nat.reduceSub, Nat.reduceMul, Nat.reduceLT, Nat.reduceLeDiff, Nat.reduceEqDiff, Nat.reducePow, Int.reduceToNat, Int.reducePow, pickL, List.filterMap_cons, List.filterMap_nil, and_self, Int.reduceLT, Int.reduceLE, Int.reduceNeg, Int.reduceAdd, Int.reduceMul, Int.reduceSub, Int.reduceEq, reduceIte, reduceCtorEq, lit_eq, String.reduceEq, Ev.rEq, Ev.rNe, Ev.rInD, cut_toN, cut_fromN, List.map_take, List.forall_mem_cons, List.forall_mem_nil, List.not_mem_nil, false_imp_iff, implies_true, forall_const, D.cm, D.lay, D.lays, D.dep, D.deps, strOk_lit, lays_ints, deps_ints, Nat.max_self, Nat.max_zero, Nat.zero_max, Bool.and_self, Bool.true_and, Bool.and_true, Bool.and_false, Bool.false_and, Bool.or_false, Bool.or_true, Bool.true_or, Bool.false_or, List.any_cons, List.any_nil, decide_eq_true_eq, eq_self, b__law_above_right_6, p__law_above_right_6, b__law_above_right_6, ← List.map_drop]
  refine lc_not (m := l) (by rw [List.length_drop]; omega) ?_ (fun x => rfl)
  simp only [Ev.D.eq_refl, dPen1, dLenSet, dSrtR, dRo, dRoF, dRoT, roD, ro_un, ro_dat, ro_own, ro_hp, ro_law, ro_ownK, ro_ownT, List.forall_mem_map, flat_int, flat_str, flat_bl, flat_non, dSeq, dNext, dSet, dSetF, setSl, dVar, dTake, dC, dBin, dBinF, dB, dIfS, dIf, dRet, dRetN, dExpr, dNil, dCons, dTup, dLst, dFz, dAnd, dOr, dNot, dAndV, dOrV, dNotV, dCallD, dCallK, dCB, dCBF, dFor, dLC, dYes, dRng1, dRng2, dSeqI, gN, gT, gsNil, gsCons, dAsg, dNeg, dJoin, dFs, dJs, dFmt, dApp, dExt, dPop, dPopAt, dOwnIx, dOwnCB, dOwnL, dOwnR, dOwnSl, dSetIx, dSlT, dSlL, oNone, oSome, dBorn, optQ, ownAt, setOwnAt, lookAt, wipeD, dNewDT, dNewDK, dDGet, dDIn, dDPut, dSortT, rSrt, isDict, Ev.dictGet, Ev.dictPut, Option.isSome_none, Option.isSome_some, D.keyT, keysOf, D.key, exists_eq_left', exists_eq_left, Option.isSome, rRepL, rCatL, dRetF, dIfF, dPar, dRetOwn, dCallL, dCallLK, dPen2, dRev, dRevI, dIndex, endsL, startL, dNever, dBrk, dCnt, rAddD, rSubI, rIO, rMulI, rDivI, rModI, rPowI, rCI, rIxD, rIsN, rNotN, D.isN, rLen, rTuple, rList, rAbs, rInt, rStr, Ev.rRepr, Ev.rIsi, D.ty, kit_tab, startD, endsD, List.map_cons, List.map_nil, List.length_cons, List.length_nil, List.append_nil, List.nil_append, List.cons_append, List.getElem?_cons_zero, List.getElem?_cons_succ, List.getElem?_nil, List.set_cons_zero, List.set_cons_succ, List.replicate, List.replicate_succ, Nat.zero_add, Nat.zero_le, sizeLine, true_and, and_true, if_true, Ev.eq_int, Ev.eq_str, Ev.eq_bl, Ev.eq_non, lst_nil, tup_nil, List.map_eq_nil_iff, txt_join, rLt, rLe, rGt, rGe, atI_ofNat, atI_last, wLC, strsOf, intsOf, blsOf, Option.map_some, Ev.join_two, Ev.join_one, Ev.join_nil, List.sum_cons, List.sum_nil, PySem.Str.empty_append, ixN_ofNat, Option.some.injEq, exists_eq', List.length_map, decide_true, decide_false, Bool.not_true, Bool.not_false, Bool.true_eq_false, Bool.false_eq_true, false_and, and_false, if_false, ite_true, ite_false, Nat.reduceAdd, Nat.reduceSub, Nat.reduceMul, Nat.reduceLT, Nat.reduceLeDiff, Nat.reduceEqDiff, Nat.reducePow, Int.reduceToNat, Int.reducePow, pickL, List.filterMap_cons, List.filterMap_nil, and_self, Int.reduceLT, Int.reduceLE, Int.reduceNeg, Int.reduceAdd, Int.reduceMul, Int.reduceSub, Int.reduceEq, reduceIte, reduceCtorEq, lit_eq, String.reduceEq, Ev.rEq, Ev.rNe, Ev.rInD, cut_toN, cut_fromN, List.map_take, List.forall_mem_cons, List.forall_mem_nil, List.not_mem_nil, false_imp_iff, implies_true, forall_const, D.cm, D.lay, D.lays, D.dep, D.deps, strOk_lit, lays_ints, deps_ints, Nat.max_self, Nat.max_zero, Nat.zero_max, Bool.and_self, Bool.true_and, Bool.and_true, Bool.and_false, Bool.false_and, Bool.or_false, Bool.or_true, Bool.true_or, Bool.false_or, List.any_cons, List.any_nil, decide_eq_true_eq, eq_self, ← List.map_reverse]
  exact q
theorem ok__law_above_right {P : Program} {w : World} {K : PySem.W.Frag} {mg : Str → Option Value} {base : Heap} (K_elders_2 : DefL P w K mg base 3 "elders" 2 sp_elders []) (K_passed_3 : DefL P w K mg base 6 "passed" 3 sp_passed []) {f : Addr} {fd : FuncData} (F : Fun K "_law_above_right" "_law_above_right" s__law_above_right f fd) : FnG P w K mg base CX0 7 f fd ["_law_book_so", "_law_first", "_law_last"] (spD K 3 sp__law_above_right) :=
 fn_d0 F sc__law_above_right rfl (fun cdv A out s H E g r => run__law_above_right K_elders_2 K_passed_3 cdv A out s H E g r) hsp__law_above_right
def sp_least_above : dSp := fun ds p Q _ => ∃ (b : List Row) (n m : Int) (l l2 : List Int) (x : Int), ds = [bookD b, .int n, .int m] ∧ Wf b ∧ Line b (some n) l ∧ Line b (some m) l2 ∧ (l.filter fun x => decide (x ∈ l2)).head? = some x ∧ Q (.int x) p
abbrev s_least_above : Stmt := topS 8
abbrev n_least_above : List Str := ["book", "room", "room2", "first", "second", "one"]
theorem sc_least_above : FnScope n_least_above ["book", "room", "room2"] (defScope s_least_above) := ⟨rfl, rfl, rfl, by decide +kernel, rfl, by decide +kernel, by decide +kernel⟩
def p_least_above_0 : dS := (dSet 3 (dFz (dCallL 2 [] sp_elders (dCons (dVar 0) (dCons (dVar 1) dNil)))))
def p_least_above_1 : dS := (dSet 4 (dFz (dCallL 2 [] sp_elders (dCons (dVar 0) (dCons (dVar 2) dNil)))))
def p_least_above_2 : dS := (dRet (dBin rIxD (dFz (dLC (dSeqI (dVar 3)) (gN 5) (dB (dBin (rInD false) (dVar 5) (dVar 4))) (dVar 5) [5])) (dC (.int 0))))
def b_least_above_2 : dS := p_least_above_2
def b_least_above_1 : dS := dSeq p_least_above_1 b_least_above_2
def b_least_above_0 : dS := dSeq p_least_above_0 b_least_above_1
def b_least_above : dS := b_least_above_0
theorem run_least_above {P : Program} {w : World} {K : PySem.W.Frag} {mg : Str → Option Value} {base : Heap} (K_elders_2 : DefL P w K mg base 3 "elders" 2 sp_elders []) {f : Addr} (cdv : Value) (A : Around) (out : List Env) (s : Shared) (H : Hp) (E : XK) (g : A.guards = some []) (hrA : Room 3 (A.deeper (envOfC "least_above" (defScope s_least_above) s.heap.objs.size f cdv))) :
  DSs (cx0 P w K mg base n_least_above "least_above" (defScope s_least_above) f cdv A out s H E) E00 (defBody s_least_above) b_least_above := by
 have hgA : (A.deeper (envOfC "least_above" (defScope s_least_above) s.heap.objs.size f cdv)).guards = some [] := g
 have hun := hrA.un
 exact (dss_cons (t := p_least_above_0) (u := b_least_above_1) (ds_set (i := 3) sc_least_above.nd rfl (by first | exact .inl rfl | exact .inr rfl) (de_fz (df_callL K_elders_2 hgA hrA (by rfl) (da_cons (de_var (pv 0)) (da_cons (de_var (pv 1)) da_nil)))))
  (dss_cons (t := p_least_above_1) (u := b_least_above_2) (ds_set (i := 4) sc_least_above.nd rfl (by first | exact .inl rfl | exact .inr rfl) (de_fz (df_callL K_elders_2 hgA hrA (by rfl) (da_cons (de_var (pv 0)) (da_cons (de_var (pv 2)) da_nil)))))
  (dss_one (t := p_least_above_2) (ds_ret (de_ix (de_fz (df_lc (E2 := E00) (own := [("one", 5)]) rfl sc_least_above.nd (di_seq (de_var (pv 3))) (blkOk_by (N := n_least_above) (sc := (defScope s_least_above)) (own := [("one", 5)]) (by decide +kernel)) (by decide) (fun _ _ _ _ _ => (dg_name (pg_name (i := 5) sc_least_above.nd rfl (by first | exact .inl rfl | exact .inr rfl)))) (fun _ _ _ _ _ => (dts_one (dt_cmp (od_in (Nat.lt_of_le_of_lt (Nat.add_le_add_left (by decide) _) hun)) (de_var (pv 5)) (de_var (pv 4)) (by with_unfolding_all rfl)))) (fun _ _ _ _ _ => (de_var (pv 5))))) de_int (fun _ _ => rfl))))))
theorem hsp_least_above : ∀ ds p Q W, ds.length = 3 → sp_least_above ds p Q W → b_least_above W0 (endsD Q) (startD n_least_above.length ds p) := by
  rintro _ p Q W - ⟨b, n, m, l, l2, x, rfl, w, h1, h2, hx, q⟩
  simp only [Ev.D.eq_refl, dPen1, dLenSet, dSrtR, dRo, dRoF, dRoT, roD, ro_un, ro_dat, ro_own, ro_hp, ro_law, ro_ownK, ro_ownT, List.forall_mem_map, flat_int, flat_str, flat_bl, flat_non, dSeq, dNext, dSet, dSetF, setSl, dVar, dTake, dC, dBin, dBinF, dB, dIfS, dIf, dRet, dRetN, dExpr, dNil, dCons, dTup, dLst, dFz, dAnd, dOr, dNot, dAndV, dOrV, dNotV, dCallD, dCallK, dCB, dCBF, dFor, dLC, dYes, dRng1, dRng2, dSeqI, gN, gT, gsNil, gsCons, dAsg, dNeg, dJoin, dFs, dJs, dFmt, dApp, dExt, dPop, dPopAt, dOwnIx, dOwnCB, dOwnL, dOwnR, dOwnSl, dSetIx, dSlT, dSlL, oNone, oSome, dBorn, optQ, ownAt, setOwnAt, lookAt, wipeD, dNewDT, dNewDK, dDGet, dDIn, dDPut, dSortT, rSrt, isDict, Ev.dictGet, Ev.dictPut, Option.isSome_none, Option.isSome_some, D.keyT, keysOf, D.key, exists_eq_left', exists_eq_left, Option.isSome, rRepL, rCatL, dRetF, dIfF, dPar, dRetOwn, dCallL, dCallLK, dPen2, dRev, dRevI, dIndex, endsL, startL, dNever, dBrk, dCnt, rAddD, rSubI, rIO, rMulI, rDivI, rModI, rPowI, rCI, rIxD, rIsN, rNotN, D.isN, rLen, rTuple, rList, rAbs, rInt, rStr, Ev.rRepr, Ev.rIsi, D.ty, kit_tab, startD, endsD, List.map_cons, List.map_nil, List.length_cons, List.length_nil, List.append_nil, List.nil_append, List.cons_append, List.getElem?_cons_zero, List.getElem?_cons_succ, List.getElem?_nil, List.set_cons_zero, List.set_cons_succ, List.replicate, List.replicate_succ, Nat.zero_add, Nat.zero_le, sizeLine, true_and, and_true, if_true, Ev.eq_int, Ev.eq_str, Ev.eq_bl, Ev.eq_non, lst_nil, tup_nil, List.map_eq_nil_iff, txt_join, rLt, rLe, rGt, rGe, atI_ofNat, atI_last, wLC, strsOf, intsOf, blsOf, Option.map_some, Ev.join_two, Ev.join_one, Ev.join_nil, List.sum_cons, List.sum_nil, PySem.Str.empty_append, ixN_ofNat, Option.some.injEq, exists_eq', List.length_map, decide_true, decide_false, Bool.not_true, Bool.not_false, Bool.true_eq_false, Bool.false_eq_true, false_and, and_false, if_false, ite_true, ite_false, Nat.reduceAdd, Nat.reduceSub, Nat.reduceMul, Nat.reduceLT, Nat.reduceLeDiff, Nat.reduceEqDiff, Nat.reducePow, Int.reduceToNat, Int.reducePow, pickL, List.filterMap_cons, List.filterMap_nil, and_self, Int.reduceLT, Int.reduceLE, Int.reduceNeg, Int.reduceAdd, Int.reduceMul, Int.reduceSub, Int.reduceEq, reduceIte, reduceCtorEq, lit_eq, String.reduceEq, Ev.rEq, Ev.rNe, Ev.rInD, cut_toN, cut_fromN, List.map_take, List.forall_mem_cons, List.forall_mem_nil, List.not_mem_nil, false_imp_iff, implies_true, forall_const, D.cm, D.lay, D.lays, D.dep, D.deps, strOk_lit, lays_ints, deps_ints, Nat.max_self, Nat.max_zero, Nat.zero_max, Bool.and_self, Bool.true_and, Bool.and_true, Bool.and_false, Bool.false_and, Bool.or_false, Bool.or_true, Bool.true_or, Bool.false_or, List.any_cons, List.any_nil, decide_eq_true_eq, eq_self, n_least_above, b_least_above, b_least_above_0, p_least_above_0, b_least_above_1, p_least_above_1, sp_elders]
  refine ⟨b, n, l, rfl, w, h1.up, h1.mem, h1.len, b, m, l2, rfl, w, h2.up, h2.mem, h2.len, ?_⟩
  have hl := h1.len
  simp only [Ev.D.eq_refl, dPen1, dLenSet, dSrtR, dRo, dRoF, dRoT, roD, ro_un, ro_dat, ro_own, ro_hp, ro_law, ro_ownK, ro_ownT, List.forall_mem_map, flat_int, flat_str, flat_bl, flat_non, dSeq, dNext, dSet, dSetF, setSl, dVar, dTake, dC, dBin, dBinF, dB, dIfS, dIf, dRet, dRetN, dExpr, dNil, dCons, dTup, dLst, dFz, dAnd, dOr, dNot, dAndV, dOrV, dNotV, dCallD, dCallK, dCB, dCBF, dFor, dLC, dYes, dRng1, dRng2, dSeqI, gN, gT, gsNil, gsCons, dAsg, dNeg, dJoin, dFs, dJs, dFmt, dApp, dExt, dPop, dPopAt, dOwnIx, dOwnCB, dOwnL, dOwnR, dOwnSl, dSetIx, dSlT, dSlL, oNone, oSome, dBorn, optQ, ownAt, setOwnAt, lookAt, wipeD, dNewDT, dNewDK, dDGet, dDIn, dDPut, dSortT, rSrt, isDict, Ev.dictGet, Ev.dictPut, Option.isSome_none, Option.isSome_some, D.keyT, keysOf, D.key, exists_eq_left', exists_eq_left, Option.isSome, rRepL, rCatL, dRetF, dIfF, dPar, dRetOwn, dCallL, dCallLK, dPen2, dRev, dRevI, dIndex, endsL, startL, dNever, dBrk, dCnt, rAddD, rSubI, rIO, rMulI, rDivI, rModI, rPowI, rCI, rIxD, rIsN, rNotN, D.isN, rLen, rTuple, rList, rAbs, rInt, rStr, Ev.rRepr, Ev.rIsi, D.ty, kit_tab, startD, endsD, List.map_cons, List.map_nil, List.length_cons, List.length_nil, List.append_nil, List.nil_append, List.cons_append, List.getElem?_cons_zero, List.getElem?_cons_succ, List.getElem?_nil, List.set_cons_zero, List.set_cons_succ, List.replicate, List.replicate_succ, Nat.zero_add, Nat.zero_le, sizeLine, true_and, and_true, if_true, Ev.eq_int, Ev.eq_str, Ev.eq_bl, Ev.eq_non, lst_nil, tup_nil, List.map_eq_nil_iff, txt_join, rLt, rLe, rGt, rGe, atI_ofNat, atI_last, wLC, strsOf, intsOf, blsOf, Option.map_some, Ev.join_two, Ev.join_one, Ev.join_nil, List.sum_cons, List.sum_nil, PySem.Str.empty_append, ixN_ofNat, Option.some.injEq, exists_eq', List.length_map, decide_true, decide_false, Bool.not_true, Bool.not_false, Bool.true_eq_false, Bool.false_eq_true, false_and, and_false, if_false, ite_true, ite_false, Nat.reduceAdd, Nat.reduceSub, Nat.reduceMul, Nat.reduceLT, Nat.reduceLeDiff, Nat.reduceEqDiff, Nat.reducePow, Int.reduceToNat, Int.reducePow, pickL, List.filterMap_cons, List.filterMap_nil, and_self, Int.reduceLT, Int.reduceLE, Int.reduceNeg, Int.reduceAdd, Int.reduceMul, Int.reduceSub, Int.reduceEq, reduceIte, reduceCtorEq, lit_eq, String.reduceEq, Ev.rEq, Ev.rNe, Ev.rInD, cut_toN, cut_fromN, List.map_take, List.forall_mem_cons, List.forall_mem_nil, List.not_mem_nil, false_imp_iff, implies_true, forall_const, D.cm, D.lay, D.lays, D.dep, D.deps, strOk_lit, lays_ints, deps_ints, Nat.max_self, Nat.max_zero, Nat.zero_max, Bool.and_self, Bool.true_and, Bool.and_true, Bool.and_false, Bool.false_and, Bool.or_false, Bool.or_true, Bool.true_or, Bool.false_or, List.any_cons, List.any_nil, decide_eq_true_eq, eq_self, b_least_above_2, p_least_above_2, b_least_above_2]
  refine wLC_filt (l := l) (ι := .int) (f := .int) (t := fun x => decide (x ∈ l2)) (fun x hx acc k hz g1 g2 => ?_) (by rw [sizeLine_eq]; omega) ?_
  · by_cases c : x ∈ l2
    · simp only [Ev.D.eq_refl, dPen1, dLenSet, dSrtR, dRo, dRoF, dRoT, roD, ro_un, ro_dat, ro_own, ro_hp, ro_law, ro_ownK, ro_ownT, List.forall_mem_map, flat_int, flat_str, flat_bl, flat_non, dSeq, dNext, dSet, dSetF, setSl, dVar, dTake, dC, dBin, dBinF, dB, dIfS, dIf, dRet, dRetN, dExpr, dNil, dCons, dTup, dLst, dFz, dAnd, dOr, dNot, dAndV, dOrV, dNotV, dCallD, dCallK, dCB, dCBF, dFor, dLC, dYes, dRng1, dRng2, dSeqI, gN, gT, gsNil, gsCons, dAsg, dNeg, dJoin, dFs, dJs, dFmt, dApp, dExt, dPop, dPopAt, dOwnIx, dOwnCB, dOwnL, dOwnR, dOwnSl, dSetIx, dSlT, dSlL, oNone, oSome, dBorn, optQ, ownAt, setOwnAt, lookAt, wipeD, dNewDT, dNewDK, dDGet, dDIn, dDPut, dSortT, rSrt, isDict, Ev.dictGet, Ev.dictPut, Option.isSome_none, Option.isSome_some, D.keyT, keysOf, D.key, exists_eq_left', exists_eq_left, Option.isSome, rRepL, rCatL, dRetF, dIfF, dPar, dRetOwn, dCallL, dCallLK, dPen2, dRev, dRevI, dIndex, endsL, startL, dNever, dBrk, dCnt, rAddD, rSubI, rIO, rMulI, rDivI, rModI, rPowI, rCI, rIxD, rIsN, rNotN, D.isN, rLen, rTuple, rList, rAbs, rInt, rStr, Ev.rRepr, Ev.rIsi, D.ty, kit_tab, startD, endsD, List.map_cons, List.map_nil, List.length_cons, List.length_nil, List.append_nil, List.nil_append, List.cons_append, List.getElem?_cons_zero, List.getElem?_cons_succ, List.getElem?_nil, List.set_cons_zero, List.set_cons_succ, List.replicate, List.replicate_succ, Nat.zero_add, Nat.zero_le, sizeLine, true_and, and_true, if_true, Ev.eq_int, Ev.eq_str, Ev.eq_bl, Ev.eq_non, lst_nil, tup_nil, List.map_eq_nil_iff, txt_join, rLt, rLe, rGt, rGe, atI_ofNat, atI_last, wLC, strsOf, intsOf, blsOf, Option.map_some, Ev.join_two, Ev.join_one, Ev.join_nil, List.sum_cons, List.sum_nil, PySem.Str.empty_append, ixN_ofNat, Option.some.injEq, exists_eq', List.length_map, decide_true, decide_false, Bool.not_true, Bool.not_false, Bool.true_eq_false, Bool.false_eq_true, false_and, and_false, if_false, ite_true, ite_false, Nat.reduceAdd, Nat.reduceSub, Nat.reduceMul, Nat.reduceLT, Nat.reduceLeDiff, Nat.reduceEqDiff, Nat.reducePow, Int.reduceToNat, Int.reducePow, pickL, List.filterMap_cons, List.filterMap_nil, and_self, Int.reduceLT, Int.reduceLE, Int.reduceNeg, Int.reduceAdd, Int.reduceMul, Int.reduceSub, Int.reduceEq, reduceIte, reduceCtorEq, lit_eq, String.reduceEq, Ev.rEq, Ev.rNe, Ev.rInD, cut_toN, cut_fromN, List.map_take, List.forall_mem_cons, List.forall_mem_nil, List.not_mem_nil, false_imp_iff, implies_true, forall_const, D.cm, D.lay, D.lays, D.dep, D.deps, strOk_lit, lays_ints, deps_ints, Nat.max_self, Nat.max_zero, Nat.zero_max, Bool.and_self, Bool.true_and, Bool.and_true, Bool.and_false, Bool.false_and, Bool.or_false, Bool.or_true, Bool.true_or, Bool.false_or, List.any_cons, List.any_nil, decide_eq_true_eq, eq_self, ints_any, c]
      exact ⟨hz, g1 (by simp [c])⟩
    · simp only [Ev.D.eq_refl, dPen1, dLenSet, dSrtR, dRo, dRoF, dRoT, roD, ro_un, ro_dat, ro_own, ro_hp, ro_law, ro_ownK, ro_ownT, List.forall_mem_map, flat_int, flat_str, flat_bl, flat_non, dSeq, dNext, dSet, dSetF, setSl, dVar, dTake, dC, dBin, dBinF, dB, dIfS, dIf, dRet, dRetN, dExpr, dNil, dCons, dTup, dLst, dFz, dAnd, dOr, dNot, dAndV, dOrV, dNotV, dCallD, dCallK, dCB, dCBF, dFor, dLC, dYes, dRng1, dRng2, dSeqI, gN, gT, gsNil, gsCons, dAsg, dNeg, dJoin, dFs, dJs, dFmt, dApp, dExt, dPop, dPopAt, dOwnIx, dOwnCB, dOwnL, dOwnR, dOwnSl, dSetIx, dSlT, dSlL, oNone, oSome, dBorn, optQ, ownAt, setOwnAt, lookAt, wipeD, dNewDT, dNewDK, dDGet, dDIn, dDPut, dSortT, rSrt, isDict, Ev.dictGet, Ev.dictPut, Option.isSome_none, Option.isSome_some, D.keyT, keysOf, D.key, exists_eq_left', exists_eq_left, Option.isSome, rRepL, rCatL, dRetF, dIfF, dPar, dRetOwn, dCallL, dCallLK, dPen2, dRev, dRevI, dIndex, endsL, startL, dNever, dBrk, dCnt, rAddD, rSubI, rIO, rMulI, rDivI, rModI, rPowI, rCI, rIxD, rIsN, rNotN, D.isN, rLen, rTuple, rList, rAbs, rInt, rStr, Ev.rRepr, Ev.rIsi, D.ty, kit_tab, startD, endsD, List.map_cons, List.map_nil, List.length_cons, List.length_nil, List.append_nil, List.nil_append, List.cons_append, List.getElem?_cons_zero, List.getElem?_cons_succ, List.getElem?_nil, List.set_cons_zero, List.set_cons_succ, List.replicate, List.replicate_succ, Nat.zero_add, Nat.zero_le, sizeLine, true_and, and_true, if_true, Ev.eq_int, Ev.eq_str, Ev.eq_bl, Ev.eq_non, lst_nil, tup_nil, List.map_eq_nil_iff, txt_join, rLt, rLe, rGt, rGe, atI_ofNat, atI_last, wLC, strsOf, intsOf, blsOf, Option.map_some, Ev.join_two, Ev.join_one, Ev.join_nil, List.sum_cons, List.sum_nil, PySem.Str.empty_append, ixN_ofNat, Option.some.injEq, exists_eq', List.length_map, decide_true, decide_false, Bool.not_true, Bool.not_false, Bool.true_eq_false, Bool.false_eq_true, false_and, and_false, if_false, ite_true, ite_false, Nat.reduceAdd, Nat.reduceSub, Nat.reduceMul, Nat.reduceLT, Nat.reduceLeDiff, Nat.reduceEqDiff, Nat.reducePow, Int.reduceToNat, Int.reducePow, pickL, List.filterMap_cons, List.filterMap_nil, and_self, Int.reduceLT, Int.reduceLE, Int.reduceNeg, Int.reduceAdd, Int.reduceMul, Int.reduceSub, Int.reduceEq, reduceIte, reduceCtorEq, lit_eq, String.reduceEq, Ev.rEq, Ev.rNe, Ev.rInD, cut_toN, cut_fromN, List.map_take, List.forall_mem_cons, List.forall_mem_nil, List.not_mem_nil, false_imp_iff, implies_true, forall_const, D.cm, D.lay, D.lays, D.dep, D.deps, strOk_lit, lays_ints, deps_ints, Nat.max_self, Nat.max_zero, Nat.zero_max, Bool.and_self, Bool.true_and, Bool.and_true, Bool.and_false, Bool.false_and, Bool.or_false, Bool.or_true, Bool.true_or, Bool.false_or, List.any_cons, List.any_nil, decide_eq_true_eq, eq_self, ints_any, c]
      exact g2 (by simp [c])
  have e : ((l.filter fun x => decide (x ∈ l2)).map D.int)[0]? = some (.int x) := by rw [List.getElem?_map, ← List.head?_eq_getElem?, hx]; rfl
  simp only [Ev.D.eq_refl, dPen1, dLenSet, dSrtR, dRo, dRoF, dRoT, roD, ro_un, ro_dat, ro_own, ro_hp, ro_law, ro_ownK, ro_ownT, List.forall_mem_map, flat_int, flat_str, flat_bl, flat_non, dSeq, dNext, dSet, dSetF, setSl, dVar, dTake, dC, dBin, dBinF, dB, dIfS, dIf, dRet, dRetN, dExpr, dNil, dCons, dTup, dLst, dFz, dAnd, dOr, dNot, dAndV, dOrV, dNotV, dCallD, dCallK, dCB, dCBF, dFor, dLC, dYes, dRng1, dRng2, dSeqI, gN, gT, gsNil, gsCons, dAsg, dNeg, dJoin, dFs, dJs, dFmt, dApp, dExt, dPop, dPopAt, dOwnIx, dOwnCB, dOwnL, dOwnR, dOwnSl, dSetIx, dSlT, dSlL, oNone, oSome, dBorn, optQ, ownAt, setOwnAt, lookAt, wipeD, dNewDT, dNewDK, dDGet, dDIn, dDPut, dSortT, rSrt, isDict, Ev.dictGet, Ev.dictPut, Option.isSome_none, Option.isSome_some, D.keyT, keysOf, D.key, exists_eq_left', exists_eq_left, Option.isSome, rRepL, rCatL, dRetF, dIfF, dPar, dRetOwn, dCallL, dCallLK, dPen2, dRev, dRevI, dIndex, endsL, startL, dNever, dBrk, dCnt, rAddD, rSubI, rIO, rMulI, rDivI, rModI, rPowI, rCI, rIxD, rIsN, rNotN, D.isN, rLen, rTuple, rList, rAbs, rInt, rStr, Ev.rRepr, Ev.rIsi, D.ty, kit_tab, startD, endsD, List.map_cons, List.map_nil, List.length_cons, List.length_nil, List.append_nil, List.nil_append, List.cons_append, List.getElem?_cons_zero, List.getElem?_cons_succ, List.getElem?_nil, List.set_cons_zero, List.set_cons_succ, List.replicate, List.replicate_succ, Nat.zero_add, Nat.zero_le, sizeLine, true_and, and_true, if_true, Ev.eq_int, Ev.eq_str, Ev.eq_bl, Ev.eq_non, lst_nil, tup_nil, List.map_eq_nil_iff, txt_join, rLt, rLe, rGt, rGe, atI_ofNat, atI_last, wLC, strsOf, intsOf, blsOf, Option.map_some, Ev.join_two, Ev.join_one, Ev.join_nil, List.sum_cons, List.sum_nil, PySem.Str.empty_append, ixN_ofNat, Option.some.injEq, exists_eq', List.length_map, decide_true, decide_false, Bool.not_true, Bool.not_false, Bool.true_eq_false, Bool.false_eq_true, false_and, and_false, if_false, ite_true, ite_false, Nat.reduceAdd, Nat.reduceSub, Nat.reduceMul, Nat.reduceLT, Nat.reduceLeDiff, Nat.reduceEqDiff, Nat.reducePow, Int.reduceToNat, Int.reducePow, pickL, List.filterMap_cons, List.filterMap_nil, and_self, Int.reduceLT, Int.reduceLE, Int.reduceNeg, Int.reduceAdd, Int.reduceMul, Int.reduceSub, Int.reduceEq, reduceIte, reduceCtorEq, lit_eq, String.reduceEq, Ev.rEq, Ev.rNe, Ev.rInD, cut_toN, cut_fromN, List.map_take, List.forall_mem_cons, List.forall_mem_nil, List.not_mem_nil, false_imp_iff, implies_true, forall_const, D.cm, D.lay, D.lays, D.dep, D.deps, strOk_lit, lays_ints, deps_ints, Nat.max_self, Nat.max_zero, Nat.zero_max, Bool.and_self, Bool.true_and, Bool.and_true, Bool.and_false, Bool.false_and, Bool.or_false, Bool.or_true, Bool.true_or, Bool.false_or, List.any_cons, List.any_nil, decide_eq_true_eq, eq_self, e]
  exact q
theorem ok_least_above {P : Program} {w : World} {K : PySem.W.Frag} {mg : Str → Option Value} {base : Heap} (K_elders_2 : DefL P w K mg base 3 "elders" 2 sp_elders []) {f : Addr} {fd : FuncData} (F : Fun K "least_above" "least_above" s_least_above f fd) : FnG P w K mg base CX0 4 f fd ["book", "room", "room2"] (spD K 3 sp_least_above) :=
 fn_d0 F sc_least_above rfl (fun cdv A out s H E g r => run_least_above K_elders_2 cdv A out s H E g r) hsp_least_above
def sp__law_halves_right : dSp := fun ds p Q _ => ∃ (b : List Row) (n m : Int) (l l2 : List Int), ds = [bookD b, .int n, .int m] ∧ Bk b ∧ Line b (some n) l ∧ Line b (some m) l2 ∧ Q (.bl true) p
abbrev s__law_halves_right : Stmt := topS 28
abbrev n__law_halves_right : List Str := ["_law_book_so", "_law_first", "_law_last", "_law_least", "_law_there", "_law_halves", "_law_ways", "_law_row"]
theorem sc__law_halves_right : FnScope n__law_halves_right ["_law_book_so", "_law_first", "_law_last"] (defScope s__law_halves_right) := ⟨rfl, rfl, rfl, by decide +kernel, rfl, by decide +kernel, by decide +kernel⟩
def p__law_halves_right_0 : dS := (dSet 3 (dCallD 3 [] sp_least_above (dCons (dVar 0) (dCons (dVar 1) (dCons (dVar 2) dNil)))))
def p__law_halves_right_1 : dS := (dIfS (dB (dBin (rInD false) (dVar 3) (dTup (dCons (dVar 1) (dCons (dVar 2) dNil))))) (dRet (dC (.bl true))) dNext)
def p__law_halves_right_2 : dS := (dSet 4 (dFz (dCallL 3 [] sp_passed (dCons (dVar 0) (dCons (dVar 1) (dCons (dVar 2) dNil))))))
def p__law_halves_right_3 : dS := (dSetF 5 (dLC (dSeqI (dFz (dCallL 3 [] sp_passed (dCons (dVar 0) (dCons (dVar 1) (dCons (dVar 3) dNil)))))) (gN 7) (dB (dBin (rEq) (dBin rIxD (dVar 7) (dC (.int 0))) (dC (.str "leave")))) (dVar 7) [7]))
def p__law_halves_right_4 : dS := (dSetF 5 (dBinF rCatL (dTake 5) (dFz (dLC (dSeqI (dFz (dCallL 3 [] sp_passed (dCons (dVar 0) (dCons (dVar 3) (dCons (dVar 2) dNil)))))) (gN 7) (dB (dBin (rEq) (dBin rIxD (dVar 7) (dC (.int 0))) (dC (.str "enter")))) (dVar 7) [7]))))
def p__law_halves_right_5 : dS := (dSetF 6 (dLC (dSeqI (dVar 4)) (gN 7) (dB (dBin (rInD false) (dBin rIxD (dVar 7) (dC (.int 1))) (dTup (dCons (dVar 1) (dCons (dVar 2) dNil))))) (dBin rIxD (dVar 7) (dC (.int 2))) [7]))
def p__law_halves_right_6 : dS := (dRet (dAndV (dBin (rEq) (dFz (dLC (dSeqI (dVar 4)) (gN 7) dYes (dSlT (dVar 7) oNone (oSome (dC (.int 2)))) [7])) (dFz (dLC (dSeqI (dTake 5)) (gN 7) dYes (dSlT (dVar 7) oNone (oSome (dC (.int 2)))) [7]))) (dOwnL 6 (rEq) (dFz (dLst (dCons (dC (.str "across")) (dCons (dC (.str "across")) dNil)))))))
def b__law_halves_right_6 : dS := p__law_halves_right_6
def b__law_halves_right_5 : dS := dSeq p__law_halves_right_5 b__law_halves_right_6
def b__law_halves_right_4 : dS := dSeq p__law_halves_right_4 b__law_halves_right_5
def b__law_halves_right_3 : dS := dSeq p__law_halves_right_3 b__law_halves_right_4
def b__law_halves_right_2 : dS := dSeq p__law_halves_right_2 b__law_halves_right_3
def b__law_halves_right_1 : dS := dSeq p__law_halves_right_1 b__law_halves_right_2
def b__law_halves_right_0 : dS := dSeq p__law_halves_right_0 b__law_halves_right_1
def b__law_halves_right : dS := b__law_halves_right_0
theorem run__law_halves_right {P : Program} {w : World} {K : PySem.W.Frag} {mg : Str → Option Value} {base : Heap} (K_least_above_3 : Def P w K mg base 4 "least_above" 3 sp_least_above []) (K_passed_3 : DefL P w K mg base 6 "passed" 3 sp_passed []) {f : Addr} (cdv : Value) (A : Around) (out : List Env) (s : Shared) (H : Hp) (E : XK) (g : A.guards = some []) (hrA : Room 6 (A.deeper (envOfC "_law_halves_right" (defScope s__law_halves_right) s.heap.objs.size f cdv))) :
  DSs (cx0 P w K mg base n__law_halves_right "_law_halves_right" (defScope s__law_halves_right) f cdv A out s H E) E00 (defBody s__law_halves_right) b__law_halves_right := by
 have hgA : (A.deeper (envOfC "_law_halves_right" (defScope s__law_halves_right) s.heap.objs.size f cdv)).guards = some [] := g
 have hun := hrA.un
 exact (dss_cons (t := p__law_halves_right_0) (u := b__law_halves_right_1) (ds_set (i := 3) sc__law_halves_right.nd rfl (by first | exact .inl rfl | exact .inr rfl) (de_callD K_least_above_3 hgA hrA (by rfl) (da_cons (de_var (pv 0)) (da_cons (de_var (pv 1)) (da_cons (de_var (pv 2)) da_nil)))))
  (dss_cons (t := p__law_halves_right_1) (u := b__law_halves_right_2) (ds_if (dt_cmp (od_in (Nat.lt_of_le_of_lt (Nat.add_le_add_left (by decide) _) hun)) (de_var (pv 3)) (de_tup (da_cons (de_var (pv 1)) (da_cons (de_var (pv 2)) da_nil))) (by with_unfolding_all rfl)) (dss_one (ds_ret de_bl)) dss_nil)
  (dss_cons (t := p__law_halves_right_2) (u := b__law_halves_right_3) (ds_set (i := 4) sc__law_halves_right.nd rfl (by first | exact .inl rfl | exact .inr rfl) (de_fz (df_callL K_passed_3 hgA hrA (by rfl) (da_cons (de_var (pv 0)) (da_cons (de_var (pv 1)) (da_cons (de_var (pv 2)) da_nil))))))
  (dss_cons (t := p__law_halves_right_3) (u := b__law_halves_right_4) (ds_setLc (E2 := E00) (own := [("_law_row", 7)]) (i := 5) rfl sc__law_halves_right.nd rfl rfl (sw_true rfl rfl rfl (by decide +kernel)) (di_seq (de_fz (df_callL K_passed_3 hgA hrA (by rfl) (da_cons (de_var (pv 0)) (da_cons (de_var (pv 1)) (da_cons (de_var (pv 3)) da_nil)))))) (blkOk_by (N := n__law_halves_right) (sc := (defScope s__law_halves_right)) (own := [("_law_row", 7)]) (by decide +kernel)) (by decide) (fun _ _ _ _ _ => (dg_name (pg_name (i := 7) sc__law_halves_right.nd rfl (by first | exact .inl rfl | exact .inr rfl)))) (fun _ _ _ _ _ => (dts_one (dt_cmp (od_eq (Nat.lt_of_le_of_lt (Nat.add_le_add_left (by decide) _) hun)) (de_ix (de_var (pv 7)) de_int (fun _ _ => rfl)) de_str (nomark _)))) (fun _ _ _ _ _ => (de_var (pv 7))))
  (dss_cons (t := p__law_halves_right_4) (u := b__law_halves_right_5) (ds_setF (i := 5) sc__law_halves_right.nd rfl (by first | exact .inl rfl | exact .inr rfl) (df_op od_catL (de_take (pv 5)) (de_fz (df_lc (E2 := E00) (own := [("_law_row", 7)]) rfl sc__law_halves_right.nd (di_seq (de_fz (df_callL K_passed_3 hgA hrA (by rfl) (da_cons (de_var (pv 0)) (da_cons (de_var (pv 3)) (da_cons (de_var (pv 2)) da_nil)))))) (blkOk_by (N := n__law_halves_right) (sc := (defScope s__law_halves_right)) (own := [("_law_row", 7)]) (by decide +kernel)) (by decide) (fun _ _ _ _ _ => (dg_name (pg_name (i := 7) sc__law_halves_right.nd rfl (by first | exact .inl rfl | exact .inr rfl)))) (fun _ _ _ _ _ => (dts_one (dt_cmp (od_eq (Nat.lt_of_le_of_lt (Nat.add_le_add_left (by decide) _) hun)) (de_ix (de_var (pv 7)) de_int (fun _ _ => rfl)) de_str (nomark _)))) (fun _ _ _ _ _ => (de_var (pv 7)))))))
  (dss_cons (t := p__law_halves_right_5) (u := b__law_halves_right_6) (ds_setLc (E2 := E00) (own := [("_law_row", 7)]) (i := 6) rfl sc__law_halves_right.nd rfl rfl (sw_true rfl rfl rfl (by decide +kernel)) (di_seq (de_var (pv 4))) (blkOk_by (N := n__law_halves_right) (sc := (defScope s__law_halves_right)) (own := [("_law_row", 7)]) (by decide +kernel)) (by decide) (fun _ _ _ _ _ => (dg_name (pg_name (i := 7) sc__law_halves_right.nd rfl (by first | exact .inl rfl | exact .inr rfl)))) (fun _ _ _ _ _ => (dts_one (dt_cmp (od_in (Nat.lt_of_le_of_lt (Nat.add_le_add_left (by decide) _) hun)) (de_ix (de_var (pv 7)) de_int (fun _ _ => rfl)) (de_tup (da_cons (de_var (pv 1)) (da_cons (de_var (pv 2)) da_nil))) (by with_unfolding_all rfl)))) (fun _ _ _ _ _ => (de_ix (de_var (pv 7)) de_int (fun _ _ => rfl))))
  (dss_one (t := p__law_halves_right_6) (ds_ret (de_and (de_cmp (od_eq (Nat.lt_of_le_of_lt (Nat.add_le_add_left (by decide) _) hun)) (de_fz (df_lc (E2 := E00) (own := [("_law_row", 7)]) rfl sc__law_halves_right.nd (di_seq (de_var (pv 4))) (blkOk_by (N := n__law_halves_right) (sc := (defScope s__law_halves_right)) (own := [("_law_row", 7)]) (by decide +kernel)) (by decide) (fun _ _ _ _ _ => (dg_name (pg_name (i := 7) sc__law_halves_right.nd rfl (by first | exact .inl rfl | exact .inr rfl)))) (fun _ _ _ _ _ => dts_nil) (fun _ _ _ _ _ => (de_slT (de_var (pv 7)) do_none (do_some de_int))))) (de_fz (df_lc (E2 := E00) (own := [("_law_row", 7)]) rfl sc__law_halves_right.nd (di_seq (de_take (pv 5))) (blkOk_by (N := n__law_halves_right) (sc := (defScope s__law_halves_right)) (own := [("_law_row", 7)]) (by decide +kernel)) (by decide) (fun _ _ _ _ _ => (dg_name (pg_name (i := 7) sc__law_halves_right.nd rfl (by first | exact .inl rfl | exact .inr rfl)))) (fun _ _ _ _ _ => dts_nil) (fun _ _ _ _ _ => (de_slT (de_var (pv 7)) do_none (do_some de_int))))) (nomark _)) (de_one (de_ownL (od_eq (Nat.lt_of_le_of_lt (Nat.add_le_add_left (by decide) _) hun)) (pv 6) (de_fz (df_lst (da_cons de_str (da_cons de_str da_nil)))) (nomark _))))))))))))
theorem Up.root {b : List Row} (k : Bk b) {o : Option Int} {l : List Int} (u : Up b o l) : o = none ∨ 0 ∈ l := by
  induction u with
  | nil => exact .inl rfl
  | @cons n r l e u ih =>
    right
    have hr := rowAt_mem e
    rcases ih with h | h
    · have := k.one r hr.1 h
      rw [hr.2] at this
      rw [this]; simp
    · exact List.mem_cons_of_mem _ h
structure Halves (b : List Row) (n m : Int) (l l2 : List Int) (x : Int) (p q : List (Option Int)) (t : List Int) : Prop where
  k : Fork l l2 p q t
  hx : (l.filter fun x => decide (x ∈ l2)).head? = some x
  lx : Line b (some x) t
  pn : x ≠ n → p ≠ []
  qn : x ≠ m → q ≠ []
theorem halves_ex {b : List Row} (kb : Bk b) {n m : Int} {l l2 : List Int} (h1 : Line b (some n) l) (h2 : Line b (some m) l2) : ∃ x p q t, Halves b n m l l2 x p q t := by
  obtain ⟨p, q, t, a, b', c, d⟩ := h1.up.fork h2.up
  have k : Fork l l2 p q t := ⟨a, b', c, d⟩
  have z1 : (0 : Int) ∈ l := (Up.root kb h1.up).resolve_left (by simp)
  have z2 : (0 : Int) ∈ l2 := (Up.root kb h2.up).resolve_left (by simp)
  have zt : some (0 : Int) ∈ full t := by
    have : some (0 : Int) ∈ full l := by simp [full, z1]
    rw [k.a] at this
    rcases List.mem_append.mp this with h | h
    · exact absurd (by simp [full, z2]) (k.pn _ h)
    · exact h
  cases t with
  | nil => simp [full] at zt
  | cons x t =>
    have e1 : l.map some = p ++ (x :: t).map some := by
      have := k.a
      unfold full at this
      rw [← List.append_assoc] at this
      exact List.append_cancel_right this
    have xl : some x ∈ full l := by rw [k.a]; simp [full]
    have xl2 : x ∈ l2 := by
      have : some x ∈ full l2 := by rw [k.b]; simp [full]
      simpa [full] using this
    obtain ⟨pre, m', f1, f2, f3, f4⟩ := h1.up.tail xl
    have xp : some x ∉ p := fun z => k.pn _ z (by rw [k.b]; simp [full])
    have et : m' = x :: t := by
      obtain ⟨_, _⟩ := f2
      rename_i r0 l0 e0 u0
      -- both behind the same place
      have hd : full (x :: t) = some x :: full t := rfl
      have hm : full (x :: l0) = some x :: full l0 := rfl
      have i1 := idx_split (r := full t) xp
      have i2 := idx_split (r := full l0) f3
      rw [← hd, ← k.a] at i1
      rw [← hm, ← f1] at i2
      have hp : p.length = pre.length := i1.symm.trans i2
      have := List.append_inj (k.a.symm.trans f1) hp
      have := this.2
      unfold full at this
      have := List.append_cancel_right this
      exact (some_map_inj this).symm
    subst et
    refine ⟨x, p, q, x :: t, k, ?_, ⟨f2, fun y hy => h1.mem y ?_, ?_⟩, fun ne z => ?_, fun ne z => ?_⟩
    · obtain ⟨p', rfl⟩ := all_some k.nn
      rw [← List.map_append] at e1
      have := some_map_inj e1
      rw [this, List.filter_append, List.filter_eq_nil_iff.mpr (fun y hy => by
        have := k.pn (some y) (List.mem_map.mpr ⟨y, hy, rfl⟩)
        simp only [full, List.mem_append, List.mem_map, Option.some.injEq, exists_eq_right, not_or] at this
        simpa using this.1), List.nil_append, List.filter_cons_of_pos (by simpa using xl2)]
      rfl
    · have : some y ∈ l.map some := by rw [e1]; exact List.mem_append_right _ (List.mem_map.mpr ⟨y, hy, rfl⟩)
      simpa using this
    · have := congrArg List.length e1
      simp only [List.length_map, List.length_append] at this
      have := h1.len
      omega
    · subst z
      obtain ⟨r, hr⟩ := full_head h1.up
      have := k.a
      rw [hr] at this
      exact ne (Option.some.inj (List.cons.inj this).1).symm
    · subst z
      obtain ⟨r, hr⟩ := full_head h2.up
      have := k.b
      rw [hr] at this
      exact ne (Option.some.inj (List.cons.inj this).1).symm
theorem Fork.up {l l2 p q t} (k : Fork l l2 p q t) : Fork l t p [] t := ⟨k.a, rfl, fun x hx h => k.pn x hx (by rw [k.b]; exact List.mem_append_right _ h), fun x hx => nomatch hx⟩
theorem head_of {b : List Row} {o : Option Int} {l : List Int} (u : Up b o l) {p : List (Option Int)} {t : List Int} (e : full l = p ++ full t) (h : p ≠ []) : ∃ p', p = o :: p' := by
  obtain ⟨r, hr⟩ := full_head u
  cases p with
  | nil => exact absurd rfl h
  | cons a p =>
    rw [hr] at e
    exact ⟨p, by rw [(List.cons.inj e).1]⟩
theorem ways_eq {b : List Row} {n m : Int} {l l2 : List Int} {p q : List (Option Int)} {t : List Int} (h1 : Line b (some n) l) (h2 : Line b (some m) l2) (k : Fork l l2 p q t) (hp : p ≠ []) (hq : q ≠ []) :
    (((byP b l l2 (some n) (some m)).filter fun t => decide (t.rm = some n) || decide (t.rm = some m)).map fun t => D.str t.way) = [.str "across", .str "across"] := by
  obtain ⟨p', rfl⟩ := head_of h1.up k.a hp
  obtain ⟨q', rfl⟩ := head_of h2.up k.b hq
  have n1 : some n ∉ full l2 := k.pn _ List.mem_cons_self
  have n2 : some m ∉ full l := k.qn _ List.mem_cons_self
  have nd1 := h1.up.nodup
  have nd2 := h2.up.nodup
  rw [k.a] at nd1
  rw [k.b] at nd2
  have p1 : some n ∉ p' := fun z => (List.nodup_cons.mp nd1).1 (List.mem_append_left _ z)
  have q1 : some m ∉ q' := fun z => (List.nodup_cons.mp nd2).1 (List.mem_append_left _ z)
  have p2 : some m ∉ p' := fun z => n2 (by rw [k.a]; exact List.mem_append_left _ (List.mem_cons_of_mem _ z))
  have q2 : some n ∉ q' := fun z => n1 (by rw [k.b]; exact List.mem_append_left _ (List.mem_cons_of_mem _ z))
  have ne : (some n : Option Int) ≠ some m := fun z => n1 (by rw [z, k.b]; simp)
  rw [byP_fork h1 h2 k ne]
  have e1 : Lv (some n) (some n :: p') (some m :: q') = (some n, Str.ofString "across") :: p'.map fun x => (x, Str.ofString "passed") := by simp [Lv, wayP]
  have e2 : Lv (some m) (some m :: q') (some n :: p') = (some m, Str.ofString "across") :: q'.map fun x => (x, Str.ofString "passed") := by simp [Lv, wayP]
  have f1 : ((p'.map fun x => (x, Str.ofString "passed")).map lvT).filter (fun t => decide (t.rm = some n) || decide (t.rm = some m)) = [] := List.filter_eq_nil_iff.mpr fun t ht => by
    simp only [List.map_map, List.mem_map, Function.comp_def, lvT] at ht
    obtain ⟨x, hx, rfl⟩ := ht
    have a1 : x ≠ some n := fun z => p1 (z ▸ hx)
    have a2 : x ≠ some m := fun z => p2 (z ▸ hx)
    simp [a1, a2]
  have f2 : ((q'.map fun x => (x, Str.ofString "passed")).reverse.map enT).filter (fun t => decide (t.rm = some n) || decide (t.rm = some m)) = [] := List.filter_eq_nil_iff.mpr fun t ht => by
    simp only [List.map_map, List.mem_map, Function.comp_def, enT, List.mem_reverse] at ht
    obtain ⟨y, ⟨x, hx, rfl⟩, rfl⟩ := ht
    have a1 : x ≠ some n := fun z => q2 (z ▸ hx)
    have a2 : x ≠ some m := fun z => q1 (z ▸ hx)
    simp [a1, a2]
  rw [e1, e2, List.map_cons, List.reverse_cons, List.map_append, List.cons_append, List.filter_cons_of_pos (by simp [lvT]), List.filter_append, f1, List.filter_append, f2]
  simp [lvT, enT]
def evD (t : Told) : D := .tup [.str t.ev, optD t.rm]
theorem evs_lay {T : List Told} (ok : ∀ t ∈ T, toldOk t) : D.lays (T.map evD) = true := lays_map fun t ht => by
  simp only [evD, D.lay, D.lays, opt_lay, (ok t ht).e.1, Bool.and_self]
theorem evs_dep (T : List Told) : D.deps (T.map evD) ≤ 1 := deps_map fun t _ => by
  simp only [evD, D.dep, D.deps, opt_dep]; decide
theorem halves_eq {b : List Row} {n m x : Int} {l l2 : List Int} {p q : List (Option Int)} {t : List Int} (h1 : Line b (some n) l) (h2 : Line b (some m) l2) (hx : Line b (some x) t) (k : Fork l l2 p q t) (c1 : ¬ n = x) (c2 : ¬ m = x) (ne : n ≠ m) :
    (byP b l l2 (some n) (some m)).map evD = (((byP b l t (some n) (some x)).filter fun t => decide (t.ev = Str.ofString "leave")) ++ ((byP b t l2 (some x) (some m)).filter fun t => decide (t.ev = Str.ofString "enter"))).map evD := by
  rw [byP_fork h1 h2 k (fun z => ne (Option.some.inj z)), byP_fork h1 hx k.up (fun z => c1 (Option.some.inj z)), byP_fork hx h2 k.swap.up.swap (fun z => c2 (Option.some.inj z).symm), fil_lv, fil_en]
  have g1 : ∀ {o : Option Int} {p q q' : List (Option Int)}, ((Lv o p q).map lvT).map evD = ((Lv o p q').map lvT).map evD := fun {o p q q'} => by
    have : ∀ L : List (Option Int × Str), (L.map lvT).map evD = (L.map (·.1)).map fun x => .tup [.str "leave", optD x] := fun L => by simp [lvT, evD, Function.comp_def]
    rw [this, this, Lv_fst, Lv_fst]
  have g2 : ∀ {o : Option Int} {p q q' : List (Option Int)}, ((Lv o p q).reverse.map enT).map evD = ((Lv o p q').reverse.map enT).map evD := fun {o p q q'} => by
    have : ∀ L : List (Option Int × Str), (L.reverse.map enT).map evD = ((L.map (·.1)).reverse).map fun x => .tup [.str "enter", optD x] := fun L => by simp [enT, evD, Function.comp_def]
    rw [this, this, Lv_fst, Lv_fst]
  rw [List.map_append, List.map_append, g1, g2]
theorem lc_row {Q : List D → DS → Prop} {T : List Told} {w : Str} {s0 s1 s2 s3 s4 s5 s6 : Sl} {p : Pen} (ok : ∀ t ∈ T, toldOk t) (hl : T.length ≤ 24) (hw : PyData.strOk w = true) (h : Q ((T.filter fun t => decide (t.ev = w)).map toldD) ⟨[s0, s1, s2, s3, s4, s5, s6, .un], p⟩) :
    wLC (gN 7) (dB (dBin Ev.rEq (dBin rIxD (dVar 7) (dC (.int 0))) (dC (.str w)))) (dVar 7) [7] Q (T.map toldD) [] ⟨[s0, s1, s2, s3, s4, s5, s6, .un], p⟩ := by
  refine wLC_filt (l := T) (ι := toldD) (f := toldD) (t := fun t => decide (t.ev = w)) (fun t ht acc k hz g1 g2 => ?_) (by rw [sizeLine_eq]; omega) h
  by_cases c : t.ev = w
  · simp only [Ev.D.eq_refl, dPen1, dLenSet, dSrtR, dRo, dRoF, dRoT, roD, ro_un, ro_dat, ro_own, ro_hp, ro_law, ro_ownK, ro_ownT, List.forall_mem_map, flat_int, flat_str, flat_bl, flat_non, dSeq, dNext, dSet, dSetF, setSl, dVar, dTake, dC, dBin, dBinF, dB, dIfS, dIf, dRet, dRetN, dExpr, dNil, dCons, dTup, dLst, dFz, dAnd, dOr, dNot, dAndV, dOrV, dNotV, dCallD, dCallK, dCB, dCBF, dFor, dLC, dYes, dRng1, dRng2, dSeqI, gN, gT, gsNil, gsCons, dAsg, dNeg, dJoin, dFs, dJs, dFmt, dApp, dExt, dPop, dPopAt, dOwnIx, dOwnCB, dOwnL, dOwnR, dOwnSl, dSetIx, dSlT, dSlL, oNone, oSome, dBorn, optQ, ownAt, setOwnAt, lookAt, wipeD, dNewDT, dNewDK, dDGet, dDIn, dDPut, dSortT, rSrt, isDict, Ev.dictGet, Ev.dictPut, Option.isSome_none, Option.isSome_some, D.keyT, keysOf, D.key, exists_eq_left', exists_eq_left, Option.isSome, rRepL, rCatL, dRetF, dIfF, dPar, dRetOwn, dCallL, dCallLK, dPen2, dRev, dRevI, dIndex, endsL, startL, dNever, dBrk, dCnt, rAddD, rSubI, rIO, rMulI, rDivI, rModI, rPowI, rCI, rIxD, rIsN, rNotN, D.isN, rLen, rTuple, rList, rAbs, rInt, rStr, Ev.rRepr, Ev.rIsi, D.ty, kit_tab, startD, endsD, List.map_cons, List.map_nil, List.length_cons, List.length_nil, List.append_nil, List.nil_append, List.cons_append, List.getElem?_cons_zero, List.getElem?_cons_succ, List.getElem?_nil, List.set_cons_zero, List.set_cons_succ, List.replicate, List.replicate_succ, Nat.zero_add, Nat.zero_le, sizeLine, true_and, and_true, if_true, Ev.eq_int, Ev.eq_str, Ev.eq_bl, Ev.eq_non, lst_nil, tup_nil, List.map_eq_nil_iff, txt_join, rLt, rLe, rGt, rGe, atI_ofNat, atI_last, wLC, strsOf, intsOf, blsOf, Option.map_some, Ev.join_two, Ev.join_one, Ev.join_nil, List.sum_cons, List.sum_nil, PySem.Str.empty_append, ixN_ofNat, Option.some.injEq, exists_eq', List.length_map, decide_true, decide_false, Bool.not_true, Bool.not_false, Bool.true_eq_false, Bool.false_eq_true, false_and, and_false, if_false, ite_true, ite_false, Nat.reduceAdd, Nat.reduceSub, Nat.reduceMul, Nat.reduceLT, Nat.reduceLeDiff, Nat.reduceEqDiff, Nat.reducePow, Int.reduceToNat, Int.reducePow, pickL, List.filterMap_cons, List.filterMap_nil, and_self, Int.reduceLT, Int.reduceLE, Int.reduceNeg, Int.reduceAdd, Int.reduceMul, Int.reduceSub, Int.reduceEq, reduceIte, reduceCtorEq, lit_eq, String.reduceEq, Ev.rEq, Ev.rNe, Ev.rInD, cut_toN, cut_fromN, List.map_take, List.forall_mem_cons, List.forall_mem_nil, List.not_mem_nil, false_imp_iff, implies_true, forall_const, D.cm, D.lay, D.lays, D.dep, D.deps, strOk_lit, lays_ints, deps_ints, Nat.max_self, Nat.max_zero, Nat.zero_max, Bool.and_self, Bool.true_and, Bool.and_true, Bool.and_false, Bool.false_and, Bool.or_false, Bool.or_true, Bool.true_or, Bool.false_or, List.any_cons, List.any_nil, decide_eq_true_eq, eq_self, toldD, (ok t ht).e.1, c, hw]
    exact ⟨hz, by have := g1 (by simp [c]); simpa [toldD, c] using this⟩
  · simp only [Ev.D.eq_refl, dPen1, dLenSet, dSrtR, dRo, dRoF, dRoT, roD, ro_un, ro_dat, ro_own, ro_hp, ro_law, ro_ownK, ro_ownT, List.forall_mem_map, flat_int, flat_str, flat_bl, flat_non, dSeq, dNext, dSet, dSetF, setSl, dVar, dTake, dC, dBin, dBinF, dB, dIfS, dIf, dRet, dRetN, dExpr, dNil, dCons, dTup, dLst, dFz, dAnd, dOr, dNot, dAndV, dOrV, dNotV, dCallD, dCallK, dCB, dCBF, dFor, dLC, dYes, dRng1, dRng2, dSeqI, gN, gT, gsNil, gsCons, dAsg, dNeg, dJoin, dFs, dJs, dFmt, dApp, dExt, dPop, dPopAt, dOwnIx, dOwnCB, dOwnL, dOwnR, dOwnSl, dSetIx, dSlT, dSlL, oNone, oSome, dBorn, optQ, ownAt, setOwnAt, lookAt, wipeD, dNewDT, dNewDK, dDGet, dDIn, dDPut, dSortT, rSrt, isDict, Ev.dictGet, Ev.dictPut, Option.isSome_none, Option.isSome_some, D.keyT, keysOf, D.key, exists_eq_left', exists_eq_left, Option.isSome, rRepL, rCatL, dRetF, dIfF, dPar, dRetOwn, dCallL, dCallLK, dPen2, dRev, dRevI, dIndex, endsL, startL, dNever, dBrk, dCnt, rAddD, rSubI, rIO, rMulI, rDivI, rModI, rPowI, rCI, rIxD, rIsN, rNotN, D.isN, rLen, rTuple, rList, rAbs, rInt, rStr, Ev.rRepr, Ev.rIsi, D.ty, kit_tab, startD, endsD, List.map_cons, List.map_nil, List.length_cons, List.length_nil, List.append_nil, List.nil_append, List.cons_append, List.getElem?_cons_zero, List.getElem?_cons_succ, List.getElem?_nil, List.set_cons_zero, List.set_cons_succ, List.replicate, List.replicate_succ, Nat.zero_add, Nat.zero_le, sizeLine, true_and, and_true, if_true, Ev.eq_int, Ev.eq_str, Ev.eq_bl, Ev.eq_non, lst_nil, tup_nil, List.map_eq_nil_iff, txt_join, rLt, rLe, rGt, rGe, atI_ofNat, atI_last, wLC, strsOf, intsOf, blsOf, Option.map_some, Ev.join_two, Ev.join_one, Ev.join_nil, List.sum_cons, List.sum_nil, PySem.Str.empty_append, ixN_ofNat, Option.some.injEq, exists_eq', List.length_map, decide_true, decide_false, Bool.not_true, Bool.not_false, Bool.true_eq_false, Bool.false_eq_true, false_and, and_false, if_false, ite_true, ite_false, Nat.reduceAdd, Nat.reduceSub, Nat.reduceMul, Nat.reduceLT, Nat.reduceLeDiff, Nat.reduceEqDiff, Nat.reducePow, Int.reduceToNat, Int.reducePow, pickL, List.filterMap_cons, List.filterMap_nil, and_self, Int.reduceLT, Int.reduceLE, Int.reduceNeg, Int.reduceAdd, Int.reduceMul, Int.reduceSub, Int.reduceEq, reduceIte, reduceCtorEq, lit_eq, String.reduceEq, Ev.rEq, Ev.rNe, Ev.rInD, cut_toN, cut_fromN, List.map_take, List.forall_mem_cons, List.forall_mem_nil, List.not_mem_nil, false_imp_iff, implies_true, forall_const, D.cm, D.lay, D.lays, D.dep, D.deps, strOk_lit, lays_ints, deps_ints, Nat.max_self, Nat.max_zero, Nat.zero_max, Bool.and_self, Bool.true_and, Bool.and_true, Bool.and_false, Bool.false_and, Bool.or_false, Bool.or_true, Bool.true_or, Bool.false_or, List.any_cons, List.any_nil, decide_eq_true_eq, eq_self, toldD, (ok t ht).e.1, c, hw]
    exact g2 (by simp [c])
theorem lc_two {Q : List D → DS → Prop} {T : List Told} {s0 s1 s2 s3 s4 s5 s6 : Sl} {p : Pen} (ok : ∀ t ∈ T, toldOk t) (hl : T.length ≤ 60) (h : Q (T.map evD) ⟨[s0, s1, s2, s3, s4, s5, s6, .un], p⟩) :
    wLC (gN 7) dYes (dSlT (dVar 7) oNone (oSome (dC (.int 2)))) [7] Q (T.map toldD) [] ⟨[s0, s1, s2, s3, s4, s5, s6, .un], p⟩ := by
  refine wLC_maps (l := T) (ι := toldD) (f := evD) (fun t ht acc k hz h => ?_) (by rw [sizeLine_eq]; omega) h
  simp only [Ev.D.eq_refl, dPen1, dLenSet, dSrtR, dRo, dRoF, dRoT, roD, ro_un, ro_dat, ro_own, ro_hp, ro_law, ro_ownK, ro_ownT, List.forall_mem_map, flat_int, flat_str, flat_bl, flat_non, dSeq, dNext, dSet, dSetF, setSl, dVar, dTake, dC, dBin, dBinF, dB, dIfS, dIf, dRet, dRetN, dExpr, dNil, dCons, dTup, dLst, dFz, dAnd, dOr, dNot, dAndV, dOrV, dNotV, dCallD, dCallK, dCB, dCBF, dFor, dLC, dYes, dRng1, dRng2, dSeqI, gN, gT, gsNil, gsCons, dAsg, dNeg, dJoin, dFs, dJs, dFmt, dApp, dExt, dPop, dPopAt, dOwnIx, dOwnCB, dOwnL, dOwnR, dOwnSl, dSetIx, dSlT, dSlL, oNone, oSome, dBorn, optQ, ownAt, setOwnAt, lookAt, wipeD, dNewDT, dNewDK, dDGet, dDIn, dDPut, dSortT, rSrt, isDict, Ev.dictGet, Ev.dictPut, Option.isSome_none, Option.isSome_some, D.keyT, keysOf, D.key, exists_eq_left', exists_eq_left, Option.isSome, rRepL, rCatL, dRetF, dIfF, dPar, dRetOwn, dCallL, dCallLK, dPen2, dRev, dRevI, dIndex, endsL, startL, dNever, dBrk, dCnt, rAddD, rSubI, rIO, rMulI, rDivI, rModI, rPowI, rCI, rIxD, rIsN, rNotN, D.isN, rLen, rTuple, rList, rAbs, rInt, rStr, Ev.rRepr, Ev.rIsi, D.ty, kit_tab, startD, endsD, List.map_cons, List.map_nil, List.length_cons, List.length_nil, List.append_nil, List.nil_append, List.cons_append, List.getElem?_cons_zero, List.getElem?_cons_succ, List.getElem?_nil, List.set_cons_zero, List.set_cons_succ, List.replicate, List.replicate_succ, Nat.zero_add, Nat.zero_le, sizeLine, true_and, and_true, if_true, Ev.eq_int, Ev.eq_str, Ev.eq_bl, Ev.eq_non, lst_nil, tup_nil, List.map_eq_nil_iff, txt_join, rLt, rLe, rGt, rGe, atI_ofNat, atI_last, wLC, strsOf, intsOf, blsOf, Option.map_some, Ev.join_two, Ev.join_one, Ev.join_nil, List.sum_cons, List.sum_nil, PySem.Str.empty_append, ixN_ofNat, Option.some.injEq, exists_eq', List.length_map, decide_true, decide_false, Bool.not_true, Bool.not_false, Bool.true_eq_false, Bool.false_eq_true, false_and, and_false, if_false, ite_true, ite_false, Nat.reduceAdd, Nat.reduceSub, Nat.reduceMul, Nat.reduceLT, Nat.reduceLeDiff, Nat.reduceEqDiff, Nat.reducePow, Int.reduceToNat, Int.reducePow, pickL, List.filterMap_cons, List.filterMap_nil, and_self, Int.reduceLT, Int.reduceLE, Int.reduceNeg, Int.reduceAdd, Int.reduceMul, Int.reduceSub, Int.reduceEq, reduceIte, reduceCtorEq, lit_eq, String.reduceEq, Ev.rEq, Ev.rNe, Ev.rInD, cut_toN, cut_fromN, List.map_take, List.forall_mem_cons, List.forall_mem_nil, List.not_mem_nil, false_imp_iff, implies_true, forall_const, D.cm, D.lay, D.lays, D.dep, D.deps, strOk_lit, lays_ints, deps_ints, Nat.max_self, Nat.max_zero, Nat.zero_max, Bool.and_self, Bool.true_and, Bool.and_true, Bool.and_false, Bool.false_and, Bool.or_false, Bool.or_true, Bool.true_or, Bool.false_or, List.any_cons, List.any_nil, decide_eq_true_eq, eq_self, toldD]
  exact ⟨hz, h⟩
theorem hsp__law_halves_right : ∀ ds p Q W, ds.length = 3 → sp__law_halves_right ds p Q W → b__law_halves_right W0 (endsD Q) (startD n__law_halves_right.length ds p) := by
  rintro _ pp Q W - ⟨b, n, m, l, l2, rfl, kb, h1, h2, q⟩
  obtain ⟨x, p, qq, t, hv⟩ := halves_ex kb h1 h2
  simp only [Ev.D.eq_refl, dPen1, dLenSet, dSrtR, dRo, dRoF, dRoT, roD, ro_un, ro_dat, ro_own, ro_hp, ro_law, ro_ownK, ro_ownT, List.forall_mem_map, flat_int, flat_str, flat_bl, flat_non, dSeq, dNext, dSet, dSetF, setSl, dVar, dTake, dC, dBin, dBinF, dB, dIfS, dIf, dRet, dRetN, dExpr, dNil, dCons, dTup, dLst, dFz, dAnd, dOr, dNot, dAndV, dOrV, dNotV, dCallD, dCallK, dCB, dCBF, dFor, dLC, dYes, dRng1, dRng2, dSeqI, gN, gT, gsNil, gsCons, dAsg, dNeg, dJoin, dFs, dJs, dFmt, dApp, dExt, dPop, dPopAt, dOwnIx, dOwnCB, dOwnL, dOwnR, dOwnSl, dSetIx, dSlT, dSlL, oNone, oSome, dBorn, optQ, ownAt, setOwnAt, lookAt, wipeD, dNewDT, dNewDK, dDGet, dDIn, dDPut, dSortT, rSrt, isDict, Ev.dictGet, Ev.dictPut, Option.isSome_none, Option.isSome_some, D.keyT, keysOf, D.key, exists_eq_left', exists_eq_left, Option.isSome, rRepL, rCatL, dRetF, dIfF, dPar, dRetOwn, dCallL, dCallLK, dPen2, dRev, dRevI, dIndex, endsL, startL, dNever, dBrk, dCnt, rAddD, rSubI, rIO, rMulI, rDivI, rModI, rPowI, rCI, rIxD, rIsN, rNotN, D.isN, rLen, rTuple, rList, rAbs, rInt, rStr, Ev.rRepr, Ev.rIsi, D.ty, kit_tab, startD, endsD, List.map_cons, List.map_nil, List.length_cons, List.length_nil, List.append_nil, List.nil_append, List.cons_append, List.getElem?_cons_zero, List.getElem?_cons_succ, List.getElem?_nil, List.set_cons_zero, List.set_cons_succ, List.replicate, List.replicate_succ, Nat.zero_add, Nat.zero_le, sizeLine, true_and, and_true, if_true, Ev.eq_int, Ev.eq_str, Ev.eq_bl, Ev.eq_non, lst_nil, tup_nil, List.map_eq_nil_iff, txt_join, rLt, rLe, rGt, rGe, atI_ofNat, atI_last, wLC, strsOf, intsOf, blsOf, Option.map_some, Ev.join_two, Ev.join_one, Ev.join_nil, List.sum_cons, List.sum_nil, PySem.Str.empty_append, ixN_ofNat, Option.some.injEq, exists_eq', List.length_map, decide_true, decide_false, Bool.not_true, Bool.not_false, Bool.true_eq_false, Bool.false_eq_true, false_and, and_false, if_false, ite_true, ite_false, Nat.reduceAdd, Nat.reduceSub, Nat.reduceMul, Nat.reduceLT, Nat.reduceLeDiff, Nat.reduceEqDiff, Nat.reducePow, Int.reduceToNat, Int.reducePow, pickL, List.filterMap_cons, List.filterMap_nil, and_self, Int.reduceLT, Int.reduceLE, Int.reduceNeg, Int.reduceAdd, Int.reduceMul, Int.reduceSub, Int.reduceEq, reduceIte, reduceCtorEq, lit_eq, String.reduceEq, Ev.rEq, Ev.rNe, Ev.rInD, cut_toN, cut_fromN, List.map_take, List.forall_mem_cons, List.forall_mem_nil, List.not_mem_nil, false_imp_iff, implies_true, forall_const, D.cm, D.lay, D.lays, D.dep, D.deps, strOk_lit, lays_ints, deps_ints, Nat.max_self, Nat.max_zero, Nat.zero_max, Bool.and_self, Bool.true_and, Bool.and_true, Bool.and_false, Bool.false_and, Bool.or_false, Bool.or_true, Bool.true_or, Bool.false_or, List.any_cons, List.any_nil, decide_eq_true_eq, eq_self, n__law_halves_right, b__law_halves_right, b__law_halves_right_0, p__law_halves_right_0, sp_least_above]
  refine ⟨b, n, m, l, l2, x, rfl, kb.wf, h1, h2, hv.hx, ?_⟩
  simp only [Ev.D.eq_refl, dPen1, dLenSet, dSrtR, dRo, dRoF, dRoT, roD, ro_un, ro_dat, ro_own, ro_hp, ro_law, ro_ownK, ro_ownT, List.forall_mem_map, flat_int, flat_str, flat_bl, flat_non, dSeq, dNext, dSet, dSetF, setSl, dVar, dTake, dC, dBin, dBinF, dB, dIfS, dIf, dRet, dRetN, dExpr, dNil, dCons, dTup, dLst, dFz, dAnd, dOr, dNot, dAndV, dOrV, dNotV, dCallD, dCallK, dCB, dCBF, dFor, dLC, dYes, dRng1, dRng2, dSeqI, gN, gT, gsNil, gsCons, dAsg, dNeg, dJoin, dFs, dJs, dFmt, dApp, dExt, dPop, dPopAt, dOwnIx, dOwnCB, dOwnL, dOwnR, dOwnSl, dSetIx, dSlT, dSlL, oNone, oSome, dBorn, optQ, ownAt, setOwnAt, lookAt, wipeD, dNewDT, dNewDK, dDGet, dDIn, dDPut, dSortT, rSrt, isDict, Ev.dictGet, Ev.dictPut, Option.isSome_none, Option.isSome_some, D.keyT, keysOf, D.key, exists_eq_left', exists_eq_left, Option.isSome, rRepL, rCatL, dRetF, dIfF, dPar, dRetOwn, dCallL, dCallLK, dPen2, dRev, dRevI, dIndex, endsL, startL, dNever, dBrk, dCnt, rAddD, rSubI, rIO, rMulI, rDivI, rModI, rPowI, rCI, rIxD, rIsN, rNotN, D.isN, rLen, rTuple, rList, rAbs, rInt, rStr, Ev.rRepr, Ev.rIsi, D.ty, kit_tab, startD, endsD, List.map_cons, List.map_nil, List.length_cons, List.length_nil, List.append_nil, List.nil_append, List.cons_append, List.getElem?_cons_zero, List.getElem?_cons_succ, List.getElem?_nil, List.set_cons_zero, List.set_cons_succ, List.replicate, List.replicate_succ, Nat.zero_add, Nat.zero_le, sizeLine, true_and, and_true, if_true, Ev.eq_int, Ev.eq_str, Ev.eq_bl, Ev.eq_non, lst_nil, tup_nil, List.map_eq_nil_iff, txt_join, rLt, rLe, rGt, rGe, atI_ofNat, atI_last, wLC, strsOf, intsOf, blsOf, Option.map_some, Ev.join_two, Ev.join_one, Ev.join_nil, List.sum_cons, List.sum_nil, PySem.Str.empty_append, ixN_ofNat, Option.some.injEq, exists_eq', List.length_map, decide_true, decide_false, Bool.not_true, Bool.not_false, Bool.true_eq_false, Bool.false_eq_true, false_and, and_false, if_false, ite_true, ite_false, Nat.reduceAdd, Nat.reduceSub, Nat.reduceMul, Nat.reduceLT, Nat.reduceLeDiff, Nat.reduceEqDiff, Nat.reducePow, Int.reduceToNat, Int.reducePow, pickL, List.filterMap_cons, List.filterMap_nil, and_self, Int.reduceLT, Int.reduceLE, Int.reduceNeg, Int.reduceAdd, Int.reduceMul, Int.reduceSub, Int.reduceEq, reduceIte, reduceCtorEq, lit_eq, String.reduceEq, Ev.rEq, Ev.rNe, Ev.rInD, cut_toN, cut_fromN, List.map_take, List.forall_mem_cons, List.forall_mem_nil, List.not_mem_nil, false_imp_iff, implies_true, forall_const, D.cm, D.lay, D.lays, D.dep, D.deps, strOk_lit, lays_ints, deps_ints, Nat.max_self, Nat.max_zero, Nat.zero_max, Bool.and_self, Bool.true_and, Bool.and_true, Bool.and_false, Bool.false_and, Bool.or_false, Bool.or_true, Bool.true_or, Bool.false_or, List.any_cons, List.any_nil, decide_eq_true_eq, eq_self, b__law_halves_right_1, p__law_halves_right_1]
  by_cases c1 : n = x
  · simp only [Ev.D.eq_refl, dPen1, dLenSet, dSrtR, dRo, dRoF, dRoT, roD, ro_un, ro_dat, ro_own, ro_hp, ro_law, ro_ownK, ro_ownT, List.forall_mem_map, flat_int, flat_str, flat_bl, flat_non, dSeq, dNext, dSet, dSetF, setSl, dVar, dTake, dC, dBin, dBinF, dB, dIfS, dIf, dRet, dRetN, dExpr, dNil, dCons, dTup, dLst, dFz, dAnd, dOr, dNot, dAndV, dOrV, dNotV, dCallD, dCallK, dCB, dCBF, dFor, dLC, dYes, dRng1, dRng2, dSeqI, gN, gT, gsNil, gsCons, dAsg, dNeg, dJoin, dFs, dJs, dFmt, dApp, dExt, dPop, dPopAt, dOwnIx, dOwnCB, dOwnL, dOwnR, dOwnSl, dSetIx, dSlT, dSlL, oNone, oSome, dBorn, optQ, ownAt, setOwnAt, lookAt, wipeD, dNewDT, dNewDK, dDGet, dDIn, dDPut, dSortT, rSrt, isDict, Ev.dictGet, Ev.dictPut, Option.isSome_none, Option.isSome_some, D.keyT, keysOf, D.key, exists_eq_left', exists_eq_left, Option.isSome, rRepL, rCatL, dRetF, dIfF, dPar, dRetOwn, dCallL, dCallLK, dPen2, dRev, dRevI, dIndex, endsL, startL, dNever, dBrk, dCnt, rAddD, rSubI, rIO, rMulI, rDivI, rModI, rPowI, rCI, rIxD, rIsN, rNotN, D.isN, rLen, rTuple, rList, rAbs, rInt, rStr, Ev.rRepr, Ev.rIsi, D.ty, kit_tab, startD, endsD, List.map_cons, List.map_nil, List.length_cons, List.length_nil, List.append_nil, List.nil_append, List.cons_append, List.getElem?_cons_zero, List.getElem?_cons_succ, List.getElem?_nil, List.set_cons_zero, List.set_cons_succ, List.replicate, List.replicate_succ, Nat.zero_add, Nat.zero_le, sizeLine, true_and, and_true, if_true, Ev.eq_int, Ev.eq_str, Ev.eq_bl, Ev.eq_non, lst_nil, tup_nil, List.map_eq_nil_iff, txt_join, rLt, rLe, rGt, rGe, atI_ofNat, atI_last, wLC, strsOf, intsOf, blsOf, Option.map_some, Ev.join_two, Ev.join_one, Ev.join_nil, List.sum_cons, List.sum_nil, PySem.Str.empty_append, ixN_ofNat, Option.some.injEq, exists_eq', List.length_map, decide_true, decide_false, Bool.not_true, Bool.not_false, Bool.true_eq_false, Bool.false_eq_true, false_and, and_false, if_false, ite_true, ite_false, Nat.reduceAdd, Nat.reduceSub, Nat.reduceMul, Nat.reduceLT, Nat.reduceLeDiff, Nat.reduceEqDiff, Nat.reducePow, Int.reduceToNat, Int.reducePow, pickL, List.filterMap_cons, List.filterMap_nil, and_self, Int.reduceLT, Int.reduceLE, Int.reduceNeg, Int.reduceAdd, Int.reduceMul, Int.reduceSub, Int.reduceEq, reduceIte, reduceCtorEq, lit_eq, String.reduceEq, Ev.rEq, Ev.rNe, Ev.rInD, cut_toN, cut_fromN, List.map_take, List.forall_mem_cons, List.forall_mem_nil, List.not_mem_nil, false_imp_iff, implies_true, forall_const, D.cm, D.lay, D.lays, D.dep, D.deps, strOk_lit, lays_ints, deps_ints, Nat.max_self, Nat.max_zero, Nat.zero_max, Bool.and_self, Bool.true_and, Bool.and_true, Bool.and_false, Bool.false_and, Bool.or_false, Bool.or_true, Bool.true_or, Bool.false_or, List.any_cons, List.any_nil, decide_eq_true_eq, eq_self, c1]
    exact q
  by_cases c2 : m = x
  · simp only [Ev.D.eq_refl, dPen1, dLenSet, dSrtR, dRo, dRoF, dRoT, roD, ro_un, ro_dat, ro_own, ro_hp, ro_law, ro_ownK, ro_ownT, List.forall_mem_map, flat_int, flat_str, flat_bl, flat_non, dSeq, dNext, dSet, dSetF, setSl, dVar, dTake, dC, dBin, dBinF, dB, dIfS, dIf, dRet, dRetN, dExpr, dNil, dCons, dTup, dLst, dFz, dAnd, dOr, dNot, dAndV, dOrV, dNotV, dCallD, dCallK, dCB, dCBF, dFor, dLC, dYes, dRng1, dRng2, dSeqI, gN, gT, gsNil, gsCons, dAsg, dNeg, dJoin, dFs, dJs, dFmt, dApp, dExt, dPop, dPopAt, dOwnIx, dOwnCB, dOwnL, dOwnR, dOwnSl, dSetIx, dSlT, dSlL, oNone, oSome, dBorn, optQ, ownAt, setOwnAt, lookAt, wipeD, dNewDT, dNewDK, dDGet, dDIn, dDPut, dSortT, rSrt, isDict, Ev.dictGet, Ev.dictPut, Option.isSome_none, Option.isSome_some, D.keyT, keysOf, D.key, exists_eq_left', exists_eq_left, Option.isSome, rRepL, rCatL, dRetF, dIfF, dPar, dRetOwn, dCallL, dCallLK, dPen2, dRev, dRevI, dIndex, endsL, startL, dNever, dBrk, dCnt, rAddD, rSubI, rIO, rMulI, rDivI, rModI, rPowI, rCI, rIxD, rIsN, rNotN, D.isN, rLen, rTuple, rList, rAbs, rInt, rStr, Ev.rRepr, Ev.rIsi, D.ty, kit_tab, startD, endsD, List.map_cons, List.map_nil, List.length_cons, List.length_nil, List.append_nil, List.nil_append, List.cons_append, List.getElem?_cons_zero, List.getElem?_cons_succ, List.getElem?_nil, List.set_cons_zero, List.set_cons_succ, List.replicate, List.replicate_succ, Nat.zero_add, Nat.zero_le, sizeLine, true_and, and_true, if_true, Ev.eq_int, Ev.eq_str, Ev.eq_bl, Ev.eq_non, lst_nil, tup_nil, List.map_eq_nil_iff, txt_join, rLt, rLe, rGt, rGe, atI_ofNat, atI_last, wLC, strsOf, intsOf, blsOf, Option.map_some, Ev.join_two, Ev.join_one, Ev.join_nil, List.sum_cons, List.sum_nil, PySem.Str.empty_append, ixN_ofNat, Option.some.injEq, exists_eq', List.length_map, decide_true, decide_false, Bool.not_true, Bool.not_false, Bool.true_eq_false, Bool.false_eq_true, false_and, and_false, if_false, ite_true, ite_false, Nat.reduceAdd, Nat.reduceSub, Nat.reduceMul, Nat.reduceLT, Nat.reduceLeDiff, Nat.reduceEqDiff, Nat.reducePow, Int.reduceToNat, Int.reducePow, pickL, List.filterMap_cons, List.filterMap_nil, and_self, Int.reduceLT, Int.reduceLE, Int.reduceNeg, Int.reduceAdd, Int.reduceMul, Int.reduceSub, Int.reduceEq, reduceIte, reduceCtorEq, lit_eq, String.reduceEq, Ev.rEq, Ev.rNe, Ev.rInD, cut_toN, cut_fromN, List.map_take, List.forall_mem_cons, List.forall_mem_nil, List.not_mem_nil, false_imp_iff, implies_true, forall_const, D.cm, D.lay, D.lays, D.dep, D.deps, strOk_lit, lays_ints, deps_ints, Nat.max_self, Nat.max_zero, Nat.zero_max, Bool.and_self, Bool.true_and, Bool.and_true, Bool.and_false, Bool.false_and, Bool.or_false, Bool.or_true, Bool.true_or, Bool.false_or, List.any_cons, List.any_nil, decide_eq_true_eq, eq_self, c1, c2]
    exact q
  simp only [Ev.D.eq_refl, dPen1, dLenSet, dSrtR, dRo, dRoF, dRoT, roD, ro_un, ro_dat, ro_own, ro_hp, ro_law, ro_ownK, ro_ownT, List.forall_mem_map, flat_int, flat_str, flat_bl, flat_non, dSeq, dNext, dSet, dSetF, setSl, dVar, dTake, dC, dBin, dBinF, dB, dIfS, dIf, dRet, dRetN, dExpr, dNil, dCons, dTup, dLst, dFz, dAnd, dOr, dNot, dAndV, dOrV, dNotV, dCallD, dCallK, dCB, dCBF, dFor, dLC, dYes, dRng1, dRng2, dSeqI, gN, gT, gsNil, gsCons, dAsg, dNeg, dJoin, dFs, dJs, dFmt, dApp, dExt, dPop, dPopAt, dOwnIx, dOwnCB, dOwnL, dOwnR, dOwnSl, dSetIx, dSlT, dSlL, oNone, oSome, dBorn, optQ, ownAt, setOwnAt, lookAt, wipeD, dNewDT, dNewDK, dDGet, dDIn, dDPut, dSortT, rSrt, isDict, Ev.dictGet, Ev.dictPut, Option.isSome_none, Option.isSome_some, D.keyT, keysOf, D.key, exists_eq_left', exists_eq_left, Option.isSome, rRepL, rCatL, dRetF, dIfF, dPar, dRetOwn, dCallL, dCallLK, dPen2, dRev, dRevI, dIndex, endsL, startL, dNever, dBrk, dCnt, rAddD, rSubI, rIO, rMulI, rDivI, rModI, rPowI, rCI, rIxD, rIsN, rNotN, D.isN, rLen, rTuple, rList, rAbs, rInt, rStr, Ev.rRepr, Ev.rIsi, D.ty, kit_tab, startD, endsD, List.map_cons, List.map_nil, List.length_cons, List.length_nil, List.append_nil, List.nil_append, List.cons_append, List.getElem?_cons_zero, List.getElem?_cons_succ, List.getElem?_nil, List.set_cons_zero, List.set_cons_succ, List.replicate, List.replicate_succ, Nat.zero_add, Nat.zero_le, sizeLine, true_and, and_true, if_true, Ev.eq_int, Ev.eq_str, Ev.eq_bl, Ev.eq_non, lst_nil, tup_nil, List.map_eq_nil_iff, txt_join, rLt, rLe, rGt, rGe, atI_ofNat, atI_last, wLC, strsOf, intsOf, blsOf, Option.map_some, Ev.join_two, Ev.join_one, Ev.join_nil, List.sum_cons, List.sum_nil, PySem.Str.empty_append, ixN_ofNat, Option.some.injEq, exists_eq', List.length_map, decide_true, decide_false, Bool.not_true, Bool.not_false, Bool.true_eq_false, Bool.false_eq_true, false_and, and_false, if_false, ite_true, ite_false, Nat.reduceAdd, Nat.reduceSub, Nat.reduceMul, Nat.reduceLT, Nat.reduceLeDiff, Nat.reduceEqDiff, Nat.reducePow, Int.reduceToNat, Int.reducePow, pickL, List.filterMap_cons, List.filterMap_nil, and_self, Int.reduceLT, Int.reduceLE, Int.reduceNeg, Int.reduceAdd, Int.reduceMul, Int.reduceSub, Int.reduceEq, reduceIte, reduceCtorEq, lit_eq, String.reduceEq, Ev.rEq, Ev.rNe, Ev.rInD, cut_toN, cut_fromN, List.map_take, List.forall_mem_cons, List.forall_mem_nil, List.not_mem_nil, false_imp_iff, implies_true, forall_const, D.cm, D.lay, D.lays, D.dep, D.deps, strOk_lit, lays_ints, deps_ints, Nat.max_self, Nat.max_zero, Nat.zero_max, Bool.and_self, Bool.true_and, Bool.and_true, Bool.and_false, Bool.false_and, Bool.or_false, Bool.or_true, Bool.true_or, Bool.false_or, List.any_cons, List.any_nil, decide_eq_true_eq, eq_self, c1, c2, b__law_halves_right_2, p__law_halves_right_2, sp_passed]
  refine ⟨b, some n, some m, l, l2, rfl, kb.wf, h1, h2, ?_⟩
  simp only [Ev.D.eq_refl, dPen1, dLenSet, dSrtR, dRo, dRoF, dRoT, roD, ro_un, ro_dat, ro_own, ro_hp, ro_law, ro_ownK, ro_ownT, List.forall_mem_map, flat_int, flat_str, flat_bl, flat_non, dSeq, dNext, dSet, dSetF, setSl, dVar, dTake, dC, dBin, dBinF, dB, dIfS, dIf, dRet, dRetN, dExpr, dNil, dCons, dTup, dLst, dFz, dAnd, dOr, dNot, dAndV, dOrV, dNotV, dCallD, dCallK, dCB, dCBF, dFor, dLC, dYes, dRng1, dRng2, dSeqI, gN, gT, gsNil, gsCons, dAsg, dNeg, dJoin, dFs, dJs, dFmt, dApp, dExt, dPop, dPopAt, dOwnIx, dOwnCB, dOwnL, dOwnR, dOwnSl, dSetIx, dSlT, dSlL, oNone, oSome, dBorn, optQ, ownAt, setOwnAt, lookAt, wipeD, dNewDT, dNewDK, dDGet, dDIn, dDPut, dSortT, rSrt, isDict, Ev.dictGet, Ev.dictPut, Option.isSome_none, Option.isSome_some, D.keyT, keysOf, D.key, exists_eq_left', exists_eq_left, Option.isSome, rRepL, rCatL, dRetF, dIfF, dPar, dRetOwn, dCallL, dCallLK, dPen2, dRev, dRevI, dIndex, endsL, startL, dNever, dBrk, dCnt, rAddD, rSubI, rIO, rMulI, rDivI, rModI, rPowI, rCI, rIxD, rIsN, rNotN, D.isN, rLen, rTuple, rList, rAbs, rInt, rStr, Ev.rRepr, Ev.rIsi, D.ty, kit_tab, startD, endsD, List.map_cons, List.map_nil, List.length_cons, List.length_nil, List.append_nil, List.nil_append, List.cons_append, List.getElem?_cons_zero, List.getElem?_cons_succ, List.getElem?_nil, List.set_cons_zero, List.set_cons_succ, List.replicate, List.replicate_succ, Nat.zero_add, Nat.zero_le, sizeLine, true_and, and_true, if_true, Ev.eq_int, Ev.eq_str, Ev.eq_bl, Ev.eq_non, lst_nil, tup_nil, List.map_eq_nil_iff, txt_join, rLt, rLe, rGt, rGe, atI_ofNat, atI_last, wLC, strsOf, intsOf, blsOf, Option.map_some, Ev.join_two, Ev.join_one, Ev.join_nil, List.sum_cons, List.sum_nil, PySem.Str.empty_append, ixN_ofNat, Option.some.injEq, exists_eq', List.length_map, decide_true, decide_false, Bool.not_true, Bool.not_false, Bool.true_eq_false, Bool.false_eq_true, false_and, and_false, if_false, ite_true, ite_false, Nat.reduceAdd, Nat.reduceSub, Nat.reduceMul, Nat.reduceLT, Nat.reduceLeDiff, Nat.reduceEqDiff, Nat.reducePow, Int.reduceToNat, Int.reducePow, pickL, List.filterMap_cons, List.filterMap_nil, and_self, Int.reduceLT, Int.reduceLE, Int.reduceNeg, Int.reduceAdd, Int.reduceMul, Int.reduceSub, Int.reduceEq, reduceIte, reduceCtorEq, lit_eq, String.reduceEq, Ev.rEq, Ev.rNe, Ev.rInD, cut_toN, cut_fromN, List.map_take, List.forall_mem_cons, List.forall_mem_nil, List.not_mem_nil, false_imp_iff, implies_true, forall_const, D.cm, D.lay, D.lays, D.dep, D.deps, strOk_lit, lays_ints, deps_ints, Nat.max_self, Nat.max_zero, Nat.zero_max, Bool.and_self, Bool.true_and, Bool.and_true, Bool.and_false, Bool.false_and, Bool.or_false, Bool.or_true, Bool.true_or, Bool.false_or, List.any_cons, List.any_nil, decide_eq_true_eq, eq_self, b__law_halves_right_3, p__law_halves_right_3, sp_passed]
  refine ⟨b, some n, some x, l, t, rfl, kb.wf, h1, hv.lx, ?_⟩
  have hlt := byP_len (b := b) h1 h2
  have hl1 := byP_len (b := b) h1 hv.lx
  have hl2 := byP_len (b := b) hv.lx h2
  have we := ways_eq h1 h2 hv.k (hv.pn (fun z => c1 z.symm)) (hv.qn (fun z => c2 z.symm))
  have ne : n ≠ m := fun z => by
    subst z
    obtain ⟨p', rfl⟩ := head_of h1.up hv.k.a (hv.pn (fun z => c1 z.symm))
    obtain ⟨r, hr⟩ := full_head h2.up
    exact hv.k.pn _ List.mem_cons_self (by rw [hr]; simp)
  have he := halves_eq h1 h2 hv.lx hv.k c1 c2 ne
  refine lc_row byP_ok hl1 (by decide +kernel) ?_
  simp only [Ev.D.eq_refl, dPen1, dLenSet, dSrtR, dRo, dRoF, dRoT, roD, ro_un, ro_dat, ro_own, ro_hp, ro_law, ro_ownK, ro_ownT, List.forall_mem_map, flat_int, flat_str, flat_bl, flat_non, dSeq, dNext, dSet, dSetF, setSl, dVar, dTake, dC, dBin, dBinF, dB, dIfS, dIf, dRet, dRetN, dExpr, dNil, dCons, dTup, dLst, dFz, dAnd, dOr, dNot, dAndV, dOrV, dNotV, dCallD, dCallK, dCB, dCBF, dFor, dLC, dYes, dRng1, dRng2, dSeqI, gN, gT, gsNil, gsCons, dAsg, dNeg, dJoin, dFs, dJs, dFmt, dApp, dExt, dPop, dPopAt, dOwnIx, dOwnCB, dOwnL, dOwnR, dOwnSl, dSetIx, dSlT, dSlL, oNone, oSome, dBorn, optQ, ownAt, setOwnAt, lookAt, wipeD, dNewDT, dNewDK, dDGet, dDIn, dDPut, dSortT, rSrt, isDict, Ev.dictGet, Ev.dictPut, Option.isSome_none, Option.isSome_some, D.keyT, keysOf, D.key, exists_eq_left', exists_eq_left, Option.isSome, rRepL, rCatL, dRetF, dIfF, dPar, dRetOwn, dCallL, dCallLK, dPen2, dRev, dRevI, dIndex, endsL, startL, dNever, dBrk, dCnt, rAddD, rSubI, rIO, rMulI, rDivI, rModI, rPowI, rCI, rIxD, rIsN, rNotN, D.isN, rLen, rTuple, rList, rAbs, rInt, rStr, Ev.rRepr, Ev.rIsi, D.ty, kit_tab, startD, endsD, List.map_cons, List.map_nil, List.length_cons, List.length_nil, List.append_nil, List.nil_append, List.cons_append, List.getElem?_cons_zero, List.getElem?_cons_succ, List.getElem?_nil, List.set_cons_zero, List.set_cons_succ, List.replicate, List.replicate_succ, Nat.zero_add, Nat.zero_le, sizeLine, true_and, and_true, if_true, Ev.eq_int, Ev.eq_str, Ev.eq_bl, Ev.eq_non, lst_nil, tup_nil, List.map_eq_nil_iff, txt_join, rLt, rLe, rGt, rGe, atI_ofNat, atI_last, wLC, strsOf, intsOf, blsOf, Option.map_some, Ev.join_two, Ev.join_one, Ev.join_nil, List.sum_cons, List.sum_nil, PySem.Str.empty_append, ixN_ofNat, Option.some.injEq, exists_eq', List.length_map, decide_true, decide_false, Bool.not_true, Bool.not_false, Bool.true_eq_false, Bool.false_eq_true, false_and, and_false, if_false, ite_true, ite_false, Nat.reduceAdd, Nat.reduceSub, Nat.reduceMul, Nat.reduceLT, Nat.reduceLeDiff, Nat.reduceEqDiff, Nat.reducePow, Int.reduceToNat, Int.reducePow, pickL, List.filterMap_cons, List.filterMap_nil, and_self, Int.reduceLT, Int.reduceLE, Int.reduceNeg, Int.reduceAdd, Int.reduceMul, Int.reduceSub, Int.reduceEq, reduceIte, reduceCtorEq, lit_eq, String.reduceEq, Ev.rEq, Ev.rNe, Ev.rInD, cut_toN, cut_fromN, List.map_take, List.forall_mem_cons, List.forall_mem_nil, List.not_mem_nil, false_imp_iff, implies_true, forall_const, D.cm, D.lay, D.lays, D.dep, D.deps, strOk_lit, lays_ints, deps_ints, Nat.max_self, Nat.max_zero, Nat.zero_max, Bool.and_self, Bool.true_and, Bool.and_true, Bool.and_false, Bool.false_and, Bool.or_false, Bool.or_true, Bool.true_or, Bool.false_or, List.any_cons, List.any_nil, decide_eq_true_eq, eq_self, b__law_halves_right_4, p__law_halves_right_4, sp_passed]
  refine ⟨b, some x, some m, t, l2, rfl, kb.wf, hv.lx, h2, ?_⟩
  refine lc_row byP_ok hl2 (by decide +kernel) ?_
  have f1 := List.length_filter_le (fun t : Told => decide (t.ev = Str.ofString "leave")) (byP b l t (some n) (some x))
  have f2 := List.length_filter_le (fun t : Told => decide (t.ev = Str.ofString "enter")) (byP b t l2 (some x) (some m))
  simp only [Ev.D.eq_refl, dPen1, dLenSet, dSrtR, dRo, dRoF, dRoT, roD, ro_un, ro_dat, ro_own, ro_hp, ro_law, ro_ownK, ro_ownT, List.forall_mem_map, flat_int, flat_str, flat_bl, flat_non, dSeq, dNext, dSet, dSetF, setSl, dVar, dTake, dC, dBin, dBinF, dB, dIfS, dIf, dRet, dRetN, dExpr, dNil, dCons, dTup, dLst, dFz, dAnd, dOr, dNot, dAndV, dOrV, dNotV, dCallD, dCallK, dCB, dCBF, dFor, dLC, dYes, dRng1, dRng2, dSeqI, gN, gT, gsNil, gsCons, dAsg, dNeg, dJoin, dFs, dJs, dFmt, dApp, dExt, dPop, dPopAt, dOwnIx, dOwnCB, dOwnL, dOwnR, dOwnSl, dSetIx, dSlT, dSlL, oNone, oSome, dBorn, optQ, ownAt, setOwnAt, lookAt, wipeD, dNewDT, dNewDK, dDGet, dDIn, dDPut, dSortT, rSrt, isDict, Ev.dictGet, Ev.dictPut, Option.isSome_none, Option.isSome_some, D.keyT, keysOf, D.key, exists_eq_left', exists_eq_left, Option.isSome, rRepL, rCatL, dRetF, dIfF, dPar, dRetOwn, dCallL, dCallLK, dPen2, dRev, dRevI, dIndex, endsL, startL, dNever, dBrk, dCnt, rAddD, rSubI, rIO, rMulI, rDivI, rModI, rPowI, rCI, rIxD, rIsN, rNotN, D.isN, rLen, rTuple, rList, rAbs, rInt, rStr, Ev.rRepr, Ev.rIsi, D.ty, kit_tab, startD, endsD, List.map_cons, List.map_nil, List.length_cons, List.length_nil, List.append_nil, List.nil_append, List.cons_append, List.getElem?_cons_zero, List.getElem?_cons_succ, List.getElem?_nil, List.set_cons_zero, List.set_cons_succ, List.replicate, List.replicate_succ, Nat.zero_add, Nat.zero_le, sizeLine, true_and, and_true, if_true, Ev.eq_int, Ev.eq_str, Ev.eq_bl, Ev.eq_non, lst_nil, tup_nil, List.map_eq_nil_iff, txt_join, rLt, rLe, rGt, rGe, atI_ofNat, atI_last, wLC, strsOf, intsOf, blsOf, Option.map_some, Ev.join_two, Ev.join_one, Ev.join_nil, List.sum_cons, List.sum_nil, PySem.Str.empty_append, ixN_ofNat, Option.some.injEq, exists_eq', List.length_map, decide_true, decide_false, Bool.not_true, Bool.not_false, Bool.true_eq_false, Bool.false_eq_true, false_and, and_false, if_false, ite_true, ite_false, Nat.reduceAdd, Nat.reduceSub, Nat.reduceMul, Nat.reduceLT, Nat.reduceLeDiff, Nat.reduceEqDiff, Nat.reducePow, Int.reduceToNat, Int.reducePow, pickL, List.filterMap_cons, List.filterMap_nil, and_self, Int.reduceLT, Int.reduceLE, Int.reduceNeg, Int.reduceAdd, Int.reduceMul, Int.reduceSub, Int.reduceEq, reduceIte, reduceCtorEq, lit_eq, String.reduceEq, Ev.rEq, Ev.rNe, Ev.rInD, cut_toN, cut_fromN, List.map_take, List.forall_mem_cons, List.forall_mem_nil, List.not_mem_nil, false_imp_iff, implies_true, forall_const, D.cm, D.lay, D.lays, D.dep, D.deps, strOk_lit, lays_ints, deps_ints, Nat.max_self, Nat.max_zero, Nat.zero_max, Bool.and_self, Bool.true_and, Bool.and_true, Bool.and_false, Bool.false_and, Bool.or_false, Bool.or_true, Bool.true_or, Bool.false_or, List.any_cons, List.any_nil, decide_eq_true_eq, eq_self, b__law_halves_right_5, p__law_halves_right_5, ← List.map_append]
  refine ⟨by omega, ?_⟩
  refine wLC_filt (l := byP b l l2 (some n) (some m)) (ι := toldD) (f := fun t => .str t.way) (t := fun t => decide (t.rm = some n) || decide (t.rm = some m)) (fun t ht acc k hz g1 g2 => ?_) (by rw [sizeLine_eq]; omega) ?_
  · have e1 : (D.int n).eq (optD t.rm) = decide (some n = t.rm) := opt_eq (some n) t.rm
    have e2 : (D.int m).eq (optD t.rm) = decide (some m = t.rm) := opt_eq (some m) t.rm
    by_cases d1 : some n = t.rm
    · simp only [Ev.D.eq_refl, dPen1, dLenSet, dSrtR, dRo, dRoF, dRoT, roD, ro_un, ro_dat, ro_own, ro_hp, ro_law, ro_ownK, ro_ownT, List.forall_mem_map, flat_int, flat_str, flat_bl, flat_non, dSeq, dNext, dSet, dSetF, setSl, dVar, dTake, dC, dBin, dBinF, dB, dIfS, dIf, dRet, dRetN, dExpr, dNil, dCons, dTup, dLst, dFz, dAnd, dOr, dNot, dAndV, dOrV, dNotV, dCallD, dCallK, dCB, dCBF, dFor, dLC, dYes, dRng1, dRng2, dSeqI, gN, gT, gsNil, gsCons, dAsg, dNeg, dJoin, dFs, dJs, dFmt, dApp, dExt, dPop, dPopAt, dOwnIx, dOwnCB, dOwnL, dOwnR, dOwnSl, dSetIx, dSlT, dSlL, oNone, oSome, dBorn, optQ, ownAt, setOwnAt, lookAt, wipeD, dNewDT, dNewDK, dDGet, dDIn, dDPut, dSortT, rSrt, isDict, Ev.dictGet, Ev.dictPut, Option.isSome_none, Option.isSome_some, D.keyT, keysOf, D.key, exists_eq_left', exists_eq_left, Option.isSome, rRepL, rCatL, dRetF, dIfF, dPar, dRetOwn, dCallL, dCallLK, dPen2, dRev, dRevI, dIndex, endsL, startL, dNever, dBrk, dCnt, rAddD, rSubI, rIO, rMulI, rDivI, rModI, rPowI, rCI, rIxD, rIsN, rNotN, D.isN, rLen, rTuple, rList, rAbs, rInt, rStr, Ev.rRepr, Ev.rIsi, D.ty, kit_tab, startD, endsD, List.map_cons, List.map_nil, List.length_cons, List.length_nil, List.append_nil, List.nil_append, List.cons_append, List.getElem?_cons_zero, List.getElem?_cons_succ, List.getElem?_nil, List.set_cons_zero, List.set_cons_succ, List.replicate, List.replicate_succ, Nat.zero_add, Nat.zero_le, sizeLine, true_and, and_true, if_true, Ev.eq_int, Ev.eq_str, Ev.eq_bl, Ev.eq_non, lst_nil, tup_nil, List.map_eq_nil_iff, txt_join, rLt, rLe, rGt, rGe, atI_ofNat, atI_last, wLC, strsOf, intsOf, blsOf, Option.map_some, Ev.join_two, Ev.join_one, Ev.join_nil, List.sum_cons, List.sum_nil, PySem.Str.empty_append, ixN_ofNat, Option.some.injEq, exists_eq', List.length_map, decide_true, decide_false, Bool.not_true, Bool.not_false, Bool.true_eq_false, Bool.false_eq_true, false_and, and_false, if_false, ite_true, ite_false, Nat.reduceAdd, Nat.reduceSub, Nat.reduceMul, Nat.reduceLT, Nat.reduceLeDiff, Nat.reduceEqDiff, Nat.reducePow, Int.reduceToNat, Int.reducePow, pickL, List.filterMap_cons, List.filterMap_nil, and_self, Int.reduceLT, Int.reduceLE, Int.reduceNeg, Int.reduceAdd, Int.reduceMul, Int.reduceSub, Int.reduceEq, reduceIte, reduceCtorEq, lit_eq, String.reduceEq, Ev.rEq, Ev.rNe, Ev.rInD, cut_toN, cut_fromN, List.map_take, List.forall_mem_cons, List.forall_mem_nil, List.not_mem_nil, false_imp_iff, implies_true, forall_const, D.cm, D.lay, D.lays, D.dep, D.deps, strOk_lit, lays_ints, deps_ints, Nat.max_self, Nat.max_zero, Nat.zero_max, Bool.and_self, Bool.true_and, Bool.and_true, Bool.and_false, Bool.false_and, Bool.or_false, Bool.or_true, Bool.true_or, Bool.false_or, List.any_cons, List.any_nil, decide_eq_true_eq, eq_self, toldD, opt_lay, opt_dep, e1, e2, eq_true d1]
      exact ⟨hz, g1 (by simp [d1])⟩
    · by_cases d2 : some m = t.rm
      · simp only [Ev.D.eq_refl, dPen1, dLenSet, dSrtR, dRo, dRoF, dRoT, roD, ro_un, ro_dat, ro_own, ro_hp, ro_law, ro_ownK, ro_ownT, List.forall_mem_map, flat_int, flat_str, flat_bl, flat_non, dSeq, dNext, dSet, dSetF, setSl, dVar, dTake, dC, dBin, dBinF, dB, dIfS, dIf, dRet, dRetN, dExpr, dNil, dCons, dTup, dLst, dFz, dAnd, dOr, dNot, dAndV, dOrV, dNotV, dCallD, dCallK, dCB, dCBF, dFor, dLC, dYes, dRng1, dRng2, dSeqI, gN, gT, gsNil, gsCons, dAsg, dNeg, dJoin, dFs, dJs, dFmt, dApp, dExt, dPop, dPopAt, dOwnIx, dOwnCB, dOwnL, dOwnR, dOwnSl, dSetIx, dSlT, dSlL, oNone, oSome, dBorn, optQ, ownAt, setOwnAt, lookAt, wipeD, dNewDT, dNewDK, dDGet, dDIn, dDPut, dSortT, rSrt, isDict, Ev.dictGet, Ev.dictPut, Option.isSome_none, Option.isSome_some, D.keyT, keysOf, D.key, exists_eq_left', exists_eq_left, Option.isSome, rRepL, rCatL, dRetF, dIfF, dPar, dRetOwn, dCallL, dCallLK, dPen2, dRev, dRevI, dIndex, endsL, startL, dNever, dBrk, dCnt, rAddD, rSubI, rIO, rMulI, rDivI, rModI, rPowI, rCI, rIxD, rIsN, rNotN, D.isN, rLen, rTuple, rList, rAbs, rInt, rStr, Ev.rRepr, Ev.rIsi, D.ty, kit_tab, startD, endsD, List.map_cons, List.map_nil, List.length_cons, List.length_nil, List.append_nil, List.nil_append, List.cons_append, List.getElem?_cons_zero, List.getElem?_cons_succ, List.getElem?_nil, List.set_cons_zero, List.set_cons_succ, List.replicate, List.replicate_succ, Nat.zero_add, Nat.zero_le, sizeLine, true_and, and_true, if_true, Ev.eq_int, Ev.eq_str, Ev.eq_bl, Ev.eq_non, lst_nil, tup_nil, List.map_eq_nil_iff, txt_join, rLt, rLe, rGt, rGe, atI_ofNat, atI_last, wLC, strsOf, intsOf, blsOf, Option.map_some, Ev.join_two, Ev.join_one, Ev.join_nil, List.sum_cons, List.sum_nil, PySem.Str.empty_append, ixN_ofNat, Option.some.injEq, exists_eq', List.length_map, decide_true, decide_false, Bool.not_true, Bool.not_false, Bool.true_eq_false, Bool.false_eq_true, false_and, and_false, if_false, ite_true, ite_false, Nat.reduceAdd, Nat.reduceSub, Nat.reduceMul, Nat.reduceLT, Nat.reduceLeDiff, Nat.reduceEqDiff, Nat.reducePow, Int.reduceToNat, Int.reducePow, pickL, List.filterMap_cons, List.filterMap_nil, and_self, Int.reduceLT, Int.reduceLE, Int.reduceNeg, Int.reduceAdd, Int.reduceMul, Int.reduceSub, Int.reduceEq, reduceIte, reduceCtorEq, lit_eq, String.reduceEq, Ev.rEq, Ev.rNe, Ev.rInD, cut_toN, cut_fromN, List.map_take, List.forall_mem_cons, List.forall_mem_nil, List.not_mem_nil, false_imp_iff, implies_true, forall_const, D.cm, D.lay, D.lays, D.dep, D.deps, strOk_lit, lays_ints, deps_ints, Nat.max_self, Nat.max_zero, Nat.zero_max, Bool.and_self, Bool.true_and, Bool.and_true, Bool.and_false, Bool.false_and, Bool.or_false, Bool.or_true, Bool.true_or, Bool.false_or, List.any_cons, List.any_nil, decide_eq_true_eq, eq_self, toldD, opt_lay, opt_dep, e1, e2, eq_false d1, eq_true d2]
        exact ⟨hz, g1 (by simp [d2])⟩
      · simp only [Ev.D.eq_refl, dPen1, dLenSet, dSrtR, dRo, dRoF, dRoT, roD, ro_un, ro_dat, ro_own, ro_hp, ro_law, ro_ownK, ro_ownT, List.forall_mem_map, flat_int, flat_str, flat_bl, flat_non, dSeq, dNext, dSet, dSetF, setSl, dVar, dTake, dC, dBin, dBinF, dB, dIfS, dIf, dRet, dRetN, dExpr, dNil, dCons, dTup, dLst, dFz, dAnd, dOr, dNot, dAndV, dOrV, dNotV, dCallD, dCallK, dCB, dCBF, dFor, dLC, dYes, dRng1, dRng2, dSeqI, gN, gT, gsNil, gsCons, dAsg, dNeg, dJoin, dFs, dJs, dFmt, dApp, dExt, dPop, dPopAt, dOwnIx, dOwnCB, dOwnL, dOwnR, dOwnSl, dSetIx, dSlT, dSlL, oNone, oSome, dBorn, optQ, ownAt, setOwnAt, lookAt, wipeD, dNewDT, dNewDK, dDGet, dDIn, dDPut, dSortT, rSrt, isDict, Ev.dictGet, Ev.dictPut, Option.isSome_none, Option.isSome_some, D.keyT, keysOf, D.key, exists_eq_left', exists_eq_left, Option.isSome, rRepL, rCatL, dRetF, dIfF, dPar, dRetOwn, dCallL, dCallLK, dPen2, dRev, dRevI, dIndex, endsL, startL, dNever, dBrk, dCnt, rAddD, rSubI, rIO, rMulI, rDivI, rModI, rPowI, rCI, rIxD, rIsN, rNotN, D.isN, rLen, rTuple, rList, rAbs, rInt, rStr, Ev.rRepr, Ev.rIsi, D.ty, kit_tab, startD, endsD, List.map_cons, List.map_nil, List.length_cons, List.length_nil, List.append_nil, List.nil_append, List.cons_append, List.getElem?_cons_zero, List.getElem?_cons_succ, List.getElem?_nil, List.set_cons_zero, List.set_cons_succ, List.replicate, List.replicate_succ, Nat.zero_add, Nat.zero_le, sizeLine, true_and, and_true, if_true, Ev.eq_int, Ev.eq_str, Ev.eq_bl, Ev.eq_non, lst_nil, tup_nil, List.map_eq_nil_iff, txt_join, rLt, rLe, rGt, rGe, atI_ofNat, atI_last, wLC, strsOf, intsOf, blsOf, Option.map_some, Ev.join_two, Ev.join_one, Ev.join_nil, List.sum_cons, List.sum_nil, PySem.Str.empty_append, ixN_ofNat, Option.some.injEq, exists_eq', List.length_map, decide_true, decide_false, Bool.not_true, Bool.not_false, Bool.true_eq_false, Bool.false_eq_true, false_and, and_false, if_false, ite_true, ite_false, Nat.reduceAdd, Nat.reduceSub, Nat.reduceMul, Nat.reduceLT, Nat.reduceLeDiff, Nat.reduceEqDiff, Nat.reducePow, Int.reduceToNat, Int.reducePow, pickL, List.filterMap_cons, List.filterMap_nil, and_self, Int.reduceLT, Int.reduceLE, Int.reduceNeg, Int.reduceAdd, Int.reduceMul, Int.reduceSub, Int.reduceEq, reduceIte, reduceCtorEq, lit_eq, String.reduceEq, Ev.rEq, Ev.rNe, Ev.rInD, cut_toN, cut_fromN, List.map_take, List.forall_mem_cons, List.forall_mem_nil, List.not_mem_nil, false_imp_iff, implies_true, forall_const, D.cm, D.lay, D.lays, D.dep, D.deps, strOk_lit, lays_ints, deps_ints, Nat.max_self, Nat.max_zero, Nat.zero_max, Bool.and_self, Bool.true_and, Bool.and_true, Bool.and_false, Bool.false_and, Bool.or_false, Bool.or_true, Bool.true_or, Bool.false_or, List.any_cons, List.any_nil, decide_eq_true_eq, eq_self, toldD, opt_lay, opt_dep, e1, e2, eq_false d1, eq_false d2]
        have d1' : ¬ t.rm = some n := fun z => d1 z.symm
        have d2' : ¬ t.rm = some m := fun z => d2 z.symm
        exact g2 (by simp [d1', d2'])
  rw [we]
  simp only [Ev.D.eq_refl, dPen1, dLenSet, dSrtR, dRo, dRoF, dRoT, roD, ro_un, ro_dat, ro_own, ro_hp, ro_law, ro_ownK, ro_ownT, List.forall_mem_map, flat_int, flat_str, flat_bl, flat_non, dSeq, dNext, dSet, dSetF, setSl, dVar, dTake, dC, dBin, dBinF, dB, dIfS, dIf, dRet, dRetN, dExpr, dNil, dCons, dTup, dLst, dFz, dAnd, dOr, dNot, dAndV, dOrV, dNotV, dCallD, dCallK, dCB, dCBF, dFor, dLC, dYes, dRng1, dRng2, dSeqI, gN, gT, gsNil, gsCons, dAsg, dNeg, dJoin, dFs, dJs, dFmt, dApp, dExt, dPop, dPopAt, dOwnIx, dOwnCB, dOwnL, dOwnR, dOwnSl, dSetIx, dSlT, dSlL, oNone, oSome, dBorn, optQ, ownAt, setOwnAt, lookAt, wipeD, dNewDT, dNewDK, dDGet, dDIn, dDPut, dSortT, rSrt, isDict, Ev.dictGet, Ev.dictPut, Option.isSome_none, Option.isSome_some, D.keyT, keysOf, D.key, exists_eq_left', exists_eq_left, Option.isSome, rRepL, rCatL, dRetF, dIfF, dPar, dRetOwn, dCallL, dCallLK, dPen2, dRev, dRevI, dIndex, endsL, startL, dNever, dBrk, dCnt, rAddD, rSubI, rIO, rMulI, rDivI, rModI, rPowI, rCI, rIxD, rIsN, rNotN, D.isN, rLen, rTuple, rList, rAbs, rInt, rStr, Ev.rRepr, Ev.rIsi, D.ty, kit_tab, startD, endsD, List.map_cons, List.map_nil, List.length_cons, List.length_nil, List.append_nil, List.nil_append, List.cons_append, List.getElem?_cons_zero, List.getElem?_cons_succ, List.getElem?_nil, List.set_cons_zero, List.set_cons_succ, List.replicate, List.replicate_succ, Nat.zero_add, Nat.zero_le, sizeLine, true_and, and_true, if_true, Ev.eq_int, Ev.eq_str, Ev.eq_bl, Ev.eq_non, lst_nil, tup_nil, List.map_eq_nil_iff, txt_join, rLt, rLe, rGt, rGe, atI_ofNat, atI_last, wLC, strsOf, intsOf, blsOf, Option.map_some, Ev.join_two, Ev.join_one, Ev.join_nil, List.sum_cons, List.sum_nil, PySem.Str.empty_append, ixN_ofNat, Option.some.injEq, exists_eq', List.length_map, decide_true, decide_false, Bool.not_true, Bool.not_false, Bool.true_eq_false, Bool.false_eq_true, false_and, and_false, if_false, ite_true, ite_false, Nat.reduceAdd, Nat.reduceSub, Nat.reduceMul, Nat.reduceLT, Nat.reduceLeDiff, Nat.reduceEqDiff, Nat.reducePow, Int.reduceToNat, Int.reducePow, pickL, List.filterMap_cons, List.filterMap_nil, and_self, Int.reduceLT, Int.reduceLE, Int.reduceNeg, Int.reduceAdd, Int.reduceMul, Int.reduceSub, Int.reduceEq, reduceIte, reduceCtorEq, lit_eq, String.reduceEq, Ev.rEq, Ev.rNe, Ev.rInD, cut_toN, cut_fromN, List.map_take, List.forall_mem_cons, List.forall_mem_nil, List.not_mem_nil, false_imp_iff, implies_true, forall_const, D.cm, D.lay, D.lays, D.dep, D.deps, strOk_lit, lays_ints, deps_ints, Nat.max_self, Nat.max_zero, Nat.zero_max, Bool.and_self, Bool.true_and, Bool.and_true, Bool.and_false, Bool.false_and, Bool.or_false, Bool.or_true, Bool.true_or, Bool.false_or, List.any_cons, List.any_nil, decide_eq_true_eq, eq_self, b__law_halves_right_6, p__law_halves_right_6, b__law_halves_right_6]
  refine lc_two byP_ok (by omega) ?_
  simp only [Ev.D.eq_refl, dPen1, dLenSet, dSrtR, dRo, dRoF, dRoT, roD, ro_un, ro_dat, ro_own, ro_hp, ro_law, ro_ownK, ro_ownT, List.forall_mem_map, flat_int, flat_str, flat_bl, flat_non, dSeq, dNext, dSet, dSetF, setSl, dVar, dTake, dC, dBin, dBinF, dB, dIfS, dIf, dRet, dRetN, dExpr, dNil, dCons, dTup, dLst, dFz, dAnd, dOr, dNot, dAndV, dOrV, dNotV, dCallD, dCallK, dCB, dCBF, dFor, dLC, dYes, dRng1, dRng2, dSeqI, gN, gT, gsNil, gsCons, dAsg, dNeg, dJoin, dFs, dJs, dFmt, dApp, dExt, dPop, dPopAt, dOwnIx, dOwnCB, dOwnL, dOwnR, dOwnSl, dSetIx, dSlT, dSlL, oNone, oSome, dBorn, optQ, ownAt, setOwnAt, lookAt, wipeD, dNewDT, dNewDK, dDGet, dDIn, dDPut, dSortT, rSrt, isDict, Ev.dictGet, Ev.dictPut, Option.isSome_none, Option.isSome_some, D.keyT, keysOf, D.key, exists_eq_left', exists_eq_left, Option.isSome, rRepL, rCatL, dRetF, dIfF, dPar, dRetOwn, dCallL, dCallLK, dPen2, dRev, dRevI, dIndex, endsL, startL, dNever, dBrk, dCnt, rAddD, rSubI, rIO, rMulI, rDivI, rModI, rPowI, rCI, rIxD, rIsN, rNotN, D.isN, rLen, rTuple, rList, rAbs, rInt, rStr, Ev.rRepr, Ev.rIsi, D.ty, kit_tab, startD, endsD, List.map_cons, List.map_nil, List.length_cons, List.length_nil, List.append_nil, List.nil_append, List.cons_append, List.getElem?_cons_zero, List.getElem?_cons_succ, List.getElem?_nil, List.set_cons_zero, List.set_cons_succ, List.replicate, List.replicate_succ, Nat.zero_add, Nat.zero_le, sizeLine, true_and, and_true, if_true, Ev.eq_int, Ev.eq_str, Ev.eq_bl, Ev.eq_non, lst_nil, tup_nil, List.map_eq_nil_iff, txt_join, rLt, rLe, rGt, rGe, atI_ofNat, atI_last, wLC, strsOf, intsOf, blsOf, Option.map_some, Ev.join_two, Ev.join_one, Ev.join_nil, List.sum_cons, List.sum_nil, PySem.Str.empty_append, ixN_ofNat, Option.some.injEq, exists_eq', List.length_map, decide_true, decide_false, Bool.not_true, Bool.not_false, Bool.true_eq_false, Bool.false_eq_true, false_and, and_false, if_false, ite_true, ite_false, Nat.reduceAdd, Nat.reduceSub, Nat.reduceMul, Nat.reduceLT, Nat.reduceLeDiff, Nat.reduceEqDiff, Nat.reducePow, Int.reduceToNat, Int.reducePow, pickL, List.filterMap_cons, List.filterMap_nil, and_self, Int.reduceLT, Int.reduceLE, Int.reduceNeg, Int.reduceAdd, Int.reduceMul, Int.reduceSub, Int.reduceEq, reduceIte, reduceCtorEq, lit_eq, String.reduceEq, Ev.rEq, Ev.rNe, Ev.rInD, cut_toN, cut_fromN, List.map_take, List.forall_mem_cons, List.forall_mem_nil, List.not_mem_nil, false_imp_iff, implies_true, forall_const, D.cm, D.lay, D.lays, D.dep, D.deps, strOk_lit, lays_ints, deps_ints, Nat.max_self, Nat.max_zero, Nat.zero_max, Bool.and_self, Bool.true_and, Bool.and_true, Bool.and_false, Bool.false_and, Bool.or_false, Bool.or_true, Bool.true_or, Bool.false_or, List.any_cons, List.any_nil, decide_eq_true_eq, eq_self]
  have okc : ∀ t' ∈ ((byP b l t (some n) (some x)).filter fun t => decide (t.ev = Str.ofString "leave")) ++ ((byP b t l2 (some x) (some m)).filter fun t => decide (t.ev = Str.ofString "enter")), toldOk t' := fun t' ht => by
    rcases List.mem_append.mp ht with ht | ht
    · exact byP_ok t' (List.mem_filter.mp ht).1
    · exact byP_ok t' (List.mem_filter.mp ht).1
  refine lc_two okc (by rw [List.length_append]; omega) ?_
  rw [← he]
  have l1 := evs_lay (T := byP b l l2 (some n) (some m)) byP_ok
  have l3 : D.deps ((byP b l l2 (some n) (some m)).map evD) ≤ 63 := Nat.le_trans (evs_dep _) (by decide)
  simp only [Ev.D.eq_refl, dPen1, dLenSet, dSrtR, dRo, dRoF, dRoT, roD, ro_un, ro_dat, ro_own, ro_hp, ro_law, ro_ownK, ro_ownT, List.forall_mem_map, flat_int, flat_str, flat_bl, flat_non, dSeq, dNext, dSet, dSetF, setSl, dVar, dTake, dC, dBin, dBinF, dB, dIfS, dIf, dRet, dRetN, dExpr, dNil, dCons, dTup, dLst, dFz, dAnd, dOr, dNot, dAndV, dOrV, dNotV, dCallD, dCallK, dCB, dCBF, dFor, dLC, dYes, dRng1, dRng2, dSeqI, gN, gT, gsNil, gsCons, dAsg, dNeg, dJoin, dFs, dJs, dFmt, dApp, dExt, dPop, dPopAt, dOwnIx, dOwnCB, dOwnL, dOwnR, dOwnSl, dSetIx, dSlT, dSlL, oNone, oSome, dBorn, optQ, ownAt, setOwnAt, lookAt, wipeD, dNewDT, dNewDK, dDGet, dDIn, dDPut, dSortT, rSrt, isDict, Ev.dictGet, Ev.dictPut, Option.isSome_none, Option.isSome_some, D.keyT, keysOf, D.key, exists_eq_left', exists_eq_left, Option.isSome, rRepL, rCatL, dRetF, dIfF, dPar, dRetOwn, dCallL, dCallLK, dPen2, dRev, dRevI, dIndex, endsL, startL, dNever, dBrk, dCnt, rAddD, rSubI, rIO, rMulI, rDivI, rModI, rPowI, rCI, rIxD, rIsN, rNotN, D.isN, rLen, rTuple, rList, rAbs, rInt, rStr, Ev.rRepr, Ev.rIsi, D.ty, kit_tab, startD, endsD, List.map_cons, List.map_nil, List.length_cons, List.length_nil, List.append_nil, List.nil_append, List.cons_append, List.getElem?_cons_zero, List.getElem?_cons_succ, List.getElem?_nil, List.set_cons_zero, List.set_cons_succ, List.replicate, List.replicate_succ, Nat.zero_add, Nat.zero_le, sizeLine, true_and, and_true, if_true, Ev.eq_int, Ev.eq_str, Ev.eq_bl, Ev.eq_non, lst_nil, tup_nil, List.map_eq_nil_iff, txt_join, rLt, rLe, rGt, rGe, atI_ofNat, atI_last, wLC, strsOf, intsOf, blsOf, Option.map_some, Ev.join_two, Ev.join_one, Ev.join_nil, List.sum_cons, List.sum_nil, PySem.Str.empty_append, ixN_ofNat, Option.some.injEq, exists_eq', List.length_map, decide_true, decide_false, Bool.not_true, Bool.not_false, Bool.true_eq_false, Bool.false_eq_true, false_and, and_false, if_false, ite_true, ite_false, Nat.reduceAdd, Nat.reduceSub, Nat.reduceMul, Nat.reduceLT, Nat.reduceLeDiff, Nat.reduceEqDiff, Nat.reducePow, Int.reduceToNat, Int.reducePow, pickL, List.filterMap_cons, List.filterMap_nil, and_self, Int.reduceLT, Int.reduceLE, Int.reduceNeg, Int.reduceAdd, Int.reduceMul, Int.reduceSub, Int.reduceEq, reduceIte, reduceCtorEq, lit_eq, String.reduceEq, Ev.rEq, Ev.rNe, Ev.rInD, cut_toN, cut_fromN, List.map_take, List.forall_mem_cons, List.forall_mem_nil, List.not_mem_nil, false_imp_iff, implies_true, forall_const, D.cm, D.lay, D.lays, D.dep, D.deps, strOk_lit, lays_ints, deps_ints, Nat.max_self, Nat.max_zero, Nat.zero_max, Bool.and_self, Bool.true_and, Bool.and_true, Bool.and_false, Bool.false_and, Bool.or_false, Bool.or_true, Bool.true_or, Bool.false_or, List.any_cons, List.any_nil, decide_eq_true_eq, eq_self, l1, l3]
  exact q
theorem ok__law_halves_right {P : Program} {w : World} {K : PySem.W.Frag} {mg : Str → Option Value} {base : Heap} (K_least_above_3 : Def P w K mg base 4 "least_above" 3 sp_least_above []) (K_passed_3 : DefL P w K mg base 6 "passed" 3 sp_passed []) {f : Addr} {fd : FuncData} (F : Fun K "_law_halves_right" "_law_halves_right" s__law_halves_right f fd) : FnG P w K mg base CX0 7 f fd ["_law_book_so", "_law_first", "_law_last"] (spD K 3 sp__law_halves_right) :=
 fn_d0 F sc__law_halves_right rfl (fun cdv A out s H E g r => run__law_halves_right K_least_above_3 K_passed_3 cdv A out s H E g r) hsp__law_halves_right
abbrev s_law : Stmt := topS 29
abbrev n_law : List Str := ["_law_script", "_law_pen", "_law_odd", "_law_book_so", "_law_some", "_law_first", "_law_last", "_law_one", "_law_entered", "_law_row"]
theorem sc_law : FnScope n_law ["_law_script"] (defScope s_law) := ⟨rfl, rfl, rfl, by decide +kernel, rfl, by decide +kernel, by decide +kernel⟩
def p_law_x2_0 : dS := (dIfS (dNot (dB (dCallD 3 [] sp__law_back_right (dCons (dVar 3) (dCons (dVar 5) (dCons (dVar 6) dNil)))))) (dRet (dC (.bl false))) dNext)
def p_law_x2_1 : dS := (dIfS (dAnd (dB (dBin (rNe) (dVar 5) (dVar 6))) (dNot (dB (dCallD 3 [] sp__law_above_right (dCons (dVar 3) (dCons (dVar 5) (dCons (dVar 6) dNil))))))) (dRet (dC (.bl false))) dNext)
def p_law_x2_2 : dS := (dIfS (dAnd (dB (dBin (rNotN) (dVar 5) (dC .non))) (dAnd (dB (dBin (rNotN) (dVar 6) (dC .non))) (dNot (dB (dCallD 3 [] sp__law_halves_right (dCons (dVar 3) (dCons (dVar 5) (dCons (dVar 6) dNil)))))))) (dRet (dC (.bl false))) dNext)
def b_law_x2_2 : dS := p_law_x2_2
def b_law_x2_1 : dS := dSeq p_law_x2_1 b_law_x2_2
def b_law_x2_0 : dS := dSeq p_law_x2_0 b_law_x2_1
def p_law_0 : dS := (dSetF 1 (dLst (dCons (dFz (dCBF rList (dCons (dFz (dSlL (dVar 0) oNone (oSome (dC (.int 63))))) dNil))) (dCons (dC (.int 0)) (dCons (dC (.int 0)) dNil)))))
def p_law_1 : dS := (dSetF 2 (dLst (dCons (dFz (dRev (dFz (dCBF rList (dCons (dFz (dSlL (dVar 0) oNone (oSome (dC (.int 63))))) dNil))))) (dCons (dC (.int 7)) (dCons (dC (.int 0)) dNil)))))
def p_law_2 : dS := (dSet 3 (dCallD 2 [] sp__law_rows (dCons (dPen1 1) (dCons (dC (.int 9)) dNil))))
def p_law_3 : dS := (dSetF 4 (dLC (dSeqI (dVar 3)) (gN 9) dYes (dBin rIxD (dVar 9) (dC (.int 0))) [9]))
def p_law_4 : dS := (dFor (dSeqI (dFz (dBinF rCatL (dTake 4) (dFz (dLst (dCons (dC .non) dNil)))))) (gN 5) (dFor (dSeqI (dFz (dBinF rCatL (dTake 4) (dFz (dLst (dCons (dC .non) dNil)))))) (gN 6) b_law_x2_0))
def p_law_5 : dS := (dSet 7 (dOwnIx 4 (dCallD 2 [] sp__law_draw (dCons (dPen1 2) (dCons (dOwnCB 4 rLen) dNil)))))
def p_law_6 : dS := (dSet 8 (dFz (dCallL 3 [] sp_passed (dCons (dVar 3) (dCons (dC .non) (dCons (dVar 7) dNil))))))
def p_law_7 : dS := (dIfS (dOr (dB (dBin (rNe) (dFz (dLC (dSeqI (dVar 8)) (gN 9) dYes (dBin rIxD (dVar 9) (dC (.int 1))) [9])) (dFz (dRev (dFz (dCallL 2 [] sp_elders (dCons (dVar 3) (dCons (dVar 7) dNil)))))))) (dB (dBin (rNe) (dBin rIxD (dBin rIxD (dVar 8) (dC (.int 0))) (dC (.int 0))) (dC (.str "enter"))))) (dRet (dC (.bl false))) dNext)
def p_law_8 : dS := (dIfS (dB (dBin (rNe) (dFz (dCallL 3 [] sp_passed (dCons (dVar 3) (dCons (dC .non) (dCons (dC .non) dNil))))) (dFz (dLst dNil)))) (dRet (dC (.bl false))) dNext)
def p_law_9 : dS := (dRet (dBin (rEq) (dFz (dLC (dSeqI (dVar 8)) (gN 9) dYes (dBin rIxD (dVar 9) (dC (.int 2))) [9])) (dFz (dBinF rCatL (dFz (dBinF rRepL (dFz (dLst (dCons (dC (.str "passed")) dNil))) (dBin rSubI (dCB rLen (dCons (dVar 8) dNil)) (dC (.int 1))))) (dFz (dLst (dCons (dC (.str "outer")) dNil)))))))
def b_law_9 : dS := p_law_9
def b_law_8 : dS := dSeq p_law_8 b_law_9
def b_law_7 : dS := dSeq p_law_7 b_law_8
def b_law_6 : dS := dSeq p_law_6 b_law_7
def b_law_5 : dS := dSeq p_law_5 b_law_6
def b_law_4 : dS := dSeq p_law_4 b_law_5
def b_law_3 : dS := dSeq p_law_3 b_law_4
def b_law_2 : dS := dSeq p_law_2 b_law_3
def b_law_1 : dS := dSeq p_law_1 b_law_2
def b_law_0 : dS := dSeq p_law_0 b_law_1
def b_law : dS := b_law_0
theorem run_law {P : Program} {w : World} {K : PySem.W.Frag} {mg : Str → Option Value} {base : Heap} (m_len : mg "len" = none) (m_list : mg "list" = none) (K__law_above_right_3 : Def P w K mg base 7 "_law_above_right" 3 sp__law_above_right []) (K__law_back_right_3 : Def P w K mg base 7 "_law_back_right" 3 sp__law_back_right []) (K__law_draw_2 : Def P w K mg base 1 "_law_draw" 2 sp__law_draw []) (K__law_halves_right_3 : Def P w K mg base 7 "_law_halves_right" 3 sp__law_halves_right []) (K__law_rows_2 : Def P w K mg base 2 "_law_rows" 2 sp__law_rows []) (K_elders_2 : DefL P w K mg base 3 "elders" 2 sp_elders []) (K_passed_3 : DefL P w K mg base 6 "passed" 3 sp_passed []) {f : Addr} (cdv : Value) (A : Around) (out : List Env) (s : Shared) (H : Hp) (E : XK) (g : A.guards = some []) (hrA : Room 7 (A.deeper (envOfC "law" (defScope s_law) s.heap.objs.size f cdv))) :
  DSs (cx0 P w K mg base n_law "law" (defScope s_law) f cdv A out s H E) E00 (defBody s_law) b_law := by
 have hgA : (A.deeper (envOfC "law" (defScope s_law) s.heap.objs.size f cdv)).guards = some [] := g
 have hun := hrA.un
 exact (dss_cons (t := p_law_0) (u := b_law_1) (ds_setF (i := 1) sc_law.nd rfl (by first | exact .inl rfl | exact .inr rfl) (df_lst (da_cons (de_fz (df_callTy cd_list (by rfl) m_list (by decide +kernel) (da_cons (de_fz (df_slL (de_var (pv 0)) do_none (do_some de_int))) da_nil))) (da_cons de_int (da_cons de_int da_nil)))))
  (dss_cons (t := p_law_1) (u := b_law_2) (ds_setF (i := 2) sc_law.nd rfl (by first | exact .inl rfl | exact .inr rfl) (df_lst (da_cons (de_fz (df_rev (de_fz (df_callTy cd_list (by rfl) m_list (by decide +kernel) (da_cons (de_fz (df_slL (de_var (pv 0)) do_none (do_some de_int))) da_nil))))) (da_cons de_int (da_cons de_int da_nil)))))
  (dss_cons (t := p_law_2) (u := b_law_3) (ds_set (i := 3) sc_law.nd rfl (by first | exact .inl rfl | exact .inr rfl) (de_callD K__law_rows_2 hgA hrA (by rfl) (da_cons (de_pen1 (pv 1)) (da_cons de_int da_nil))))
  (dss_cons (t := p_law_3) (u := b_law_4) (ds_setLc (E2 := E00) (own := [("_law_row", 9)]) (i := 4) rfl sc_law.nd rfl rfl (sw_true rfl rfl rfl (by decide +kernel)) (di_seq (de_var (pv 3))) (blkOk_by (N := n_law) (sc := (defScope s_law)) (own := [("_law_row", 9)]) (by decide +kernel)) (by decide) (fun _ _ _ _ _ => (dg_name (pg_name (i := 9) sc_law.nd rfl (by first | exact .inl rfl | exact .inr rfl)))) (fun _ _ _ _ _ => dts_nil) (fun _ _ _ _ _ => (de_ix (de_var (pv 9)) de_int (fun _ _ => rfl))))
  (dss_cons (t := p_law_4) (u := b_law_5) (ds_for PassesOwn.never rfl (di_seq (de_fz (df_op od_catL (de_take (pv 4)) (de_fz (df_lst (da_cons de_non da_nil)))))) (dg_name (pg_name (i := 5) sc_law.nd rfl (by first | exact .inl rfl | exact .inr rfl))) (dss_one (ds_for PassesOwn.never rfl (di_seq (de_fz (df_op od_catL (de_take (pv 4)) (de_fz (df_lst (da_cons de_non da_nil)))))) (dg_name (pg_name (i := 6) sc_law.nd rfl (by first | exact .inl rfl | exact .inr rfl))) (dss_cons (t := p_law_x2_0) (u := b_law_x2_1) (ds_if (dt_not (dt_val (de_callD K__law_back_right_3 hgA hrA (by rfl) (da_cons (de_var (pv 3)) (da_cons (de_var (pv 5)) (da_cons (de_var (pv 6)) da_nil)))))) (dss_one (ds_ret de_bl)) dss_nil)
  (dss_cons (t := p_law_x2_1) (u := b_law_x2_2) (ds_if ((dw_and (dt_cmp (od_ne (Nat.lt_of_le_of_lt (Nat.add_le_add_left (by decide) _) hun)) (de_var (pv 5)) (de_var (pv 6)) (nomark _)) (dw_and1 (dt_not (dt_val (de_callD K__law_above_right_3 hgA hrA (by rfl) (da_cons (de_var (pv 3)) (da_cons (de_var (pv 5)) (da_cons (de_var (pv 6)) da_nil))))))))).dt (dss_one (ds_ret de_bl)) dss_nil)
  (dss_one (t := p_law_x2_2) (ds_if ((dw_and (dt_cmp (od_notN) (de_var (pv 5)) de_non (nomark _)) (dw_and (dt_cmp (od_notN) (de_var (pv 6)) de_non (nomark _)) (dw_and1 (dt_not (dt_val (de_callD K__law_halves_right_3 hgA hrA (by rfl) (da_cons (de_var (pv 3)) (da_cons (de_var (pv 5)) (da_cons (de_var (pv 6)) da_nil)))))))))).dt (dss_one (ds_ret de_bl)) dss_nil)))))))
  (dss_cons (t := p_law_5) (u := b_law_6) (ds_set (i := 7) sc_law.nd rfl (by first | exact .inl rfl | exact .inr rfl) (de_ownIx (pv 4) (de_callD K__law_draw_2 hgA hrA (by rfl) (da_cons (de_pen1 (pv 2)) (da_cons (de_ownB (cd_len) (pv 4) (by rfl) m_len PySem.boot_len) da_nil))) (fun _ _ => rfl)))
  (dss_cons (t := p_law_6) (u := b_law_7) (ds_set (i := 8) sc_law.nd rfl (by first | exact .inl rfl | exact .inr rfl) (de_fz (df_callL K_passed_3 hgA hrA (by rfl) (da_cons (de_var (pv 3)) (da_cons de_non (da_cons (de_var (pv 7)) da_nil))))))
  (dss_cons (t := p_law_7) (u := b_law_8) (ds_if ((dw_or (dt_cmp (od_ne (Nat.lt_of_le_of_lt (Nat.add_le_add_left (by decide) _) hun)) (de_fz (df_lc (E2 := E00) (own := [("_law_row", 9)]) rfl sc_law.nd (di_seq (de_var (pv 8))) (blkOk_by (N := n_law) (sc := (defScope s_law)) (own := [("_law_row", 9)]) (by decide +kernel)) (by decide) (fun _ _ _ _ _ => (dg_name (pg_name (i := 9) sc_law.nd rfl (by first | exact .inl rfl | exact .inr rfl)))) (fun _ _ _ _ _ => dts_nil) (fun _ _ _ _ _ => (de_ix (de_var (pv 9)) de_int (fun _ _ => rfl))))) (de_fz (df_rev (de_fz (df_callL K_elders_2 hgA hrA (by rfl) (da_cons (de_var (pv 3)) (da_cons (de_var (pv 7)) da_nil)))))) (nomark _)) (dw_or1 (dt_cmp (od_ne (Nat.lt_of_le_of_lt (Nat.add_le_add_left (by decide) _) hun)) (de_ix (de_ix (de_var (pv 8)) de_int (fun _ _ => rfl)) de_int (fun _ _ => rfl)) de_str (nomark _))))).dt (dss_one (ds_ret de_bl)) dss_nil)
  (dss_cons (t := p_law_8) (u := b_law_9) (ds_if (dt_cmp (od_ne (Nat.lt_of_le_of_lt (Nat.add_le_add_left (by decide) _) hun)) (de_fz (df_callL K_passed_3 hgA hrA (by rfl) (da_cons (de_var (pv 3)) (da_cons de_non (da_cons de_non da_nil))))) (de_fz (df_lst da_nil)) (nomark _)) (dss_one (ds_ret de_bl)) dss_nil)
  (dss_one (t := p_law_9) (ds_ret (de_cmp (od_eq (Nat.lt_of_le_of_lt (Nat.add_le_add_left (by decide) _) hun)) (de_fz (df_lc (E2 := E00) (own := [("_law_row", 9)]) rfl sc_law.nd (di_seq (de_var (pv 8))) (blkOk_by (N := n_law) (sc := (defScope s_law)) (own := [("_law_row", 9)]) (by decide +kernel)) (by decide) (fun _ _ _ _ _ => (dg_name (pg_name (i := 9) sc_law.nd rfl (by first | exact .inl rfl | exact .inr rfl)))) (fun _ _ _ _ _ => dts_nil) (fun _ _ _ _ _ => (de_ix (de_var (pv 9)) de_int (fun _ _ => rfl))))) (de_fz (df_op od_catL (de_fz (df_op od_repL (de_fz (df_lst (da_cons de_str da_nil))) (de_op od_sub (de_callB (cd_len) (by rfl) m_len PySem.boot_len (da_cons (de_var (pv 8)) da_nil)) de_int))) (de_fz (df_lst (da_cons de_str da_nil))))) (nomark _)))))))))))))
theorem line_ex {b : List Row} (k : Bk b) {o : Option Int} (h : o ∈ (b.map fun r => some r.n) ++ [none]) : ∃ l, Line b o l := by
  rcases List.mem_append.mp h with h | h
  · obtain ⟨r, hr, rfl⟩ := List.mem_map.mp h
    obtain ⟨l, u, hl, hx⟩ := k.wf.lineM (List.mem_map.mpr ⟨r, hr, rfl⟩)
    exact ⟨l, u, hx, hl⟩
  · rw [List.mem_singleton] at h; subst h
    exact ⟨[], .nil, by simp, by simp⟩
def pairS (s0 s1 s2 : Sl) (b : List Row) (os : List (Option Int)) (s5 s6 : Sl) : List Sl := [s0, s1, s2, .dat (bookD b), .dat (.lst (os.map optD)), s5, s6, .un, .un, .un]
theorem turn_pair {s0 s1 s2 s4 : Sl} {b : List Row} {o o2 : Option Int} {l l2 : List Int} {p : Pen} {N : dEnds} (k : Bk b) (h1 : Line b o l) (h2 : Line b o2 l2)
    (hN : N.nx ⟨[s0, s1, s2, .dat (bookD b), s4, .dat (optD o), .dat (optD o2), .un, .un, .un], p⟩) : b_law_x2_0 W0 N ⟨[s0, s1, s2, .dat (bookD b), s4, .dat (optD o), .dat (optD o2), .un, .un, .un], p⟩ := by
  simp only [Ev.D.eq_refl, dPen1, dLenSet, dSrtR, dRo, dRoF, dRoT, roD, ro_un, ro_dat, ro_own, ro_hp, ro_law, ro_ownK, ro_ownT, List.forall_mem_map, flat_int, flat_str, flat_bl, flat_non, dSeq, dNext, dSet, dSetF, setSl, dVar, dTake, dC, dBin, dBinF, dB, dIfS, dIf, dRet, dRetN, dExpr, dNil, dCons, dTup, dLst, dFz, dAnd, dOr, dNot, dAndV, dOrV, dNotV, dCallD, dCallK, dCB, dCBF, dFor, dLC, dYes, dRng1, dRng2, dSeqI, gN, gT, gsNil, gsCons, dAsg, dNeg, dJoin, dFs, dJs, dFmt, dApp, dExt, dPop, dPopAt, dOwnIx, dOwnCB, dOwnL, dOwnR, dOwnSl, dSetIx, dSlT, dSlL, oNone, oSome, dBorn, optQ, ownAt, setOwnAt, lookAt, wipeD, dNewDT, dNewDK, dDGet, dDIn, dDPut, dSortT, rSrt, isDict, Ev.dictGet, Ev.dictPut, Option.isSome_none, Option.isSome_some, D.keyT, keysOf, D.key, exists_eq_left', exists_eq_left, Option.isSome, rRepL, rCatL, dRetF, dIfF, dPar, dRetOwn, dCallL, dCallLK, dPen2, dRev, dRevI, dIndex, endsL, startL, dNever, dBrk, dCnt, rAddD, rSubI, rIO, rMulI, rDivI, rModI, rPowI, rCI, rIxD, rIsN, rNotN, D.isN, rLen, rTuple, rList, rAbs, rInt, rStr, Ev.rRepr, Ev.rIsi, D.ty, kit_tab, startD, endsD, List.map_cons, List.map_nil, List.length_cons, List.length_nil, List.append_nil, List.nil_append, List.cons_append, List.getElem?_cons_zero, List.getElem?_cons_succ, List.getElem?_nil, List.set_cons_zero, List.set_cons_succ, List.replicate, List.replicate_succ, Nat.zero_add, Nat.zero_le, sizeLine, true_and, and_true, if_true, Ev.eq_int, Ev.eq_str, Ev.eq_bl, Ev.eq_non, lst_nil, tup_nil, List.map_eq_nil_iff, txt_join, rLt, rLe, rGt, rGe, atI_ofNat, atI_last, wLC, strsOf, intsOf, blsOf, Option.map_some, Ev.join_two, Ev.join_one, Ev.join_nil, List.sum_cons, List.sum_nil, PySem.Str.empty_append, ixN_ofNat, Option.some.injEq, exists_eq', List.length_map, decide_true, decide_false, Bool.not_true, Bool.not_false, Bool.true_eq_false, Bool.false_eq_true, false_and, and_false, if_false, ite_true, ite_false, Nat.reduceAdd, Nat.reduceSub, Nat.reduceMul, Nat.reduceLT, Nat.reduceLeDiff, Nat.reduceEqDiff, Nat.reducePow, Int.reduceToNat, Int.reducePow, pickL, List.filterMap_cons, List.filterMap_nil, and_self, Int.reduceLT, Int.reduceLE, Int.reduceNeg, Int.reduceAdd, Int.reduceMul, Int.reduceSub, Int.reduceEq, reduceIte, reduceCtorEq, lit_eq, String.reduceEq, Ev.rEq, Ev.rNe, Ev.rInD, cut_toN, cut_fromN, List.map_take, List.forall_mem_cons, List.forall_mem_nil, List.not_mem_nil, false_imp_iff, implies_true, forall_const, D.cm, D.lay, D.lays, D.dep, D.deps, strOk_lit, lays_ints, deps_ints, Nat.max_self, Nat.max_zero, Nat.zero_max, Bool.and_self, Bool.true_and, Bool.and_true, Bool.and_false, Bool.false_and, Bool.or_false, Bool.or_true, Bool.true_or, Bool.false_or, List.any_cons, List.any_nil, decide_eq_true_eq, eq_self, b_law_x2_0, p_law_x2_0, sp__law_back_right]
  refine ⟨b, o, o2, l, l2, rfl, k.wf, h1, h2, ?_⟩
  simp only [Ev.D.eq_refl, dPen1, dLenSet, dSrtR, dRo, dRoF, dRoT, roD, ro_un, ro_dat, ro_own, ro_hp, ro_law, ro_ownK, ro_ownT, List.forall_mem_map, flat_int, flat_str, flat_bl, flat_non, dSeq, dNext, dSet, dSetF, setSl, dVar, dTake, dC, dBin, dBinF, dB, dIfS, dIf, dRet, dRetN, dExpr, dNil, dCons, dTup, dLst, dFz, dAnd, dOr, dNot, dAndV, dOrV, dNotV, dCallD, dCallK, dCB, dCBF, dFor, dLC, dYes, dRng1, dRng2, dSeqI, gN, gT, gsNil, gsCons, dAsg, dNeg, dJoin, dFs, dJs, dFmt, dApp, dExt, dPop, dPopAt, dOwnIx, dOwnCB, dOwnL, dOwnR, dOwnSl, dSetIx, dSlT, dSlL, oNone, oSome, dBorn, optQ, ownAt, setOwnAt, lookAt, wipeD, dNewDT, dNewDK, dDGet, dDIn, dDPut, dSortT, rSrt, isDict, Ev.dictGet, Ev.dictPut, Option.isSome_none, Option.isSome_some, D.keyT, keysOf, D.key, exists_eq_left', exists_eq_left, Option.isSome, rRepL, rCatL, dRetF, dIfF, dPar, dRetOwn, dCallL, dCallLK, dPen2, dRev, dRevI, dIndex, endsL, startL, dNever, dBrk, dCnt, rAddD, rSubI, rIO, rMulI, rDivI, rModI, rPowI, rCI, rIxD, rIsN, rNotN, D.isN, rLen, rTuple, rList, rAbs, rInt, rStr, Ev.rRepr, Ev.rIsi, D.ty, kit_tab, startD, endsD, List.map_cons, List.map_nil, List.length_cons, List.length_nil, List.append_nil, List.nil_append, List.cons_append, List.getElem?_cons_zero, List.getElem?_cons_succ, List.getElem?_nil, List.set_cons_zero, List.set_cons_succ, List.replicate, List.replicate_succ, Nat.zero_add, Nat.zero_le, sizeLine, true_and, and_true, if_true, Ev.eq_int, Ev.eq_str, Ev.eq_bl, Ev.eq_non, lst_nil, tup_nil, List.map_eq_nil_iff, txt_join, rLt, rLe, rGt, rGe, atI_ofNat, atI_last, wLC, strsOf, intsOf, blsOf, Option.map_some, Ev.join_two, Ev.join_one, Ev.join_nil, List.sum_cons, List.sum_nil, PySem.Str.empty_append, ixN_ofNat, Option.some.injEq, exists_eq', List.length_map, decide_true, decide_false, Bool.not_true, Bool.not_false, Bool.true_eq_false, Bool.false_eq_true, false_and, and_false, if_false, ite_true, ite_false, Nat.reduceAdd, Nat.reduceSub, Nat.reduceMul, Nat.reduceLT, Nat.reduceLeDiff, Nat.reduceEqDiff, Nat.reducePow, Int.reduceToNat, Int.reducePow, pickL, List.filterMap_cons, List.filterMap_nil, and_self, Int.reduceLT, Int.reduceLE, Int.reduceNeg, Int.reduceAdd, Int.reduceMul, Int.reduceSub, Int.reduceEq, reduceIte, reduceCtorEq, lit_eq, String.reduceEq, Ev.rEq, Ev.rNe, Ev.rInD, cut_toN, cut_fromN, List.map_take, List.forall_mem_cons, List.forall_mem_nil, List.not_mem_nil, false_imp_iff, implies_true, forall_const, D.cm, D.lay, D.lays, D.dep, D.deps, strOk_lit, lays_ints, deps_ints, Nat.max_self, Nat.max_zero, Nat.zero_max, Bool.and_self, Bool.true_and, Bool.and_true, Bool.and_false, Bool.false_and, Bool.or_false, Bool.or_true, Bool.true_or, Bool.false_or, List.any_cons, List.any_nil, decide_eq_true_eq, eq_self, b_law_x2_1, p_law_x2_1, sp__law_above_right, opt_lay, opt_dep, opt_eq]
  have tail : b_law_x2_2 W0 N ⟨[s0, s1, s2, .dat (bookD b), s4, .dat (optD o), .dat (optD o2), .un, .un, .un], p⟩ := by
    cases o with
    | none => simp only [Ev.D.eq_refl, dPen1, dLenSet, dSrtR, dRo, dRoF, dRoT, roD, ro_un, ro_dat, ro_own, ro_hp, ro_law, ro_ownK, ro_ownT, List.forall_mem_map, flat_int, flat_str, flat_bl, flat_non, dSeq, dNext, dSet, dSetF, setSl, dVar, dTake, dC, dBin, dBinF, dB, dIfS, dIf, dRet, dRetN, dExpr, dNil, dCons, dTup, dLst, dFz, dAnd, dOr, dNot, dAndV, dOrV, dNotV, dCallD, dCallK, dCB, dCBF, dFor, dLC, dYes, dRng1, dRng2, dSeqI, gN, gT, gsNil, gsCons, dAsg, dNeg, dJoin, dFs, dJs, dFmt, dApp, dExt, dPop, dPopAt, dOwnIx, dOwnCB, dOwnL, dOwnR, dOwnSl, dSetIx, dSlT, dSlL, oNone, oSome, dBorn, optQ, ownAt, setOwnAt, lookAt, wipeD, dNewDT, dNewDK, dDGet, dDIn, dDPut, dSortT, rSrt, isDict, Ev.dictGet, Ev.dictPut, Option.isSome_none, Option.isSome_some, D.keyT, keysOf, D.key, exists_eq_left', exists_eq_left, Option.isSome, rRepL, rCatL, dRetF, dIfF, dPar, dRetOwn, dCallL, dCallLK, dPen2, dRev, dRevI, dIndex, endsL, startL, dNever, dBrk, dCnt, rAddD, rSubI, rIO, rMulI, rDivI, rModI, rPowI, rCI, rIxD, rIsN, rNotN, D.isN, rLen, rTuple, rList, rAbs, rInt, rStr, Ev.rRepr, Ev.rIsi, D.ty, kit_tab, startD, endsD, List.map_cons, List.map_nil, List.length_cons, List.length_nil, List.append_nil, List.nil_append, List.cons_append, List.getElem?_cons_zero, List.getElem?_cons_succ, List.getElem?_nil, List.set_cons_zero, List.set_cons_succ, List.replicate, List.replicate_succ, Nat.zero_add, Nat.zero_le, sizeLine, true_and, and_true, if_true, Ev.eq_int, Ev.eq_str, Ev.eq_bl, Ev.eq_non, lst_nil, tup_nil, List.map_eq_nil_iff, txt_join, rLt, rLe, rGt, rGe, atI_ofNat, atI_last, wLC, strsOf, intsOf, blsOf, Option.map_some, Ev.join_two, Ev.join_one, Ev.join_nil, List.sum_cons, List.sum_nil, PySem.Str.empty_append, ixN_ofNat, Option.some.injEq, exists_eq', List.length_map, decide_true, decide_false, Bool.not_true, Bool.not_false, Bool.true_eq_false, Bool.false_eq_true, false_and, and_false, if_false, ite_true, ite_false, Nat.reduceAdd, Nat.reduceSub, Nat.reduceMul, Nat.reduceLT, Nat.reduceLeDiff, Nat.reduceEqDiff, Nat.reducePow, Int.reduceToNat, Int.reducePow, pickL, List.filterMap_cons, List.filterMap_nil, and_self, Int.reduceLT, Int.reduceLE, Int.reduceNeg, Int.reduceAdd, Int.reduceMul, Int.reduceSub, Int.reduceEq, reduceIte, reduceCtorEq, lit_eq, String.reduceEq, Ev.rEq, Ev.rNe, Ev.rInD, cut_toN, cut_fromN, List.map_take, List.forall_mem_cons, List.forall_mem_nil, List.not_mem_nil, false_imp_iff, implies_true, forall_const, D.cm, D.lay, D.lays, D.dep, D.deps, strOk_lit, lays_ints, deps_ints, Nat.max_self, Nat.max_zero, Nat.zero_max, Bool.and_self, Bool.true_and, Bool.and_true, Bool.and_false, Bool.false_and, Bool.or_false, Bool.or_true, Bool.true_or, Bool.false_or, List.any_cons, List.any_nil, decide_eq_true_eq, eq_self, b_law_x2_2, p_law_x2_2, b_law_x2_2, optD]; exact hN
    | some n =>
      cases o2 with
      | none => simp only [Ev.D.eq_refl, dPen1, dLenSet, dSrtR, dRo, dRoF, dRoT, roD, ro_un, ro_dat, ro_own, ro_hp, ro_law, ro_ownK, ro_ownT, List.forall_mem_map, flat_int, flat_str, flat_bl, flat_non, dSeq, dNext, dSet, dSetF, setSl, dVar, dTake, dC, dBin, dBinF, dB, dIfS, dIf, dRet, dRetN, dExpr, dNil, dCons, dTup, dLst, dFz, dAnd, dOr, dNot, dAndV, dOrV, dNotV, dCallD, dCallK, dCB, dCBF, dFor, dLC, dYes, dRng1, dRng2, dSeqI, gN, gT, gsNil, gsCons, dAsg, dNeg, dJoin, dFs, dJs, dFmt, dApp, dExt, dPop, dPopAt, dOwnIx, dOwnCB, dOwnL, dOwnR, dOwnSl, dSetIx, dSlT, dSlL, oNone, oSome, dBorn, optQ, ownAt, setOwnAt, lookAt, wipeD, dNewDT, dNewDK, dDGet, dDIn, dDPut, dSortT, rSrt, isDict, Ev.dictGet, Ev.dictPut, Option.isSome_none, Option.isSome_some, D.keyT, keysOf, D.key, exists_eq_left', exists_eq_left, Option.isSome, rRepL, rCatL, dRetF, dIfF, dPar, dRetOwn, dCallL, dCallLK, dPen2, dRev, dRevI, dIndex, endsL, startL, dNever, dBrk, dCnt, rAddD, rSubI, rIO, rMulI, rDivI, rModI, rPowI, rCI, rIxD, rIsN, rNotN, D.isN, rLen, rTuple, rList, rAbs, rInt, rStr, Ev.rRepr, Ev.rIsi, D.ty, kit_tab, startD, endsD, List.map_cons, List.map_nil, List.length_cons, List.length_nil, List.append_nil, List.nil_append, List.cons_append, List.getElem?_cons_zero, List.getElem?_cons_succ, List.getElem?_nil, List.set_cons_zero, List.set_cons_succ, List.replicate, List.replicate_succ, Nat.zero_add, Nat.zero_le, sizeLine, true_and, and_true, if_true, Ev.eq_int, Ev.eq_str, Ev.eq_bl, Ev.eq_non, lst_nil, tup_nil, List.map_eq_nil_iff, txt_join, rLt, rLe, rGt, rGe, atI_ofNat, atI_last, wLC, strsOf, intsOf, blsOf, Option.map_some, Ev.join_two, Ev.join_one, Ev.join_nil, List.sum_cons, List.sum_nil, PySem.Str.empty_append, ixN_ofNat, Option.some.injEq, exists_eq', List.length_map, decide_true, decide_false, Bool.not_true, Bool.not_false, Bool.true_eq_false, Bool.false_eq_true, false_and, and_false, if_false, ite_true, ite_false, Nat.reduceAdd, Nat.reduceSub, Nat.reduceMul, Nat.reduceLT, Nat.reduceLeDiff, Nat.reduceEqDiff, Nat.reducePow, Int.reduceToNat, Int.reducePow, pickL, List.filterMap_cons, List.filterMap_nil, and_self, Int.reduceLT, Int.reduceLE, Int.reduceNeg, Int.reduceAdd, Int.reduceMul, Int.reduceSub, Int.reduceEq, reduceIte, reduceCtorEq, lit_eq, String.reduceEq, Ev.rEq, Ev.rNe, Ev.rInD, cut_toN, cut_fromN, List.map_take, List.forall_mem_cons, List.forall_mem_nil, List.not_mem_nil, false_imp_iff, implies_true, forall_const, D.cm, D.lay, D.lays, D.dep, D.deps, strOk_lit, lays_ints, deps_ints, Nat.max_self, Nat.max_zero, Nat.zero_max, Bool.and_self, Bool.true_and, Bool.and_true, Bool.and_false, Bool.false_and, Bool.or_false, Bool.or_true, Bool.true_or, Bool.false_or, List.any_cons, List.any_nil, decide_eq_true_eq, eq_self, b_law_x2_2, p_law_x2_2, b_law_x2_2, optD]; exact hN
      | some m =>
        simp only [Ev.D.eq_refl, dPen1, dLenSet, dSrtR, dRo, dRoF, dRoT, roD, ro_un, ro_dat, ro_own, ro_hp, ro_law, ro_ownK, ro_ownT, List.forall_mem_map, flat_int, flat_str, flat_bl, flat_non, dSeq, dNext, dSet, dSetF, setSl, dVar, dTake, dC, dBin, dBinF, dB, dIfS, dIf, dRet, dRetN, dExpr, dNil, dCons, dTup, dLst, dFz, dAnd, dOr, dNot, dAndV, dOrV, dNotV, dCallD, dCallK, dCB, dCBF, dFor, dLC, dYes, dRng1, dRng2, dSeqI, gN, gT, gsNil, gsCons, dAsg, dNeg, dJoin, dFs, dJs, dFmt, dApp, dExt, dPop, dPopAt, dOwnIx, dOwnCB, dOwnL, dOwnR, dOwnSl, dSetIx, dSlT, dSlL, oNone, oSome, dBorn, optQ, ownAt, setOwnAt, lookAt, wipeD, dNewDT, dNewDK, dDGet, dDIn, dDPut, dSortT, rSrt, isDict, Ev.dictGet, Ev.dictPut, Option.isSome_none, Option.isSome_some, D.keyT, keysOf, D.key, exists_eq_left', exists_eq_left, Option.isSome, rRepL, rCatL, dRetF, dIfF, dPar, dRetOwn, dCallL, dCallLK, dPen2, dRev, dRevI, dIndex, endsL, startL, dNever, dBrk, dCnt, rAddD, rSubI, rIO, rMulI, rDivI, rModI, rPowI, rCI, rIxD, rIsN, rNotN, D.isN, rLen, rTuple, rList, rAbs, rInt, rStr, Ev.rRepr, Ev.rIsi, D.ty, kit_tab, startD, endsD, List.map_cons, List.map_nil, List.length_cons, List.length_nil, List.append_nil, List.nil_append, List.cons_append, List.getElem?_cons_zero, List.getElem?_cons_succ, List.getElem?_nil, List.set_cons_zero, List.set_cons_succ, List.replicate, List.replicate_succ, Nat.zero_add, Nat.zero_le, sizeLine, true_and, and_true, if_true, Ev.eq_int, Ev.eq_str, Ev.eq_bl, Ev.eq_non, lst_nil, tup_nil, List.map_eq_nil_iff, txt_join, rLt, rLe, rGt, rGe, atI_ofNat, atI_last, wLC, strsOf, intsOf, blsOf, Option.map_some, Ev.join_two, Ev.join_one, Ev.join_nil, List.sum_cons, List.sum_nil, PySem.Str.empty_append, ixN_ofNat, Option.some.injEq, exists_eq', List.length_map, decide_true, decide_false, Bool.not_true, Bool.not_false, Bool.true_eq_false, Bool.false_eq_true, false_and, and_false, if_false, ite_true, ite_false, Nat.reduceAdd, Nat.reduceSub, Nat.reduceMul, Nat.reduceLT, Nat.reduceLeDiff, Nat.reduceEqDiff, Nat.reducePow, Int.reduceToNat, Int.reducePow, pickL, List.filterMap_cons, List.filterMap_nil, and_self, Int.reduceLT, Int.reduceLE, Int.reduceNeg, Int.reduceAdd, Int.reduceMul, Int.reduceSub, Int.reduceEq, reduceIte, reduceCtorEq, lit_eq, String.reduceEq, Ev.rEq, Ev.rNe, Ev.rInD, cut_toN, cut_fromN, List.map_take, List.forall_mem_cons, List.forall_mem_nil, List.not_mem_nil, false_imp_iff, implies_true, forall_const, D.cm, D.lay, D.lays, D.dep, D.deps, strOk_lit, lays_ints, deps_ints, Nat.max_self, Nat.max_zero, Nat.zero_max, Bool.and_self, Bool.true_and, Bool.and_true, Bool.and_false, Bool.false_and, Bool.or_false, Bool.or_true, Bool.true_or, Bool.false_or, List.any_cons, List.any_nil, decide_eq_true_eq, eq_self, b_law_x2_2, p_law_x2_2, b_law_x2_2, optD, sp__law_halves_right]
        exact ⟨b, n, m, l, l2, rfl, k, h1, h2, hN⟩
  by_cases c : o = o2
  · simp only [Ev.D.eq_refl, dPen1, dLenSet, dSrtR, dRo, dRoF, dRoT, roD, ro_un, ro_dat, ro_own, ro_hp, ro_law, ro_ownK, ro_ownT, List.forall_mem_map, flat_int, flat_str, flat_bl, flat_non, dSeq, dNext, dSet, dSetF, setSl, dVar, dTake, dC, dBin, dBinF, dB, dIfS, dIf, dRet, dRetN, dExpr, dNil, dCons, dTup, dLst, dFz, dAnd, dOr, dNot, dAndV, dOrV, dNotV, dCallD, dCallK, dCB, dCBF, dFor, dLC, dYes, dRng1, dRng2, dSeqI, gN, gT, gsNil, gsCons, dAsg, dNeg, dJoin, dFs, dJs, dFmt, dApp, dExt, dPop, dPopAt, dOwnIx, dOwnCB, dOwnL, dOwnR, dOwnSl, dSetIx, dSlT, dSlL, oNone, oSome, dBorn, optQ, ownAt, setOwnAt, lookAt, wipeD, dNewDT, dNewDK, dDGet, dDIn, dDPut, dSortT, rSrt, isDict, Ev.dictGet, Ev.dictPut, Option.isSome_none, Option.isSome_some, D.keyT, keysOf, D.key, exists_eq_left', exists_eq_left, Option.isSome, rRepL, rCatL, dRetF, dIfF, dPar, dRetOwn, dCallL, dCallLK, dPen2, dRev, dRevI, dIndex, endsL, startL, dNever, dBrk, dCnt, rAddD, rSubI, rIO, rMulI, rDivI, rModI, rPowI, rCI, rIxD, rIsN, rNotN, D.isN, rLen, rTuple, rList, rAbs, rInt, rStr, Ev.rRepr, Ev.rIsi, D.ty, kit_tab, startD, endsD, List.map_cons, List.map_nil, List.length_cons, List.length_nil, List.append_nil, List.nil_append, List.cons_append, List.getElem?_cons_zero, List.getElem?_cons_succ, List.getElem?_nil, List.set_cons_zero, List.set_cons_succ, List.replicate, List.replicate_succ, Nat.zero_add, Nat.zero_le, sizeLine, true_and, and_true, if_true, Ev.eq_int, Ev.eq_str, Ev.eq_bl, Ev.eq_non, lst_nil, tup_nil, List.map_eq_nil_iff, txt_join, rLt, rLe, rGt, rGe, atI_ofNat, atI_last, wLC, strsOf, intsOf, blsOf, Option.map_some, Ev.join_two, Ev.join_one, Ev.join_nil, List.sum_cons, List.sum_nil, PySem.Str.empty_append, ixN_ofNat, Option.some.injEq, exists_eq', List.length_map, decide_true, decide_false, Bool.not_true, Bool.not_false, Bool.true_eq_false, Bool.false_eq_true, false_and, and_false, if_false, ite_true, ite_false, Nat.reduceAdd, Nat.reduceSub, Nat.reduceMul, Nat.reduceLT, Nat.reduceLeDiff, Nat.reduceEqDiff, Nat.reducePow, Int.reduceToNat, Int.reducePow, pickL, List.filterMap_cons, List.filterMap_nil, and_self, Int.reduceLT, Int.reduceLE, Int.reduceNeg, Int.reduceAdd, Int.reduceMul, Int.reduceSub, Int.reduceEq, reduceIte, reduceCtorEq, lit_eq, String.reduceEq, Ev.rEq, Ev.rNe, Ev.rInD, cut_toN, cut_fromN, List.map_take, List.forall_mem_cons, List.forall_mem_nil, List.not_mem_nil, false_imp_iff, implies_true, forall_const, D.cm, D.lay, D.lays, D.dep, D.deps, strOk_lit, lays_ints, deps_ints, Nat.max_self, Nat.max_zero, Nat.zero_max, Bool.and_self, Bool.true_and, Bool.and_true, Bool.and_false, Bool.false_and, Bool.or_false, Bool.or_true, Bool.true_or, Bool.false_or, List.any_cons, List.any_nil, decide_eq_true_eq, eq_self, eq_true c]
    exact tail
  · simp only [Ev.D.eq_refl, dPen1, dLenSet, dSrtR, dRo, dRoF, dRoT, roD, ro_un, ro_dat, ro_own, ro_hp, ro_law, ro_ownK, ro_ownT, List.forall_mem_map, flat_int, flat_str, flat_bl, flat_non, dSeq, dNext, dSet, dSetF, setSl, dVar, dTake, dC, dBin, dBinF, dB, dIfS, dIf, dRet, dRetN, dExpr, dNil, dCons, dTup, dLst, dFz, dAnd, dOr, dNot, dAndV, dOrV, dNotV, dCallD, dCallK, dCB, dCBF, dFor, dLC, dYes, dRng1, dRng2, dSeqI, gN, gT, gsNil, gsCons, dAsg, dNeg, dJoin, dFs, dJs, dFmt, dApp, dExt, dPop, dPopAt, dOwnIx, dOwnCB, dOwnL, dOwnR, dOwnSl, dSetIx, dSlT, dSlL, oNone, oSome, dBorn, optQ, ownAt, setOwnAt, lookAt, wipeD, dNewDT, dNewDK, dDGet, dDIn, dDPut, dSortT, rSrt, isDict, Ev.dictGet, Ev.dictPut, Option.isSome_none, Option.isSome_some, D.keyT, keysOf, D.key, exists_eq_left', exists_eq_left, Option.isSome, rRepL, rCatL, dRetF, dIfF, dPar, dRetOwn, dCallL, dCallLK, dPen2, dRev, dRevI, dIndex, endsL, startL, dNever, dBrk, dCnt, rAddD, rSubI, rIO, rMulI, rDivI, rModI, rPowI, rCI, rIxD, rIsN, rNotN, D.isN, rLen, rTuple, rList, rAbs, rInt, rStr, Ev.rRepr, Ev.rIsi, D.ty, kit_tab, startD, endsD, List.map_cons, List.map_nil, List.length_cons, List.length_nil, List.append_nil, List.nil_append, List.cons_append, List.getElem?_cons_zero, List.getElem?_cons_succ, List.getElem?_nil, List.set_cons_zero, List.set_cons_succ, List.replicate, List.replicate_succ, Nat.zero_add, Nat.zero_le, sizeLine, true_and, and_true, if_true, Ev.eq_int, Ev.eq_str, Ev.eq_bl, Ev.eq_non, lst_nil, tup_nil, List.map_eq_nil_iff, txt_join, rLt, rLe, rGt, rGe, atI_ofNat, atI_last, wLC, strsOf, intsOf, blsOf, Option.map_some, Ev.join_two, Ev.join_one, Ev.join_nil, List.sum_cons, List.sum_nil, PySem.Str.empty_append, ixN_ofNat, Option.some.injEq, exists_eq', List.length_map, decide_true, decide_false, Bool.not_true, Bool.not_false, Bool.true_eq_false, Bool.false_eq_true, false_and, and_false, if_false, ite_true, ite_false, Nat.reduceAdd, Nat.reduceSub, Nat.reduceMul, Nat.reduceLT, Nat.reduceLeDiff, Nat.reduceEqDiff, Nat.reducePow, Int.reduceToNat, Int.reducePow, pickL, List.filterMap_cons, List.filterMap_nil, and_self, Int.reduceLT, Int.reduceLE, Int.reduceNeg, Int.reduceAdd, Int.reduceMul, Int.reduceSub, Int.reduceEq, reduceIte, reduceCtorEq, lit_eq, String.reduceEq, Ev.rEq, Ev.rNe, Ev.rInD, cut_toN, cut_fromN, List.map_take, List.forall_mem_cons, List.forall_mem_nil, List.not_mem_nil, false_imp_iff, implies_true, forall_const, D.cm, D.lay, D.lays, D.dep, D.deps, strOk_lit, lays_ints, deps_ints, Nat.max_self, Nat.max_zero, Nat.zero_max, Bool.and_self, Bool.true_and, Bool.and_true, Bool.and_false, Bool.false_and, Bool.or_false, Bool.or_true, Bool.true_or, Bool.false_or, List.any_cons, List.any_nil, decide_eq_true_eq, eq_self, eq_false c]
    exact ⟨b, o, o2, l, l2, rfl, k.wf, h1, h2, c, tail⟩
theorem from_none {b : List Row} {n : Int} {l : List Int} (h : Line b (some n) (n :: l)) : byP b [] (n :: l) none (some n) = (l.reverse.map fun x => (⟨"enter", some x, "passed"⟩ : Told)) ++ [⟨"enter", some n, "outer"⟩] := by
  have h0 : Line b none [] := ⟨.nil, by simp, by simp⟩
  have k : Fork [] (n :: l) [] ((n :: l).map some) [] := ⟨rfl, rfl, fun x hx => (nomatch hx), fun x hx => by
    obtain ⟨y, _, rfl⟩ := List.mem_map.mp hx
    simp [full]⟩
  rw [byP_fork h0 h k (by simp)]
  have e1 : Lv none [] ((n :: l).map some) = [] := rfl
  have e2 : Lv (some n) ((n :: l).map some) [] = (some n, Str.ofString "outer") :: (l.map fun x => (some x, Str.ofString "passed")) := by simp [Lv, wayP, Function.comp_def]
  rw [e1, e2]
  simp [enT, Function.comp_def]
theorem pairs_law {a : Addr} {s0 s1 s2 s5 s6 : Sl} {p : Pen} {N : dEnds} {b : List Row} {os : List (Option Int)} (k : Bk b) (hos : ∀ o ∈ os, o ∈ (b.map fun r => some r.n) ++ [none]) {ds : List D} (eds : ds = os.map optD) {s4 : Sl}
    (hw : ∀ s5 s6 W N', wFor (gN 6) b_law_x2_0 W N' ds ⟨[s0, s1, s2, .dat (bookD b), s4, s5, s6, .un, .un, .un], p⟩ → dFor (dSeqI (dFz (dBinF rCatL (dTake 4) (dFz (dLst (dCons (dC .non) dNil)))))) (gN 6) b_law_x2_0 W N' ⟨[s0, s1, s2, .dat (bookD b), s4, s5, s6, .un, .un, .un], p⟩)
    (hN : ∀ s5 s6, N.nx ⟨[s0, s1, s2, .dat (bookD b), s4, s5, s6, .un, .un, .un], p⟩) :
    wFor (gN 5) (dFor (dSeqI (dFz (dBinF rCatL (dTake 4) (dFz (dLst (dCons (dC .non) dNil)))))) (gN 6) b_law_x2_0) W0 N ds ⟨[s0, s1, s2, .dat (bookD b), s4, s5, s6, .un, .un, .un], p⟩ := by
  subst eds
  refine wFor_ind (fun ds δ => ∃ rest s5 s6, ds = rest.map optD ∧ (∀ o ∈ rest, o ∈ os) ∧ δ = ⟨[s0, s1, s2, .dat (bookD b), s4, s5, s6, .un, .un, .un], p⟩) ?_ ?_ _ _ ⟨os, s5, s6, rfl, fun _ h => h, rfl⟩
  · rintro d ds _ kk hk ⟨rest, s5, s6, e1, hr, rfl⟩
    cases rest with
    | nil => cases e1
    | cons o rest =>
    cases e1
    obtain ⟨l, h1⟩ := line_ex k (hos o (hr o List.mem_cons_self))
    simp only [gN, setSl, List.set_cons_zero, List.set_cons_succ]
    refine hw _ _ _ _ ?_
    refine wFor_ind (fun ds δ => ∃ rest s6, ds = rest.map optD ∧ (∀ o ∈ rest, o ∈ os) ∧ δ = ⟨[s0, s1, s2, .dat (bookD b), s4, .dat (optD o), s6, .un, .un, .un], p⟩) ?_ ?_ _ _ ⟨os, s6, rfl, fun _ h => h, rfl⟩
    · rintro d ds _ kk2 hk2 ⟨rest2, s6, e1, hr2, rfl⟩
      cases rest2 with
      | nil => cases e1
      | cons o2 rest2 =>
      cases e1
      obtain ⟨l2, h2⟩ := line_ex k (hos o2 (hr2 o2 List.mem_cons_self))
      exact turn_pair k h1 h2 (hk2 _ ⟨rest2, _, rfl, fun z hz => hr2 z (List.mem_cons_of_mem _ hz), rfl⟩)
    · rintro _ ⟨rest2, s6, e1, hr2, rfl⟩
      exact hk _ ⟨rest, _, s6, rfl, fun z hz => hr z (List.mem_cons_of_mem _ hz), rfl⟩
  · rintro _ ⟨rest, s5, s6, e1, hr, rfl⟩
    exact hN _ _
theorem hsp_law : ∀ ns : List Int, ns.length ≤ 63 → b_law W0 { nx := fun _ => False, rt := fun x _ => x = .bl true } (startL n_law.length ns) := by
  intro ns hl
  have l63 : (ns.take 63).length ≤ 63 := by rw [List.length_take]; omega
  have l63r : (ns.take 63).reverse.length ≤ 63 := by rw [List.length_reverse]; exact l63
  have e1 : List.take 63 (ns.map D.int) = (ns.take 63).map D.int := by rw [List.map_take]
  have e2 : ((ns.take 63).map D.int).reverse = (ns.take 63).reverse.map D.int := by rw [List.map_reverse]
  simp only [Ev.D.eq_refl, dPen1, dLenSet, dSrtR, dRo, dRoF, dRoT, roD, ro_un, ro_dat, ro_own, ro_hp, ro_law, ro_ownK, ro_ownT, List.forall_mem_map, flat_int, flat_str, flat_bl, flat_non, dSeq, dNext, dSet, dSetF, setSl, dVar, dTake, dC, dBin, dBinF, dB, dIfS, dIf, dRet, dRetN, dExpr, dNil, dCons, dTup, dLst, dFz, dAnd, dOr, dNot, dAndV, dOrV, dNotV, dCallD, dCallK, dCB, dCBF, dFor, dLC, dYes, dRng1, dRng2, dSeqI, gN, gT, gsNil, gsCons, dAsg, dNeg, dJoin, dFs, dJs, dFmt, dApp, dExt, dPop, dPopAt, dOwnIx, dOwnCB, dOwnL, dOwnR, dOwnSl, dSetIx, dSlT, dSlL, oNone, oSome, dBorn, optQ, ownAt, setOwnAt, lookAt, wipeD, dNewDT, dNewDK, dDGet, dDIn, dDPut, dSortT, rSrt, isDict, Ev.dictGet, Ev.dictPut, Option.isSome_none, Option.isSome_some, D.keyT, keysOf, D.key, exists_eq_left', exists_eq_left, Option.isSome, rRepL, rCatL, dRetF, dIfF, dPar, dRetOwn, dCallL, dCallLK, dPen2, dRev, dRevI, dIndex, endsL, startL, dNever, dBrk, dCnt, rAddD, rSubI, rIO, rMulI, rDivI, rModI, rPowI, rCI, rIxD, rIsN, rNotN, D.isN, rLen, rTuple, rList, rAbs, rInt, rStr, Ev.rRepr, Ev.rIsi, D.ty, kit_tab, startD, endsD, List.map_cons, List.map_nil, List.length_cons, List.length_nil, List.append_nil, List.nil_append, List.cons_append, List.getElem?_cons_zero, List.getElem?_cons_succ, List.getElem?_nil, List.set_cons_zero, List.set_cons_succ, List.replicate, List.replicate_succ, Nat.zero_add, Nat.zero_le, sizeLine, true_and, and_true, if_true, Ev.eq_int, Ev.eq_str, Ev.eq_bl, Ev.eq_non, lst_nil, tup_nil, List.map_eq_nil_iff, txt_join, rLt, rLe, rGt, rGe, atI_ofNat, atI_last, wLC, strsOf, intsOf, blsOf, Option.map_some, Ev.join_two, Ev.join_one, Ev.join_nil, List.sum_cons, List.sum_nil, PySem.Str.empty_append, ixN_ofNat, Option.some.injEq, exists_eq', List.length_map, decide_true, decide_false, Bool.not_true, Bool.not_false, Bool.true_eq_false, Bool.false_eq_true, false_and, and_false, if_false, ite_true, ite_false, Nat.reduceAdd, Nat.reduceSub, Nat.reduceMul, Nat.reduceLT, Nat.reduceLeDiff, Nat.reduceEqDiff, Nat.reducePow, Int.reduceToNat, Int.reducePow, pickL, List.filterMap_cons, List.filterMap_nil, and_self, Int.reduceLT, Int.reduceLE, Int.reduceNeg, Int.reduceAdd, Int.reduceMul, Int.reduceSub, Int.reduceEq, reduceIte, reduceCtorEq, lit_eq, String.reduceEq, Ev.rEq, Ev.rNe, Ev.rInD, cut_toN, cut_fromN, List.map_take, List.forall_mem_cons, List.forall_mem_nil, List.not_mem_nil, false_imp_iff, implies_true, forall_const, D.cm, D.lay, D.lays, D.dep, D.deps, strOk_lit, lays_ints, deps_ints, Nat.max_self, Nat.max_zero, Nat.zero_max, Bool.and_self, Bool.true_and, Bool.and_true, Bool.and_false, Bool.false_and, Bool.or_false, Bool.or_true, Bool.true_or, Bool.false_or, List.any_cons, List.any_nil, decide_eq_true_eq, eq_self, startL, n_law, b_law, b_law_0, p_law_0, b_law_1, p_law_1]
  simp only [e1, e2]
  clear e1 e2
  generalize ns.take 63 = ms at l63 l63r ⊢
  generalize ms.reverse = rs at l63r ⊢
  simp only [Ev.D.eq_refl, dPen1, dLenSet, dSrtR, dRo, dRoF, dRoT, roD, ro_un, ro_dat, ro_own, ro_hp, ro_law, ro_ownK, ro_ownT, List.forall_mem_map, flat_int, flat_str, flat_bl, flat_non, dSeq, dNext, dSet, dSetF, setSl, dVar, dTake, dC, dBin, dBinF, dB, dIfS, dIf, dRet, dRetN, dExpr, dNil, dCons, dTup, dLst, dFz, dAnd, dOr, dNot, dAndV, dOrV, dNotV, dCallD, dCallK, dCB, dCBF, dFor, dLC, dYes, dRng1, dRng2, dSeqI, gN, gT, gsNil, gsCons, dAsg, dNeg, dJoin, dFs, dJs, dFmt, dApp, dExt, dPop, dPopAt, dOwnIx, dOwnCB, dOwnL, dOwnR, dOwnSl, dSetIx, dSlT, dSlL, oNone, oSome, dBorn, optQ, ownAt, setOwnAt, lookAt, wipeD, dNewDT, dNewDK, dDGet, dDIn, dDPut, dSortT, rSrt, isDict, Ev.dictGet, Ev.dictPut, Option.isSome_none, Option.isSome_some, D.keyT, keysOf, D.key, exists_eq_left', exists_eq_left, Option.isSome, rRepL, rCatL, dRetF, dIfF, dPar, dRetOwn, dCallL, dCallLK, dPen2, dRev, dRevI, dIndex, endsL, startL, dNever, dBrk, dCnt, rAddD, rSubI, rIO, rMulI, rDivI, rModI, rPowI, rCI, rIxD, rIsN, rNotN, D.isN, rLen, rTuple, rList, rAbs, rInt, rStr, Ev.rRepr, Ev.rIsi, D.ty, kit_tab, startD, endsD, List.map_cons, List.map_nil, List.length_cons, List.length_nil, List.append_nil, List.nil_append, List.cons_append, List.getElem?_cons_zero, List.getElem?_cons_succ, List.getElem?_nil, List.set_cons_zero, List.set_cons_succ, List.replicate, List.replicate_succ, Nat.zero_add, Nat.zero_le, sizeLine, true_and, and_true, if_true, Ev.eq_int, Ev.eq_str, Ev.eq_bl, Ev.eq_non, lst_nil, tup_nil, List.map_eq_nil_iff, txt_join, rLt, rLe, rGt, rGe, atI_ofNat, atI_last, wLC, strsOf, intsOf, blsOf, Option.map_some, Ev.join_two, Ev.join_one, Ev.join_nil, List.sum_cons, List.sum_nil, PySem.Str.empty_append, ixN_ofNat, Option.some.injEq, exists_eq', List.length_map, decide_true, decide_false, Bool.not_true, Bool.not_false, Bool.true_eq_false, Bool.false_eq_true, false_and, and_false, if_false, ite_true, ite_false, Nat.reduceAdd, Nat.reduceSub, Nat.reduceMul, Nat.reduceLT, Nat.reduceLeDiff, Nat.reduceEqDiff, Nat.reducePow, Int.reduceToNat, Int.reducePow, pickL, List.filterMap_cons, List.filterMap_nil, and_self, Int.reduceLT, Int.reduceLE, Int.reduceNeg, Int.reduceAdd, Int.reduceMul, Int.reduceSub, Int.reduceEq, reduceIte, reduceCtorEq, lit_eq, String.reduceEq, Ev.rEq, Ev.rNe, Ev.rInD, cut_toN, cut_fromN, List.map_take, List.forall_mem_cons, List.forall_mem_nil, List.not_mem_nil, false_imp_iff, implies_true, forall_const, D.cm, D.lay, D.lays, D.dep, D.deps, strOk_lit, lays_ints, deps_ints, Nat.max_self, Nat.max_zero, Nat.zero_max, Bool.and_self, Bool.true_and, Bool.and_true, Bool.and_false, Bool.false_and, Bool.or_false, Bool.or_true, Bool.true_or, Bool.false_or, List.any_cons, List.any_nil, decide_eq_true_eq, eq_self, b_law_2, p_law_2, sp__law_rows]
  refine ⟨⟨0, ns, rfl⟩, ms, 0, 0, 0, rfl, l63, by decide, by decide, by decide, fun pa => ⟨pa, 0, rfl, rfl, by decide, fun b c1 k hc1 => ?_⟩⟩
  simp only [Ev.D.eq_refl, dPen1, dLenSet, dSrtR, dRo, dRoF, dRoT, roD, ro_un, ro_dat, ro_own, ro_hp, ro_law, ro_ownK, ro_ownT, List.forall_mem_map, flat_int, flat_str, flat_bl, flat_non, dSeq, dNext, dSet, dSetF, setSl, dVar, dTake, dC, dBin, dBinF, dB, dIfS, dIf, dRet, dRetN, dExpr, dNil, dCons, dTup, dLst, dFz, dAnd, dOr, dNot, dAndV, dOrV, dNotV, dCallD, dCallK, dCB, dCBF, dFor, dLC, dYes, dRng1, dRng2, dSeqI, gN, gT, gsNil, gsCons, dAsg, dNeg, dJoin, dFs, dJs, dFmt, dApp, dExt, dPop, dPopAt, dOwnIx, dOwnCB, dOwnL, dOwnR, dOwnSl, dSetIx, dSlT, dSlL, oNone, oSome, dBorn, optQ, ownAt, setOwnAt, lookAt, wipeD, dNewDT, dNewDK, dDGet, dDIn, dDPut, dSortT, rSrt, isDict, Ev.dictGet, Ev.dictPut, Option.isSome_none, Option.isSome_some, D.keyT, keysOf, D.key, exists_eq_left', exists_eq_left, Option.isSome, rRepL, rCatL, dRetF, dIfF, dPar, dRetOwn, dCallL, dCallLK, dPen2, dRev, dRevI, dIndex, endsL, startL, dNever, dBrk, dCnt, rAddD, rSubI, rIO, rMulI, rDivI, rModI, rPowI, rCI, rIxD, rIsN, rNotN, D.isN, rLen, rTuple, rList, rAbs, rInt, rStr, Ev.rRepr, Ev.rIsi, D.ty, kit_tab, startD, endsD, List.map_cons, List.map_nil, List.length_cons, List.length_nil, List.append_nil, List.nil_append, List.cons_append, List.getElem?_cons_zero, List.getElem?_cons_succ, List.getElem?_nil, List.set_cons_zero, List.set_cons_succ, List.replicate, List.replicate_succ, Nat.zero_add, Nat.zero_le, sizeLine, true_and, and_true, if_true, Ev.eq_int, Ev.eq_str, Ev.eq_bl, Ev.eq_non, lst_nil, tup_nil, List.map_eq_nil_iff, txt_join, rLt, rLe, rGt, rGe, atI_ofNat, atI_last, wLC, strsOf, intsOf, blsOf, Option.map_some, Ev.join_two, Ev.join_one, Ev.join_nil, List.sum_cons, List.sum_nil, PySem.Str.empty_append, ixN_ofNat, Option.some.injEq, exists_eq', List.length_map, decide_true, decide_false, Bool.not_true, Bool.not_false, Bool.true_eq_false, Bool.false_eq_true, false_and, and_false, if_false, ite_true, ite_false, Nat.reduceAdd, Nat.reduceSub, Nat.reduceMul, Nat.reduceLT, Nat.reduceLeDiff, Nat.reduceEqDiff, Nat.reducePow, Int.reduceToNat, Int.reducePow, pickL, List.filterMap_cons, List.filterMap_nil, and_self, Int.reduceLT, Int.reduceLE, Int.reduceNeg, Int.reduceAdd, Int.reduceMul, Int.reduceSub, Int.reduceEq, reduceIte, reduceCtorEq, lit_eq, String.reduceEq, Ev.rEq, Ev.rNe, Ev.rInD, cut_toN, cut_fromN, List.map_take, List.forall_mem_cons, List.forall_mem_nil, List.not_mem_nil, false_imp_iff, implies_true, forall_const, D.cm, D.lay, D.lays, D.dep, D.deps, strOk_lit, lays_ints, deps_ints, Nat.max_self, Nat.max_zero, Nat.zero_max, Bool.and_self, Bool.true_and, Bool.and_true, Bool.and_false, Bool.false_and, Bool.or_false, Bool.or_true, Bool.true_or, Bool.false_or, List.any_cons, List.any_nil, decide_eq_true_eq, eq_self, b_law_3, p_law_3, bookD]
  refine wLC_maps (l := b) (ι := rowD) (f := fun r => .int r.n) (fun r hr acc k hz h => ?_) (by have := k.wf.len; rw [sizeLine_eq]; omega) ?_
  · simp only [Ev.D.eq_refl, dPen1, dLenSet, dSrtR, dRo, dRoF, dRoT, roD, ro_un, ro_dat, ro_own, ro_hp, ro_law, ro_ownK, ro_ownT, List.forall_mem_map, flat_int, flat_str, flat_bl, flat_non, dSeq, dNext, dSet, dSetF, setSl, dVar, dTake, dC, dBin, dBinF, dB, dIfS, dIf, dRet, dRetN, dExpr, dNil, dCons, dTup, dLst, dFz, dAnd, dOr, dNot, dAndV, dOrV, dNotV, dCallD, dCallK, dCB, dCBF, dFor, dLC, dYes, dRng1, dRng2, dSeqI, gN, gT, gsNil, gsCons, dAsg, dNeg, dJoin, dFs, dJs, dFmt, dApp, dExt, dPop, dPopAt, dOwnIx, dOwnCB, dOwnL, dOwnR, dOwnSl, dSetIx, dSlT, dSlL, oNone, oSome, dBorn, optQ, ownAt, setOwnAt, lookAt, wipeD, dNewDT, dNewDK, dDGet, dDIn, dDPut, dSortT, rSrt, isDict, Ev.dictGet, Ev.dictPut, Option.isSome_none, Option.isSome_some, D.keyT, keysOf, D.key, exists_eq_left', exists_eq_left, Option.isSome, rRepL, rCatL, dRetF, dIfF, dPar, dRetOwn, dCallL, dCallLK, dPen2, dRev, dRevI, dIndex, endsL, startL, dNever, dBrk, dCnt, rAddD, rSubI, rIO, rMulI, rDivI, rModI, rPowI, rCI, rIxD, rIsN, rNotN, D.isN, rLen, rTuple, rList, rAbs, rInt, rStr, Ev.rRepr, Ev.rIsi, D.ty, kit_tab, startD, endsD, List.map_cons, List.map_nil, List.length_cons, List.length_nil, List.append_nil, List.nil_append, List.cons_append, List.getElem?_cons_zero, List.getElem?_cons_succ, List.getElem?_nil, List.set_cons_zero, List.set_cons_succ, List.replicate, List.replicate_succ, Nat.zero_add, Nat.zero_le, sizeLine, true_and, and_true, if_true, Ev.eq_int, Ev.eq_str, Ev.eq_bl, Ev.eq_non, lst_nil, tup_nil, List.map_eq_nil_iff, txt_join, rLt, rLe, rGt, rGe, atI_ofNat, atI_last, wLC, strsOf, intsOf, blsOf, Option.map_some, Ev.join_two, Ev.join_one, Ev.join_nil, List.sum_cons, List.sum_nil, PySem.Str.empty_append, ixN_ofNat, Option.some.injEq, exists_eq', List.length_map, decide_true, decide_false, Bool.not_true, Bool.not_false, Bool.true_eq_false, Bool.false_eq_true, false_and, and_false, if_false, ite_true, ite_false, Nat.reduceAdd, Nat.reduceSub, Nat.reduceMul, Nat.reduceLT, Nat.reduceLeDiff, Nat.reduceEqDiff, Nat.reducePow, Int.reduceToNat, Int.reducePow, pickL, List.filterMap_cons, List.filterMap_nil, and_self, Int.reduceLT, Int.reduceLE, Int.reduceNeg, Int.reduceAdd, Int.reduceMul, Int.reduceSub, Int.reduceEq, reduceIte, reduceCtorEq, lit_eq, String.reduceEq, Ev.rEq, Ev.rNe, Ev.rInD, cut_toN, cut_fromN, List.map_take, List.forall_mem_cons, List.forall_mem_nil, List.not_mem_nil, false_imp_iff, implies_true, forall_const, D.cm, D.lay, D.lays, D.dep, D.deps, strOk_lit, lays_ints, deps_ints, Nat.max_self, Nat.max_zero, Nat.zero_max, Bool.and_self, Bool.true_and, Bool.and_true, Bool.and_false, Bool.false_and, Bool.or_false, Bool.or_true, Bool.true_or, Bool.false_or, List.any_cons, List.any_nil, decide_eq_true_eq, eq_self, rowD]
    exact ⟨hz, h⟩
  have hbl := k.wf.len
  have hcat : (b.map fun r : Row => D.int r.n).length + 1 ≤ 16777216 := by rw [List.length_map]; omega
  simp only [Ev.D.eq_refl, dPen1, dLenSet, dSrtR, dRo, dRoF, dRoT, roD, ro_un, ro_dat, ro_own, ro_hp, ro_law, ro_ownK, ro_ownT, List.forall_mem_map, flat_int, flat_str, flat_bl, flat_non, dSeq, dNext, dSet, dSetF, setSl, dVar, dTake, dC, dBin, dBinF, dB, dIfS, dIf, dRet, dRetN, dExpr, dNil, dCons, dTup, dLst, dFz, dAnd, dOr, dNot, dAndV, dOrV, dNotV, dCallD, dCallK, dCB, dCBF, dFor, dLC, dYes, dRng1, dRng2, dSeqI, gN, gT, gsNil, gsCons, dAsg, dNeg, dJoin, dFs, dJs, dFmt, dApp, dExt, dPop, dPopAt, dOwnIx, dOwnCB, dOwnL, dOwnR, dOwnSl, dSetIx, dSlT, dSlL, oNone, oSome, dBorn, optQ, ownAt, setOwnAt, lookAt, wipeD, dNewDT, dNewDK, dDGet, dDIn, dDPut, dSortT, rSrt, isDict, Ev.dictGet, Ev.dictPut, Option.isSome_none, Option.isSome_some, D.keyT, keysOf, D.key, exists_eq_left', exists_eq_left, Option.isSome, rRepL, rCatL, dRetF, dIfF, dPar, dRetOwn, dCallL, dCallLK, dPen2, dRev, dRevI, dIndex, endsL, startL, dNever, dBrk, dCnt, rAddD, rSubI, rIO, rMulI, rDivI, rModI, rPowI, rCI, rIxD, rIsN, rNotN, D.isN, rLen, rTuple, rList, rAbs, rInt, rStr, Ev.rRepr, Ev.rIsi, D.ty, kit_tab, startD, endsD, List.map_cons, List.map_nil, List.length_cons, List.length_nil, List.append_nil, List.nil_append, List.cons_append, List.getElem?_cons_zero, List.getElem?_cons_succ, List.getElem?_nil, List.set_cons_zero, List.set_cons_succ, List.replicate, List.replicate_succ, Nat.zero_add, Nat.zero_le, sizeLine, true_and, and_true, if_true, Ev.eq_int, Ev.eq_str, Ev.eq_bl, Ev.eq_non, lst_nil, tup_nil, List.map_eq_nil_iff, txt_join, rLt, rLe, rGt, rGe, atI_ofNat, atI_last, wLC, strsOf, intsOf, blsOf, Option.map_some, Ev.join_two, Ev.join_one, Ev.join_nil, List.sum_cons, List.sum_nil, PySem.Str.empty_append, ixN_ofNat, Option.some.injEq, exists_eq', List.length_map, decide_true, decide_false, Bool.not_true, Bool.not_false, Bool.true_eq_false, Bool.false_eq_true, false_and, and_false, if_false, ite_true, ite_false, Nat.reduceAdd, Nat.reduceSub, Nat.reduceMul, Nat.reduceLT, Nat.reduceLeDiff, Nat.reduceEqDiff, Nat.reducePow, Int.reduceToNat, Int.reducePow, pickL, List.filterMap_cons, List.filterMap_nil, and_self, Int.reduceLT, Int.reduceLE, Int.reduceNeg, Int.reduceAdd, Int.reduceMul, Int.reduceSub, Int.reduceEq, reduceIte, reduceCtorEq, lit_eq, String.reduceEq, Ev.rEq, Ev.rNe, Ev.rInD, cut_toN, cut_fromN, List.map_take, List.forall_mem_cons, List.forall_mem_nil, List.not_mem_nil, false_imp_iff, implies_true, forall_const, D.cm, D.lay, D.lays, D.dep, D.deps, strOk_lit, lays_ints, deps_ints, Nat.max_self, Nat.max_zero, Nat.zero_max, Bool.and_self, Bool.true_and, Bool.and_true, Bool.and_false, Bool.false_and, Bool.or_false, Bool.or_true, Bool.true_or, Bool.false_or, List.any_cons, List.any_nil, decide_eq_true_eq, eq_self, b_law_4, p_law_4]
  refine ⟨by omega, ?_⟩
  refine pairs_law (a := pa) (os := (b.map fun r : Row => some r.n) ++ [none]) k (fun o h => h) (by simp [optD, Function.comp_def]) (fun s5 s6 W N' h => ?_) (fun s5 s6 => ?_)
  · simp only [Ev.D.eq_refl, dPen1, dLenSet, dSrtR, dRo, dRoF, dRoT, roD, ro_un, ro_dat, ro_own, ro_hp, ro_law, ro_ownK, ro_ownT, List.forall_mem_map, flat_int, flat_str, flat_bl, flat_non, dSeq, dNext, dSet, dSetF, setSl, dVar, dTake, dC, dBin, dBinF, dB, dIfS, dIf, dRet, dRetN, dExpr, dNil, dCons, dTup, dLst, dFz, dAnd, dOr, dNot, dAndV, dOrV, dNotV, dCallD, dCallK, dCB, dCBF, dFor, dLC, dYes, dRng1, dRng2, dSeqI, gN, gT, gsNil, gsCons, dAsg, dNeg, dJoin, dFs, dJs, dFmt, dApp, dExt, dPop, dPopAt, dOwnIx, dOwnCB, dOwnL, dOwnR, dOwnSl, dSetIx, dSlT, dSlL, oNone, oSome, dBorn, optQ, ownAt, setOwnAt, lookAt, wipeD, dNewDT, dNewDK, dDGet, dDIn, dDPut, dSortT, rSrt, isDict, Ev.dictGet, Ev.dictPut, Option.isSome_none, Option.isSome_some, D.keyT, keysOf, D.key, exists_eq_left', exists_eq_left, Option.isSome, rRepL, rCatL, dRetF, dIfF, dPar, dRetOwn, dCallL, dCallLK, dPen2, dRev, dRevI, dIndex, endsL, startL, dNever, dBrk, dCnt, rAddD, rSubI, rIO, rMulI, rDivI, rModI, rPowI, rCI, rIxD, rIsN, rNotN, D.isN, rLen, rTuple, rList, rAbs, rInt, rStr, Ev.rRepr, Ev.rIsi, D.ty, kit_tab, startD, endsD, List.map_cons, List.map_nil, List.length_cons, List.length_nil, List.append_nil, List.nil_append, List.cons_append, List.getElem?_cons_zero, List.getElem?_cons_succ, List.getElem?_nil, List.set_cons_zero, List.set_cons_succ, List.replicate, List.replicate_succ, Nat.zero_add, Nat.zero_le, sizeLine, true_and, and_true, if_true, Ev.eq_int, Ev.eq_str, Ev.eq_bl, Ev.eq_non, lst_nil, tup_nil, List.map_eq_nil_iff, txt_join, rLt, rLe, rGt, rGe, atI_ofNat, atI_last, wLC, strsOf, intsOf, blsOf, Option.map_some, Ev.join_two, Ev.join_one, Ev.join_nil, List.sum_cons, List.sum_nil, PySem.Str.empty_append, ixN_ofNat, Option.some.injEq, exists_eq', List.length_map, decide_true, decide_false, Bool.not_true, Bool.not_false, Bool.true_eq_false, Bool.false_eq_true, false_and, and_false, if_false, ite_true, ite_false, Nat.reduceAdd, Nat.reduceSub, Nat.reduceMul, Nat.reduceLT, Nat.reduceLeDiff, Nat.reduceEqDiff, Nat.reducePow, Int.reduceToNat, Int.reducePow, pickL, List.filterMap_cons, List.filterMap_nil, and_self, Int.reduceLT, Int.reduceLE, Int.reduceNeg, Int.reduceAdd, Int.reduceMul, Int.reduceSub, Int.reduceEq, reduceIte, reduceCtorEq, lit_eq, String.reduceEq, Ev.rEq, Ev.rNe, Ev.rInD, cut_toN, cut_fromN, List.map_take, List.forall_mem_cons, List.forall_mem_nil, List.not_mem_nil, false_imp_iff, implies_true, forall_const, D.cm, D.lay, D.lays, D.dep, D.deps, strOk_lit, lays_ints, deps_ints, Nat.max_self, Nat.max_zero, Nat.zero_max, Bool.and_self, Bool.true_and, Bool.and_true, Bool.and_false, Bool.false_and, Bool.or_false, Bool.or_true, Bool.true_or, Bool.false_or, List.any_cons, List.any_nil, decide_eq_true_eq, eq_self]
    exact ⟨by omega, h⟩
  have hb0 : 0 < b.length := by
    obtain ⟨r, hr, _⟩ := List.mem_map.mp k.root
    exact List.length_pos_of_mem hr
  simp only [Ev.D.eq_refl, dPen1, dLenSet, dSrtR, dRo, dRoF, dRoT, roD, ro_un, ro_dat, ro_own, ro_hp, ro_law, ro_ownK, ro_ownT, List.forall_mem_map, flat_int, flat_str, flat_bl, flat_non, dSeq, dNext, dSet, dSetF, setSl, dVar, dTake, dC, dBin, dBinF, dB, dIfS, dIf, dRet, dRetN, dExpr, dNil, dCons, dTup, dLst, dFz, dAnd, dOr, dNot, dAndV, dOrV, dNotV, dCallD, dCallK, dCB, dCBF, dFor, dLC, dYes, dRng1, dRng2, dSeqI, gN, gT, gsNil, gsCons, dAsg, dNeg, dJoin, dFs, dJs, dFmt, dApp, dExt, dPop, dPopAt, dOwnIx, dOwnCB, dOwnL, dOwnR, dOwnSl, dSetIx, dSlT, dSlL, oNone, oSome, dBorn, optQ, ownAt, setOwnAt, lookAt, wipeD, dNewDT, dNewDK, dDGet, dDIn, dDPut, dSortT, rSrt, isDict, Ev.dictGet, Ev.dictPut, Option.isSome_none, Option.isSome_some, D.keyT, keysOf, D.key, exists_eq_left', exists_eq_left, Option.isSome, rRepL, rCatL, dRetF, dIfF, dPar, dRetOwn, dCallL, dCallLK, dPen2, dRev, dRevI, dIndex, endsL, startL, dNever, dBrk, dCnt, rAddD, rSubI, rIO, rMulI, rDivI, rModI, rPowI, rCI, rIxD, rIsN, rNotN, D.isN, rLen, rTuple, rList, rAbs, rInt, rStr, Ev.rRepr, Ev.rIsi, D.ty, kit_tab, startD, endsD, List.map_cons, List.map_nil, List.length_cons, List.length_nil, List.append_nil, List.nil_append, List.cons_append, List.getElem?_cons_zero, List.getElem?_cons_succ, List.getElem?_nil, List.set_cons_zero, List.set_cons_succ, List.replicate, List.replicate_succ, Nat.zero_add, Nat.zero_le, sizeLine, true_and, and_true, if_true, Ev.eq_int, Ev.eq_str, Ev.eq_bl, Ev.eq_non, lst_nil, tup_nil, List.map_eq_nil_iff, txt_join, rLt, rLe, rGt, rGe, atI_ofNat, atI_last, wLC, strsOf, intsOf, blsOf, Option.map_some, Ev.join_two, Ev.join_one, Ev.join_nil, List.sum_cons, List.sum_nil, PySem.Str.empty_append, ixN_ofNat, Option.some.injEq, exists_eq', List.length_map, decide_true, decide_false, Bool.not_true, Bool.not_false, Bool.true_eq_false, Bool.false_eq_true, false_and, and_false, if_false, ite_true, ite_false, Nat.reduceAdd, Nat.reduceSub, Nat.reduceMul, Nat.reduceLT, Nat.reduceLeDiff, Nat.reduceEqDiff, Nat.reducePow, Int.reduceToNat, Int.reducePow, pickL, List.filterMap_cons, List.filterMap_nil, and_self, Int.reduceLT, Int.reduceLE, Int.reduceNeg, Int.reduceAdd, Int.reduceMul, Int.reduceSub, Int.reduceEq, reduceIte, reduceCtorEq, lit_eq, String.reduceEq, Ev.rEq, Ev.rNe, Ev.rInD, cut_toN, cut_fromN, List.map_take, List.forall_mem_cons, List.forall_mem_nil, List.not_mem_nil, false_imp_iff, implies_true, forall_const, D.cm, D.lay, D.lays, D.dep, D.deps, strOk_lit, lays_ints, deps_ints, Nat.max_self, Nat.max_zero, Nat.zero_max, Bool.and_self, Bool.true_and, Bool.and_true, Bool.and_false, Bool.false_and, Bool.or_false, Bool.or_true, Bool.true_or, Bool.false_or, List.any_cons, List.any_nil, decide_eq_true_eq, eq_self, b_law_5, p_law_5, sp__law_draw, spDraw]
  refine ⟨⟨0, ns, rfl⟩, rs, 7, 0, 7, rfl, l63r, by decide, by decide, by decide, fun pb => ⟨by omega, by omega, by decide, fun d d0 d1 => ?_⟩⟩
  obtain ⟨r, hr, er⟩ := atI_map (f := fun r : Row => D.int r.n) d0 d1
  rw [er]
  obtain ⟨l, u, hl2, hx⟩ := k.wf.lineM (List.mem_map.mpr ⟨r, hr, rfl⟩)
  have h1 : Line b (some r.n) l := ⟨u, hx, hl2⟩
  have h0 : Line b none [] := ⟨.nil, by simp, by simp⟩
  obtain ⟨l', rfl⟩ : ∃ l', l = r.n :: l' := by
    obtain ⟨q, hq⟩ := full_head u
    cases l with
    | nil => cases hq
    | cons a l => exact ⟨l, by unfold full at hq; simp at hq; rw [hq.1]⟩
  have eT := from_none h1
  have okT := byP_ok (b := b) (o := none) (o2 := some r.n) (l := []) (l2 := r.n :: l')
  rw [eT] at okT
  simp only [List.length_cons] at hl2
  simp only [Ev.D.eq_refl, dPen1, dLenSet, dSrtR, dRo, dRoF, dRoT, roD, ro_un, ro_dat, ro_own, ro_hp, ro_law, ro_ownK, ro_ownT, List.forall_mem_map, flat_int, flat_str, flat_bl, flat_non, dSeq, dNext, dSet, dSetF, setSl, dVar, dTake, dC, dBin, dBinF, dB, dIfS, dIf, dRet, dRetN, dExpr, dNil, dCons, dTup, dLst, dFz, dAnd, dOr, dNot, dAndV, dOrV, dNotV, dCallD, dCallK, dCB, dCBF, dFor, dLC, dYes, dRng1, dRng2, dSeqI, gN, gT, gsNil, gsCons, dAsg, dNeg, dJoin, dFs, dJs, dFmt, dApp, dExt, dPop, dPopAt, dOwnIx, dOwnCB, dOwnL, dOwnR, dOwnSl, dSetIx, dSlT, dSlL, oNone, oSome, dBorn, optQ, ownAt, setOwnAt, lookAt, wipeD, dNewDT, dNewDK, dDGet, dDIn, dDPut, dSortT, rSrt, isDict, Ev.dictGet, Ev.dictPut, Option.isSome_none, Option.isSome_some, D.keyT, keysOf, D.key, exists_eq_left', exists_eq_left, Option.isSome, rRepL, rCatL, dRetF, dIfF, dPar, dRetOwn, dCallL, dCallLK, dPen2, dRev, dRevI, dIndex, endsL, startL, dNever, dBrk, dCnt, rAddD, rSubI, rIO, rMulI, rDivI, rModI, rPowI, rCI, rIxD, rIsN, rNotN, D.isN, rLen, rTuple, rList, rAbs, rInt, rStr, Ev.rRepr, Ev.rIsi, D.ty, kit_tab, startD, endsD, List.map_cons, List.map_nil, List.length_cons, List.length_nil, List.append_nil, List.nil_append, List.cons_append, List.getElem?_cons_zero, List.getElem?_cons_succ, List.getElem?_nil, List.set_cons_zero, List.set_cons_succ, List.replicate, List.replicate_succ, Nat.zero_add, Nat.zero_le, sizeLine, true_and, and_true, if_true, Ev.eq_int, Ev.eq_str, Ev.eq_bl, Ev.eq_non, lst_nil, tup_nil, List.map_eq_nil_iff, txt_join, rLt, rLe, rGt, rGe, atI_ofNat, atI_last, wLC, strsOf, intsOf, blsOf, Option.map_some, Ev.join_two, Ev.join_one, Ev.join_nil, List.sum_cons, List.sum_nil, PySem.Str.empty_append, ixN_ofNat, Option.some.injEq, exists_eq', List.length_map, decide_true, decide_false, Bool.not_true, Bool.not_false, Bool.true_eq_false, Bool.false_eq_true, false_and, and_false, if_false, ite_true, ite_false, Nat.reduceAdd, Nat.reduceSub, Nat.reduceMul, Nat.reduceLT, Nat.reduceLeDiff, Nat.reduceEqDiff, Nat.reducePow, Int.reduceToNat, Int.reducePow, pickL, List.filterMap_cons, List.filterMap_nil, and_self, Int.reduceLT, Int.reduceLE, Int.reduceNeg, Int.reduceAdd, Int.reduceMul, Int.reduceSub, Int.reduceEq, reduceIte, reduceCtorEq, lit_eq, String.reduceEq, Ev.rEq, Ev.rNe, Ev.rInD, cut_toN, cut_fromN, List.map_take, List.forall_mem_cons, List.forall_mem_nil, List.not_mem_nil, false_imp_iff, implies_true, forall_const, D.cm, D.lay, D.lays, D.dep, D.deps, strOk_lit, lays_ints, deps_ints, Nat.max_self, Nat.max_zero, Nat.zero_max, Bool.and_self, Bool.true_and, Bool.and_true, Bool.and_false, Bool.false_and, Bool.or_false, Bool.or_true, Bool.true_or, Bool.false_or, List.any_cons, List.any_nil, decide_eq_true_eq, eq_self, b_law_6, p_law_6, sp_passed]
  refine ⟨b, none, some r.n, [], r.n :: l', rfl, k.wf, h0, h1, ?_⟩
  rw [eT]
  generalize eT2 : (l'.reverse.map fun x => (⟨"enter", some x, "passed"⟩ : Told)) ++ [⟨"enter", some r.n, "outer"⟩] = T at okT
  have lT : T.length = l'.length + 1 := by rw [← eT2]; simp
  simp only [Ev.D.eq_refl, dPen1, dLenSet, dSrtR, dRo, dRoF, dRoT, roD, ro_un, ro_dat, ro_own, ro_hp, ro_law, ro_ownK, ro_ownT, List.forall_mem_map, flat_int, flat_str, flat_bl, flat_non, dSeq, dNext, dSet, dSetF, setSl, dVar, dTake, dC, dBin, dBinF, dB, dIfS, dIf, dRet, dRetN, dExpr, dNil, dCons, dTup, dLst, dFz, dAnd, dOr, dNot, dAndV, dOrV, dNotV, dCallD, dCallK, dCB, dCBF, dFor, dLC, dYes, dRng1, dRng2, dSeqI, gN, gT, gsNil, gsCons, dAsg, dNeg, dJoin, dFs, dJs, dFmt, dApp, dExt, dPop, dPopAt, dOwnIx, dOwnCB, dOwnL, dOwnR, dOwnSl, dSetIx, dSlT, dSlL, oNone, oSome, dBorn, optQ, ownAt, setOwnAt, lookAt, wipeD, dNewDT, dNewDK, dDGet, dDIn, dDPut, dSortT, rSrt, isDict, Ev.dictGet, Ev.dictPut, Option.isSome_none, Option.isSome_some, D.keyT, keysOf, D.key, exists_eq_left', exists_eq_left, Option.isSome, rRepL, rCatL, dRetF, dIfF, dPar, dRetOwn, dCallL, dCallLK, dPen2, dRev, dRevI, dIndex, endsL, startL, dNever, dBrk, dCnt, rAddD, rSubI, rIO, rMulI, rDivI, rModI, rPowI, rCI, rIxD, rIsN, rNotN, D.isN, rLen, rTuple, rList, rAbs, rInt, rStr, Ev.rRepr, Ev.rIsi, D.ty, kit_tab, startD, endsD, List.map_cons, List.map_nil, List.length_cons, List.length_nil, List.append_nil, List.nil_append, List.cons_append, List.getElem?_cons_zero, List.getElem?_cons_succ, List.getElem?_nil, List.set_cons_zero, List.set_cons_succ, List.replicate, List.replicate_succ, Nat.zero_add, Nat.zero_le, sizeLine, true_and, and_true, if_true, Ev.eq_int, Ev.eq_str, Ev.eq_bl, Ev.eq_non, lst_nil, tup_nil, List.map_eq_nil_iff, txt_join, rLt, rLe, rGt, rGe, atI_ofNat, atI_last, wLC, strsOf, intsOf, blsOf, Option.map_some, Ev.join_two, Ev.join_one, Ev.join_nil, List.sum_cons, List.sum_nil, PySem.Str.empty_append, ixN_ofNat, Option.some.injEq, exists_eq', List.length_map, decide_true, decide_false, Bool.not_true, Bool.not_false, Bool.true_eq_false, Bool.false_eq_true, false_and, and_false, if_false, ite_true, ite_false, Nat.reduceAdd, Nat.reduceSub, Nat.reduceMul, Nat.reduceLT, Nat.reduceLeDiff, Nat.reduceEqDiff, Nat.reducePow, Int.reduceToNat, Int.reducePow, pickL, List.filterMap_cons, List.filterMap_nil, and_self, Int.reduceLT, Int.reduceLE, Int.reduceNeg, Int.reduceAdd, Int.reduceMul, Int.reduceSub, Int.reduceEq, reduceIte, reduceCtorEq, lit_eq, String.reduceEq, Ev.rEq, Ev.rNe, Ev.rInD, cut_toN, cut_fromN, List.map_take, List.forall_mem_cons, List.forall_mem_nil, List.not_mem_nil, false_imp_iff, implies_true, forall_const, D.cm, D.lay, D.lays, D.dep, D.deps, strOk_lit, lays_ints, deps_ints, Nat.max_self, Nat.max_zero, Nat.zero_max, Bool.and_self, Bool.true_and, Bool.and_true, Bool.and_false, Bool.false_and, Bool.or_false, Bool.or_true, Bool.true_or, Bool.false_or, List.any_cons, List.any_nil, decide_eq_true_eq, eq_self, b_law_7, p_law_7]
  refine wLC_maps (l := T) (ι := toldD) (f := fun t => optD t.rm) (fun t ht acc k hz h => ?_) (by rw [sizeLine_eq]; omega) ?_
  · simp only [Ev.D.eq_refl, dPen1, dLenSet, dSrtR, dRo, dRoF, dRoT, roD, ro_un, ro_dat, ro_own, ro_hp, ro_law, ro_ownK, ro_ownT, List.forall_mem_map, flat_int, flat_str, flat_bl, flat_non, dSeq, dNext, dSet, dSetF, setSl, dVar, dTake, dC, dBin, dBinF, dB, dIfS, dIf, dRet, dRetN, dExpr, dNil, dCons, dTup, dLst, dFz, dAnd, dOr, dNot, dAndV, dOrV, dNotV, dCallD, dCallK, dCB, dCBF, dFor, dLC, dYes, dRng1, dRng2, dSeqI, gN, gT, gsNil, gsCons, dAsg, dNeg, dJoin, dFs, dJs, dFmt, dApp, dExt, dPop, dPopAt, dOwnIx, dOwnCB, dOwnL, dOwnR, dOwnSl, dSetIx, dSlT, dSlL, oNone, oSome, dBorn, optQ, ownAt, setOwnAt, lookAt, wipeD, dNewDT, dNewDK, dDGet, dDIn, dDPut, dSortT, rSrt, isDict, Ev.dictGet, Ev.dictPut, Option.isSome_none, Option.isSome_some, D.keyT, keysOf, D.key, exists_eq_left', exists_eq_left, Option.isSome, rRepL, rCatL, dRetF, dIfF, dPar, dRetOwn, dCallL, dCallLK, dPen2, dRev, dRevI, dIndex, endsL, startL, dNever, dBrk, dCnt, rAddD, rSubI, rIO, rMulI, rDivI, rModI, rPowI, rCI, rIxD, rIsN, rNotN, D.isN, rLen, rTuple, rList, rAbs, rInt, rStr, Ev.rRepr, Ev.rIsi, D.ty, kit_tab, startD, endsD, List.map_cons, List.map_nil, List.length_cons, List.length_nil, List.append_nil, List.nil_append, List.cons_append, List.getElem?_cons_zero, List.getElem?_cons_succ, List.getElem?_nil, List.set_cons_zero, List.set_cons_succ, List.replicate, List.replicate_succ, Nat.zero_add, Nat.zero_le, sizeLine, true_and, and_true, if_true, Ev.eq_int, Ev.eq_str, Ev.eq_bl, Ev.eq_non, lst_nil, tup_nil, List.map_eq_nil_iff, txt_join, rLt, rLe, rGt, rGe, atI_ofNat, atI_last, wLC, strsOf, intsOf, blsOf, Option.map_some, Ev.join_two, Ev.join_one, Ev.join_nil, List.sum_cons, List.sum_nil, PySem.Str.empty_append, ixN_ofNat, Option.some.injEq, exists_eq', List.length_map, decide_true, decide_false, Bool.not_true, Bool.not_false, Bool.true_eq_false, Bool.false_eq_true, false_and, and_false, if_false, ite_true, ite_false, Nat.reduceAdd, Nat.reduceSub, Nat.reduceMul, Nat.reduceLT, Nat.reduceLeDiff, Nat.reduceEqDiff, Nat.reducePow, Int.reduceToNat, Int.reducePow, pickL, List.filterMap_cons, List.filterMap_nil, and_self, Int.reduceLT, Int.reduceLE, Int.reduceNeg, Int.reduceAdd, Int.reduceMul, Int.reduceSub, Int.reduceEq, reduceIte, reduceCtorEq, lit_eq, String.reduceEq, Ev.rEq, Ev.rNe, Ev.rInD, cut_toN, cut_fromN, List.map_take, List.forall_mem_cons, List.forall_mem_nil, List.not_mem_nil, false_imp_iff, implies_true, forall_const, D.cm, D.lay, D.lays, D.dep, D.deps, strOk_lit, lays_ints, deps_ints, Nat.max_self, Nat.max_zero, Nat.zero_max, Bool.and_self, Bool.true_and, Bool.and_true, Bool.and_false, Bool.false_and, Bool.or_false, Bool.or_true, Bool.true_or, Bool.false_or, List.any_cons, List.any_nil, decide_eq_true_eq, eq_self, toldD]
    exact ⟨hz, h⟩
  have e1 : (T.map fun t => optD t.rm) = ((r.n :: l').map D.int).reverse := by rw [← eT2]; simp [optD, Function.comp_def]
  simp only [Ev.D.eq_refl, dPen1, dLenSet, dSrtR, dRo, dRoF, dRoT, roD, ro_un, ro_dat, ro_own, ro_hp, ro_law, ro_ownK, ro_ownT, List.forall_mem_map, flat_int, flat_str, flat_bl, flat_non, dSeq, dNext, dSet, dSetF, setSl, dVar, dTake, dC, dBin, dBinF, dB, dIfS, dIf, dRet, dRetN, dExpr, dNil, dCons, dTup, dLst, dFz, dAnd, dOr, dNot, dAndV, dOrV, dNotV, dCallD, dCallK, dCB, dCBF, dFor, dLC, dYes, dRng1, dRng2, dSeqI, gN, gT, gsNil, gsCons, dAsg, dNeg, dJoin, dFs, dJs, dFmt, dApp, dExt, dPop, dPopAt, dOwnIx, dOwnCB, dOwnL, dOwnR, dOwnSl, dSetIx, dSlT, dSlL, oNone, oSome, dBorn, optQ, ownAt, setOwnAt, lookAt, wipeD, dNewDT, dNewDK, dDGet, dDIn, dDPut, dSortT, rSrt, isDict, Ev.dictGet, Ev.dictPut, Option.isSome_none, Option.isSome_some, D.keyT, keysOf, D.key, exists_eq_left', exists_eq_left, Option.isSome, rRepL, rCatL, dRetF, dIfF, dPar, dRetOwn, dCallL, dCallLK, dPen2, dRev, dRevI, dIndex, endsL, startL, dNever, dBrk, dCnt, rAddD, rSubI, rIO, rMulI, rDivI, rModI, rPowI, rCI, rIxD, rIsN, rNotN, D.isN, rLen, rTuple, rList, rAbs, rInt, rStr, Ev.rRepr, Ev.rIsi, D.ty, kit_tab, startD, endsD, List.map_cons, List.map_nil, List.length_cons, List.length_nil, List.append_nil, List.nil_append, List.cons_append, List.getElem?_cons_zero, List.getElem?_cons_succ, List.getElem?_nil, List.set_cons_zero, List.set_cons_succ, List.replicate, List.replicate_succ, Nat.zero_add, Nat.zero_le, sizeLine, true_and, and_true, if_true, Ev.eq_int, Ev.eq_str, Ev.eq_bl, Ev.eq_non, lst_nil, tup_nil, List.map_eq_nil_iff, txt_join, rLt, rLe, rGt, rGe, atI_ofNat, atI_last, wLC, strsOf, intsOf, blsOf, Option.map_some, Ev.join_two, Ev.join_one, Ev.join_nil, List.sum_cons, List.sum_nil, PySem.Str.empty_append, ixN_ofNat, Option.some.injEq, exists_eq', List.length_map, decide_true, decide_false, Bool.not_true, Bool.not_false, Bool.true_eq_false, Bool.false_eq_true, false_and, and_false, if_false, ite_true, ite_false, Nat.reduceAdd, Nat.reduceSub, Nat.reduceMul, Nat.reduceLT, Nat.reduceLeDiff, Nat.reduceEqDiff, Nat.reducePow, Int.reduceToNat, Int.reducePow, pickL, List.filterMap_cons, List.filterMap_nil, and_self, Int.reduceLT, Int.reduceLE, Int.reduceNeg, Int.reduceAdd, Int.reduceMul, Int.reduceSub, Int.reduceEq, reduceIte, reduceCtorEq, lit_eq, String.reduceEq, Ev.rEq, Ev.rNe, Ev.rInD, cut_toN, cut_fromN, List.map_take, List.forall_mem_cons, List.forall_mem_nil, List.not_mem_nil, false_imp_iff, implies_true, forall_const, D.cm, D.lay, D.lays, D.dep, D.deps, strOk_lit, lays_ints, deps_ints, Nat.max_self, Nat.max_zero, Nat.zero_max, Bool.and_self, Bool.true_and, Bool.and_true, Bool.and_false, Bool.false_and, Bool.or_false, Bool.or_true, Bool.true_or, Bool.false_or, List.any_cons, List.any_nil, decide_eq_true_eq, eq_self, sp_elders]
  refine ⟨b, r.n, r.n :: l', rfl, k.wf, u, hx, by simpa using hl2, ?_⟩
  rw [e1, ← List.map_reverse]
  have hev : ∀ t ∈ T, t.ev = Str.ofString "enter" := fun t ht => by
    rw [← eT2] at ht
    rcases List.mem_append.mp ht with ht | ht
    · obtain ⟨x, _, rfl⟩ := List.mem_map.mp ht; rfl
    · rw [List.mem_singleton] at ht; rw [ht]
  obtain ⟨t0, ht0, e0⟩ : ∃ t0 ∈ T, (T.map toldD)[0]? = some (toldD t0) := by
    cases hT : T with
    | nil => rw [hT] at lT; simp at lT
    | cons a T' => exact ⟨a, by simp, rfl⟩
  have hev0 := hev t0 ht0
  have e0n : byP b [] [] none none = [] := by simp [byP]
  have ew : (T.map fun t => D.str t.way) = List.replicate l'.length (.str "passed") ++ [.str "outer"] := by
    rw [← eT2, List.map_append, List.map_map, show ((fun t : Told => D.str t.way) ∘ fun x => (⟨"enter", some x, "passed"⟩ : Told)) = fun _ => D.str "passed" from rfl, List.map_const', List.length_reverse]
    rfl
  simp only [Ev.D.eq_refl, dPen1, dLenSet, dSrtR, dRo, dRoF, dRoT, roD, ro_un, ro_dat, ro_own, ro_hp, ro_law, ro_ownK, ro_ownT, List.forall_mem_map, flat_int, flat_str, flat_bl, flat_non, dSeq, dNext, dSet, dSetF, setSl, dVar, dTake, dC, dBin, dBinF, dB, dIfS, dIf, dRet, dRetN, dExpr, dNil, dCons, dTup, dLst, dFz, dAnd, dOr, dNot, dAndV, dOrV, dNotV, dCallD, dCallK, dCB, dCBF, dFor, dLC, dYes, dRng1, dRng2, dSeqI, gN, gT, gsNil, gsCons, dAsg, dNeg, dJoin, dFs, dJs, dFmt, dApp, dExt, dPop, dPopAt, dOwnIx, dOwnCB, dOwnL, dOwnR, dOwnSl, dSetIx, dSlT, dSlL, oNone, oSome, dBorn, optQ, ownAt, setOwnAt, lookAt, wipeD, dNewDT, dNewDK, dDGet, dDIn, dDPut, dSortT, rSrt, isDict, Ev.dictGet, Ev.dictPut, Option.isSome_none, Option.isSome_some, D.keyT, keysOf, D.key, exists_eq_left', exists_eq_left, Option.isSome, rRepL, rCatL, dRetF, dIfF, dPar, dRetOwn, dCallL, dCallLK, dPen2, dRev, dRevI, dIndex, endsL, startL, dNever, dBrk, dCnt, rAddD, rSubI, rIO, rMulI, rDivI, rModI, rPowI, rCI, rIxD, rIsN, rNotN, D.isN, rLen, rTuple, rList, rAbs, rInt, rStr, Ev.rRepr, Ev.rIsi, D.ty, kit_tab, startD, endsD, List.map_cons, List.map_nil, List.length_cons, List.length_nil, List.append_nil, List.nil_append, List.cons_append, List.getElem?_cons_zero, List.getElem?_cons_succ, List.getElem?_nil, List.set_cons_zero, List.set_cons_succ, List.replicate, List.replicate_succ, Nat.zero_add, Nat.zero_le, sizeLine, true_and, and_true, if_true, Ev.eq_int, Ev.eq_str, Ev.eq_bl, Ev.eq_non, lst_nil, tup_nil, List.map_eq_nil_iff, txt_join, rLt, rLe, rGt, rGe, atI_ofNat, atI_last, wLC, strsOf, intsOf, blsOf, Option.map_some, Ev.join_two, Ev.join_one, Ev.join_nil, List.sum_cons, List.sum_nil, PySem.Str.empty_append, ixN_ofNat, Option.some.injEq, exists_eq', List.length_map, decide_true, decide_false, Bool.not_true, Bool.not_false, Bool.true_eq_false, Bool.false_eq_true, false_and, and_false, if_false, ite_true, ite_false, Nat.reduceAdd, Nat.reduceSub, Nat.reduceMul, Nat.reduceLT, Nat.reduceLeDiff, Nat.reduceEqDiff, Nat.reducePow, Int.reduceToNat, Int.reducePow, pickL, List.filterMap_cons, List.filterMap_nil, and_self, Int.reduceLT, Int.reduceLE, Int.reduceNeg, Int.reduceAdd, Int.reduceMul, Int.reduceSub, Int.reduceEq, reduceIte, reduceCtorEq, lit_eq, String.reduceEq, Ev.rEq, Ev.rNe, Ev.rInD, cut_toN, cut_fromN, List.map_take, List.forall_mem_cons, List.forall_mem_nil, List.not_mem_nil, false_imp_iff, implies_true, forall_const, D.cm, D.lay, D.lays, D.dep, D.deps, strOk_lit, lays_ints, deps_ints, Nat.max_self, Nat.max_zero, Nat.zero_max, Bool.and_self, Bool.true_and, Bool.and_true, Bool.and_false, Bool.false_and, Bool.or_false, Bool.or_true, Bool.true_or, Bool.false_or, List.any_cons, List.any_nil, decide_eq_true_eq, eq_self, e0, toldD, hev0]
  simp only [Ev.D.eq_refl, dPen1, dLenSet, dSrtR, dRo, dRoF, dRoT, roD, ro_un, ro_dat, ro_own, ro_hp, ro_law, ro_ownK, ro_ownT, List.forall_mem_map, flat_int, flat_str, flat_bl, flat_non, dSeq, dNext, dSet, dSetF, setSl, dVar, dTake, dC, dBin, dBinF, dB, dIfS, dIf, dRet, dRetN, dExpr, dNil, dCons, dTup, dLst, dFz, dAnd, dOr, dNot, dAndV, dOrV, dNotV, dCallD, dCallK, dCB, dCBF, dFor, dLC, dYes, dRng1, dRng2, dSeqI, gN, gT, gsNil, gsCons, dAsg, dNeg, dJoin, dFs, dJs, dFmt, dApp, dExt, dPop, dPopAt, dOwnIx, dOwnCB, dOwnL, dOwnR, dOwnSl, dSetIx, dSlT, dSlL, oNone, oSome, dBorn, optQ, ownAt, setOwnAt, lookAt, wipeD, dNewDT, dNewDK, dDGet, dDIn, dDPut, dSortT, rSrt, isDict, Ev.dictGet, Ev.dictPut, Option.isSome_none, Option.isSome_some, D.keyT, keysOf, D.key, exists_eq_left', exists_eq_left, Option.isSome, rRepL, rCatL, dRetF, dIfF, dPar, dRetOwn, dCallL, dCallLK, dPen2, dRev, dRevI, dIndex, endsL, startL, dNever, dBrk, dCnt, rAddD, rSubI, rIO, rMulI, rDivI, rModI, rPowI, rCI, rIxD, rIsN, rNotN, D.isN, rLen, rTuple, rList, rAbs, rInt, rStr, Ev.rRepr, Ev.rIsi, D.ty, kit_tab, startD, endsD, List.map_cons, List.map_nil, List.length_cons, List.length_nil, List.append_nil, List.nil_append, List.cons_append, List.getElem?_cons_zero, List.getElem?_cons_succ, List.getElem?_nil, List.set_cons_zero, List.set_cons_succ, List.replicate, List.replicate_succ, Nat.zero_add, Nat.zero_le, sizeLine, true_and, and_true, if_true, Ev.eq_int, Ev.eq_str, Ev.eq_bl, Ev.eq_non, lst_nil, tup_nil, List.map_eq_nil_iff, txt_join, rLt, rLe, rGt, rGe, atI_ofNat, atI_last, wLC, strsOf, intsOf, blsOf, Option.map_some, Ev.join_two, Ev.join_one, Ev.join_nil, List.sum_cons, List.sum_nil, PySem.Str.empty_append, ixN_ofNat, Option.some.injEq, exists_eq', List.length_map, decide_true, decide_false, Bool.not_true, Bool.not_false, Bool.true_eq_false, Bool.false_eq_true, false_and, and_false, if_false, ite_true, ite_false, Nat.reduceAdd, Nat.reduceSub, Nat.reduceMul, Nat.reduceLT, Nat.reduceLeDiff, Nat.reduceEqDiff, Nat.reducePow, Int.reduceToNat, Int.reducePow, pickL, List.filterMap_cons, List.filterMap_nil, and_self, Int.reduceLT, Int.reduceLE, Int.reduceNeg, Int.reduceAdd, Int.reduceMul, Int.reduceSub, Int.reduceEq, reduceIte, reduceCtorEq, lit_eq, String.reduceEq, Ev.rEq, Ev.rNe, Ev.rInD, cut_toN, cut_fromN, List.map_take, List.forall_mem_cons, List.forall_mem_nil, List.not_mem_nil, false_imp_iff, implies_true, forall_const, D.cm, D.lay, D.lays, D.dep, D.deps, strOk_lit, lays_ints, deps_ints, Nat.max_self, Nat.max_zero, Nat.zero_max, Bool.and_self, Bool.true_and, Bool.and_true, Bool.and_false, Bool.false_and, Bool.or_false, Bool.or_true, Bool.true_or, Bool.false_or, List.any_cons, List.any_nil, decide_eq_true_eq, eq_self, b_law_8, p_law_8, sp_passed]
  refine ⟨b, none, none, [], [], rfl, k.wf, h0, h0, ?_⟩
  rw [e0n]
  simp only [Ev.D.eq_refl, dPen1, dLenSet, dSrtR, dRo, dRoF, dRoT, roD, ro_un, ro_dat, ro_own, ro_hp, ro_law, ro_ownK, ro_ownT, List.forall_mem_map, flat_int, flat_str, flat_bl, flat_non, dSeq, dNext, dSet, dSetF, setSl, dVar, dTake, dC, dBin, dBinF, dB, dIfS, dIf, dRet, dRetN, dExpr, dNil, dCons, dTup, dLst, dFz, dAnd, dOr, dNot, dAndV, dOrV, dNotV, dCallD, dCallK, dCB, dCBF, dFor, dLC, dYes, dRng1, dRng2, dSeqI, gN, gT, gsNil, gsCons, dAsg, dNeg, dJoin, dFs, dJs, dFmt, dApp, dExt, dPop, dPopAt, dOwnIx, dOwnCB, dOwnL, dOwnR, dOwnSl, dSetIx, dSlT, dSlL, oNone, oSome, dBorn, optQ, ownAt, setOwnAt, lookAt, wipeD, dNewDT, dNewDK, dDGet, dDIn, dDPut, dSortT, rSrt, isDict, Ev.dictGet, Ev.dictPut, Option.isSome_none, Option.isSome_some, D.keyT, keysOf, D.key, exists_eq_left', exists_eq_left, Option.isSome, rRepL, rCatL, dRetF, dIfF, dPar, dRetOwn, dCallL, dCallLK, dPen2, dRev, dRevI, dIndex, endsL, startL, dNever, dBrk, dCnt, rAddD, rSubI, rIO, rMulI, rDivI, rModI, rPowI, rCI, rIxD, rIsN, rNotN, D.isN, rLen, rTuple, rList, rAbs, rInt, rStr, Ev.rRepr, Ev.rIsi, D.ty, kit_tab, startD, endsD, List.map_cons, List.map_nil, List.length_cons, List.length_nil, List.append_nil, List.nil_append, List.cons_append, List.getElem?_cons_zero, List.getElem?_cons_succ, List.getElem?_nil, List.set_cons_zero, List.set_cons_succ, List.replicate, List.replicate_succ, Nat.zero_add, Nat.zero_le, sizeLine, true_and, and_true, if_true, Ev.eq_int, Ev.eq_str, Ev.eq_bl, Ev.eq_non, lst_nil, tup_nil, List.map_eq_nil_iff, txt_join, rLt, rLe, rGt, rGe, atI_ofNat, atI_last, wLC, strsOf, intsOf, blsOf, Option.map_some, Ev.join_two, Ev.join_one, Ev.join_nil, List.sum_cons, List.sum_nil, PySem.Str.empty_append, ixN_ofNat, Option.some.injEq, exists_eq', List.length_map, decide_true, decide_false, Bool.not_true, Bool.not_false, Bool.true_eq_false, Bool.false_eq_true, false_and, and_false, if_false, ite_true, ite_false, Nat.reduceAdd, Nat.reduceSub, Nat.reduceMul, Nat.reduceLT, Nat.reduceLeDiff, Nat.reduceEqDiff, Nat.reducePow, Int.reduceToNat, Int.reducePow, pickL, List.filterMap_cons, List.filterMap_nil, and_self, Int.reduceLT, Int.reduceLE, Int.reduceNeg, Int.reduceAdd, Int.reduceMul, Int.reduceSub, Int.reduceEq, reduceIte, reduceCtorEq, lit_eq, String.reduceEq, Ev.rEq, Ev.rNe, Ev.rInD, cut_toN, cut_fromN, List.map_take, List.forall_mem_cons, List.forall_mem_nil, List.not_mem_nil, false_imp_iff, implies_true, forall_const, D.cm, D.lay, D.lays, D.dep, D.deps, strOk_lit, lays_ints, deps_ints, Nat.max_self, Nat.max_zero, Nat.zero_max, Bool.and_self, Bool.true_and, Bool.and_true, Bool.and_false, Bool.false_and, Bool.or_false, Bool.or_true, Bool.true_or, Bool.false_or, List.any_cons, List.any_nil, decide_eq_true_eq, eq_self, b_law_9, p_law_9, b_law_9]
  refine wLC_maps (l := T) (ι := toldD) (f := fun t => .str t.way) (fun t ht acc k hz h => ?_) (by rw [sizeLine_eq]; omega) ?_
  · simp only [Ev.D.eq_refl, dPen1, dLenSet, dSrtR, dRo, dRoF, dRoT, roD, ro_un, ro_dat, ro_own, ro_hp, ro_law, ro_ownK, ro_ownT, List.forall_mem_map, flat_int, flat_str, flat_bl, flat_non, dSeq, dNext, dSet, dSetF, setSl, dVar, dTake, dC, dBin, dBinF, dB, dIfS, dIf, dRet, dRetN, dExpr, dNil, dCons, dTup, dLst, dFz, dAnd, dOr, dNot, dAndV, dOrV, dNotV, dCallD, dCallK, dCB, dCBF, dFor, dLC, dYes, dRng1, dRng2, dSeqI, gN, gT, gsNil, gsCons, dAsg, dNeg, dJoin, dFs, dJs, dFmt, dApp, dExt, dPop, dPopAt, dOwnIx, dOwnCB, dOwnL, dOwnR, dOwnSl, dSetIx, dSlT, dSlL, oNone, oSome, dBorn, optQ, ownAt, setOwnAt, lookAt, wipeD, dNewDT, dNewDK, dDGet, dDIn, dDPut, dSortT, rSrt, isDict, Ev.dictGet, Ev.dictPut, Option.isSome_none, Option.isSome_some, D.keyT, keysOf, D.key, exists_eq_left', exists_eq_left, Option.isSome, rRepL, rCatL, dRetF, dIfF, dPar, dRetOwn, dCallL, dCallLK, dPen2, dRev, dRevI, dIndex, endsL, startL, dNever, dBrk, dCnt, rAddD, rSubI, rIO, rMulI, rDivI, rModI, rPowI, rCI, rIxD, rIsN, rNotN, D.isN, rLen, rTuple, rList, rAbs, rInt, rStr, Ev.rRepr, Ev.rIsi, D.ty, kit_tab, startD, endsD, List.map_cons, List.map_nil, List.length_cons, List.length_nil, List.append_nil, List.nil_append, List.cons_append, List.getElem?_cons_zero, List.getElem?_cons_succ, List.getElem?_nil, List.set_cons_zero, List.set_cons_succ, List.replicate, List.replicate_succ, Nat.zero_add, Nat.zero_le, sizeLine, true_and, and_true, if_true, Ev.eq_int, Ev.eq_str, Ev.eq_bl, Ev.eq_non, lst_nil, tup_nil, List.map_eq_nil_iff, txt_join, rLt, rLe, rGt, rGe, atI_ofNat, atI_last, wLC, strsOf, intsOf, blsOf, Option.map_some, Ev.join_two, Ev.join_one, Ev.join_nil, List.sum_cons, List.sum_nil, PySem.Str.empty_append, ixN_ofNat, Option.some.injEq, exists_eq', List.length_map, decide_true, decide_false, Bool.not_true, Bool.not_false, Bool.true_eq_false, Bool.false_eq_true, false_and, and_false, if_false, ite_true, ite_false, Nat.reduceAdd, Nat.reduceSub, Nat.reduceMul, Nat.reduceLT, Nat.reduceLeDiff, Nat.reduceEqDiff, Nat.reducePow, Int.reduceToNat, Int.reducePow, pickL, List.filterMap_cons, List.filterMap_nil, and_self, Int.reduceLT, Int.reduceLE, Int.reduceNeg, Int.reduceAdd, Int.reduceMul, Int.reduceSub, Int.reduceEq, reduceIte, reduceCtorEq, lit_eq, String.reduceEq, Ev.rEq, Ev.rNe, Ev.rInD, cut_toN, cut_fromN, List.map_take, List.forall_mem_cons, List.forall_mem_nil, List.not_mem_nil, false_imp_iff, implies_true, forall_const, D.cm, D.lay, D.lays, D.dep, D.deps, strOk_lit, lays_ints, deps_ints, Nat.max_self, Nat.max_zero, Nat.zero_max, Bool.and_self, Bool.true_and, Bool.and_true, Bool.and_false, Bool.false_and, Bool.or_false, Bool.or_true, Bool.true_or, Bool.false_or, List.any_cons, List.any_nil, decide_eq_true_eq, eq_self, toldD]
    exact ⟨hz, h⟩
  rw [ew]
  have lTi : ((T.length : Nat) : Int) - 1 = (l'.length : Nat) := by omega
  simp only [Ev.D.eq_refl, dPen1, dLenSet, dSrtR, dRo, dRoF, dRoT, roD, ro_un, ro_dat, ro_own, ro_hp, ro_law, ro_ownK, ro_ownT, List.forall_mem_map, flat_int, flat_str, flat_bl, flat_non, dSeq, dNext, dSet, dSetF, setSl, dVar, dTake, dC, dBin, dBinF, dB, dIfS, dIf, dRet, dRetN, dExpr, dNil, dCons, dTup, dLst, dFz, dAnd, dOr, dNot, dAndV, dOrV, dNotV, dCallD, dCallK, dCB, dCBF, dFor, dLC, dYes, dRng1, dRng2, dSeqI, gN, gT, gsNil, gsCons, dAsg, dNeg, dJoin, dFs, dJs, dFmt, dApp, dExt, dPop, dPopAt, dOwnIx, dOwnCB, dOwnL, dOwnR, dOwnSl, dSetIx, dSlT, dSlL, oNone, oSome, dBorn, optQ, ownAt, setOwnAt, lookAt, wipeD, dNewDT, dNewDK, dDGet, dDIn, dDPut, dSortT, rSrt, isDict, Ev.dictGet, Ev.dictPut, Option.isSome_none, Option.isSome_some, D.keyT, keysOf, D.key, exists_eq_left', exists_eq_left, Option.isSome, rRepL, rCatL, dRetF, dIfF, dPar, dRetOwn, dCallL, dCallLK, dPen2, dRev, dRevI, dIndex, endsL, startL, dNever, dBrk, dCnt, rAddD, rSubI, rIO, rMulI, rDivI, rModI, rPowI, rCI, rIxD, rIsN, rNotN, D.isN, rLen, rTuple, rList, rAbs, rInt, rStr, Ev.rRepr, Ev.rIsi, D.ty, kit_tab, startD, endsD, List.map_cons, List.map_nil, List.length_cons, List.length_nil, List.append_nil, List.nil_append, List.cons_append, List.getElem?_cons_zero, List.getElem?_cons_succ, List.getElem?_nil, List.set_cons_zero, List.set_cons_succ, List.replicate, List.replicate_succ, Nat.zero_add, Nat.zero_le, sizeLine, true_and, and_true, if_true, Ev.eq_int, Ev.eq_str, Ev.eq_bl, Ev.eq_non, lst_nil, tup_nil, List.map_eq_nil_iff, txt_join, rLt, rLe, rGt, rGe, atI_ofNat, atI_last, wLC, strsOf, intsOf, blsOf, Option.map_some, Ev.join_two, Ev.join_one, Ev.join_nil, List.sum_cons, List.sum_nil, PySem.Str.empty_append, ixN_ofNat, Option.some.injEq, exists_eq', List.length_map, decide_true, decide_false, Bool.not_true, Bool.not_false, Bool.true_eq_false, Bool.false_eq_true, false_and, and_false, if_false, ite_true, ite_false, Nat.reduceAdd, Nat.reduceSub, Nat.reduceMul, Nat.reduceLT, Nat.reduceLeDiff, Nat.reduceEqDiff, Nat.reducePow, Int.reduceToNat, Int.reducePow, pickL, List.filterMap_cons, List.filterMap_nil, and_self, Int.reduceLT, Int.reduceLE, Int.reduceNeg, Int.reduceAdd, Int.reduceMul, Int.reduceSub, Int.reduceEq, reduceIte, reduceCtorEq, lit_eq, String.reduceEq, Ev.rEq, Ev.rNe, Ev.rInD, cut_toN, cut_fromN, List.map_take, List.forall_mem_cons, List.forall_mem_nil, List.not_mem_nil, false_imp_iff, implies_true, forall_const, D.cm, D.lay, D.lays, D.dep, D.deps, strOk_lit, lays_ints, deps_ints, Nat.max_self, Nat.max_zero, Nat.zero_max, Bool.and_self, Bool.true_and, Bool.and_true, Bool.and_false, Bool.false_and, Bool.or_false, Bool.or_true, Bool.true_or, Bool.false_or, List.any_cons, List.any_nil, decide_eq_true_eq, eq_self, lTi, Int.toNat_natCast]
  have efl : (List.replicate l'.length [D.str (Str.ofString "passed")]).flatten = List.replicate l'.length (D.str (Str.ofString "passed")) := by
    generalize l'.length = z
    induction z with
    | zero => rfl
    | succ z ih => rw [List.replicate_succ, List.flatten_cons, ih]; rfl
  have ly : D.lays (List.replicate l'.length (D.str (Str.ofString "passed")) ++ [D.str (Str.ofString "outer")]) = true := by
    rw [← ew]
    exact lays_map fun t ht => (okT t ht).w.1
  have dp : D.deps (List.replicate l'.length (D.str (Str.ofString "passed")) ++ [D.str (Str.ofString "outer")]) ≤ 63 := by
    rw [← ew]
    exact Nat.le_trans (deps_map fun _ _ => Nat.le_refl 0) (by decide)
  rw [efl, D.eq_refl, List.length_replicate]
  exact ⟨by omega, by omega, by omega, by omega, ⟨ly, dp⟩, ⟨ly, dp⟩, rfl⟩
theorem ok_law {P : Program} {w : World} {K : PySem.W.Frag} {mg : Str → Option Value} {base : Heap} (m_len : mg "len" = none) (m_list : mg "list" = none) (K__law_above_right_3 : Def P w K mg base 7 "_law_above_right" 3 sp__law_above_right []) (K__law_back_right_3 : Def P w K mg base 7 "_law_back_right" 3 sp__law_back_right []) (K__law_draw_2 : Def P w K mg base 1 "_law_draw" 2 sp__law_draw []) (K__law_halves_right_3 : Def P w K mg base 7 "_law_halves_right" 3 sp__law_halves_right []) (K__law_rows_2 : Def P w K mg base 2 "_law_rows" 2 sp__law_rows []) (K_elders_2 : DefL P w K mg base 3 "elders" 2 sp_elders []) (K_passed_3 : DefL P w K mg base 6 "passed" 3 sp_passed []) {f : Addr} {fd : FuncData} (F : Fun K "law" "law" s_law f fd) : FnG P w K mg base CX0 8 f fd ["_law_script"] (spLawS K) :=
 fn_law F sc_law rfl (fun cdv A out s H E g r => run_law m_len m_list K__law_above_right_3 K__law_back_right_3 K__law_draw_2 K__law_halves_right_3 K__law_rows_2 K_elders_2 K_passed_3 cdv A out s H E g r) hsp_law
theorem all_mk {l : PySem.W.OpenLaw} {w : World} {K : PySem.W.Frag} {h : Heap} {mg : Str → Option Value} {fa a__law_draw a__law_in_order a__law_line a__law_rows a_told_of a_passed_between a_is_from_to a_row_of a_elders a_line_of a_passed_by a_passed a__law_back_right a__law_above_right a_least_above a__law_halves_right a_law : Addr} (X : K.In h) (G : h.Ns mainGlobals mg) (hfa : mg "law" = some (.ref fa))
 {od__law_draw an__law_draw : Option Addr} {sl__law_draw : Array (Option Value)} {oc__law_draw kV__law_draw dc__law_draw pm__law_draw cd__law_draw ct__law_draw : Value}
 (n__law_draw_ : PySem.W.nsIn K mainGlobals "_law_draw" = some (some (.ref a__law_draw))) (l__law_draw : K.lookup a__law_draw = some ⟨oc__law_draw, od__law_draw, .func (PySem.W.fnOf "_law_draw" "_law_draw" (defArgs s__law_draw) (defBody s__law_draw) (defScope s__law_draw) .none kV__law_draw dc__law_draw pm__law_draw an__law_draw cd__law_draw ct__law_draw), sl__law_draw⟩) (c__law_draw : PySem.W.codeIn K cd__law_draw "_law_draw" = true) (k__law_draw : PySem.W.keepIn K (.ref a__law_draw) = true)
 {od__law_in_order an__law_in_order : Option Addr} {sl__law_in_order : Array (Option Value)} {oc__law_in_order kV__law_in_order dc__law_in_order pm__law_in_order cd__law_in_order ct__law_in_order : Value}
 (n__law_in_order_ : PySem.W.nsIn K mainGlobals "_law_in_order" = some (some (.ref a__law_in_order))) (l__law_in_order : K.lookup a__law_in_order = some ⟨oc__law_in_order, od__law_in_order, .func (PySem.W.fnOf "_law_in_order" "_law_in_order" (defArgs s__law_in_order) (defBody s__law_in_order) (defScope s__law_in_order) .none kV__law_in_order dc__law_in_order pm__law_in_order an__law_in_order cd__law_in_order ct__law_in_order), sl__law_in_order⟩) (c__law_in_order : PySem.W.codeIn K cd__law_in_order "_law_in_order" = true) (k__law_in_order : PySem.W.keepIn K (.ref a__law_in_order) = true)
 {od__law_line an__law_line : Option Addr} {sl__law_line : Array (Option Value)} {oc__law_line kV__law_line dc__law_line pm__law_line cd__law_line ct__law_line : Value}
 (n__law_line_ : PySem.W.nsIn K mainGlobals "_law_line" = some (some (.ref a__law_line))) (l__law_line : K.lookup a__law_line = some ⟨oc__law_line, od__law_line, .func (PySem.W.fnOf "_law_line" "_law_line" (defArgs s__law_line) (defBody s__law_line) (defScope s__law_line) .none kV__law_line dc__law_line pm__law_line an__law_line cd__law_line ct__law_line), sl__law_line⟩) (c__law_line : PySem.W.codeIn K cd__law_line "_law_line" = true) (k__law_line : PySem.W.keepIn K (.ref a__law_line) = true)
 {od__law_rows an__law_rows : Option Addr} {sl__law_rows : Array (Option Value)} {oc__law_rows kV__law_rows dc__law_rows pm__law_rows cd__law_rows ct__law_rows : Value}
 (n__law_rows_ : PySem.W.nsIn K mainGlobals "_law_rows" = some (some (.ref a__law_rows))) (l__law_rows : K.lookup a__law_rows = some ⟨oc__law_rows, od__law_rows, .func (PySem.W.fnOf "_law_rows" "_law_rows" (defArgs s__law_rows) (defBody s__law_rows) (defScope s__law_rows) .none kV__law_rows dc__law_rows pm__law_rows an__law_rows cd__law_rows ct__law_rows), sl__law_rows⟩) (c__law_rows : PySem.W.codeIn K cd__law_rows "_law_rows" = true) (k__law_rows : PySem.W.keepIn K (.ref a__law_rows) = true)
 {od_told_of an_told_of : Option Addr} {sl_told_of : Array (Option Value)} {oc_told_of kV_told_of dc_told_of pm_told_of cd_told_of ct_told_of : Value}
 (n_told_of_ : PySem.W.nsIn K mainGlobals "told_of" = some (some (.ref a_told_of))) (l_told_of : K.lookup a_told_of = some ⟨oc_told_of, od_told_of, .func (PySem.W.fnOf "told_of" "told_of" (defArgs s_told_of) (defBody s_told_of) (defScope s_told_of) .none kV_told_of dc_told_of pm_told_of an_told_of cd_told_of ct_told_of), sl_told_of⟩) (c_told_of : PySem.W.codeIn K cd_told_of "told_of" = true) (k_told_of : PySem.W.keepIn K (.ref a_told_of) = true)
 {od_passed_between an_passed_between : Option Addr} {sl_passed_between : Array (Option Value)} {oc_passed_between kV_passed_between dc_passed_between pm_passed_between cd_passed_between ct_passed_between : Value}
 (n_passed_between_ : PySem.W.nsIn K mainGlobals "passed_between" = some (some (.ref a_passed_between))) (l_passed_between : K.lookup a_passed_between = some ⟨oc_passed_between, od_passed_between, .func (PySem.W.fnOf "passed_between" "passed_between" (defArgs s_passed_between) (defBody s_passed_between) (defScope s_passed_between) .none kV_passed_between dc_passed_between pm_passed_between an_passed_between cd_passed_between ct_passed_between), sl_passed_between⟩) (c_passed_between : PySem.W.codeIn K cd_passed_between "passed_between" = true) (k_passed_between : PySem.W.keepIn K (.ref a_passed_between) = true)
 {od_is_from_to an_is_from_to : Option Addr} {sl_is_from_to : Array (Option Value)} {oc_is_from_to kV_is_from_to dc_is_from_to pm_is_from_to cd_is_from_to ct_is_from_to : Value}
 (n_is_from_to_ : PySem.W.nsIn K mainGlobals "is_from_to" = some (some (.ref a_is_from_to))) (l_is_from_to : K.lookup a_is_from_to = some ⟨oc_is_from_to, od_is_from_to, .func (PySem.W.fnOf "is_from_to" "is_from_to" (defArgs s_is_from_to) (defBody s_is_from_to) (defScope s_is_from_to) .none kV_is_from_to dc_is_from_to pm_is_from_to an_is_from_to cd_is_from_to ct_is_from_to), sl_is_from_to⟩) (c_is_from_to : PySem.W.codeIn K cd_is_from_to "is_from_to" = true) (k_is_from_to : PySem.W.keepIn K (.ref a_is_from_to) = true)
 {od_row_of an_row_of : Option Addr} {sl_row_of : Array (Option Value)} {oc_row_of kV_row_of dc_row_of pm_row_of cd_row_of ct_row_of : Value}
 (n_row_of_ : PySem.W.nsIn K mainGlobals "row_of" = some (some (.ref a_row_of))) (l_row_of : K.lookup a_row_of = some ⟨oc_row_of, od_row_of, .func (PySem.W.fnOf "row_of" "row_of" (defArgs s_row_of) (defBody s_row_of) (defScope s_row_of) .none kV_row_of dc_row_of pm_row_of an_row_of cd_row_of ct_row_of), sl_row_of⟩) (c_row_of : PySem.W.codeIn K cd_row_of "row_of" = true) (k_row_of : PySem.W.keepIn K (.ref a_row_of) = true)
 {od_elders an_elders : Option Addr} {sl_elders : Array (Option Value)} {oc_elders kV_elders dc_elders pm_elders cd_elders ct_elders : Value}
 (n_elders_ : PySem.W.nsIn K mainGlobals "elders" = some (some (.ref a_elders))) (l_elders : K.lookup a_elders = some ⟨oc_elders, od_elders, .func (PySem.W.fnOf "elders" "elders" (defArgs s_elders) (defBody s_elders) (defScope s_elders) .none kV_elders dc_elders pm_elders an_elders cd_elders ct_elders), sl_elders⟩) (c_elders : PySem.W.codeIn K cd_elders "elders" = true) (k_elders : PySem.W.keepIn K (.ref a_elders) = true)
 {od_line_of an_line_of : Option Addr} {sl_line_of : Array (Option Value)} {oc_line_of kV_line_of dc_line_of pm_line_of cd_line_of ct_line_of : Value}
 (n_line_of_ : PySem.W.nsIn K mainGlobals "line_of" = some (some (.ref a_line_of))) (l_line_of : K.lookup a_line_of = some ⟨oc_line_of, od_line_of, .func (PySem.W.fnOf "line_of" "line_of" (defArgs s_line_of) (defBody s_line_of) (defScope s_line_of) .none kV_line_of dc_line_of pm_line_of an_line_of cd_line_of ct_line_of), sl_line_of⟩) (c_line_of : PySem.W.codeIn K cd_line_of "line_of" = true) (k_line_of : PySem.W.keepIn K (.ref a_line_of) = true)
 {od_passed_by an_passed_by : Option Addr} {sl_passed_by : Array (Option Value)} {oc_passed_by kV_passed_by dc_passed_by pm_passed_by cd_passed_by ct_passed_by : Value}
 (n_passed_by_ : PySem.W.nsIn K mainGlobals "passed_by" = some (some (.ref a_passed_by))) (l_passed_by : K.lookup a_passed_by = some ⟨oc_passed_by, od_passed_by, .func (PySem.W.fnOf "passed_by" "passed_by" (defArgs s_passed_by) (defBody s_passed_by) (defScope s_passed_by) .none kV_passed_by dc_passed_by pm_passed_by an_passed_by cd_passed_by ct_passed_by), sl_passed_by⟩) (c_passed_by : PySem.W.codeIn K cd_passed_by "passed_by" = true) (k_passed_by : PySem.W.keepIn K (.ref a_passed_by) = true)
 {od_passed an_passed : Option Addr} {sl_passed : Array (Option Value)} {oc_passed kV_passed dc_passed pm_passed cd_passed ct_passed : Value}
 (n_passed_ : PySem.W.nsIn K mainGlobals "passed" = some (some (.ref a_passed))) (l_passed : K.lookup a_passed = some ⟨oc_passed, od_passed, .func (PySem.W.fnOf "passed" "passed" (defArgs s_passed) (defBody s_passed) (defScope s_passed) .none kV_passed dc_passed pm_passed an_passed cd_passed ct_passed), sl_passed⟩) (c_passed : PySem.W.codeIn K cd_passed "passed" = true) (k_passed : PySem.W.keepIn K (.ref a_passed) = true)
 {od__law_back_right an__law_back_right : Option Addr} {sl__law_back_right : Array (Option Value)} {oc__law_back_right kV__law_back_right dc__law_back_right pm__law_back_right cd__law_back_right ct__law_back_right : Value}
 (n__law_back_right_ : PySem.W.nsIn K mainGlobals "_law_back_right" = some (some (.ref a__law_back_right))) (l__law_back_right : K.lookup a__law_back_right = some ⟨oc__law_back_right, od__law_back_right, .func (PySem.W.fnOf "_law_back_right" "_law_back_right" (defArgs s__law_back_right) (defBody s__law_back_right) (defScope s__law_back_right) .none kV__law_back_right dc__law_back_right pm__law_back_right an__law_back_right cd__law_back_right ct__law_back_right), sl__law_back_right⟩) (c__law_back_right : PySem.W.codeIn K cd__law_back_right "_law_back_right" = true) (k__law_back_right : PySem.W.keepIn K (.ref a__law_back_right) = true)
 {od__law_above_right an__law_above_right : Option Addr} {sl__law_above_right : Array (Option Value)} {oc__law_above_right kV__law_above_right dc__law_above_right pm__law_above_right cd__law_above_right ct__law_above_right : Value}
 (n__law_above_right_ : PySem.W.nsIn K mainGlobals "_law_above_right" = some (some (.ref a__law_above_right))) (l__law_above_right : K.lookup a__law_above_right = some ⟨oc__law_above_right, od__law_above_right, .func (PySem.W.fnOf "_law_above_right" "_law_above_right" (defArgs s__law_above_right) (defBody s__law_above_right) (defScope s__law_above_right) .none kV__law_above_right dc__law_above_right pm__law_above_right an__law_above_right cd__law_above_right ct__law_above_right), sl__law_above_right⟩) (c__law_above_right : PySem.W.codeIn K cd__law_above_right "_law_above_right" = true) (k__law_above_right : PySem.W.keepIn K (.ref a__law_above_right) = true)
 {od_least_above an_least_above : Option Addr} {sl_least_above : Array (Option Value)} {oc_least_above kV_least_above dc_least_above pm_least_above cd_least_above ct_least_above : Value}
 (n_least_above_ : PySem.W.nsIn K mainGlobals "least_above" = some (some (.ref a_least_above))) (l_least_above : K.lookup a_least_above = some ⟨oc_least_above, od_least_above, .func (PySem.W.fnOf "least_above" "least_above" (defArgs s_least_above) (defBody s_least_above) (defScope s_least_above) .none kV_least_above dc_least_above pm_least_above an_least_above cd_least_above ct_least_above), sl_least_above⟩) (c_least_above : PySem.W.codeIn K cd_least_above "least_above" = true) (k_least_above : PySem.W.keepIn K (.ref a_least_above) = true)
 {od__law_halves_right an__law_halves_right : Option Addr} {sl__law_halves_right : Array (Option Value)} {oc__law_halves_right kV__law_halves_right dc__law_halves_right pm__law_halves_right cd__law_halves_right ct__law_halves_right : Value}
 (n__law_halves_right_ : PySem.W.nsIn K mainGlobals "_law_halves_right" = some (some (.ref a__law_halves_right))) (l__law_halves_right : K.lookup a__law_halves_right = some ⟨oc__law_halves_right, od__law_halves_right, .func (PySem.W.fnOf "_law_halves_right" "_law_halves_right" (defArgs s__law_halves_right) (defBody s__law_halves_right) (defScope s__law_halves_right) .none kV__law_halves_right dc__law_halves_right pm__law_halves_right an__law_halves_right cd__law_halves_right ct__law_halves_right), sl__law_halves_right⟩) (c__law_halves_right : PySem.W.codeIn K cd__law_halves_right "_law_halves_right" = true) (k__law_halves_right : PySem.W.keepIn K (.ref a__law_halves_right) = true)
 {od_law an_law : Option Addr} {sl_law : Array (Option Value)} {oc_law kV_law dc_law pm_law cd_law ct_law : Value}
 (n_law_ : PySem.W.nsIn K mainGlobals "law" = some (some (.ref a_law))) (l_law : K.lookup a_law = some ⟨oc_law, od_law, .func (PySem.W.fnOf "law" "law" (defArgs s_law) (defBody s_law) (defScope s_law) .none kV_law dc_law pm_law an_law cd_law ct_law), sl_law⟩) (c_law : PySem.W.codeIn K cd_law "law" = true) (k_law : PySem.W.keepIn K (.ref a_law) = true)
 {t_ACROSS : Tok} (g_ACROSS : PySem.W.nsIn K mainGlobals "ACROSS" = some (some (.str "across" t_ACROSS))) {t_ENTER : Tok} (g_ENTER : PySem.W.nsIn K mainGlobals "ENTER" = some (some (.str "enter" t_ENTER))) {t_INNER : Tok} (g_INNER : PySem.W.nsIn K mainGlobals "INNER" = some (some (.str "inner" t_INNER))) {t_LEAVE : Tok} (g_LEAVE : PySem.W.nsIn K mainGlobals "LEAVE" = some (some (.str "leave" t_LEAVE))) {t_MOST_NUMBER : Tok} (g_MOST_NUMBER : PySem.W.nsIn K mainGlobals "MOST_NUMBER" = some (some (.int 9 t_MOST_NUMBER))) {t_OUTER : Tok} (g_OUTER : PySem.W.nsIn K mainGlobals "OUTER" = some (some (.str "outer" t_OUTER))) {t_PASSED : Tok} (g_PASSED : PySem.W.nsIn K mainGlobals "PASSED" = some (some (.str "passed" t_PASSED))) {t_SCREEN : Tok} (g_SCREEN : PySem.W.nsIn K mainGlobals "SCREEN" = some (some (.int 0 t_SCREEN))) (z_abs : PySem.W.nsIn K mainGlobals "abs" = some none) (z_bool : PySem.W.nsIn K mainGlobals "bool" = some none) (z_int : PySem.W.nsIn K mainGlobals "int" = some none) (z_isinstance : PySem.W.nsIn K mainGlobals "isinstance" = some none) (z_len : PySem.W.nsIn K mainGlobals "len" = some none) (z_list : PySem.W.nsIn K mainGlobals "list" = some none) (z_range : PySem.W.nsIn K mainGlobals "range" = some none) (z_reversed : PySem.W.nsIn K mainGlobals "reversed" = some none) (z_set : PySem.W.nsIn K mainGlobals "set" = some none) (z_sorted : PySem.W.nsIn K mainGlobals "sorted" = some none) (z_tuple : PySem.W.nsIn K mainGlobals "tuple" = some none) :
 ∃ fd : FuncData, (∀ (s : Shared) (v : Value), BindsTo s fd ⟨[v], []⟩ [("_law_script", v)]) ∧ ∀ base : Heap, K.In base → base.Ns mainGlobals mg → FnG l.prog w K mg base CX0 8 fa fd ["_law_script"] (spLawS K) := by
  have e := hfa.symm.trans (PySem.W.mg_of X G n_law_)
  cases e
  have v_ACROSS : ∃ t, mg "ACROSS" = some (.str "across" t) := ⟨_, PySem.W.mg_of X G g_ACROSS⟩
  have v_ENTER : ∃ t, mg "ENTER" = some (.str "enter" t) := ⟨_, PySem.W.mg_of X G g_ENTER⟩
  have v_INNER : ∃ t, mg "INNER" = some (.str "inner" t) := ⟨_, PySem.W.mg_of X G g_INNER⟩
  have v_LEAVE : ∃ t, mg "LEAVE" = some (.str "leave" t) := ⟨_, PySem.W.mg_of X G g_LEAVE⟩
  have v_MOST_NUMBER : ∃ t, mg "MOST_NUMBER" = some (.int 9 t) := ⟨_, PySem.W.mg_of X G g_MOST_NUMBER⟩
  have v_OUTER : ∃ t, mg "OUTER" = some (.str "outer" t) := ⟨_, PySem.W.mg_of X G g_OUTER⟩
  have v_PASSED : ∃ t, mg "PASSED" = some (.str "passed" t) := ⟨_, PySem.W.mg_of X G g_PASSED⟩
  have v_SCREEN : ∃ t, mg "SCREEN" = some (.int 0 t) := ⟨_, PySem.W.mg_of X G g_SCREEN⟩
  have m_abs := PySem.W.mg_none_of X G z_abs
  have m_bool := PySem.W.mg_none_of X G z_bool
  have m_int := PySem.W.mg_none_of X G z_int
  have m_isinstance := PySem.W.mg_none_of X G z_isinstance
  have m_len := PySem.W.mg_none_of X G z_len
  have m_list := PySem.W.mg_none_of X G z_list
  have m_range := PySem.W.mg_none_of X G z_range
  have m_reversed := PySem.W.mg_none_of X G z_reversed
  have m_set := PySem.W.mg_none_of X G z_set
  have m_sorted := PySem.W.mg_none_of X G z_sorted
  have m_tuple := PySem.W.mg_none_of X G z_tuple
  have F__law_draw := fun_mk (st := s__law_draw) l__law_draw c__law_draw k__law_draw
  have F__law_in_order := fun_mk (st := s__law_in_order) l__law_in_order c__law_in_order k__law_in_order
  have F__law_line := fun_mk (st := s__law_line) l__law_line c__law_line k__law_line
  have F__law_rows := fun_mk (st := s__law_rows) l__law_rows c__law_rows k__law_rows
  have F_told_of := fun_mk (st := s_told_of) l_told_of c_told_of k_told_of
  have F_passed_between := fun_mk (st := s_passed_between) l_passed_between c_passed_between k_passed_between
  have F_is_from_to := fun_mk (st := s_is_from_to) l_is_from_to c_is_from_to k_is_from_to
  have F_row_of := fun_mk (st := s_row_of) l_row_of c_row_of k_row_of
  have F_elders := fun_mk (st := s_elders) l_elders c_elders k_elders
  have F_line_of := fun_mk (st := s_line_of) l_line_of c_line_of k_line_of
  have F_passed_by := fun_mk (st := s_passed_by) l_passed_by c_passed_by k_passed_by
  have F_passed := fun_mk (st := s_passed) l_passed c_passed k_passed
  have F__law_back_right := fun_mk (st := s__law_back_right) l__law_back_right c__law_back_right k__law_back_right
  have F__law_above_right := fun_mk (st := s__law_above_right) l__law_above_right c__law_above_right k__law_above_right
  have F_least_above := fun_mk (st := s_least_above) l_least_above c_least_above k_least_above
  have F__law_halves_right := fun_mk (st := s__law_halves_right) l__law_halves_right c__law_halves_right k__law_halves_right
  have F_law := fun_mk (st := s_law) l_law c_law k_law
  refine ⟨PySem.W.fnOf "law" "law" (defArgs s_law) (defBody s_law) (defScope s_law) .none kV_law dc_law pm_law an_law cd_law ct_law, fun s v => .of_eq rfl, fun base _ _ => ?_⟩
  have G__law_draw : FnG l.prog w K mg base CX0 1 a__law_draw _ ["_law_pen", "_law_upto"] (spD K 2 sp__law_draw) := ok__law_draw m_abs m_len F__law_draw
  have K__law_draw_2 : Def l.prog w K mg base 1 "_law_draw" 2 sp__law_draw [] := ⟨["_law_pen", "_law_upto"], a__law_draw, _, [], [], G__law_draw, PySem.W.mg_of X G n__law_draw_, k__law_draw, F__law_draw.binds (ps := ["_law_pen", "_law_upto"]) (fun _ _ _ _ _ _ us hl => match us, hl with | [_, _], _ => rfl), .nil, fun _ => .nil⟩
  have G__law_in_order : FnG l.prog w K mg base CX0 1 a__law_in_order _ ["_law_rows_so"] (spD K 1 sp__law_in_order) := ok__law_in_order m_tuple F__law_in_order
  have K__law_in_order_1 : Def l.prog w K mg base 1 "_law_in_order" 1 sp__law_in_order [] := ⟨["_law_rows_so"], a__law_in_order, _, [], [], G__law_in_order, PySem.W.mg_of X G n__law_in_order_, k__law_in_order, F__law_in_order.binds (ps := ["_law_rows_so"]) (fun _ _ _ _ _ _ us hl => match us, hl with | [_], _ => rfl), .nil, fun _ => .nil⟩
  have G__law_line : FnG l.prog w K mg base CX0 1 a__law_line _ ["_law_rows_so", "_law_here"] (spDL K 2 sp__law_line) := ok__law_line  F__law_line
  have K__law_line_2 : DefL l.prog w K mg base 1 "_law_line" 2 sp__law_line [] := ⟨["_law_rows_so", "_law_here"], a__law_line, _, [], [], G__law_line, PySem.W.mg_of X G n__law_line_, k__law_line, F__law_line.binds (ps := ["_law_rows_so", "_law_here"]) (fun _ _ _ _ _ _ us hl => match us, hl with | [_, _], _ => rfl), .nil, fun _ => .nil⟩
  have G__law_rows : FnG l.prog w K mg base CX0 2 a__law_rows _ ["_law_pen", "_law_limit"] (spD K 2 sp__law_rows) := ok__law_rows m_len m_range K__law_draw_2 K__law_in_order_1 K__law_line_2 F__law_rows
  have K__law_rows_2 : Def l.prog w K mg base 2 "_law_rows" 2 sp__law_rows [] := ⟨["_law_pen", "_law_limit"], a__law_rows, _, [], [], G__law_rows, PySem.W.mg_of X G n__law_rows_, k__law_rows, F__law_rows.binds (ps := ["_law_pen", "_law_limit"]) (fun _ _ _ _ _ _ us hl => match us, hl with | [_, _], _ => rfl), .nil, fun _ => .nil⟩
  have G_told_of : FnG l.prog w K mg base CX0 1 a_told_of _ ["first", "way", "up", "down", "last", "way2"] (spDL K 6 sp_told_of) := ok_told_of v_ENTER v_LEAVE v_PASSED m_reversed F_told_of
  have K_told_of_6 : DefL l.prog w K mg base 1 "told_of" 6 sp_told_of [] := ⟨["first", "way", "up", "down", "last", "way2"], a_told_of, _, [], [], G_told_of, PySem.W.mg_of X G n_told_of_, k_told_of, F_told_of.binds (ps := ["first", "way", "up", "down", "last", "way2"]) (fun _ _ _ _ _ _ us hl => match us, hl with | [_, _, _, _, _, _], _ => rfl), .nil, fun _ => .nil⟩
  have G_passed_between : FnG l.prog w K mg base CX0 2 a_passed_between _ ["ahead", "behind"] (spDL K 2 sp_passed_between) := ok_passed_between v_ACROSS v_INNER v_OUTER K_told_of_6 F_passed_between
  have K_passed_between_2 : DefL l.prog w K mg base 2 "passed_between" 2 sp_passed_between [] := ⟨["ahead", "behind"], a_passed_between, _, [], [], G_passed_between, PySem.W.mg_of X G n_passed_between_, k_passed_between, F_passed_between.binds (ps := ["ahead", "behind"]) (fun _ _ _ _ _ _ us hl => match us, hl with | [_, _], _ => rfl), .nil, fun _ => .nil⟩
  have G_is_from_to : FnG l.prog w K mg base CX0 1 a_is_from_to _ ["thing", "least", "most"] (spD K 3 sp_is_from_to) := ok_is_from_to m_bool m_int m_isinstance F_is_from_to
  have K_is_from_to_3 : Def l.prog w K mg base 1 "is_from_to" 3 sp_is_from_to [] := ⟨["thing", "least", "most"], a_is_from_to, _, [], [], G_is_from_to, PySem.W.mg_of X G n_is_from_to_, k_is_from_to, F_is_from_to.binds (ps := ["thing", "least", "most"]) (fun _ _ _ _ _ _ us hl => match us, hl with | [_, _, _], _ => rfl), .nil, fun _ => .nil⟩
  have G_row_of : FnG l.prog w K mg base CX0 2 a_row_of _ ["book", "room"] (spD K 2 sp_row_of) := ok_row_of v_MOST_NUMBER v_SCREEN K_is_from_to_3 F_row_of
  have K_row_of_2 : Def l.prog w K mg base 2 "row_of" 2 sp_row_of [] := ⟨["book", "room"], a_row_of, _, [], [], G_row_of, PySem.W.mg_of X G n_row_of_, k_row_of, F_row_of.binds (ps := ["book", "room"]) (fun _ _ _ _ _ _ us hl => match us, hl with | [_, _], _ => rfl), .nil, fun _ => .nil⟩
  have G_elders : FnG l.prog w K mg base CX0 3 a_elders _ ["book", "room"] (spDL K 2 sp_elders) := ok_elders K_row_of_2 F_elders
  have K_elders_2 : DefL l.prog w K mg base 3 "elders" 2 sp_elders [] := ⟨["book", "room"], a_elders, _, [], [], G_elders, PySem.W.mg_of X G n_elders_, k_elders, F_elders.binds (ps := ["book", "room"]) (fun _ _ _ _ _ _ us hl => match us, hl with | [_, _], _ => rfl), .nil, fun _ => .nil⟩
  have G_line_of : FnG l.prog w K mg base CX0 4 a_line_of _ ["book", "room"] (spDL K 2 sp_line_of) := ok_line_of K_elders_2 F_line_of
  have K_line_of_2 : DefL l.prog w K mg base 4 "line_of" 2 sp_line_of [] := ⟨["book", "room"], a_line_of, _, [], [], G_line_of, PySem.W.mg_of X G n_line_of_, k_line_of, F_line_of.binds (ps := ["book", "room"]) (fun _ _ _ _ _ _ us hl => match us, hl with | [_, _], _ => rfl), .nil, fun _ => .nil⟩
  have G_passed_by : FnG l.prog w K mg base CX0 5 a_passed_by _ ["book", "book2", "room", "room2"] (spDL K 4 sp_passed_by) := ok_passed_by K_line_of_2 K_passed_between_2 F_passed_by
  have K_passed_by_4 : DefL l.prog w K mg base 5 "passed_by" 4 sp_passed_by [] := ⟨["book", "book2", "room", "room2"], a_passed_by, _, [], [], G_passed_by, PySem.W.mg_of X G n_passed_by_, k_passed_by, F_passed_by.binds (ps := ["book", "book2", "room", "room2"]) (fun _ _ _ _ _ _ us hl => match us, hl with | [_, _, _, _], _ => rfl), .nil, fun _ => .nil⟩
  have G_passed : FnG l.prog w K mg base CX0 6 a_passed _ ["book", "room", "room2"] (spDL K 3 sp_passed) := ok_passed K_passed_by_4 F_passed
  have K_passed_3 : DefL l.prog w K mg base 6 "passed" 3 sp_passed [] := ⟨["book", "room", "room2"], a_passed, _, [], [], G_passed, PySem.W.mg_of X G n_passed_, k_passed, F_passed.binds (ps := ["book", "room", "room2"]) (fun _ _ _ _ _ _ us hl => match us, hl with | [_, _, _], _ => rfl), .nil, fun _ => .nil⟩
  have G__law_back_right : FnG l.prog w K mg base CX0 7 a__law_back_right _ ["_law_book_so", "_law_first", "_law_last"] (spD K 3 sp__law_back_right) := ok__law_back_right m_len m_set m_sorted K_passed_3 K_passed_by_4 F__law_back_right
  have K__law_back_right_3 : Def l.prog w K mg base 7 "_law_back_right" 3 sp__law_back_right [] := ⟨["_law_book_so", "_law_first", "_law_last"], a__law_back_right, _, [], [], G__law_back_right, PySem.W.mg_of X G n__law_back_right_, k__law_back_right, F__law_back_right.binds (ps := ["_law_book_so", "_law_first", "_law_last"]) (fun _ _ _ _ _ _ us hl => match us, hl with | [_, _, _], _ => rfl), .nil, fun _ => .nil⟩
  have G__law_above_right : FnG l.prog w K mg base CX0 7 a__law_above_right _ ["_law_book_so", "_law_first", "_law_last"] (spD K 3 sp__law_above_right) := ok__law_above_right K_elders_2 K_passed_3 F__law_above_right
  have K__law_above_right_3 : Def l.prog w K mg base 7 "_law_above_right" 3 sp__law_above_right [] := ⟨["_law_book_so", "_law_first", "_law_last"], a__law_above_right, _, [], [], G__law_above_right, PySem.W.mg_of X G n__law_above_right_, k__law_above_right, F__law_above_right.binds (ps := ["_law_book_so", "_law_first", "_law_last"]) (fun _ _ _ _ _ _ us hl => match us, hl with | [_, _, _], _ => rfl), .nil, fun _ => .nil⟩
  have G_least_above : FnG l.prog w K mg base CX0 4 a_least_above _ ["book", "room", "room2"] (spD K 3 sp_least_above) := ok_least_above K_elders_2 F_least_above
  have K_least_above_3 : Def l.prog w K mg base 4 "least_above" 3 sp_least_above [] := ⟨["book", "room", "room2"], a_least_above, _, [], [], G_least_above, PySem.W.mg_of X G n_least_above_, k_least_above, F_least_above.binds (ps := ["book", "room", "room2"]) (fun _ _ _ _ _ _ us hl => match us, hl with | [_, _, _], _ => rfl), .nil, fun _ => .nil⟩
  have G__law_halves_right : FnG l.prog w K mg base CX0 7 a__law_halves_right _ ["_law_book_so", "_law_first", "_law_last"] (spD K 3 sp__law_halves_right) := ok__law_halves_right K_least_above_3 K_passed_3 F__law_halves_right
  have K__law_halves_right_3 : Def l.prog w K mg base 7 "_law_halves_right" 3 sp__law_halves_right [] := ⟨["_law_book_so", "_law_first", "_law_last"], a__law_halves_right, _, [], [], G__law_halves_right, PySem.W.mg_of X G n__law_halves_right_, k__law_halves_right, F__law_halves_right.binds (ps := ["_law_book_so", "_law_first", "_law_last"]) (fun _ _ _ _ _ _ us hl => match us, hl with | [_, _, _], _ => rfl), .nil, fun _ => .nil⟩
  exact ok_law m_len m_list K__law_above_right_3 K__law_back_right_3 K__law_draw_2 K__law_halves_right_3 K__law_rows_2 K_elders_2 K_passed_3 F_law

end Ev38
open PySem PySem.W PyProof.Rows
set_option maxHeartbeats 0 in
theorem PySem.Challenge.cw_eventrooms_k38_whole_there_and_back_holds : PySem.Challenge.rw_eventrooms_k38_whole_there_and_back.Holds := by
  w_on; o_law; k_head; (case hw => w_witness2)
  k_fill
  refine Ev.walk_g (l := PySem.Challenge.rw_eventrooms_k38_whole_there_and_back) (n := 63) (k := 8) (x := "_law_script") (CX := fun _ => L2.CX0) (sp := fun w => Ev.spLawS _) rfl (by decide) rfl ⟨rfl, by decide, by decide⟩ (fun w h Y => PySem.W.kIn_of Y) ?F (fun _ H a ns hl hS => Ev.law_spS hl hS) (fun _ _ _ _ _ h => h)
  case F =>
    intro w mg fa h KX G hmg
    refine' Ev38.all_mk KX G hmg ?n__law_draw_ ?l__law_draw ?c__law_draw ?k__law_draw ?n__law_in_order_ ?l__law_in_order ?c__law_in_order ?k__law_in_order ?n__law_line_ ?l__law_line ?c__law_line ?k__law_line ?n__law_rows_ ?l__law_rows ?c__law_rows ?k__law_rows ?n_told_of_ ?l_told_of ?c_told_of ?k_told_of ?n_passed_between_ ?l_passed_between ?c_passed_between ?k_passed_between ?n_is_from_to_ ?l_is_from_to ?c_is_from_to ?k_is_from_to ?n_row_of_ ?l_row_of ?c_row_of ?k_row_of ?n_elders_ ?l_elders ?c_elders ?k_elders ?n_line_of_ ?l_line_of ?c_line_of ?k_line_of ?n_passed_by_ ?l_passed_by ?c_passed_by ?k_passed_by ?n_passed_ ?l_passed ?c_passed ?k_passed ?n__law_back_right_ ?l__law_back_right ?c__law_back_right ?k__law_back_right ?n__law_above_right_ ?l__law_above_right ?c__law_above_right ?k__law_above_right ?n_least_above_ ?l_least_above ?c_least_above ?k_least_above ?n__law_halves_right_ ?l__law_halves_right ?c__law_halves_right ?k__law_halves_right ?n_law_ ?l_law ?c_law ?k_law ?g_ACROSS ?g_ENTER ?g_INNER ?g_LEAVE ?g_MOST_NUMBER ?g_OUTER ?g_PASSED ?g_SCREEN ?z_abs ?z_bool ?z_int ?z_isinstance ?z_len ?z_list ?z_range ?z_reversed ?z_set ?z_sorted ?z_tuple
    (case n__law_draw_ => k_is); (case l__law_draw => k_is); (case c__law_draw => k_is); (case k__law_draw => k_is); (case n__law_in_order_ => k_is); (case l__law_in_order => k_is)
    (case c__law_in_order => k_is); (case k__law_in_order => k_is); (case n__law_line_ => k_is); (case l__law_line => k_is); (case c__law_line => k_is); (case k__law_line => k_is)
    (case n__law_rows_ => k_is); (case l__law_rows => k_is); (case c__law_rows => k_is); (case k__law_rows => k_is); (case n_told_of_ => k_is); (case l_told_of => k_is)
    (case c_told_of => k_is); (case k_told_of => k_is); (case n_passed_between_ => k_is); (case l_passed_between => k_is); (case c_passed_between => k_is); (case k_passed_between => k_is)
    (case n_is_from_to_ => k_is); (case l_is_from_to => k_is); (case c_is_from_to => k_is); (case k_is_from_to => k_is); (case n_row_of_ => k_is); (case l_row_of => k_is)
    (case c_row_of => k_is); (case k_row_of => k_is); (case n_elders_ => k_is); (case l_elders => k_is); (case c_elders => k_is); (case k_elders => k_is)
    (case n_line_of_ => k_is); (case l_line_of => k_is); (case c_line_of => k_is); (case k_line_of => k_is); (case n_passed_by_ => k_is); (case l_passed_by => k_is)
    (case c_passed_by => k_is); (case k_passed_by => k_is); (case n_passed_ => k_is); (case l_passed => k_is); (case c_passed => k_is); (case k_passed => k_is)
    (case n__law_back_right_ => k_is); (case l__law_back_right => k_is); (case c__law_back_right => k_is); (case k__law_back_right => k_is); (case n__law_above_right_ => k_is); (case l__law_above_right => k_is)
    (case c__law_above_right => k_is); (case k__law_above_right => k_is); (case n_least_above_ => k_is); (case l_least_above => k_is); (case c_least_above => k_is); (case k_least_above => k_is)
    (case n__law_halves_right_ => k_is); (case l__law_halves_right => k_is); (case c__law_halves_right => k_is); (case k__law_halves_right => k_is); (case n_law_ => k_is); (case l_law => k_is)
    (case c_law => k_is); (case k_law => k_is); (case g_ACROSS => k_is); (case g_ENTER => k_is); (case g_INNER => k_is); (case g_LEAVE => k_is)
    (case g_MOST_NUMBER => k_is); (case g_OUTER => k_is); (case g_PASSED => k_is); (case g_SCREEN => k_is); (case z_abs => k_is); (case z_bool => k_is)
    (case z_int => k_is); (case z_isinstance => k_is); (case z_len => k_is); (case z_list => k_is); (case z_range => k_is); (case z_reversed => k_is)
    (case z_set => k_is); (case z_sorted => k_is); (case z_tuple => k_is)

